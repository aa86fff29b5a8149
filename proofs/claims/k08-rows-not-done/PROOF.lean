import PyProof.Rows.All
import Wide.All
import OpenK.AllK
import Wide.FinOn
import HandS.ForMost
import HandS.Exc
import HandS.TryOnly
import HandS.ExcOwn
import HandS.WordsExc
import HandS.Defaults
import HandS.Wide
import HandS.WideBits
import HandS.TupAny
import HandS.TupMul
import HandS.Style
import HandS.IsInst
import HandS.Small
import KE.KEqNest
import HandS.List
import HandS.Flow
import HandS.Iter
import KE.DataEq
import HandS.Comp
import HandS.WordsList
import HandS.Conv
import HandS.More
import HandS.HeadHook4
import HandS.Strs
import HandS.Rev
import PySem.Challenge.RW_spentonce_k08_rows_not_done
import KE.KStateDown
import Lean
import HandS.Ends
import HandS.Head0
import HandS.Head1
import HandS.Head2
import HandS.HeadEnd
import HandS.HeadHook1
import HandS.HeadHook2
set_option Elab.async false
set_option linter.all false
set_option maxRecDepth 100000
set_option maxHeartbeats 4000000
/-! DL1: the abstract values, the store, what they stand for in the abstract heap of the hand layer, and the judgements. -/
namespace DL
open PySem PySem.Spec PyProof.Rows L2

/-- data: frozen lists and dicts are values; ref n is the n-th live cell of the store -/
inductive D where
  | non | bl (b : Bool) | int (i : Int) | str (s : Str)
  | tup (xs : List D) | lst (xs : List D) | dic (t : Bool) (es : List D) | ref (n : Nat) | exc (n : Nat)
/-- a live cell -/
inductive Cell where
  | lst (xs : List D) | dic (t : Bool) (es : List D) | ins (c : Nat) (fs : List (Str × D)) | dead
abbrev Sto := List Cell
abbrev Loc := List (Option D)
inductive Res (α : Type) where
  | ok (a : α) (S : Sto) | exc (x : Nat) (S : Sto) | bad
def Res.bind {α β : Type} (r : Res α) (k : α → Sto → Res β) : Res β := match r with
  | .ok a S => k a S
  | .exc x S => .exc x S
  | .bad => .bad
abbrev E := Loc → Sto → Res D
abbrev T := Loc → Sto → Res Bool
abbrev As := Loc → Sto → Res (List D)
inductive Out where
  | next (l : Loc) (S : Sto) | ret (d : D) (S : Sto) | brk (l : Loc) (S : Sto) | cont (l : Loc) (S : Sto) | exc (x : Nat) (l : Loc) (S : Sto) | bad
abbrev Stm := Loc → Sto → Out

/-- what is fixed through a law's run -/
structure Ct where
  P : Program
  w : World
  K : PySem.W.Frag
  cl : Nat → Addr
abbrev cxt (X : Cx) (cl : Nat → Addr) : Ct := ⟨X.prog, X.w, X.K, cl⟩
abbrev Le (F F' : Hp) : Prop := ∀ a o, F a = some o → F' a = some o
theorem Le.refl (F : Hp) : Le F F := fun _ _ h => h
theorem Le.trans {F G H : Hp} (a : Le F G) (b : Le G H) : Le F H := fun x o h => b x o (a x o h)

def keyD : Key → D
  | .inl i => .int i
  | .inr s => .str s

mutual
inductive RepD (C : Ct) (ρ : List Addr) (F : Hp) : V → D → Prop
  | non : RepD C ρ F .non .non
  | bl (b : Bool) : RepD C ρ F (.bl b) (.bl b)
  | int (i : Int) : RepD C ρ F (.int i) (.int i)
  | str (s : Str) : RepD C ρ F (.str s) (.str s)
  | tup {a : Addr} {vs : List V} {xs : List D} : SqT C.K F a vs → RepAll C ρ F vs xs → RepD C ρ F (.ref a) (.tup xs)
  | lst {a : Addr} {vs : List V} {xs : List D} : SqL C.K F a vs → RepAll C ρ F vs xs → RepD C ρ F (.ref a) (.lst xs)
  | dicK {a : Addr} {kvs : List (Key × V)} {es : List D} : F a = some (.dK kvs) → RepKV C ρ F kvs es → RepD C ρ F (.ref a) (.dic false es)
  | ref {a : Addr} {n : Nat} : ρ[n]? = some a → RepD C ρ F (.ref a) (.ref n)
inductive RepAll (C : Ct) (ρ : List Addr) (F : Hp) : List V → List D → Prop
  | nil : RepAll C ρ F [] []
  | cons {v : V} {vs : List V} {d : D} {ds : List D} : RepD C ρ F v d → RepAll C ρ F vs ds → RepAll C ρ F (v :: vs) (d :: ds)
/-- a dict's entries, each told as a pair -/
inductive RepKV (C : Ct) (ρ : List Addr) (F : Hp) : List (Key × V) → List D → Prop
  | nil : RepKV C ρ F [] []
  | cons {k : Key} {v : V} {vs : List (Key × V)} {d : D} {ds : List D} : RepD C ρ F v d → RepKV C ρ F vs ds → RepKV C ρ F ((k, v) :: vs) (.tup [keyD k, d] :: ds)
end

theorem rd_mono {F F' : Hp} {a : Addr} {u : HO} (e : Le F F') (h : Rd F a u) : Rd F' a u := by
  rcases h with h | ⟨o, h⟩
  · exact .inl (e _ _ h)
  · exact .inr ⟨o, e _ _ h⟩
theorem sqL_mono {K : PySem.W.Frag} {F F' : Hp} {a : Addr} {xs : List V} (e : Le F F') (h : SqL K F a xs) : SqL K F' a xs := by
  rcases h with h | h
  · exact .inl (rd_mono e h)
  · exact .inr h
theorem sqT_mono {K : PySem.W.Frag} {F F' : Hp} {a : Addr} {xs : List V} (e : Le F F') (h : SqT K F a xs) : SqT K F' a xs := by
  rcases h with h | h
  · exact .inl (rd_mono e h)
  · exact .inr h
theorem pre_get {ρ ρ' : List Addr} (h : ρ <+: ρ') {n : Nat} {a : Addr} (e : ρ[n]? = some a) : ρ'[n]? = some a := by
  obtain ⟨t, rfl⟩ := h
  rw [List.getElem?_append_left (List.getElem?_eq_some_iff.mp e).1]
  exact e

section
variable {C : Ct} {ρ ρ' : List Addr} {F F' : Hp}
mutual
theorem RepD.mono (hr : ρ <+: ρ') (hF : Le F F') : ∀ {v : V} {d : D}, RepD C ρ F v d → RepD C ρ' F' v d
  | _, _, .non => .non
  | _, _, .bl b => .bl b
  | _, _, .int i => .int i
  | _, _, .str s => .str s
  | _, _, .tup h r => .tup (sqT_mono hF h) (RepAll.mono hr hF r)
  | _, _, .lst h r => .lst (sqL_mono hF h) (RepAll.mono hr hF r)
  | _, _, .dicK h r => .dicK (hF _ _ h) (RepKV.mono hr hF r)
  | _, _, .ref e => .ref (pre_get hr e)
theorem RepAll.mono (hr : ρ <+: ρ') (hF : Le F F') : ∀ {vs : List V} {ds : List D}, RepAll C ρ F vs ds → RepAll C ρ' F' vs ds
  | _, _, .nil => .nil
  | _, _, .cons h r => .cons (RepD.mono hr hF h) (RepAll.mono hr hF r)
theorem RepKV.mono (hr : ρ <+: ρ') (hF : Le F F') : ∀ {vs : List (Key × V)} {ds : List D}, RepKV C ρ F vs ds → RepKV C ρ' F' vs ds
  | _, _, .nil => .nil
  | _, _, .cons h r => .cons (RepD.mono hr hF h) (RepKV.mono hr hF r)
end
theorem RepAll.len {vs : List V} {ds : List D} (r : RepAll C ρ F vs ds) : vs.length = ds.length := by
  induction ds generalizing vs with
  | nil => cases r; rfl
  | cons d ds ih => cases r with
    | cons h t => simp [ih t]
theorem RepAll.get : ∀ {vs : List V} {ds : List D} {i : Nat} {d : D}, RepAll C ρ F vs ds → ds[i]? = some d → ∃ v, vs[i]? = some v ∧ RepD C ρ F v d
  | _, _, _, _, .nil, e => by simp at e
  | _, _, 0, _, .cons h _, e => by simp at e; subst e; exact ⟨_, rfl, h⟩
  | _, _, i + 1, d, .cons _ t, e => by
    obtain ⟨v, h1, h2⟩ := RepAll.get (i := i) (d := d) t (by simpa using e)
    exact ⟨v, by simpa using h1, h2⟩
theorem RepAll.getV : ∀ {vs : List V} {ds : List D} {i : Nat} {v : V}, RepAll C ρ F vs ds → vs[i]? = some v → ∃ d, ds[i]? = some d ∧ RepD C ρ F v d
  | _, _, _, _, .nil, e => by simp at e
  | _, _, 0, _, .cons h _, e => by simp at e; subst e; exact ⟨_, rfl, h⟩
  | _, _, i + 1, v, .cons _ t, e => by
    obtain ⟨d, h1, h2⟩ := RepAll.getV (i := i) (v := v) t (by simpa using e)
    exact ⟨d, by simpa using h1, h2⟩
theorem RepAll.app : ∀ {vs ws : List V} {ds es : List D}, RepAll C ρ F vs ds → RepAll C ρ F ws es → RepAll C ρ F (vs ++ ws) (ds ++ es)
  | _, _, _, _, .nil, s => s
  | _, _, _, _, .cons h t, s => .cons h (RepAll.app t s)
theorem RepAll.take : ∀ {vs : List V} {ds : List D} (n : Nat), RepAll C ρ F vs ds → RepAll C ρ F (vs.take n) (ds.take n)
  | _, _, 0, _ => .nil
  | _, _, _ + 1, .nil => .nil
  | _, _, n + 1, .cons h t => .cons h (RepAll.take n t)
theorem RepAll.drop : ∀ {vs : List V} {ds : List D} (n : Nat), RepAll C ρ F vs ds → RepAll C ρ F (vs.drop n) (ds.drop n)
  | _, _, 0, r => r
  | _, _, _ + 1, .nil => .nil
  | _, _, n + 1, .cons _ t => RepAll.drop n t
theorem RepAll.set {v : V} {d : D} (h : RepD C ρ F v d) : ∀ {vs : List V} {ds : List D} (i : Nat), RepAll C ρ F vs ds → RepAll C ρ F (vs.set i v) (ds.set i d)
  | _, _, _, .nil => .nil
  | _, _, 0, .cons _ t => .cons h t
  | _, _, i + 1, .cons q t => .cons q (RepAll.set h i t)
theorem RepAll.one {v : V} {d : D} (h : RepD C ρ F v d) : RepAll C ρ F [v] [d] := .cons h .nil
theorem RepAll.snoc {v : V} {d : D} {vs : List V} {ds : List D} (r : RepAll C ρ F vs ds) (h : RepD C ρ F v d) : RepAll C ρ F (vs ++ [v]) (ds ++ [d]) := r.app (.one h)
theorem RepAll.rev : ∀ {vs : List V} {ds : List D}, RepAll C ρ F vs ds → RepAll C ρ F vs.reverse ds.reverse
  | _, _, .nil => .nil
  | _, _, .cons h t => by rw [List.reverse_cons, List.reverse_cons]; exact (RepAll.rev t).snoc h
theorem RepAll.dropLast {vs : List V} {ds : List D} (r : RepAll C ρ F vs ds) : RepAll C ρ F vs.dropLast ds.dropLast := by
  rw [List.dropLast_eq_take, List.dropLast_eq_take, r.len]; exact r.take _
theorem RepAll.erase : ∀ {vs : List V} {ds : List D} (i : Nat), RepAll C ρ F vs ds → RepAll C ρ F (vs.eraseIdx i) (ds.eraseIdx i)
  | _, _, _, .nil => .nil
  | _, _, 0, .cons _ t => t
  | _, _, i + 1, .cons q t => .cons q (RepAll.erase i t)
end

/-- an instance's fields, in order -/
inductive RepF (C : Ct) (ρ : List Addr) (F : Hp) : List (Str × V) → List (Str × D) → Prop
  | nil : RepF C ρ F [] []
  | cons {f : Str} {v : V} {d : D} {vs : List (Str × V)} {ds : List (Str × D)} : RepD C ρ F v d → RepF C ρ F vs ds → RepF C ρ F ((f, v) :: vs) ((f, d) :: ds)
theorem RepF.mono {C : Ct} {ρ ρ' : List Addr} {F F' : Hp} (hr : ρ <+: ρ') (hF : Le F F') {vs : List (Str × V)} {ds : List (Str × D)} (h : RepF C ρ F vs ds) : RepF C ρ' F' vs ds := by
  induction h with
  | nil => exact .nil
  | cons h _ ih => exact .cons (h.mono hr hF) ih

def CellRep (C : Ct) (ρ : List Addr) (F H : Hp) (a : Addr) : Cell → Prop
  | .lst xs => ∃ vs, H a = some (.lst vs) ∧ RepAll C ρ F vs xs
  | .dic false es => ∃ kvs : List (Key × V), H a = some (.dK kvs) ∧ RepKV C ρ F kvs es
  | .dic true _ => False
  | .ins c fs => ∃ dx vfs, H a = some (.ins (C.cl c) dx vfs) ∧ RepF C ρ F vfs fs
  | .dead => True
theorem CellRep.mono {C : Ct} {ρ ρ' : List Addr} {F F' H H' : Hp} {a : Addr} (hr : ρ <+: ρ') (hF : Le F F') (hH : ∀ o, H a = some o → H' a = some o) : ∀ {c : Cell}, CellRep C ρ F H a c → CellRep C ρ' F' H' a c
  | .lst xs, ⟨vs, h, r⟩ => ⟨vs, hH _ h, r.mono hr hF⟩
  | .dic false es, ⟨kvs, h, r⟩ => ⟨kvs, hH _ h, r.mono hr hF⟩
  | .dic true es, h => h
  | .ins c fs, ⟨dx, vfs, h, r⟩ => ⟨dx, vfs, hH _ h, r.mono hr hF⟩
  | .dead, _ => trivial
/-- a live cell's address is tracked -/
theorem CellRep.some {C : Ct} {ρ : List Addr} {F H : Hp} {a : Addr} : ∀ {c : Cell}, CellRep C ρ F H a c → c ≠ .dead → ∃ o, H a = some o ∧ Mut (some o)
  | .lst xs, ⟨vs, h, r⟩, _ => ⟨_, h, trivial⟩
  | .dic false es, ⟨kvs, h, r⟩, _ => ⟨_, h, trivial⟩
  | .dic true es, h, _ => h.elim
  | .ins c fs, ⟨dx, vfs, h, r⟩, _ => ⟨_, h, trivial⟩
  | .dead, _, n => absurd rfl n

structure Rel (C : Ct) (ρ : List Addr) (F : Hp) (S : Sto) (H : Hp) : Prop where
  fz : Le F H
  len : ρ.length = S.length
  cell : ∀ (i : Nat) (a : Addr) (c : Cell), ρ[i]? = some a → S[i]? = some c → CellRep C ρ F H a c
  apart : ∀ (i : Nat) (a : Addr) (c : Cell), ρ[i]? = some a → S[i]? = some c → c ≠ .dead → F a = none
  inj : ∀ (i j : Nat) (a : Addr) (ci cj : Cell), ρ[i]? = some a → ρ[j]? = some a → S[i]? = some ci → S[j]? = some cj → ci ≠ .dead → cj ≠ .dead → i = j

def LRel (C : Ct) (ρ : List Addr) (F : Hp) (σ : L2.St) (l : Loc) : Prop := σ.length = l.length ∧ ∀ (i : Nat) (d : D), l[i]? = some (some d) → ∃ v, σ[i]? = some (some v) ∧ RepD C ρ F v d
theorem LRel.mono {C : Ct} {ρ ρ' : List Addr} {F F' : Hp} {σ : L2.St} {l : Loc} (hr : ρ <+: ρ') (hF : Le F F') (h : LRel C ρ F σ l) : LRel C ρ' F' σ l :=
  ⟨h.1, fun i d e => let ⟨v, e1, r⟩ := h.2 i d e; ⟨v, e1, r.mono hr hF⟩⟩
theorem LRel.set {C : Ct} {ρ : List Addr} {F : Hp} {σ : L2.St} {l : Loc} (h : LRel C ρ F σ l) (i : Nat) {v : V} {d : D} (r : RepD C ρ F v d) : LRel C ρ F (σ.set i (some v)) (l.set i (some d)) := by
  refine ⟨by simp [h.1], fun j e he => ?_⟩
  by_cases hj : i = j
  · subst hj
    rw [List.getElem?_set] at he
    split at he
    · split at he
      · cases he
        exact ⟨v, by rw [List.getElem?_set, if_pos rfl, if_pos (by rw [h.1]; assumption)], r⟩
      · cases he
    · exact absurd rfl (by assumption)
  · rw [List.getElem?_set_ne hj] at he ⊢
    exact h.2 j e he
/-- forgetting a slot -/
theorem LRel.none {C : Ct} {ρ : List Addr} {F : Hp} {σ : L2.St} {l : Loc} (h : LRel C ρ F σ l) (i : Nat) : LRel C ρ F σ (l.set i none) := by
  refine ⟨by simp [h.1], fun j e he => ?_⟩
  by_cases hj : i = j
  · subst hj
    rw [List.getElem?_set] at he
    split at he
    · split at he <;> cases he
    · exact absurd rfl (by assumption)
  · rw [List.getElem?_set_ne hj] at he
    exact h.2 j e he

/-! ### what is wanted behind -/
def satE (C : Ct) (W : WX) (ρ : List Addr) (F : Hp) (σ : L2.St) (r : Res D) (Q : VK) : Prop := match r with
  | .ok d S' => ∀ ρ' F' H' v, Rel C ρ' F' S' H' → ρ <+: ρ' → Le F F' → RepD C ρ' F' v d → Q v H'
  | .exc x S' => ∀ ρ' F' H' dd, Rel C ρ' F' S' H' → ρ <+: ρ' → Le F F' → W (.ref (C.cl x)) dd σ H'
  | .bad => False
def satT (C : Ct) (W : WX) (ρ : List Addr) (F : Hp) (σ : L2.St) (r : Res Bool) (Q : Bool → Hp → Prop) : Prop := match r with
  | .ok b S' => ∀ ρ' F' H', Rel C ρ' F' S' H' → ρ <+: ρ' → Le F F' → Q b H'
  | .exc x S' => ∀ ρ' F' H' dd, Rel C ρ' F' S' H' → ρ <+: ρ' → Le F F' → W (.ref (C.cl x)) dd σ H'
  | .bad => False
def satA (C : Ct) (W : WX) (ρ : List Addr) (F : Hp) (σ : L2.St) (r : Res (List D)) (Q : List V → Hp → Prop) : Prop := match r with
  | .ok ds S' => ∀ ρ' F' H' vs, Rel C ρ' F' S' H' → ρ <+: ρ' → Le F F' → RepAll C ρ' F' vs ds → Q vs H'
  | .exc x S' => ∀ ρ' F' H' dd, Rel C ρ' F' S' H' → ρ <+: ρ' → Le F F' → W (.ref (C.cl x)) dd σ H'
  | .bad => False
def satS (C : Ct) (W : WX) (ρ : List Addr) (F : Hp) (r : Out) (D : Ends) : Prop := match r with
  | .next l' S' => ∀ ρ' F' H' σ', Rel C ρ' F' S' H' → ρ <+: ρ' → Le F F' → LRel C ρ' F' σ' l' → D.nx σ' H'
  | .ret d S' => ∀ ρ' F' H' v, Rel C ρ' F' S' H' → ρ <+: ρ' → Le F F' → RepD C ρ' F' v d → D.rt v H'
  | .brk l' S' => ∀ ρ' F' H' σ', Rel C ρ' F' S' H' → ρ <+: ρ' → Le F F' → LRel C ρ' F' σ' l' → D.bk σ' H'
  | .cont l' S' => ∀ ρ' F' H' σ', Rel C ρ' F' S' H' → ρ <+: ρ' → Le F F' → LRel C ρ' F' σ' l' → D.ct σ' H'
  | .exc x l' S' => ∀ ρ' F' H' σ' dd, Rel C ρ' F' S' H' → ρ <+: ρ' → Le F F' → LRel C ρ' F' σ' l' → W (.ref (C.cl x)) dd σ' H'
  | .bad => False

section
variable {C : Ct} {W : WX} {ρ ρ1 : List Addr} {F F1 : Hp} {σ : L2.St}
theorem satE.mono (hr : ρ <+: ρ1) (hF : Le F F1) {r : Res D} {Q : VK} (h : satE C W ρ F σ r Q) : satE C W ρ1 F1 σ r Q := by
  cases r with
  | ok d S => exact fun ρ' F' H' v a b c e => h ρ' F' H' v a (hr.trans b) (hF.trans c) e
  | exc x S => exact fun ρ' F' H' dd a b c => h ρ' F' H' dd a (hr.trans b) (hF.trans c)
  | bad => exact h
theorem satT.mono (hr : ρ <+: ρ1) (hF : Le F F1) {r : Res Bool} {Q : Bool → Hp → Prop} (h : satT C W ρ F σ r Q) : satT C W ρ1 F1 σ r Q := by
  cases r with
  | ok d S => exact fun ρ' F' H' a b c => h ρ' F' H' a (hr.trans b) (hF.trans c)
  | exc x S => exact fun ρ' F' H' dd a b c => h ρ' F' H' dd a (hr.trans b) (hF.trans c)
  | bad => exact h
theorem satA.mono (hr : ρ <+: ρ1) (hF : Le F F1) {r : Res (List D)} {Q : List V → Hp → Prop} (h : satA C W ρ F σ r Q) : satA C W ρ1 F1 σ r Q := by
  cases r with
  | ok d S => exact fun ρ' F' H' v a b c e => h ρ' F' H' v a (hr.trans b) (hF.trans c) e
  | exc x S => exact fun ρ' F' H' dd a b c => h ρ' F' H' dd a (hr.trans b) (hF.trans c)
  | bad => exact h
theorem satS.mono (hr : ρ <+: ρ1) (hF : Le F F1) {r : Out} {D : Ends} (h : satS C W ρ F r D) : satS C W ρ1 F1 r D := by
  cases r with
  | next l S => exact fun ρ' F' H' v a b c e => h ρ' F' H' v a (hr.trans b) (hF.trans c) e
  | ret l S => exact fun ρ' F' H' v a b c e => h ρ' F' H' v a (hr.trans b) (hF.trans c) e
  | brk l S => exact fun ρ' F' H' v a b c e => h ρ' F' H' v a (hr.trans b) (hF.trans c) e
  | cont l S => exact fun ρ' F' H' v a b c e => h ρ' F' H' v a (hr.trans b) (hF.trans c) e
  | exc x l S => exact fun ρ' F' H' v dd a b c e => h ρ' F' H' v dd a (hr.trans b) (hF.trans c) e
  | bad => exact h
end

def tE (C : Ct) (W : WX) (A : E) : TE := fun σ H Q => ∃ l S ρ F, LRel C ρ F σ l ∧ Rel C ρ F S H ∧ satE C W ρ F σ (A l S) Q
def tT (C : Ct) (W : WX) (A : T) : TT := fun σ H Q => ∃ l S ρ F, LRel C ρ F σ l ∧ Rel C ρ F S H ∧ satT C W ρ F σ (A l S) Q
def tAs (C : Ct) (W : WX) (A : As) : TA := fun σ H Q => ∃ l S ρ F, LRel C ρ F σ l ∧ Rel C ρ F S H ∧ satA C W ρ F σ (A l S) Q
def tS (C : Ct) (W : WX) (A : Stm) : TS := fun D σ H => ∃ l S ρ F, LRel C ρ F σ l ∧ Rel C ρ F S H ∧ satS C W ρ F (A l S) D

/-- THE JUDGEMENTS: the syntax does what the abstract function says -/
abbrev DE (X : Cx) (cl : Nat → Addr) (W : WX) (e : Expr) (A : E) : Prop := PE X e (tE (cxt X cl) W A)
abbrev DT (X : Cx) (cl : Nat → Addr) (W : WX) (e : Expr) (A : T) : Prop := PT X e (tT (cxt X cl) W A)
abbrev DW (X : Cx) (cl : Nat → Addr) (W : WX) (e : Expr) (A : T) : Prop := PW X e (tT (cxt X cl) W A)
abbrev DA (X : Cx) (cl : Nat → Addr) (W : WX) (es : List Expr) (A : As) : Prop := PA X es (tAs (cxt X cl) W A)
abbrev DS (X : Cx) (cl : Nat → Addr) (W : WX) (st : Stmt) (A : Stm) : Prop := PS X st (tS (cxt X cl) W A)
abbrev DSs (X : Cx) (cl : Nat → Addr) (W : WX) (st : List Stmt) (A : Stm) : Prop := PSs X st (tS (cxt X cl) W A)

theorem _root_.L2.PE.imp {X : Cx} {e : Expr} {t t' : TE} (h : PE X e t) (i : ∀ σ H Q, t' σ H Q → t σ H Q) : PE X e t' := ⟨fun pins s σ H Q I q => h.run pins s σ H Q I (i _ _ _ q)⟩
theorem _root_.L2.PT.imp {X : Cx} {e : Expr} {t t' : TT} (h : PT X e t) (i : ∀ σ H Q, t' σ H Q → t σ H Q) : PT X e t' := ⟨fun pins s σ H Q I q => h.run pins s σ H Q I (i _ _ _ q)⟩
theorem _root_.L2.PW.imp {X : Cx} {e : Expr} {t t' : TT} (h : PW X e t) (i : ∀ σ H Q, t' σ H Q → t σ H Q) : PW X e t' := ⟨fun wh pins s σ H Q I q => h.run wh pins s σ H Q I (i _ _ _ q)⟩
theorem _root_.L2.PA.imp {X : Cx} {e : List Expr} {t t' : TA} (h : PA X e t) (i : ∀ σ H Q, t' σ H Q → t σ H Q) : PA X e t' := ⟨fun pos pins s σ H Q I q => h.run pos pins s σ H Q I (i _ _ _ q)⟩
theorem _root_.L2.PS.imp {X : Cx} {e : Stmt} {t t' : TS} (h : PS X e t) (i : ∀ D σ H, t' D σ H → t D σ H) : PS X e t' := ⟨fun pins s σ H D I q => h.run pins s σ H D I (i _ _ _ q)⟩
theorem _root_.L2.PSs.imp {X : Cx} {e : List Stmt} {t t' : TS} (h : PSs X e t) (i : ∀ D σ H, t' D σ H → t D σ H) : PSs X e t' := ⟨fun pins s σ H D I q => h.run pins s σ H D I (i _ _ _ q)⟩

/-! ### the relation: a new frozen object, a cell changed, laid, forgotten -/
section
variable {C : Ct} {ρ : List Addr} {F H : Hp} {S : Sto}
theorem le_upd {G : Hp} {p : Addr} {o : HO} (h : G p = none) : Le G (upd G p o) := fun a u e => by rw [upd_ne (ne_of_none e h)]; exact e
theorem Rel.fnone (R : Rel C ρ F S H) {p : Addr} (h : H p = none) : F p = none := by
  cases e : F p with
  | none => rfl
  | some o => rw [R.fz _ _ e] at h; cases h
/-- what is tracked stays: the frozen part may grow by it -/
theorem Rel.grow (R : Rel C ρ F S H) {H' : Hp} (k : Le H H') : Rel C ρ F S H' :=
  ⟨fun a o e => k a o (R.fz a o e), R.len, fun i a c e1 e2 => (R.cell i a c e1 e2).mono (List.prefix_refl _) (Le.refl _) fun o e => k a o e, R.apart, R.inj⟩
/-- a new object, frozen -/
theorem Rel.new (R : Rel C ρ F S H) {p : Addr} {o : HO} (h : H p = none) : Rel C ρ (upd F p o) S (upd H p o) := by
  have hF := R.fnone h
  refine ⟨fun a u e => ?_, R.len, fun i a c e1 e2 => ?_, fun i a c e1 e2 hd => ?_, R.inj⟩
  · by_cases ha : a = p
    · subst ha; rw [upd_same] at e ⊢; exact e
    · rw [upd_ne ha] at e ⊢; exact R.fz _ _ e
  · refine (R.cell i a c e1 e2).mono (List.prefix_refl _) (le_upd hF) fun u e => ?_
    rw [upd_ne (ne_of_none e h)]; exact e
  · obtain ⟨u, hu, _⟩ := (R.cell i a c e1 e2).some hd
    rw [upd_ne (ne_of_none hu h)]
    exact R.apart i a c e1 e2 hd
/-- a live cell is changed -/
theorem Rel.put (R : Rel C ρ F S H) {i : Nat} {a : Addr} {c c' : Cell} {o : HO} (e1 : ρ[i]? = some a) (e2 : S[i]? = some c) (hd : c ≠ .dead) (hn : CellRep C ρ F (upd H a o) a c') (hd' : c' ≠ .dead) : Rel C ρ F (S.set i c') (upd H a o) := by
  have hF := R.apart i a c e1 e2 hd
  have hlt : i < S.length := (List.getElem?_eq_some_iff.mp e2).1
  have keep : ∀ (j : Nat) (b : Addr) (cj : Cell), ρ[j]? = some b → S[j]? = some cj → cj ≠ .dead → j ≠ i → b ≠ a := fun j b cj h1 h2 hcj hji hb => by
    subst hb
    exact hji (R.inj j i b cj c h1 e1 h2 e2 hcj hd)
  have getS : ∀ (j : Nat) (cj : Cell), (S.set i c')[j]? = some cj → (j = i ∧ cj = c') ∨ (j ≠ i ∧ S[j]? = some cj) := fun j cj h => by
    by_cases hj : j = i
    · subst hj
      rw [List.getElem?_set_self hlt] at h
      exact .inl ⟨rfl, (Option.some.inj h).symm⟩
    · rw [List.getElem?_set_ne (Ne.symm hj)] at h
      exact .inr ⟨hj, h⟩
  refine ⟨fun b u e => ?_, by simp [R.len], fun j b cj h1 h2 => ?_, fun j b cj h1 h2 hc => ?_, fun j k b cj ck h1 h2 h3 h4 hj hk => ?_⟩
  · have : b ≠ a := fun z => by subst z; rw [hF] at e; cases e
    rw [upd_ne this]; exact R.fz _ _ e
  · rcases getS j cj h2 with ⟨rfl, rfl⟩ | ⟨hj, h2⟩
    · rw [e1] at h1; cases h1; exact hn
    · by_cases hcj : cj = .dead
      · subst hcj; trivial
      · refine (R.cell j b cj h1 h2).mono (List.prefix_refl _) (Le.refl _) fun u e => ?_
        rw [upd_ne (keep j b cj h1 h2 hcj hj)]; exact e
  · rcases getS j cj h2 with ⟨rfl, rfl⟩ | ⟨hj, h2⟩
    · rw [e1] at h1; cases h1; exact hF
    · exact R.apart j b cj h1 h2 hc
  · have g3 := getS j cj h3
    have g4 := getS k ck h4
    rcases g3 with ⟨z1, z2⟩ | ⟨hj', g3⟩ <;> rcases g4 with ⟨z3, z4⟩ | ⟨hk', g4⟩
    · rw [z1, z3]
    · subst z1; exact R.inj _ _ b c ck h1 h2 e2 g4 hd hk
    · subst z3; exact R.inj _ _ b cj c h1 h2 g3 e2 hj hd
    · exact R.inj _ _ b cj ck h1 h2 g3 g4 hj hk
/-- a new cell is laid -/
theorem Rel.lay (R : Rel C ρ F S H) {p : Addr} {o : HO} {c : Cell} (h : H p = none) (hn : CellRep C (ρ ++ [p]) F (upd H p o) p c) (hd : c ≠ .dead) : Rel C (ρ ++ [p]) F (S ++ [c]) (upd H p o) := by
  have hF := R.fnone h
  have pr : ρ <+: ρ ++ [p] := List.prefix_append _ _
  have gρ : ∀ j b, (ρ ++ [p])[j]? = some b → (ρ[j]? = some b ∧ j < ρ.length) ∨ (j = ρ.length ∧ b = p) := fun j b e => by
    by_cases hj : j < ρ.length
    · rw [List.getElem?_append_left hj] at e; exact .inl ⟨e, hj⟩
    · have hl : j < (ρ ++ [p]).length := (List.getElem?_eq_some_iff.mp e).1
      have hj' : j = ρ.length := by simp at hl; omega
      subst hj'
      simp at e
      exact .inr ⟨rfl, e.symm⟩
  have gS : ∀ j cj, j < ρ.length → (S ++ [c])[j]? = some cj → S[j]? = some cj := fun j cj hj e => by
    rw [List.getElem?_append_left (by rw [← R.len]; exact hj)] at e; exact e
  have gL : ∀ cj, (S ++ [c])[ρ.length]? = some cj → cj = c := fun cj e => by
    rw [R.len] at e; simp at e; exact e.symm
  have ne : ∀ (j : Nat) (b : Addr) (cj : Cell), ρ[j]? = some b → S[j]? = some cj → cj ≠ .dead → b ≠ p := fun j b cj h1 h2 hc => by
    obtain ⟨u, hu, _⟩ := (R.cell j b cj h1 h2).some hc
    exact ne_of_none hu h
  refine ⟨fun b u e => ?_, by simp [R.len], fun j b cj h1 h2 => ?_, fun j b cj h1 h2 hc => ?_, fun j k b cj ck h1 h2 h3 h4 hj hk => ?_⟩
  · rw [upd_ne (ne_of_none e hF)]; exact R.fz _ _ e
  · rcases gρ j b h1 with ⟨h1, hl⟩ | ⟨rfl, rfl⟩
    · refine (R.cell j b cj h1 (gS j cj hl h2)).mono pr (Le.refl _) fun u e => ?_
      rw [upd_ne (ne_of_none e h)]; exact e
    · have hc := gL cj h2; subst hc; exact hn
  · rcases gρ j b h1 with ⟨h1, hl⟩ | ⟨rfl, rfl⟩
    · exact R.apart j b cj h1 (gS j cj hl h2) hc
    · exact hF
  · rcases gρ j b h1 with ⟨h1, hl⟩ | ⟨e1, e2⟩ <;> rcases gρ k b h2 with ⟨h2, hl'⟩ | ⟨e3, e4⟩
    · exact R.inj j k b cj ck h1 h2 (gS j cj hl h3) (gS k ck hl' h4) hj hk
    · exact absurd e4 (ne j b cj h1 (gS j cj hl h3) hj)
    · exact absurd e2 (ne k b ck h2 (gS k ck hl' h4) hk)
    · rw [e1, e3]
end
theorem ref_last {ρ : List Addr} {p : Addr} : (ρ ++ [p])[ρ.length]? = some p := by simp
end DL

/-! DL2: names, constants, operators, comparisons, truth. -/
namespace DL
open PySem PySem.Spec PyProof.Rows L2

def listOf (S : Sto) : D → Option (List D)
  | .lst xs => some xs
  | .ref n => match S[n]? with
    | some (.lst xs) => some xs
    | _ => none
  | _ => none
def seqOf (S : Sto) : D → Option (List D)
  | .tup xs => some xs
  | d => listOf S d
section
variable {C : Ct} {W : WX} {ρ : List Addr} {F H : Hp} {S : Sto} {v : V} {d : D} {xs : List D}
theorem rep_list (R : Rel C ρ F S H) (r : RepD C ρ F v d) (h : listOf S d = some xs) : ∃ a vs, v = .ref a ∧ SqL C.K H a vs ∧ RepAll C ρ F vs xs := by
  cases r with
  | lst hq ra =>
    obtain rfl := Option.some.inj h
    exact ⟨_, _, rfl, sqL_mono R.fz hq, ra⟩
  | @ref a n e =>
    have h' : (match S[n]? with
      | some (.lst xs) => some xs
      | _ => none) = some xs := h
    split at h'
    · next ys es =>
      obtain rfl := Option.some.inj h'
      obtain ⟨vs, hv, ra⟩ := R.cell n a _ e es
      exact ⟨a, vs, rfl, SqL.of hv, ra⟩
    · exact nomatch h'
  | _ => exact nomatch h
theorem rep_tup (R : Rel C ρ F S H) (r : RepD C ρ F v (.tup xs)) : ∃ a vs, v = .ref a ∧ SqT C.K H a vs ∧ RepAll C ρ F vs xs := by
  cases r with
  | tup hq ra => exact ⟨_, _, rfl, sqT_mono R.fz hq, ra⟩
theorem rep_seq (R : Rel C ρ F S H) (r : RepD C ρ F v d) (h : seqOf S d = some xs) : ∃ a vs, v = .ref a ∧ (SqL C.K H a vs ∨ SqT C.K H a vs) ∧ RepAll C ρ F vs xs := by
  cases d with
  | tup ys =>
    obtain rfl := Option.some.inj (show some ys = some xs from h)
    obtain ⟨a, vs, e, hq, ra⟩ := rep_tup R r
    exact ⟨a, vs, e, .inr hq, ra⟩
  | _ =>
    obtain ⟨a, vs, e, hq, ra⟩ := rep_list R r h
    exact ⟨a, vs, e, .inl hq, ra⟩
/-- the answer at once: data of the same store -/
theorem satE.now {σ : L2.St} {Q : VK} (h : satE C W ρ F σ (.ok d S) Q) (R : Rel C ρ F S H) (r : RepD C ρ F v d) : Q v H := h ρ F H v R (List.prefix_refl _) (Le.refl _) r
/-- a new tuple, a new list, frozen -/
theorem satE.newT {σ : L2.St} {Q : VK} {vs : List V} (h : satE C W ρ F σ (.ok (.tup xs) S) Q) (R : Rel C ρ F S H) (r : RepAll C ρ F vs xs) {p : Addr} (hp : H p = none) : Q (.ref p) (upd H p (.tup vs)) :=
  h ρ (upd F p (.tup vs)) _ _ (R.new hp) (List.prefix_refl _) (le_upd (R.fnone hp)) (.tup (SqT.of upd_same) (r.mono (List.prefix_refl _) (le_upd (R.fnone hp))))
theorem satE.newL {σ : L2.St} {Q : VK} {vs : List V} (h : satE C W ρ F σ (.ok (.lst xs) S) Q) (R : Rel C ρ F S H) (r : RepAll C ρ F vs xs) {p : Addr} (hp : H p = none) : Q (.ref p) (upd H p (.lst vs)) :=
  h ρ (upd F p (.lst vs)) _ _ (R.new hp) (List.prefix_refl _) (le_upd (R.fnone hp)) (.lst (SqL.of upd_same) (r.mono (List.prefix_refl _) (le_upd (R.fnone hp))))
end

/-! ### names, constants -/
def eVar (i : Nat) : E := fun l S => match l[i]? with
  | some (some d) => .ok d S
  | _ => .bad
def eC (d : D) : E := fun _ S => .ok d S
section
variable {X : Cx} {cl : Nat → Addr} {W : WX}
theorem de_of {i : Nat} {e : Expr} (h : PE X e (tVar i)) : DE X cl W e (eVar i) := h.imp fun σ H Q ⟨l, S, ρ, F, hl, R, h⟩ => by
  unfold eVar at h
  split at h
  · next d e =>
    obtain ⟨v, ev, r⟩ := hl.2 i d e
    exact ⟨v, ev, h.now R r⟩
  · exact h.elim
theorem de_const {v : V} {d : D} {e : Expr} (h : PE X e (tC v)) (r : ∀ ρ F, RepD (cxt X cl) ρ F v d) : DE X cl W e (eC d) := h.imp fun σ H Q ⟨l, S, ρ, F, hl, R, h⟩ => h.now R (r _ _)
theorem dv (i : Nat) {x : Str} {pos : Pos} (hN : X.N[i]? = some x := by rfl) (hv : Vis X.env.scope x := by first | exact Or.inl rfl | exact Or.inr (Or.inl rfl) | exact Or.inr (Or.inr rfl)) (hd : (x == ("__debug__" : Str)) = false := by decide)
    (hcd : (x == ("__classdict__" : Str)) = false := by decide) : DE X cl W (.Name x pos) (eVar i) := de_of (pe_var hN hv hd hcd)
theorem de_int {i : Int} {j : Nat} {pos : Pos} : DE X cl W (.Constant (.int i) j pos) (eC (.int i)) := de_const pe_int fun _ _ => .int i
theorem de_bl {b : Bool} {j : Nat} {pos : Pos} : DE X cl W (.Constant (.bool b) j pos) (eC (.bl b)) := de_const pe_bl fun _ _ => .bl b
theorem de_non {j : Nat} {pos : Pos} : DE X cl W (.Constant .none j pos) (eC .non) := de_const pe_non fun _ _ => .non
theorem de_str {x : Str} {j : Nat} {pos : Pos} : DE X cl W (.Constant (.str x) j pos) (eC (.str x)) := de_const pe_str fun _ _ => .str x
end

/-! ### two operands -/
def eOp2 (f : D → D → Sto → Res D) (A B : E) : E := fun l S => (A l S).bind fun x S1 => (B l S1).bind fun y S2 => f x y S2
def eOp1 (f : D → Sto → Res D) (A : E) : E := fun l S => (A l S).bind fun x S1 => f x S1
def rD2 (C : Ct) (W : WX) (f : D → D → Sto → Res D) : R2 := fun x y H Q => ∃ ρ F S σ dx dy, Rel C ρ F S H ∧ RepD C ρ F x dx ∧ RepD C ρ F y dy ∧ satE C W ρ F σ (f dx dy S) Q
def rD1 (C : Ct) (W : WX) (f : D → Sto → Res D) : V → Hp → VK → Prop := fun x H Q => ∃ ρ F S σ dx, Rel C ρ F S H ∧ RepD C ρ F x dx ∧ satE C W ρ F σ (f dx S) Q
section
variable {C : Ct} {W : WX} {A B : E} {f : D → D → Sto → Res D} {g : D → Sto → Res D}
/-- a step on, with a value in hand -/
theorem tE_step {σ : L2.St} {H : Hp} {Q : VK} {l : Loc} {S : Sto} {ρ : List Addr} {F : Hp} {k : D → Sto → Res D} (hl : LRel C ρ F σ l) (R : Rel C ρ F S H) (h : satE C W ρ F σ ((A l S).bind k) Q) {Q1 : VK}
    (hk : ∀ d S1 ρ1 F1 H1 v, Rel C ρ1 F1 S1 H1 → LRel C ρ1 F1 σ l → RepD C ρ1 F1 v d → ρ <+: ρ1 → Le F F1 → satE C W ρ1 F1 σ (k d S1) Q → Q1 v H1) : tE C W A σ H Q1 := by
  refine ⟨l, S, ρ, F, hl, R, ?_⟩
  cases e : A l S with
  | ok d S1 =>
    rw [e] at h
    exact fun ρ1 F1 H1 v R1 p1 f1 r1 => hk d S1 ρ1 F1 H1 v R1 (hl.mono p1 f1) r1 p1 f1 (h.mono p1 f1)
  | exc x S1 => rw [e] at h; exact h
  | bad => rw [e] at h; exact h
theorem tE_op2 {σ : L2.St} {H : Hp} {Q : VK} (h : tE C W (eOp2 f A B) σ H Q) : tOp (rD2 C W f) (tE C W A) (tE C W B) σ H Q := by
  obtain ⟨l, S, ρ, F, hl, R, h⟩ := h
  refine tE_step (Q := Q) hl R h fun x S1 ρ1 F1 H1 v R1 hl1 r1 p1 f1 h1 => ?_
  refine tE_step (Q := Q) hl1 R1 h1 fun y S2 ρ2 F2 H2 u R2 hl2 r2 p2 f2 h2 => ?_
  exact ⟨ρ2, F2, S2, σ, x, y, R2, r1.mono p2 f2, r2, h2⟩
theorem tE_op1 {σ : L2.St} {H : Hp} {Q : VK} (h : tE C W (eOp1 g A) σ H Q) : tUn (rD1 C W g) (tE C W A) σ H Q := by
  obtain ⟨l, S, ρ, F, hl, R, h⟩ := h
  exact tE_step (Q := Q) hl R h fun x S1 ρ1 F1 H1 v R1 hl1 r1 p1 f1 h1 => ⟨ρ1, F1, S1, σ, x, R1, r1, h1⟩
end
theorem _root_.L2.OpR.weak {X : Cx} {f : Value → Value → Sem Value} {r r' : R2} (h : OpR X f r) (i : ∀ x y H Q, r' x y H Q → r x y H Q) : OpR X f r' := fun pins s σ H x y v u Q I rx ry q => h pins s σ H x y v u Q I rx ry (i _ _ _ _ q)
theorem _root_.L2.UnR.weak {X : Cx} {f : Value → Sem Value} {r r' : V → Hp → VK → Prop} (h : UnR X f r) (i : ∀ x H Q, r' x H Q → r x H Q) : UnR X f r' := fun pins s σ H x v Q I rx q => h pins s σ H x v Q I rx (i _ _ _ q)
abbrev OpD (X : Cx) (cl : Nat → Addr) (W : WX) (f : Value → Value → Sem Value) (g : D → D → Sto → Res D) : Prop := OpR X f (rD2 (cxt X cl) W g)
section
variable {X : Cx} {cl : Nat → Addr} {W : WX} {A B : E} {a b : Expr} {pos : Pos}
theorem de_bin {op : Operator} {g : D → D → Sto → Res D} (ho : OpD X cl W (binaryOp op) g) (ha : DE X cl W a A) (hb : DE X cl W b B) : DE X cl W (.BinOp a op b pos) (eOp2 g A B) := (pe_op ho ha hb).imp fun _ _ _ h => tE_op2 h
theorem de_cmp {op : CmpOp} {g : D → D → Sto → Res D} (ho : OpD X cl W (compareOp op) g) (ha : DE X cl W a A) (hb : DE X cl W b B) (hm : behindInMarks op b = false := by first | exact nobehind _ (by decide) (by decide) | rfl) : DE X cl W (.Compare a [op] [b] pos) (eOp2 g A B) := (pe_cmpR ho ha hb hm).imp fun _ _ _ h => tE_op2 h
end

/-! ### + - * // % ** -/
def addD : D → D → Sto → Res D
  | .int i, .int j, S => .ok (.int (i + j)) S
  | .str s, .str t, S => if s.length + t.length ≤ sizeLine then .ok (.str (s ++ t)) S else .bad
  | .tup xs, .tup ys, S => if xs.length + ys.length ≤ sizeLine then .ok (.tup (xs ++ ys)) S else .bad
  | x, y, S => match listOf S x, listOf S y with
    | some xs, some ys => if xs.length + ys.length ≤ sizeLine then .ok (.lst (xs ++ ys)) S else .bad
    | _, _ => .bad
def subD : D → D → Sto → Res D
  | .int i, .int j, S => .ok (.int (i - j)) S
  | _, _, _ => .bad
def mulOk (i j : Int) : Bool := decide (i.natAbs < 2 ^ 64) || decide (j.natAbs < 2 ^ 64) || decide (i.natAbs.log2 + j.natAbs.log2 < 1000000)
def mulD : D → D → Sto → Res D
  | .int i, .int j, S => if mulOk i j = true then .ok (.int (i * j)) S else .bad
  | .lst xs, .int k, S => if k ≤ 100000 ∧ xs.length * k.toNat ≤ sizeLine ∧ -100000 ≤ k then .ok (.lst (List.replicate k.toNat xs).flatten) S else .bad
  | .tup xs, .int k, S => if -100000 ≤ k ∧ k ≤ 1000 ∧ xs.length ≤ 1000 then .ok (.tup (List.replicate k.toNat xs).flatten) S else .bad
  | _, _, _ => .bad
def divOk (j : Int) : Bool := decide (0 < j) && decide (j.natAbs.log2 < 9000)
def fdivD : D → D → Sto → Res D
  | .int i, .int j, S => if divOk j = true then .ok (.int (i / j)) S else .bad
  | _, _, _ => .bad
def modD : D → D → Sto → Res D
  | .int i, .int j, S => if 0 < j then .ok (.int (i % j)) S else .bad
  | _, _, _ => .bad
def powD : D → D → Sto → Res D
  | .int i, .int j, S => if 0 ≤ j ∧ j ≤ 1000000 ∧ i.natAbs < 2 ^ 64 then .ok (.int (i ^ j.toNat)) S else .bad
  | _, _, _ => .bad
section
variable {X : Cx} {cl : Nat → Addr} {W : WX}
/-- list + list, whatever lists they are -/
def rCatL (K : PySem.W.Frag) : R2 := fun x y H Q => ∃ l b xs zs, x = .ref l ∧ y = .ref b ∧ SqL K H l xs ∧ SqL K H b zs ∧ xs.length + zs.length ≤ sizeLine ∧ ∀ p, H p = none → Q (.ref p) (upd H p (.lst (xs ++ zs)))
theorem op_catL : OpR X (binaryOp .Add) (rCatL X.K) := by
  intro pins s σ H x y v u Q I rx ry h
  obtain ⟨l, b, xs, zs, rfl, rfl, hH, hB, hz, q⟩ := h
  cases rx
  cases ry
  obtain ⟨its, r, pl, _⟩ := I.list hH
  obtain ⟨its2, r2, pl2, _⟩ := I.list hB
  obtain ⟨⟨cls, dd, data, sls⟩, n, ho, hc, hdd, hd⟩ := pl
  obtain ⟨⟨cls2, dd2, data2, sl2⟩, n2, ho2, hc2, hdd2, hd2⟩ := pl2
  simp only at hc hdd hd hc2 hdd2 hd2
  subst hc hdd hd hc2 hdd2 hd2
  have hl := r.length
  have hl2 := r2.length
  have e : its.toArray ++ its2.toArray = (its ++ its2).toArray := by simp
  refine concat_meets ⟨_, ho, rfl⟩ ⟨_, ho2, rfl⟩ noFill_list_add seq_list_add PySem.F.slot_list_add PySem.F.entry_list_add (PySem.F.args_list_add_2 _ _) (list_addW l b its.toArray its2.toArray n n2 none none sls sl2 (by simp; omega)) ⟨ho, ho2, ?_⟩
  rw [e]
  exact ⟨.ref _, _, I.lnew (t' := s.toks) (r.append r2) (by rw [List.length_append]; omega), rfl, q _ I.fresh⟩
theorem od_add : OpD X cl W (binaryOp .Add) addD := by
  refine ((op_add.or op_add_str).or (op_catA.or op_catL)).weak ?_
  rintro x y H Q ⟨ρ, F, S, σ, dx, dy, R, r1, r2, h⟩
  unfold addD at h
  split at h
  · cases r1; cases r2
    exact .inl (.inl ⟨_, _, rfl, rfl, h.now R (.int _)⟩)
  · cases r1; cases r2
    split at h
    · next hz => exact .inl (.inr ⟨_, _, rfl, rfl, hz, h.now R (.str _)⟩)
    · exact h.elim
  · split at h
    · next xs ys hz =>
      obtain ⟨a, vs, rfl, ha, ra⟩ := rep_tup R r1
      obtain ⟨b, us, rfl, hb, rb⟩ := rep_tup R r2
      have l1 := ra.len
      have l2 := rb.len
      refine .inr (.inl ⟨a, b, vs, us, rfl, rfl, ha, hb, by omega, fun e => ?_, fun _ e => ?_, fun _ _ p hp => h.newT R (ra.app rb) hp⟩)
      · subst e; cases ra; exact h.now R r2
      · subst e; cases rb; rw [List.append_nil] at h; exact h.now R r1
    · exact h.elim
  · split at h
    · next xs ys e1 e2 =>
      split at h
      · next hz =>
        obtain ⟨a, vs, rfl, ha, ra⟩ := rep_list R r1 e1
        obtain ⟨b, us, rfl, hb, rb⟩ := rep_list R r2 e2
        have l1 := ra.len
        have l2 := rb.len
        exact .inr (.inr ⟨a, b, vs, us, rfl, rfl, ha, hb, by omega, fun p hp => h.newL R (ra.app rb) hp⟩)
      · exact h.elim
    · exact h.elim
theorem od_sub : OpD X cl W (binaryOp .Sub) subD := op_sub.weak fun x y H Q ⟨ρ, F, S, σ, dx, dy, R, r1, r2, h⟩ => by
  unfold subD at h
  split at h
  · cases r1; cases r2
    exact ⟨_, _, rfl, rfl, h.now R (.int _)⟩
  · exact h.elim
theorem RepAll.rep {C : Ct} {ρ : List Addr} {F : Hp} {vs : List V} {ds : List D} (r : RepAll C ρ F vs ds) : ∀ k : Nat, RepAll C ρ F (List.replicate k vs).flatten (List.replicate k ds).flatten
  | 0 => .nil
  | k + 1 => by rw [List.replicate_succ, List.replicate_succ, List.flatten_cons, List.flatten_cons]; exact r.app (r.rep k)
/-- list * int, whatever list it is -/
def rRepL (K : PySem.W.Frag) : R2 := fun x y H Q => ∃ l k xs, x = .ref l ∧ y = .int k ∧ SqL K H l xs ∧ -(2 ^ 63) ≤ k ∧ k < 2 ^ 63 ∧ xs.length * k.toNat ≤ sizeLine ∧
  ∀ p, H p = none → Q (.ref p) (upd H p (.lst (List.replicate k.toNat xs).flatten))
theorem int_rmul_listW (a : Int) (t : Tok) (l : Addr) (items : Array Value) (n : Nat) (dd : Option Addr) (sl : Array (Option Value)) :
    Meets (Builtin.«int.__rmul__» ⟨[.int a t, .ref l], []⟩) (fun _ R s => s.heap.get? l = some { cls := .type "list", dict := dd, data := .seq items n, slots := sl } ∧ R (.ok (.ret Value.notImplemented)) s) :=
  .of_wp fun prog w A R s h => by obtain ⟨hp, g, d, tk, os⟩ := s; obtain ⟨hl, h⟩ := h; wp_walk using AutoSeq1.wpAny_loadPart' hl; exact ⟨_, rfl, h⟩
theorem list_mulW (l : Addr) (items : Array Value) (n : Nat) (dd : Option Addr) (sl : Array (Option Value)) (x : Int) (u : Tok) (hc0 : ¬(!Builtin.List.listFitsIndex x) = true) (hc1 : ¬items.size * x.toNat > (2 ^ 63 - 1) / 8) (hc2 : ¬Builtin.List.listTooLong (items.size * x.toNat) = true) :
    Meets (Builtin.«list.__mul__» ⟨[.ref l, .int x u], []⟩) (fun _ R s => s.heap.get? l = some { cls := .type "list", dict := dd, data := .seq items n, slots := sl } ∧ R (.ok (.ret (Value.ref s.heap.objs.size))) { s with heap := s.heap.push { cls := Value.type "list", data := Data.seq (List.foldl (fun x1 x2 => x1 ++ x2) #[] (List.replicate (if items.isEmpty = true then 0 else x.toNat) items)) }, toks := s.toks }) :=
  .of_wp fun prog w A R s h => by
    obtain ⟨hp, g, d, tk, os⟩ := s; obtain ⟨hl, h⟩ := h
    have hsz := AutoListH.joined_fits hc2
    have f1 := AutoSeq1.idx_int
    wp_walk using AutoSeq1.wpAny_loadPart' hl
    repeat (first
      | (refine wpAny_ite_false (decide_eq_false hc0) ?_; wp_walk using AutoSeq1.wpAny_loadPart' hl)
      | (refine wpAny_ite_false (decide_eq_false hc1) ?_; wp_walk using AutoSeq1.wpAny_loadPart' hl)
      | (refine wpAny_ite_false (decide_eq_false hc2) ?_; wp_walk using AutoSeq1.wpAny_loadPart' hl)
      | (refine wpAny_ite_false (decide_eq_false (Nat.not_lt.mpr hsz)) ?_; wp_walk using AutoSeq1.wpAny_loadPart' hl))
    exact ⟨_, rfl, h⟩
def rRepT0 (K : PySem.W.Frag) : R2 := fun x y H Q => ∃ l k xs, x = .ref l ∧ y = .int k ∧ SqT K H l xs ∧ xs ≠ [] ∧ k ≤ 0 ∧ -100000 ≤ k ∧ ∀ p, H p = none → Q (.ref p) (upd H p (.tup []))
def rRepT1 (K : PySem.W.Frag) : R2 := fun x y H Q => ∃ l k xs, x = .ref l ∧ y = .int k ∧ SqT K H l xs ∧ (xs = [] ∨ k = 1) ∧ k ≤ 1000 ∧ -100000 ≤ k ∧ Q (.ref l) H
theorem tuple_mulW0 (l : Addr) (items : Array Value) (n : Nat) (dd : Option Addr) (sl : Array (Option Value)) (x : Int) (u : Tok) (c0 : (decide (x < -(2 ^ 63)) || decide (x ≥ 2 ^ 63)) = false) (c1 : (items.isEmpty || x == 1) = false) (c2 : (decide (x ≤ 0) || items.isEmpty) = true) :
    Meets (Builtin.«tuple.__mul__» ⟨[.ref l, .int x u], []⟩) (fun _ R s => s.heap.get? l = some { cls := .type "tuple", dict := dd, data := .seq items n, slots := sl } ∧
      R (.ok (.ret (Value.ref s.heap.objs.size))) { s with heap := s.heap.push { cls := Value.type "tuple", data := Data.seq #[] }, toks := s.toks }) :=
  .of_wp fun prog w A R s h => by
    obtain ⟨hp, g, d, tk, os⟩ := s
    obtain ⟨hl, h⟩ := h
    have f1 := AutoSeq1.idx_int
    wp_walk using wpAny_loadPart' hl
    repeat (first
      | (refine wpAny_ite_false (decide_eq_false (by rw [c0]; exact Bool.false_ne_true)) ?_; wp_walk using wpAny_loadPart' hl)
      | (refine wpAny_ite_false (decide_eq_false (by rw [c1]; exact Bool.false_ne_true)) ?_; wp_walk using wpAny_loadPart' hl)
      | (refine wpAny_ite_true (decide_eq_true (by rw [c2])) ?_; wp_walk using wpAny_loadPart' hl))
    exact ⟨_, rfl, h⟩
theorem tuple_mulW1 (l : Addr) (items : Array Value) (n : Nat) (dd : Option Addr) (sl : Array (Option Value)) (x : Int) (u : Tok) (c0 : (decide (x < -(2 ^ 63)) || decide (x ≥ 2 ^ 63)) = false) (c1 : (items.isEmpty || x == 1) = true) :
    Meets (Builtin.«tuple.__mul__» ⟨[.ref l, .int x u], []⟩) (fun _ R s => s.heap.get? l = some { cls := .type "tuple", dict := dd, data := .seq items n, slots := sl } ∧
      R (.ok (.ret (Value.ref l))) s) :=
  .of_wp fun prog w A R s h => by
    obtain ⟨hp, g, d, tk, os⟩ := s
    obtain ⟨hl, h⟩ := h
    have f1 := AutoSeq1.idx_int
    wp_walk using wpAny_loadPart' hl
    repeat (first
      | (refine wpAny_ite_false (decide_eq_false (by rw [c0]; exact Bool.false_ne_true)) ?_; wp_walk using wpAny_loadPart' hl)
      | (refine wpAny_ite_true (decide_eq_true (by rw [c1])) ?_; wp_walk using wpAny_loadPart' hl))
    exact ⟨_, rfl, h⟩
section
variable {X : Cx}
theorem op_repT0 : OpR X (binaryOp .Mult) (rRepT0 X.K) := by
  intro pins s σ H x y v u Q I rx ry h
  obtain ⟨l, k, xs, rfl, rfl, hT, hne, h1, h2, q⟩ := h
  cases rx
  obtain ⟨t, rfl⟩ := ry
  obtain ⟨its, r, ⟨⟨cls, dd, data, sl⟩, ho, hc, n, hd⟩, hs⟩ := I.tuple hT
  simp only at hc hd
  subst hc hd
  have hle : its.length = xs.length := r.length.symm
  have hn : its ≠ [] := fun e => hne (by
    rw [e] at hle
    exact List.eq_nil_of_length_eq_zero hle.symm)
  have hi : its.toArray.isEmpty = false := by
    cases its with
    | nil => exact absurd rfl hn
    | cons a b => rfl
  have c0 : (decide (k < -(2 ^ 63)) || decide (k ≥ 2 ^ 63)) = false := by
    rw [decide_eq_false (by omega), decide_eq_false (by omega)] <;> rfl
  have c1 : (its.toArray.isEmpty || k == 1) = false := by
    rw [hi, Bool.false_or]
    exact beq_eq_false_iff_ne.mpr (by omega)
  have c2 : (decide (k ≤ 0) || its.toArray.isEmpty) = true := by
    rw [hi, Bool.or_false]
    exact decide_eq_true (by omega)
  refine wpAny_binaryOp_repeat_ref (T := "tuple") (U := "int") (by decide) ⟨_, ho, rfl⟩ (fun s' => typeIs_int s' k t) noFill_tuple_mul PySem.F.fills_int_mul PySem.F.slot_int_rmul repeat_tuple PySem.F.slot_int_index.lookup
    (call_meets PySem.F.slot_int_rmul (typeIs_int s k t) PySem.F.entry_int_rmul (PySem.F.args_int_rmul_2 _ _) (int_rmul_tuple k t l its.toArray n dd sl)
      ⟨ho, rfl, ⟨_, ho, rfl⟩, call_meets PySem.F.slot_tuple_mul ⟨_, ho, rfl⟩ PySem.F.entry_tuple_mul (PySem.F.args_tuple_mul_2 _ _) (tuple_mulW0 l its.toArray n dd sl k t c0 c1 c2) ⟨ho, ?_⟩⟩)
  refine ⟨.ref s.heap.objs.size, _, I.laid (t' := s.toks) (o := .tup []) (fun b ob q => Heap.get?_push_of_some _ q) (Nat.le_refl _) ?_, rfl, q _ (I.hok.fresh (Nat.le_refl _))⟩
  exact ⟨by simp, [], .nil, IsTup.new _ _⟩
theorem op_repT1 : OpR X (binaryOp .Mult) (rRepT1 X.K) := by
  intro pins s σ H x y v u Q I rx ry h
  obtain ⟨l, k, xs, rfl, rfl, hT, hne, h1, h2, q⟩ := h
  cases rx
  obtain ⟨t, rfl⟩ := ry
  obtain ⟨its, r, ⟨⟨cls, dd, data, sl⟩, ho, hc, n, hd⟩, hs⟩ := I.tuple hT
  simp only at hc hd
  subst hc hd
  have hle : its.length = xs.length := r.length.symm
  have c0 : (decide (k < -(2 ^ 63)) || decide (k ≥ 2 ^ 63)) = false := by
    rw [decide_eq_false (by omega), decide_eq_false (by omega)] <;> rfl
  have c1 : (its.toArray.isEmpty || k == 1) = true := by
    rcases hne with e | rfl
    · subst e
      rw [List.eq_nil_of_length_eq_zero hle]
      rfl
    · simp
  refine wpAny_binaryOp_repeat_ref (T := "tuple") (U := "int") (by decide) ⟨_, ho, rfl⟩ (fun s' => typeIs_int s' k t) noFill_tuple_mul PySem.F.fills_int_mul PySem.F.slot_int_rmul repeat_tuple PySem.F.slot_int_index.lookup
    (call_meets PySem.F.slot_int_rmul (typeIs_int s k t) PySem.F.entry_int_rmul (PySem.F.args_int_rmul_2 _ _) (int_rmul_tuple k t l its.toArray n dd sl)
      ⟨ho, rfl, ⟨_, ho, rfl⟩, call_meets PySem.F.slot_tuple_mul ⟨_, ho, rfl⟩ PySem.F.entry_tuple_mul (PySem.F.args_tuple_mul_2 _ _) (tuple_mulW1 l its.toArray n dd sl k t c0 c1) ⟨ho, ?_⟩⟩)
  exact ⟨.ref l, _, I, rfl, q⟩
end
theorem od_mul0 : OpD X cl W (binaryOp .Mult) (fun x y S => match x, y with
    | .int i, .int j => mulD (.int i) (.int j) S
    | .tup xs, .int k => mulD (.tup xs) (.int k) S
    | _, _ => .bad) := by
  refine (((op_mul.or op_mulW).or op_repT).or (op_repT0.or op_repT1)).weak ?_
  rintro x y H Q ⟨ρ, F, S, σ, dx, dy, R, r1, r2, h⟩
  dsimp only at h
  split at h
  · cases r1; cases r2
    unfold mulD at h
    simp only at h
    split at h
    · next hk =>
      unfold mulOk at hk
      rw [Bool.or_eq_true, Bool.or_eq_true] at hk
      have fin := h.now R (.int _)
      rcases hk with (hk | hk) | hk
      · have := of_decide_eq_true hk
        exact .inl (.inl (.inl ⟨_, _, rfl, rfl, .inl ⟨by omega, by omega⟩, fin⟩))
      · have := of_decide_eq_true hk
        exact .inl (.inl (.inl ⟨_, _, rfl, rfl, .inr ⟨by omega, by omega⟩, fin⟩))
      · have hk' := of_decide_eq_true hk
        exact .inl (.inl (.inr ⟨_, _, rfl, rfl, hk', fin⟩))
    · exact h.elim
  · rename_i xs k
    unfold mulD at h
    simp only at h
    split at h
    · next hz =>
      cases r2
      obtain ⟨a, vs, rfl, ha, ra⟩ := rep_tup R r1
      have l1 := ra.len
      have fl : ∀ m : Nat, (List.replicate m ([] : List D)).flatten = [] := fun m => by simp
      by_cases he : xs = []
      · subst he
        rw [fl] at h
        have e2 : vs = [] := by cases ra; rfl
        exact .inr (.inr ⟨a, _, vs, rfl, rfl, ha, .inl e2, by omega, by omega, h.now R r1⟩)
      · have hv : vs ≠ [] := fun e => he (by subst e; cases ra; rfl)
        by_cases h1 : k = 1
        · have e3 : (List.replicate k.toNat xs).flatten = xs := by subst h1; simp
          rw [e3] at h
          exact .inr (.inr ⟨a, _, vs, rfl, rfl, ha, .inr h1, by omega, by omega, h.now R r1⟩)
        · by_cases h0 : k ≤ 0
          · have e4 : (List.replicate k.toNat xs).flatten = [] := by rw [show k.toNat = 0 by omega]; rfl
            rw [e4] at h
            exact .inr (.inl ⟨a, _, vs, rfl, rfl, ha, hv, h0, by omega, fun p hp => h.newT R .nil hp⟩)
          · exact .inl (.inr ⟨a, _, vs, rfl, rfl, ha, hv, by omega, by omega, by omega, fun p hp => h.newT R (ra.rep _) hp⟩)
    · exact h.elim
  · exact h.elim
theorem op_repL : OpR X (binaryOp .Mult) (rRepL X.K) := by
  intro pins s σ H x y v u Q I rx ry h
  obtain ⟨l, k, xs, rfl, rfl, hH, h1, h2, hz, q⟩ := h
  cases rx
  obtain ⟨t, rfl⟩ := ry
  obtain ⟨its, r, pl, _⟩ := I.list hH
  obtain ⟨⟨cls, dd, data, sls⟩, n, ho, hc, hdd, hd⟩ := pl
  simp only at hc hdd hd
  subst hc hdd hd
  have hl := r.length
  have hlen : its.toArray.size * k.toNat ≤ sizeLine := by rw [List.size_toArray, ← hl]; exact hz
  have hcap : ¬ its.toArray.size * k.toNat > (2 ^ 63 - 1) / 8 := by
    have : (sizeLine : Nat) ≤ (2 ^ 63 - 1) / 8 := by decide
    omega
  have hfit : ¬ (!Builtin.List.listFitsIndex k) = true := by
    rw [fitsIndex_both h1 h2]
    exact Bool.false_ne_true
  have hlong : ¬ Builtin.List.listTooLong (its.toArray.size * k.toNat) = true := by
    rw [notLongL hlen]
    exact Bool.false_ne_true
  have hnew : List.foldl (fun x1 x2 => x1 ++ x2) #[] (List.replicate (if its.toArray.isEmpty = true then 0 else k.toNat) its.toArray) = (List.replicate k.toNat its).flatten.toArray := by
    have f0 : ∀ m : Nat, List.foldl (fun x1 x2 => x1 ++ x2) #[] (List.replicate m its.toArray) = (List.replicate m its).flatten.toArray := fun m => by
      have := foldl_rep its m []
      rw [List.nil_append] at this
      exact this
    rw [f0]
    cases its with
    | nil => simp
    | cons a r' => rw [if_neg (by simp)]
  refine wpAny_binaryOp_repeat_ref (T := "list") (U := "int") (by decide) ⟨_, ho, rfl⟩ (fun s' => typeIs_int s' k t) noFill_list_mul PySem.F.fills_int_mul PySem.F.slot_int_rmul repeat_list PySem.F.slot_int_index.lookup
    (call_meets PySem.F.slot_int_rmul (typeIs_int s k t) PySem.F.entry_int_rmul (PySem.F.args_int_rmul_2 _ _) (int_rmul_listW k t l its.toArray n none sls)
      ⟨ho, rfl, ⟨_, ho, rfl⟩, call_meets PySem.F.slot_list_mul ⟨_, ho, rfl⟩ PySem.F.entry_list_mul (PySem.F.args_list_mul_2 _ _) (list_mulW l its.toArray n none sls k t hfit hcap hlong) ⟨ho, ?_⟩⟩)
  rw [hnew]
  exact ⟨.ref _, _, I.lnew (t' := s.toks) (r.rep k.toNat) (by rw [PyProof.Rows.lm_len_rep_flat, Nat.mul_comm]; exact hz), rfl, q _ I.fresh⟩
theorem od_mul : OpD X cl W (binaryOp .Mult) mulD := by
  refine ((od_mul0 (X := X) (cl := cl) (W := W)).or op_repL).weak ?_
  rintro x y H Q ⟨ρ, F, S, σ, dx, dy, R, r1, r2, h⟩
  cases dx <;> cases dy <;> first
    | exact .inl ⟨ρ, F, S, σ, _, _, R, r1, r2, h⟩
    | exact h.elim
    | skip
  next xs k =>
    unfold mulD at h
    simp only at h
    split at h
    · next hz =>
      cases r2
      obtain ⟨a, vs, rfl, ha, ra⟩ := rep_list (S := S) (xs := xs) R r1 rfl
      have l1 := ra.len
      exact .inr ⟨a, _, vs, rfl, rfl, ha, by omega, by omega, by rw [l1]; exact hz.2.1, fun p hp => h.newL R (ra.rep _) hp⟩
    · exact h.elim
theorem od_fdiv : OpD X cl W (binaryOp .FloorDiv) fdivD := op_fdivW.weak fun x y H Q ⟨ρ, F, S, σ, dx, dy, R, r1, r2, h⟩ => by
  unfold fdivD at h
  split at h
  · cases r1; cases r2
    split at h
    · next hk =>
      unfold divOk at hk
      rw [Bool.and_eq_true] at hk
      exact ⟨_, _, rfl, rfl, ⟨of_decide_eq_true hk.1, of_decide_eq_true hk.2⟩, h.now R (.int _)⟩
    · exact h.elim
  · exact h.elim
theorem od_mod : OpD X cl W (binaryOp .Mod) modD := op_mod.weak fun x y H Q ⟨ρ, F, S, σ, dx, dy, R, r1, r2, h⟩ => by
  unfold modD at h
  split at h
  · cases r1; cases r2
    split at h
    · next hk => exact ⟨_, _, rfl, rfl, hk, h.now R (.int _)⟩
    · exact h.elim
  · exact h.elim
theorem od_pow : OpD X cl W (binaryOp .Pow) powD := op_pow.weak fun x y H Q ⟨ρ, F, S, σ, dx, dy, R, r1, r2, h⟩ => by
  unfold powD at h
  split at h
  · cases r1; cases r2
    split at h
    · next hk => exact ⟨_, _, rfl, rfl, hk, h.now R (.int _)⟩
    · exact h.elim
  · exact h.elim
/-- x op= e -/
theorem od_iadd : OpD X cl W (inplaceOp .Add) (fun x y S => match x, y with | .int i, .int j => .ok (.int (i + j)) S | _, _ => .bad) := iop_add.weak fun x y H Q ⟨ρ, F, S, σ, dx, dy, R, r1, r2, h⟩ => by
  dsimp only at h
  split at h
  · cases r1; cases r2
    exact ⟨_, _, rfl, rfl, h.now R (.int _)⟩
  · exact h.elim
theorem od_isub : OpD X cl W (inplaceOp .Sub) subD := iop_sub.weak fun x y H Q ⟨ρ, F, S, σ, dx, dy, R, r1, r2, h⟩ => by
  unfold subD at h
  split at h
  · cases r1; cases r2
    exact ⟨_, _, rfl, rfl, h.now R (.int _)⟩
  · exact h.elim
/-! ### the sign ahead -/
def negD : D → Sto → Res D
  | .int i, S => .ok (.int (-i)) S
  | _, _ => .bad
theorem ud_neg : UnR X (unaryOp .USub) (rD1 (cxt X cl) W negD) := un_neg.weak fun x H Q ⟨ρ, F, S, σ, dx, R, r1, h⟩ => by
  unfold negD at h
  split at h
  · cases r1
    exact ⟨_, rfl, h.now R (.int _)⟩
  · exact h.elim
theorem de_neg {A : E} {a : Expr} {pos : Pos} (ha : DE X cl W a A) : DE X cl W (.UnaryOp .USub a pos) (eOp1 negD A) := (pe_un ud_neg ha).imp fun _ _ _ h => tE_op1 h
/-! ### order of whole numbers -/
def ordD (p : Int → Int → Bool) : D → D → Sto → Res D
  | .int i, .int j, S => .ok (.bl (p i j)) S
  | _, _, _ => .bad
abbrev ltD := ordD fun i j => decide (i < j)
abbrev leD := ordD fun i j => decide (i ≤ j)
abbrev gtD := ordD fun i j => decide (j < i)
abbrev geD := ordD fun i j => decide (j ≤ i)
theorem od_ord {op : CmpOp} {p : Int → Int → Bool} (h : OpR X (compareOp op) (rI0 fun i j => .bl (p i j))) : OpD X cl W (compareOp op) (ordD p) := h.weak fun x y H Q ⟨ρ, F, S, σ, dx, dy, R, r1, r2, h⟩ => by
  unfold ordD at h
  split at h
  · cases r1; cases r2
    exact ⟨_, _, rfl, rfl, h.now R (.bl _)⟩
  · exact h.elim
theorem od_lt : OpD X cl W (compareOp .Lt) ltD := od_ord op_lt
theorem od_le : OpD X cl W (compareOp .LtE) leD := od_ord op_le
theorem od_gt : OpD X cl W (compareOp .Gt) gtD := od_ord op_gt
theorem od_ge : OpD X cl W (compareOp .GtE) geD := od_ord op_ge
/-! ### is -/
def isNon : D → Bool
  | .non => true
  | _ => false
def isD : D → D → Sto → Res D
  | x, .non, S => .ok (.bl (isNon x)) S
  | .bl a, .bl b, S => .ok (.bl (decide (a = b))) S
  | _, _, _ => .bad
def isntD : D → D → Sto → Res D
  | x, .non, S => .ok (.bl (!isNon x)) S
  | .bl a, .bl b, S => .ok (.bl (!decide (a = b))) S
  | _, _, _ => .bad
theorem rep_nn {C : Ct} {ρ : List Addr} {F : Hp} {v : V} {d : D} (r : RepD C ρ F v d) : decide (v = .non) = isNon d := by
  cases r <;> simp [isNon]
theorem od_is : OpD X cl W (compareOp .Is) isD := (op_isN.or op_isBl).weak fun x y H Q ⟨ρ, F, S, σ, dx, dy, R, r1, r2, h⟩ => by
  unfold isD at h
  split at h
  · cases r2
    exact .inl ⟨rfl, by rw [rep_nn r1]; exact h.now R (.bl _)⟩
  · cases r1; cases r2
    exact .inr ⟨_, _, rfl, rfl, h.now R (.bl _)⟩
  · exact h.elim
theorem od_isnt : OpD X cl W (compareOp .IsNot) isntD := (op_notN.or op_notBl).weak fun x y H Q ⟨ρ, F, S, σ, dx, dy, R, r1, r2, h⟩ => by
  unfold isntD at h
  split at h
  · cases r2
    exact .inl ⟨rfl, by rw [rep_nn r1]; exact h.now R (.bl _)⟩
  · cases r1; cases r2
    exact .inr ⟨_, _, rfl, rfl, h.now R (.bl _)⟩
  · exact h.elim
end
end DL

/-! DL3: equality at any depth. -/
namespace DL
open PySem PySem.Spec PyProof.Rows L2

/-- data as the abstract heap holds it, no live cell within -/
inductive HD (K : PySem.W.Frag) (H : Hp) : V → D → Prop
  | non : HD K H .non .non
  | bl (b : Bool) : HD K H (.bl b) (.bl b)
  | int (i : Int) : HD K H (.int i) (.int i)
  | str (s : Str) : HD K H (.str s) (.str s)
  | tup {a : Addr} {vs : List V} {xs : List D} : SqT K H a vs → vs.length = xs.length → (∀ (i : Nat) (v : V) (d : D), vs[i]? = some v → xs[i]? = some d → HD K H v d) → HD K H (.ref a) (.tup xs)
  | lst {a : Addr} {vs : List V} {xs : List D} : SqL K H a vs → vs.length = xs.length → (∀ (i : Nat) (v : V) (d : D), vs[i]? = some v → xs[i]? = some d → HD K H v d) → HD K H (.ref a) (.lst xs)

mutual
/-- the live cells' contents put in their places (no cell within a cell) -/
def dr (S : Sto) : D → D
  | .ref n => (match S[n]? with
    | some (.lst xs) => .lst xs
    | _ => .ref n)
  | .tup xs => .tup (drs S xs)
  | .lst xs => .lst (drs S xs)
  | d => d
def drs (S : Sto) : List D → List D
  | [] => []
  | d :: ds => dr S d :: drs S ds
end
mutual
/-- how deep; 1000 where a cell, a dict, an error stands in it -/
def dp : D → Nat
  | .non => 0
  | .bl _ => 0
  | .int _ => 0
  | .str _ => 0
  | .tup xs => dps xs + 1
  | .lst xs => dps xs + 1
  | .dic _ _ => 1000
  | .ref _ => 1000
  | .exc _ => 1000
def dps : List D → Nat
  | [] => 0
  | d :: ds => max (dp d) (dps ds)
end
mutual
def eqD : D → D → Bool
  | .non, .non => true
  | .bl a, .bl b => a == b
  | .bl a, .int j => (if a then 1 else 0) == j
  | .int i, .bl b => i == (if b then 1 else 0)
  | .int i, .int j => i == j
  | .str x, .str y => x == y
  | .tup xs, .tup ys => eqDs xs ys
  | .lst xs, .lst ys => eqDs xs ys
  | _, _ => false
def eqDs : List D → List D → Bool
  | [], [] => true
  | x :: xs, y :: ys => eqD x y && eqDs xs ys
  | _, _ => false
end
mutual
theorem eqD_refl : ∀ d : D, dp d < 1000 → eqD d d = true
  | .non, _ => by unfold eqD; rfl
  | .bl b, _ => by unfold eqD; simp
  | .int i, _ => by unfold eqD; simp
  | .str s, _ => by unfold eqD; simp
  | .tup xs, h => by
    unfold dp at h
    unfold eqD; exact eqDs_refl xs (by omega)
  | .lst xs, h => by
    unfold dp at h
    unfold eqD; exact eqDs_refl xs (by omega)
  | .dic _ _, h => by unfold dp at h; omega
  | .ref _, h => by unfold dp at h; omega
  | .exc _, h => by unfold dp at h; omega
theorem eqDs_refl : ∀ ds : List D, dps ds < 1000 → eqDs ds ds = true
  | [], _ => by unfold eqDs; rfl
  | d :: ds, h => by
    unfold dps at h
    unfold eqDs
    rw [eqD_refl d (by omega), eqDs_refl ds (by omega)]; rfl
end
theorem dps_get : ∀ {ds : List D} {i : Nat} {d : D}, ds[i]? = some d → dp d ≤ dps ds
  | [], i, d, h => by simp at h
  | e :: ds, 0, d, h => by simp at h; subst h; unfold dps; omega
  | e :: ds, i + 1, d, h => by
    have := dps_get (ds := ds) (i := i) (d := d) (by simpa using h)
    unfold dps; omega
theorem eqDs_len : ∀ {xs ys : List D}, xs.length ≠ ys.length → eqDs xs ys = false
  | [], [], h => absurd rfl h
  | [], _ :: _, _ => by unfold eqDs; rfl
  | _ :: _, [], _ => by unfold eqDs; rfl
  | x :: xs, y :: ys, h => by
    unfold eqDs
    rw [eqDs_len (xs := xs) (ys := ys) (fun e => h (by simp [e])), Bool.and_false]
theorem eqDs_range : ∀ (xs ys : List D), xs.length = ys.length → (List.range xs.length).all (fun j => eqD (xs.getD j .non) (ys.getD j .non)) = eqDs xs ys
  | [], [], _ => by unfold eqDs; rfl
  | x :: xs, y :: ys, h => by
    unfold eqDs
    rw [← eqDs_range xs ys (by simpa using h), List.length_cons, List.range_succ_eq_map, List.all_cons, List.all_map]
    rfl
  | [], _ :: _, h => by simp at h
  | _ :: _, [], h => by simp at h

section
variable {C : Ct} {ρ : List Addr} {F H : Hp} {S : Sto}
theorem RepAll.toHD (ih : ∀ (v : V) (d : D), RepD C ρ F v d → dp (dr S d) < 1000 → HD C.K H v (dr S d)) : ∀ {vs : List V} {ds : List D}, RepAll C ρ F vs ds → dps (drs S ds) < 1000 →
    vs.length = (drs S ds).length ∧ ∀ (i : Nat) (v : V) (d : D), vs[i]? = some v → (drs S ds)[i]? = some d → HD C.K H v d
  | _, _, .nil, _ => ⟨by unfold drs; rfl, fun i v d h _ => by simp at h⟩
  | _, _, .cons (v := v) (d := d) (vs := vs) (ds := ds) h t, hd => by
    unfold drs dps at hd
    obtain ⟨h1, h2⟩ := RepAll.toHD ih t (by omega)
    unfold drs
    refine ⟨by simp [h1], fun i v' d' e1 e2 => ?_⟩
    cases i with
    | zero =>
      simp at e1 e2
      subst e1 e2
      exact ih _ _ h (by omega)
    | succ i => exact h2 i v' d' (by simpa using e1) (by simpa using e2)
end
/-- data without cells: as the frozen part holds it -/
theorem rep_HD0 {C : Ct} {ρ : List Addr} {F H : Hp} (hF : Le F H) : ∀ (n : Nat) (v : V) (d : D), sizeOf d < n → RepD C ρ F v d → dp d < 1000 → HD C.K H v d
  | 0, _, _, hn, _, _ => by omega
  | n + 1, v, d, hn, r, hd => by
    cases r with
    | non => exact .non
    | bl b => exact .bl b
    | int i => exact .int i
    | str s => exact .str s
    | @tup a vs xs hq ra =>
      refine .tup (sqT_mono hF hq) ra.len fun i v d e1 e2 => ?_
      obtain ⟨v', e3, r'⟩ := ra.get e2
      rw [e1] at e3; cases e3
      have hs : sizeOf d < sizeOf xs := List.sizeOf_lt_of_mem (List.mem_of_getElem? e2)
      have := dps_get e2
      unfold dp at hd
      exact rep_HD0 hF n v d (by simp at hn; omega) r' (by omega)
    | @lst a vs xs hq ra =>
      refine .lst (sqL_mono hF hq) ra.len fun i v d e1 e2 => ?_
      obtain ⟨v', e3, r'⟩ := ra.get e2
      rw [e1] at e3; cases e3
      have hs : sizeOf d < sizeOf xs := List.sizeOf_lt_of_mem (List.mem_of_getElem? e2)
      have := dps_get e2
      unfold dp at hd
      exact rep_HD0 hF n v d (by simp at hn; omega) r' (by omega)
    | dicK => unfold dp at hd; omega
    | ref => unfold dp at hd; omega
theorem rep_HD {C : Ct} {ρ : List Addr} {F H : Hp} {S : Sto} (R : Rel C ρ F S H) : ∀ (n : Nat) (v : V) (d : D), sizeOf d < n → RepD C ρ F v d → dp (dr S d) < 1000 → HD C.K H v (dr S d)
  | 0, _, _, hn, _, _ => by omega
  | n + 1, v, d, hn, r, hd => by
    cases r with
    | non => unfold dr; exact .non
    | bl b => unfold dr; exact .bl b
    | int i => unfold dr; exact .int i
    | str s => unfold dr; exact .str s
    | @tup a vs xs hq ra =>
      unfold dr at hd ⊢
      unfold dp at hd
      have : vs.length = (drs S xs).length ∧ ∀ (i : Nat) (v : V) (d : D), vs[i]? = some v → (drs S xs)[i]? = some d → HD C.K H v d := by
        have hs : sizeOf xs < n := by simp at hn; omega
        clear hn hq
        induction xs generalizing vs with
        | nil => cases ra; exact ⟨by unfold drs; rfl, fun i v d h _ => by simp at h⟩
        | cons x xs ih =>
          cases ra with
          | cons h t =>
            unfold drs dps at hd
            obtain ⟨h1, h2⟩ := ih t (by omega) (by simp at hs; omega)
            unfold drs
            refine ⟨by simp [h1], fun i v' d' e1 e2 => ?_⟩
            cases i with
            | zero =>
              simp at e1 e2
              subst e1 e2
              exact rep_HD R n _ _ (by simp at hs; omega) h (by omega)
            | succ i => exact h2 i v' d' (by simpa using e1) (by simpa using e2)
      exact .tup (sqT_mono R.fz hq) this.1 this.2
    | @lst a vs xs hq ra =>
      unfold dr at hd ⊢
      unfold dp at hd
      have : vs.length = (drs S xs).length ∧ ∀ (i : Nat) (v : V) (d : D), vs[i]? = some v → (drs S xs)[i]? = some d → HD C.K H v d := by
        have hs : sizeOf xs < n := by simp at hn; omega
        clear hn hq
        induction xs generalizing vs with
        | nil => cases ra; exact ⟨by unfold drs; rfl, fun i v d h _ => by simp at h⟩
        | cons x xs ih =>
          cases ra with
          | cons h t =>
            unfold drs dps at hd
            obtain ⟨h1, h2⟩ := ih t (by omega) (by simp at hs; omega)
            unfold drs
            refine ⟨by simp [h1], fun i v' d' e1 e2 => ?_⟩
            cases i with
            | zero =>
              simp at e1 e2
              subst e1 e2
              exact rep_HD R n _ _ (by simp at hs; omega) h (by omega)
            | succ i => exact h2 i v' d' (by simpa using e1) (by simpa using e2)
      exact .lst (sqL_mono R.fz hq) this.1 this.2
    | dicK => unfold dr dp at hd; omega
    | @ref a m e =>
      cases hS : S[m]? with
      | none => simp [dr, hS, dp] at hd
      | some c =>
        cases c with
        | lst xs =>
          have e2 : dr S (.ref m) = .lst xs := by simp [dr, hS]
          rw [e2] at hd ⊢
          obtain ⟨vs, hv, ra⟩ := R.cell m a _ e hS
          unfold dp at hd
          refine .lst (SqL.of hv) ra.len fun i v d e1 e2 => ?_
          obtain ⟨v', e3, r'⟩ := ra.get e2
          rw [e1] at e3; cases e3
          have := dps_get e2
          exact rep_HD0 R.fz _ v d (Nat.lt_succ_self _) r' (by omega)
        | _ => simp [dr, hS, dp] at hd

theorem ext3 {vs : List V} {xs ys : List D} (hl : vs.length = xs.length) (hl' : vs.length = ys.length) (h : ∀ (i : Nat) (v : V) (d e : D), vs[i]? = some v → xs[i]? = some d → ys[i]? = some e → d = e) : xs = ys := by
  refine List.ext_getElem (by omega) fun i h1 h2 => ?_
  exact h i (vs[i]'(by omega)) _ _ (List.getElem?_eq_getElem _) (List.getElem?_eq_getElem _) (List.getElem?_eq_getElem _)
section
variable {X : Cx} {pins : List (Addr × Obj)} {σ : L2.St} {H : Hp} {s : Shared}
theorem Inv.sqL_inj (I : Inv X pins σ H s) {a : Addr} {vs ws : List V} (h : SqL X.K H a vs) (h' : SqL X.K H a ws) : vs = ws := by
  obtain ⟨its, r, ⟨o, n, ho, _, _, hd⟩, _⟩ := I.list h
  obtain ⟨its', r', ⟨o', n', ho', _, _, hd'⟩, _⟩ := I.list h'
  rw [ho] at ho'; cases ho'
  rw [hd] at hd'
  injection hd' with e _
  have : its = its' := by simpa using e
  subst this
  exact r.inj r'
theorem Inv.sqT_inj (I : Inv X pins σ H s) {a : Addr} {vs ws : List V} (h : SqT X.K H a vs) (h' : SqT X.K H a ws) : vs = ws := by
  obtain ⟨its, r, ⟨o, ho, _, n, hd⟩, _⟩ := I.tuple h
  obtain ⟨its', r', ⟨o', ho', _, n', hd'⟩, _⟩ := I.tuple h'
  rw [ho] at ho'; cases ho'
  rw [hd] at hd'
  injection hd' with e _
  have : its = its' := by simpa using e
  subst this
  exact r.inj r'
theorem Inv.sq_apart (I : Inv X pins σ H s) {a : Addr} {vs ws : List V} (h : SqL X.K H a vs) (h' : SqT X.K H a ws) : False := by
  obtain ⟨its, r, ⟨o, n, ho, hc, _, hd⟩, _⟩ := I.list h
  obtain ⟨its', r', ⟨o', ho', hc', n', hd'⟩, _⟩ := I.tuple h'
  rw [ho] at ho'; cases ho'
  rw [hc] at hc'
  exact absurd hc' (by decide)
theorem HD.inj (I : Inv X pins σ H s) {v : V} {d : D} (h : HD X.K H v d) : ∀ {e : D}, HD X.K H v e → d = e := by
  induction h with
  | non => intro e h; cases h; rfl
  | bl b => intro e h; cases h; rfl
  | int i => intro e h; cases h; rfl
  | str s => intro e h; cases h; rfl
  | tup hq hl _ ih =>
    intro e h
    cases h with
    | tup hq' hl' h' =>
      have := Inv.sqT_inj I hq hq'
      subst this
      rw [ext3 hl hl' fun i v d e e1 e2 e3 => ih i v d e1 e2 (h' i v e e1 e3)]
    | lst hq' => exact (Inv.sq_apart I hq' hq).elim
  | lst hq hl _ ih =>
    intro e h
    cases h with
    | lst hq' hl' h' =>
      have := Inv.sqL_inj I hq hq'
      subst this
      rw [ext3 hl hl' fun i v d e e1 e2 e3 => ih i v d e1 e2 (h' i v e e1 e3)]
    | tup hq' => exact (Inv.sq_apart I hq hq').elim
end
end DL

/-! DL3b: == of two data, as the machine does it. -/
namespace DL
open PySem PySem.Spec PyProof.Rows L2

theorem eqD_tup (xs ys : List D) : eqD (.tup xs) (.tup ys) = eqDs xs ys := by unfold eqD; rfl
theorem eqD_lst (xs ys : List D) : eqD (.lst xs) (.lst ys) = eqDs xs ys := by unfold eqD; rfl
def RcIn (prog : Program) (w : World) (A : Around) (s : Shared) (y x : Value) (b : Bool) : Prop :=
  ∀ (E : Value → Shared → Prop) (Q : Value → Shared → Prop), Q (.bool b) s → wpAny (model prog w) A (richCompare .Eq y x) Q E s
theorem ofAt {prog : Program} {w : World} {A : Around} {s : Shared} {y x : Value} {b : Bool} (h1 : SeqAt.EqAt A s y x b) (h2 : SeqAt.RcAt A s y x b) : SeqAt.EqIn prog w A s y x b ∧ RcIn prog w A s y x b :=
  ⟨h1.inModel prog w, fun E Q q => h2 prog w E Q q⟩
section
variable {X : Cx} {pins : List (Addr × Obj)} {σ : L2.St} {H : Hp} {s : Shared}
theorem eq_both (I : Inv X pins σ H s) {v : V} {d : D} (h : HD X.K H v d) : ∀ {y : V} {e : D} {u u' : Value} {A : Around}, HD X.K H y e → RelV v u → RelV y u' → dp d < 1000 → A.units + dp d < cLine →
    SeqAt.EqIn X.prog X.w A s u u' (eqD d e) ∧ RcIn X.prog X.w A s u u' (eqD d e) := by
  induction h with
  | non =>
    intro y e u u' A he ru ru' hd hu
    cases ru
    unfold dp at hu
    cases he with
    | non => cases ru'; unfold eqD; exact ⟨(SeqAt.EqAt.same _).inModel _ _, fun E Q q => SeqAt.RcAt.none_none _ _ E Q q⟩
    | bl b => cases ru'; unfold eqD; exact ofAt (.none_bool b) (.none_bool b)
    | int i => obtain ⟨t, rfl⟩ := ru'; unfold eqD; exact ofAt (.none_int i t) (.none_int i t)
    | str z => obtain ⟨t, rfl⟩ := ru'; unfold eqD; exact ofAt (.none_str z t) (.none_str z t)
    | tup hq => cases ru'; obtain ⟨its, _, p, _⟩ := I.tuple hq; unfold eqD; exact ofAt (.none_tuple p (by omega)) (.none_tuple p (by omega))
    | lst hq => cases ru'; obtain ⟨its, _, p, _⟩ := I.list hq; unfold eqD; exact ofAt (.none_list p.isList (by omega)) (.none_list p.isList (by omega))
  | bl a =>
    intro y e u u' A he ru ru' hd hu
    cases ru
    unfold dp at hu
    cases he with
    | non => cases ru'; unfold eqD; exact ofAt (.bool_none a) (.bool_none a)
    | bl b => cases ru'; unfold eqD; exact ofAt (.bool_bool a b) (.bool_bool a b)
    | int i => obtain ⟨t, rfl⟩ := ru'; unfold eqD; exact ofAt (.bool_int a i t) (.bool_int a i t)
    | str z => obtain ⟨t, rfl⟩ := ru'; unfold eqD; exact ofAt (.bool_str a z t) (.bool_str a z t)
    | tup hq => cases ru'; obtain ⟨its, _, p, _⟩ := I.tuple hq; unfold eqD; exact ofAt (.bool_tuple a p (by omega)) (.bool_tuple a p (by omega))
    | lst hq => cases ru'; obtain ⟨its, _, p, _⟩ := I.list hq; unfold eqD; exact ofAt (.bool_list a p.isList (by omega)) (.bool_list a p.isList (by omega))
  | int a =>
    intro y e u u' A he ru ru' hd hu
    obtain ⟨ta, rfl⟩ := ru
    unfold dp at hu
    cases he with
    | non => cases ru'; unfold eqD; exact ofAt (.int_none a ta) (.int_none a ta)
    | bl b => cases ru'; unfold eqD; exact ofAt (.int_bool a ta b) (.int_bool a ta b)
    | int i => obtain ⟨t, rfl⟩ := ru'; unfold eqD; exact ofAt (.int_int a ta i t) (.int_int a ta i t)
    | str z => obtain ⟨t, rfl⟩ := ru'; unfold eqD; exact ofAt (.int_str a ta z t) (.int_str a ta z t)
    | tup hq => cases ru'; obtain ⟨its, _, p, _⟩ := I.tuple hq; unfold eqD; exact ofAt (.int_tuple a ta p (by omega)) (.int_tuple a ta p (by omega))
    | lst hq => cases ru'; obtain ⟨its, _, p, _⟩ := I.list hq; unfold eqD; exact ofAt (.int_list a ta p.isList (by omega)) (.int_list a ta p.isList (by omega))
  | str a =>
    intro y e u u' A he ru ru' hd hu
    obtain ⟨ta, rfl⟩ := ru
    unfold dp at hu
    cases he with
    | non => cases ru'; unfold eqD; exact ofAt (.str_none a ta) (.str_none a ta)
    | bl b => cases ru'; unfold eqD; exact ofAt (.str_bool a ta b) (.str_bool a ta b)
    | int i => obtain ⟨t, rfl⟩ := ru'; unfold eqD; exact ofAt (.str_int a ta i t) (.str_int a ta i t)
    | str z => obtain ⟨t, rfl⟩ := ru'; unfold eqD; exact ofAt (.str_str a ta z t) (.str_str a ta z t)
    | tup hq => cases ru'; obtain ⟨its, _, p, _⟩ := I.tuple hq; unfold eqD; exact ofAt (.str_tuple a ta p (by omega)) (.str_tuple a ta p (by omega))
    | lst hq => cases ru'; obtain ⟨its, _, p, _⟩ := I.list hq; unfold eqD; exact ofAt (.str_list a ta p.isList (by omega)) (.str_list a ta p.isList (by omega))
  | @tup a vs xs hq hl hx ih =>
    intro y e u u' A he ru ru' hd hu
    cases ru
    obtain ⟨its, ri, p, _⟩ := I.tuple hq
    unfold dp at hd hu
    have hun : A.units < cLine := by omega
    cases he with
    | non => cases ru'; unfold eqD; exact ofAt (.tuple_none p hun) (.tuple_none p hun)
    | bl b => cases ru'; unfold eqD; exact ofAt (.tuple_bool b p hun) (.tuple_bool b p hun)
    | int i => obtain ⟨t, rfl⟩ := ru'; unfold eqD; exact ofAt (.tuple_int i t p hun) (.tuple_int i t p hun)
    | str z => obtain ⟨t, rfl⟩ := ru'; unfold eqD; exact ofAt (.tuple_str z t p hun) (.tuple_str z t p hun)
    | lst hq' => cases ru'; obtain ⟨its', _, p', _⟩ := I.list hq'; unfold eqD; exact ofAt (.tuple_list p p'.isList hun) (.tuple_list p p'.isList hun)
    | @tup b ws ys hq' hl' hy =>
      cases ru'
      obtain ⟨its', ri', p', _⟩ := I.tuple hq'
      have l1 := ri.length
      have l2 := ri'.length
      have rc : RcIn X.prog X.w A s (.ref a) (.ref b) (eqD (.tup xs) (.tup ys)) := fun E Q q => by
        refine SeqAt.rcIn_tuples (e := fun j => eqD (xs.getD j .non) (ys.getD j .non)) p p' hun (fun j h1 h2 => ?_) ?_
        · have j1 : j < vs.length := by simpa [l1] using h1
          have j2 : j < ws.length := by simpa [l2] using h2
          obtain ⟨uj, e1, r1⟩ := ri.get (List.getElem?_eq_getElem j1)
          obtain ⟨uj', e2, r2⟩ := ri'.get (List.getElem?_eq_getElem j2)
          have g1 : its.toArray[j] = uj := by
            have : its[j]? = some its.toArray[j] := by simp
            rw [this] at e1; exact Option.some.inj e1
          have g2 : its'.toArray[j] = uj' := by
            have : its'[j]? = some its'.toArray[j] := by simp
            rw [this] at e2; exact Option.some.inj e2
          have d1 : xs[j]? = some (xs.getD j .non) := by rw [List.getD_eq_getElem?_getD, List.getElem?_eq_getElem (hl ▸ j1)]; rfl
          have d2 : ys[j]? = some (ys.getD j .non) := by rw [List.getD_eq_getElem?_getD, List.getElem?_eq_getElem (hl' ▸ j2)]; rfl
          have hd1 := dps_get d1
          rw [g1, g2]
          exact (ih j _ _ (List.getElem?_eq_getElem j1) d1 (A := A.in1) (hy j _ _ (List.getElem?_eq_getElem j2) d2) r1 r2 (by omega) (by show A.units + 1 + _ < cLine; omega)).1
        · have e3 : ((List.range (min its.toArray.size its'.toArray.size)).all (fun j => eqD (xs.getD j .non) (ys.getD j .non)) && its.toArray.size == its'.toArray.size) = eqD (.tup xs) (.tup ys) := by
            rw [eqD_tup]
            have s1 : its.toArray.size = xs.length := by simp; omega
            have s2 : its'.toArray.size = ys.length := by simp; omega
            rw [s1, s2]
            by_cases hxy : xs.length = ys.length
            · rw [← eqDs_range xs ys hxy, hxy, Nat.min_self, beq_self_eq_true, Bool.and_true]
            · rw [eqDs_len hxy, beq_false_of_ne hxy, Bool.and_false]
          rw [e3]; exact q
      refine ⟨?_, rc⟩
      by_cases hab : a = b
      · subst hab
        have hxy := HD.inj I (HD.tup hq hl hx) (HD.tup hq' hl' hy)
        rw [← hxy, eqD_refl _ (by unfold dp; omega)]
        exact (SeqAt.EqAt.same _).inModel _ _
      · exact SeqAt.EqIn.of_refs hab rc
  | @lst a vs xs hq hl hx ih =>
    intro y e u u' A he ru ru' hd hu
    cases ru
    obtain ⟨its, ri, pl, _⟩ := I.list hq
    have p := pl.isList
    unfold dp at hd hu
    have hun : A.units < cLine := by omega
    cases he with
    | non => cases ru'; unfold eqD; exact ofAt (.list_none p hun) (.list_none p hun)
    | bl b => cases ru'; unfold eqD; exact ofAt (.list_bool b p hun) (.list_bool b p hun)
    | int i => obtain ⟨t, rfl⟩ := ru'; unfold eqD; exact ofAt (.list_int i t p hun) (.list_int i t p hun)
    | str z => obtain ⟨t, rfl⟩ := ru'; unfold eqD; exact ofAt (.list_str z t p hun) (.list_str z t p hun)
    | tup hq' => cases ru'; obtain ⟨its', _, p', _⟩ := I.tuple hq'; unfold eqD; exact ofAt (.list_tuple p p' hun) (.list_tuple p p' hun)
    | @lst b ws ys hq' hl' hy =>
      cases ru'
      obtain ⟨its', ri', pl', _⟩ := I.list hq'
      have p' := pl'.isList
      have l1 := ri.length
      have l2 := ri'.length
      have rc : RcIn X.prog X.w A s (.ref a) (.ref b) (eqD (.lst xs) (.lst ys)) := fun E Q q => by
        have s1 : its.toArray.size = xs.length := by simp; omega
        have s2 : its'.toArray.size = ys.length := by simp; omega
        by_cases hxy : xs.length = ys.length
        · refine SeqAt.rcIn_lists (e := fun j => eqD (xs.getD j .non) (ys.getD j .non)) p p' (by omega) hun (fun j h1 h2 => ?_) ?_
          · have j1 : j < vs.length := by simpa [l1] using h1
            have j2 : j < ws.length := by simpa [l2] using h2
            obtain ⟨uj, e1, r1⟩ := ri.get (List.getElem?_eq_getElem j1)
            obtain ⟨uj', e2, r2⟩ := ri'.get (List.getElem?_eq_getElem j2)
            have g1 : its.toArray[j] = uj := by
              have : its[j]? = some its.toArray[j] := by simp
              rw [this] at e1; exact Option.some.inj e1
            have g2 : its'.toArray[j] = uj' := by
              have : its'[j]? = some its'.toArray[j] := by simp
              rw [this] at e2; exact Option.some.inj e2
            have d1 : xs[j]? = some (xs.getD j .non) := by rw [List.getD_eq_getElem?_getD, List.getElem?_eq_getElem (hl ▸ j1)]; rfl
            have d2 : ys[j]? = some (ys.getD j .non) := by rw [List.getD_eq_getElem?_getD, List.getElem?_eq_getElem (hl' ▸ j2)]; rfl
            have hd1 := dps_get d1
            rw [g1, g2]
            exact (ih j _ _ (List.getElem?_eq_getElem j1) d1 (A := A.in1) (hy j _ _ (List.getElem?_eq_getElem j2) d2) r1 r2 (by omega) (by show A.units + 1 + _ < cLine; omega)).1
          · have e3 : ((List.range its.toArray.size).all (fun j => eqD (xs.getD j .non) (ys.getD j .non))) = eqD (.lst xs) (.lst ys) := by
              rw [eqD_lst, s1, eqDs_range xs ys hxy]
            rw [e3]; exact q
        · have e3 : eqD (.lst xs) (.lst ys) = false := by rw [eqD_lst]; exact eqDs_len hxy
          rw [e3] at q
          exact SeqAt.RcAt.lists_lengths p p' (by rw [s1, s2]; simpa using hxy) hun _ _ E Q q
      refine ⟨?_, rc⟩
      by_cases hab : a = b
      · subst hab
        have hxy := HD.inj I (HD.lst hq hl hx) (HD.lst hq' hl' hy)
        rw [← hxy, eqD_refl _ (by unfold dp; omega)]
        exact (SeqAt.EqAt.same _).inModel _ _
      · exact SeqAt.EqIn.of_refs hab rc
end
end DL

/-! DL4: tests, argument lists, displays, statements. -/
namespace DL
open PySem PySem.Spec PyProof.Rows L2

/-! ### a step on with a test, with an argument list -/
section
variable {C : Ct} {W : WX} {A : E} {c : T} {As' : As}
def satX {α : Type} (C : Ct) (W : WX) (ρ : List Addr) (F : Hp) (σ : L2.St) (r : Res α) (ok : α → Sto → Prop) : Prop := match r with
  | .ok d S' => ok d S'
  | .exc x S' => ∀ ρ' F' H' dd, Rel C ρ' F' S' H' → ρ <+: ρ' → Le F F' → W (.ref (C.cl x)) dd σ H'
  | .bad => False
theorem tE_stepX {σ : L2.St} {H : Hp} {l : Loc} {S : Sto} {ρ : List Addr} {F : Hp} {ok : D → Sto → Prop} (hl : LRel C ρ F σ l) (R : Rel C ρ F S H) (h : satX C W ρ F σ (A l S) ok) {Q1 : VK}
    (hk : ∀ d S1 ρ1 F1 H1 v, Rel C ρ1 F1 S1 H1 → LRel C ρ1 F1 σ l → RepD C ρ1 F1 v d → ρ <+: ρ1 → Le F F1 → ok d S1 → Q1 v H1) : tE C W A σ H Q1 := by
  refine ⟨l, S, ρ, F, hl, R, ?_⟩
  cases e : A l S with
  | ok d S1 => rw [e] at h; exact fun ρ1 F1 H1 v R1 p1 f1 r1 => hk d S1 ρ1 F1 H1 v R1 (hl.mono p1 f1) r1 p1 f1 h
  | exc x S1 => rw [e] at h; exact h
  | bad => rw [e] at h; exact h
theorem tT_stepX {σ : L2.St} {H : Hp} {l : Loc} {S : Sto} {ρ : List Addr} {F : Hp} {ok : Bool → Sto → Prop} (hl : LRel C ρ F σ l) (R : Rel C ρ F S H) (h : satX C W ρ F σ (c l S) ok) {Q1 : Bool → Hp → Prop}
    (hk : ∀ d S1 ρ1 F1 H1, Rel C ρ1 F1 S1 H1 → LRel C ρ1 F1 σ l → ρ <+: ρ1 → Le F F1 → ok d S1 → Q1 d H1) : tT C W c σ H Q1 := by
  refine ⟨l, S, ρ, F, hl, R, ?_⟩
  cases e : c l S with
  | ok d S1 => rw [e] at h; exact fun ρ1 F1 H1 R1 p1 f1 => hk d S1 ρ1 F1 H1 R1 (hl.mono p1 f1) p1 f1 h
  | exc x S1 => rw [e] at h; exact h
  | bad => rw [e] at h; exact h
theorem tA_stepX {σ : L2.St} {H : Hp} {l : Loc} {S : Sto} {ρ : List Addr} {F : Hp} {ok : List D → Sto → Prop} (hl : LRel C ρ F σ l) (R : Rel C ρ F S H) (h : satX C W ρ F σ (As' l S) ok) {Q1 : List V → Hp → Prop}
    (hk : ∀ ds S1 ρ1 F1 H1 vs, Rel C ρ1 F1 S1 H1 → LRel C ρ1 F1 σ l → RepAll C ρ1 F1 vs ds → ρ <+: ρ1 → Le F F1 → ok ds S1 → Q1 vs H1) : tAs C W As' σ H Q1 := by
  refine ⟨l, S, ρ, F, hl, R, ?_⟩
  cases e : As' l S with
  | ok d S1 => rw [e] at h; exact fun ρ1 F1 H1 v R1 p1 f1 r1 => hk d S1 ρ1 F1 H1 v R1 (hl.mono p1 f1) r1 p1 f1 h
  | exc x S1 => rw [e] at h; exact h
  | bad => rw [e] at h; exact h
section
variable {α : Type} {ρ : List Addr} {F : Hp} {σ : L2.St} {r : Res α}
theorem satE.x {k : α → Sto → Res D} {Q : VK} (h : satE C W ρ F σ (r.bind k) Q) : satX C W ρ F σ r fun d S => satE C W ρ F σ (k d S) Q := by
  cases r <;> exact h
theorem satT.x {k : α → Sto → Res Bool} {Q : Bool → Hp → Prop} (h : satT C W ρ F σ (r.bind k) Q) : satX C W ρ F σ r fun d S => satT C W ρ F σ (k d S) Q := by
  cases r <;> exact h
theorem satA.x {k : α → Sto → Res (List D)} {Q : List V → Hp → Prop} (h : satA C W ρ F σ (r.bind k) Q) : satX C W ρ F σ r fun d S => satA C W ρ F σ (k d S) Q := by
  cases r <;> exact h
/-- a statement's step: an exception keeps the locals -/
def _root_.DL.Res.toS (r : Res α) (l : Loc) (k : α → Sto → Out) : Out := match r with
  | .ok d S => k d S
  | .exc x S => .exc x l S
  | .bad => .bad
theorem satS.x {l : Loc} {k : α → Sto → Out} {D : Ends} (hl : LRel C ρ F σ l) (h : satS C W ρ F (r.toS l k) D) : satX C W ρ F σ r fun d S => satS C W ρ F (k d S) D := by
  cases r with
  | ok d S => exact h
  | exc x S => exact fun ρ' F' H' dd R p f => h ρ' F' H' σ dd R p f (hl.mono p f)
  | bad => exact h
theorem satE.nowS {S : Sto} {H : Hp} {d : D} {v : V} {Q : VK} (h : satE C W ρ F σ (.ok d S) Q) (R : Rel C ρ F S H) (rd : RepD C ρ F v d) : Q v H := h ρ F H v R (List.prefix_refl _) (Le.refl _) rd
theorem satT.now {S : Sto} {H : Hp} {b : Bool} {Q : Bool → Hp → Prop} (h : satT C W ρ F σ (.ok b S) Q) (R : Rel C ρ F S H) : Q b H := h ρ F H R (List.prefix_refl _) (Le.refl _)
theorem satA.now {S : Sto} {H : Hp} {ds : List D} {vs : List V} {Q : List V → Hp → Prop} (h : satA C W ρ F σ (.ok ds S) Q) (R : Rel C ρ F S H) (rd : RepAll C ρ F vs ds) : Q vs H := h ρ F H vs R (List.prefix_refl _) (Le.refl _) rd
end
end

/-! ### tests -/
def isBl : D → Sto → Res Bool
  | .bl b, S => .ok b S
  | _, _ => .bad
/-- truth of a value -/
def truD : D → Sto → Res Bool
  | .non, S => .ok false S
  | .bl b, S => .ok b S
  | .int i, S => .ok (i != 0) S
  | .str s, S => if s.length ≤ sizeLine then .ok ((s.length : Int) != 0) S else .bad
  | .tup xs, S => .ok (!xs.isEmpty) S
  | d, S => match listOf S d with
    | some xs => .ok (!xs.isEmpty) S
    | none => .bad
def tVal (A : E) : T := fun l S => (A l S).bind isBl
def tTruth (A : E) : T := fun l S => (A l S).bind truD
def tAndD (a b : T) : T := fun l S => (a l S).bind fun c S1 => if c = true then b l S1 else .ok false S1
def tOrD (a b : T) : T := fun l S => (a l S).bind fun c S1 => if c = true then .ok true S1 else b l S1
def tNotD (a : T) : T := fun l S => (a l S).bind fun c S1 => .ok (!c) S1
def eAnd (a b : E) : E := fun l S => (a l S).bind fun d S1 => (isBl d S1).bind fun c S2 => if c = true then b l S2 else .ok (.bl false) S2
def eOr (a b : E) : E := fun l S => (a l S).bind fun d S1 => (isBl d S1).bind fun c S2 => if c = true then .ok (.bl true) S2 else b l S2
def eNot (a : E) : E := fun l S => (a l S).bind fun d S1 => (truD d S1).bind fun c S2 => .ok (.bl (!c)) S2
def eIf (c : T) (a b : E) : E := fun l S => (c l S).bind fun k S1 => if k = true then a l S1 else b l S1
section
variable {C : Ct} {W : WX} {ρ : List Addr} {F H : Hp} {S S' : Sto} {v : V} {d : D} {b : Bool}
theorem RepAll.isEmpty {vs : List V} {ds : List D} (r : RepAll C ρ F vs ds) : vs.isEmpty = ds.isEmpty := by cases r <;> rfl
theorem isBl_cases (d : D) (S : Sto) : (∃ b, d = .bl b ∧ isBl d S = .ok b S) ∨ isBl d S = .bad := by
  cases d <;> first
    | exact .inl ⟨_, rfl, rfl⟩
    | exact .inr rfl
theorem rep_tru (R : Rel C ρ F S H) (r : RepD C ρ F v d) (e : truD d S = .ok b S') : TruV C.K v H b ∧ S' = S := by
  unfold truD at e
  split at e
  · cases r; injection e with e1 e2; subst e1 e2; exact ⟨rfl, rfl⟩
  · cases r; injection e with e1 e2; subst e1 e2; exact ⟨rfl, rfl⟩
  · cases r; injection e with e1 e2; subst e1 e2; exact ⟨rfl, rfl⟩
  · cases r
    split at e
    · next hz => injection e with e1 e2; subst e1 e2; exact ⟨⟨hz, rfl⟩, rfl⟩
    · exact nomatch e
  · obtain ⟨a, vs, rfl, hq, ra⟩ := rep_tup R r
    injection e with e1 e2; subst e1 e2
    exact ⟨.inr (.inl ⟨vs, hq, by rw [ra.isEmpty]⟩), rfl⟩
  · split at e
    · next xs hx =>
      obtain ⟨a, vs, rfl, hq, ra⟩ := rep_list R r hx
      injection e with e1 e2; subst e1 e2
      exact ⟨.inl ⟨vs, hq, by rw [ra.isEmpty]⟩, rfl⟩
    · exact nomatch e
theorem truD_noexc {x : Nat} (e : truD d S = .exc x S') : False := by
  unfold truD at e
  split at e
  · cases e
  · cases e
  · cases e
  · split at e <;> cases e
  · cases e
  · split at e <;> cases e
end
section
variable {X : Cx} {cl : Nat → Addr} {W : WX} {A B : E} {c t u : T} {a b e : Expr} {pos : Pos} {rest : List Expr}
theorem tB_of {σ : L2.St} {H : Hp} {Q : Bool → Hp → Prop} (h : tT (cxt X cl) W (tVal A) σ H Q) : tE (cxt X cl) W A σ H fun x H1 => ∃ k, x = .bl k ∧ Q k H1 := by
  obtain ⟨l, S, ρ, F, hl, R, h⟩ := h
  refine tE_stepX hl R (satT.x h) fun d S1 ρ1 F1 H1 v R1 hl1 r1 p1 f1 h1 => ?_
  rcases isBl_cases d S1 with ⟨k, rfl, e⟩ | e
  · rw [e] at h1
    cases r1
    exact ⟨k, rfl, (h1.mono p1 f1).now R1⟩
  · rw [e] at h1; exact h1.elim
theorem dt_cmp {op : CmpOp} {g : D → D → Sto → Res D} (ho : OpD X cl W (compareOp op) g) (ha : DE X cl W a A) (hb : DE X cl W b B) (hm : behindInMarks op b = false := by first | exact nobehind _ (by decide) (by decide) | rfl) :
    DT X cl W (.Compare a [op] [b] pos) (tVal (eOp2 g A B)) := (pt_cmpR ho ha hb hm).imp fun σ H Q h => by
  obtain ⟨l, S, ρ, F, hl, R, h⟩ := h
  have := tB_of (X := X) (cl := cl) (W := W) (A := eOp2 g A B) ⟨l, S, ρ, F, hl, R, h⟩
  exact tE_op2 this
theorem dt_val (h : DE X cl W e A) (he : ∀ whole, isTrue e X.env whole = (do let v ← whole; standAt e.pos; holding [v] (truthy v)) := by intro _; rfl) : DT X cl W e (tVal A) := (pt_val h he).imp fun _ _ _ q => tB_of q
theorem dt_truth (h : DE X cl W e A) (he : ∀ whole, isTrue e X.env whole = (do let v ← whole; standAt e.pos; holding [v] (truthy v)) := by intro _; rfl) : DT X cl W e (tTruth A) := (pt_truth h he).imp fun σ H Q h => by
  obtain ⟨l, S, ρ, F, hl, R, h⟩ := h
  refine tE_stepX hl R (satT.x h) fun d S1 ρ1 F1 H1 v R1 hl1 r1 p1 f1 h1 => ?_
  cases e : truD d S1 with
  | ok k S2 =>
    rw [e] at h1
    obtain ⟨q, rfl⟩ := rep_tru R1 r1 e
    exact ⟨k, q, (h1.mono p1 f1).now R1⟩
  | exc x S2 => exact (truD_noexc e).elim
  | bad => rw [e] at h1; exact h1.elim
theorem dw_and1 (h : DT X cl W a c) : DW X cl W (.BoolOp .And [a] pos) c := pw_and1 h
theorem dw_or1 (h : DT X cl W a c) : DW X cl W (.BoolOp .Or [a] pos) c := pw_or1 h
theorem dw_and (ha : DT X cl W a t) (hb : DW X cl W (.BoolOp .And (b :: rest) pos) u) : DW X cl W (.BoolOp .And (a :: b :: rest) pos) (tAndD t u) := (pw_and ha hb).imp fun σ H Q ⟨l, S, ρ, F, hl, R, h⟩ => by
  refine tT_stepX hl R (satT.x h) fun d S1 ρ1 F1 H1 R1 hl1 p1 f1 h1 => ?_
  have h2 := h1.mono p1 f1
  cases d with
  | true => rw [if_pos rfl] at h2 ⊢; exact ⟨l, S1, ρ1, F1, hl1, R1, h2⟩
  | false => rw [if_neg Bool.false_ne_true] at h2 ⊢; exact h2.now R1
theorem dw_or (ha : DT X cl W a t) (hb : DW X cl W (.BoolOp .Or (b :: rest) pos) u) : DW X cl W (.BoolOp .Or (a :: b :: rest) pos) (tOrD t u) := (pw_or ha hb).imp fun σ H Q ⟨l, S, ρ, F, hl, R, h⟩ => by
  refine tT_stepX hl R (satT.x h) fun d S1 ρ1 F1 H1 R1 hl1 p1 f1 h1 => ?_
  have h2 := h1.mono p1 f1
  cases d with
  | true => rw [if_pos rfl] at h2 ⊢; exact h2.now R1
  | false => rw [if_neg Bool.false_ne_true] at h2 ⊢; exact ⟨l, S1, ρ1, F1, hl1, R1, h2⟩
theorem dt_w (h : DW X cl W e c) : DT X cl W e c := PW.pt h
theorem dt_not (ha : DT X cl W a t) : DT X cl W (.UnaryOp .Not a pos) (tNotD t) := (pt_not ha).imp fun σ H Q ⟨l, S, ρ, F, hl, R, h⟩ => by
  refine tT_stepX hl R (satT.x h) fun d S1 ρ1 F1 H1 R1 hl1 p1 f1 h1 => ?_
  exact (h1.mono p1 f1).now R1
theorem de_one {op} (h : DE X cl W a A) : DE X cl W (.BoolOp op [a] pos) A := pe_one h
theorem de_and (ha : DE X cl W a A) (hb : DE X cl W (.BoolOp .And (b :: rest) pos) B) : DE X cl W (.BoolOp .And (a :: b :: rest) pos) (eAnd A B) := (pe_and ha hb).imp fun σ H Q ⟨l, S, ρ, F, hl, R, h⟩ => by
  refine tE_stepX hl R (satE.x h) fun d S1 ρ1 F1 H1 v R1 hl1 r1 p1 f1 h1 => ?_
  rcases isBl_cases d S1 with ⟨k, rfl, e⟩ | e
  · rw [e] at h1
    cases r1
    refine ⟨k, rfl, ?_⟩
    have h2 : satE (cxt X cl) W ρ1 F1 σ (if k = true then B l S1 else .ok (.bl false) S1) Q := satE.mono p1 f1 h1
    cases k with
    | true => rw [if_pos rfl] at h2 ⊢; exact ⟨l, S1, ρ1, F1, hl1, R1, h2⟩
    | false => rw [if_neg Bool.false_ne_true] at h2 ⊢; exact h2.now R1 (.bl false)
  · rw [e] at h1; exact h1.elim
theorem de_or (ha : DE X cl W a A) (hb : DE X cl W (.BoolOp .Or (b :: rest) pos) B) : DE X cl W (.BoolOp .Or (a :: b :: rest) pos) (eOr A B) := (pe_or ha hb).imp fun σ H Q ⟨l, S, ρ, F, hl, R, h⟩ => by
  refine tE_stepX hl R (satE.x h) fun d S1 ρ1 F1 H1 v R1 hl1 r1 p1 f1 h1 => ?_
  rcases isBl_cases d S1 with ⟨k, rfl, e⟩ | e
  · rw [e] at h1
    cases r1
    refine ⟨k, rfl, ?_⟩
    have h2 : satE (cxt X cl) W ρ1 F1 σ (if k = true then .ok (.bl true) S1 else B l S1) Q := satE.mono p1 f1 h1
    cases k with
    | true => rw [if_pos rfl] at h2 ⊢; exact h2.now R1 (.bl true)
    | false => rw [if_neg Bool.false_ne_true] at h2 ⊢; exact ⟨l, S1, ρ1, F1, hl1, R1, h2⟩
  · rw [e] at h1; exact h1.elim
theorem de_not (ha : DE X cl W a A) : DE X cl W (.UnaryOp .Not a pos) (eNot A) := (pe_notT ha).imp fun σ H Q ⟨l, S, ρ, F, hl, R, h⟩ => by
  refine tE_stepX hl R (satE.x h) fun d S1 ρ1 F1 H1 v R1 hl1 r1 p1 f1 h1 => ?_
  cases e : truD d S1 with
  | ok k S2 =>
    rw [e] at h1
    obtain ⟨q, rfl⟩ := rep_tru R1 r1 e
    exact ⟨k, q, satE.now (satE.mono p1 f1 h1) R1 (.bl _)⟩
  | exc x S2 => exact (truD_noexc e).elim
  | bad => rw [e] at h1; exact h1.elim
theorem de_if (hc : DT X cl W e c) (ha : DE X cl W a A) (hb : DE X cl W b B) : DE X cl W (.IfExp e a b pos) (eIf c A B) := (pe_ifExp hc ha hb).imp fun σ H Q ⟨l, S, ρ, F, hl, R, h⟩ => by
  refine tT_stepX hl R (satE.x h) fun d S1 ρ1 F1 H1 R1 hl1 p1 f1 h1 => ?_
  have h2 := satE.mono p1 f1 h1
  cases d with
  | true => rw [if_pos rfl] at h2 ⊢; exact ⟨l, S1, ρ1, F1, hl1, R1, h2⟩
  | false => rw [if_neg Bool.false_ne_true] at h2 ⊢; exact ⟨l, S1, ρ1, F1, hl1, R1, h2⟩
end

/-! ### argument lists, displays -/
def aNil : As := fun _ S => .ok [] S
def aCons (A : E) (r : As) : As := fun l S => (A l S).bind fun d S1 => (r l S1).bind fun ds S2 => .ok (d :: ds) S2
def eTup (r : As) : E := fun l S => (r l S).bind fun ds S1 => if ds.length ≤ sizeLine then .ok (.tup ds) S1 else .bad
def eLst (r : As) : E := fun l S => (r l S).bind fun ds S1 => if ds.length ≤ sizeLine then .ok (.lst ds) S1 else .bad
def eApp (g : List D → Sto → Res D) (r : As) : E := fun l S => (r l S).bind fun ds S1 => g ds S1
/-- a new live list -/
def newCell (ds : List D) (S : Sto) : Res D := .ok (.ref S.length) (S ++ [.lst ds])
def eLstM (r : As) : E := fun l S => (r l S).bind fun ds S1 => if ds.length ≤ sizeLine then newCell ds S1 else .bad
def rDs (C : Ct) (W : WX) (g : List D → Sto → Res D) : List V → Hp → VK → Prop := fun xs H Q => ∃ ρ F S σ ds, Rel C ρ F S H ∧ RepAll C ρ F xs ds ∧ satE C W ρ F σ (g ds S) Q
abbrev CallD (X : Cx) (cl : Nat → Addr) (W : WX) (f : Value) (g : List D → Sto → Res D) : Prop := CallR X f (rDs (cxt X cl) W g)
theorem _root_.L2.CallR.weak {X : Cx} {f : Value} {r r' : List V → Hp → VK → Prop} (h : CallR X f r) (i : ∀ xs H Q, r' xs H Q → r xs H Q) : CallR X f r' := fun pins s σ H xs us Q I r q => h pins s σ H xs us Q I r (i _ _ _ q)
section
variable {C : Ct} {W : WX} {ρ : List Addr} {F H : Hp} {S : Sto}
theorem satE.newM {σ : L2.St} {Q : VK} {vs : List V} {xs : List D} (h : satE C W ρ F σ (newCell xs S) Q) (R : Rel C ρ F S H) (r : RepAll C ρ F vs xs) {p : Addr} (hp : H p = none) : Q (.ref p) (upd H p (.lst vs)) := by
  have pr : ρ <+: ρ ++ [p] := List.prefix_append _ _
  refine h (ρ ++ [p]) F _ _ (R.lay hp ⟨vs, upd_same, r.mono pr (Le.refl _)⟩ (by intro z; cases z)) pr (Le.refl _) (.ref ?_)
  rw [← R.len]; exact ref_last
end
section
variable {X : Cx} {cl : Nat → Addr} {W : WX} {A : E} {r : As} {e : Expr} {es : List Expr} {pos : Pos} {g : List D → Sto → Res D}
theorem da_nil : DA X cl W [] aNil := pa_nil.imp fun σ H Q ⟨l, S, ρ, F, hl, R, h⟩ => h.now R .nil
theorem da_cons (ha : DE X cl W e A) (hr : DA X cl W es r) (hs : starEach (e :: es) X.env = (false, eval e X.env) :: starEach es X.env := by rfl) : DA X cl W (e :: es) (aCons A r) := (pa_cons ha hr hs).imp fun σ H Q ⟨l, S, ρ, F, hl, R, h⟩ => by
  refine tE_stepX hl R (satA.x h) fun d S1 ρ1 F1 H1 v R1 hl1 r1 p1 f1 h1 => ?_
  have h2 := satA.mono p1 f1 h1
  refine tA_stepX hl1 R1 (satA.x h2) fun ds S2 ρ2 F2 H2 vs R2 hl2 r2 p2 f2 h3 => ?_
  exact satA.now (satA.mono p2 f2 h3) R2 (.cons (r1.mono p2 f2) r2)
theorem de_tup {k : Nat} (h : DA X cl W es r) : DE X cl W (.Tuple es k pos) (eTup r) := (pe_tup h).imp fun σ H Q ⟨l, S, ρ, F, hl, R, h⟩ => by
  refine tA_stepX hl R (satE.x h) fun ds S1 ρ1 F1 H1 vs R1 hl1 r1 p1 f1 h1 => ?_
  have h2 := satE.mono p1 f1 h1
  split at h2
  · next hz => exact ⟨by rw [r1.len]; exact hz, fun p hp => h2.newT R1 r1 hp⟩
  · exact h2.elim
theorem de_lst (h : DA X cl W es r) : DE X cl W (.List es pos) (eLst r) := (pe_lst h).imp fun σ H Q ⟨l, S, ρ, F, hl, R, h⟩ => by
  refine tA_stepX hl R (satE.x h) fun ds S1 ρ1 F1 H1 vs R1 hl1 r1 p1 f1 h1 => ?_
  have h2 := satE.mono p1 f1 h1
  split at h2
  · next hz => exact ⟨by rw [r1.len]; exact hz, fun p hp => h2.newL R1 r1 hp⟩
  · exact h2.elim
theorem de_lstM (h : DA X cl W es r) : DE X cl W (.List es pos) (eLstM r) := (pe_lst h).imp fun σ H Q ⟨l, S, ρ, F, hl, R, h⟩ => by
  refine tA_stepX hl R (satE.x h) fun ds S1 ρ1 F1 H1 vs R1 hl1 r1 p1 f1 h1 => ?_
  have h2 := satE.mono p1 f1 h1
  split at h2
  · next hz => exact ⟨by rw [r1.len]; exact hz, fun p hp => h2.newM R1 r1 hp⟩
  · exact h2.elim
theorem tCB_of {σ : L2.St} {H : Hp} {Q : VK} (h : tE (cxt X cl) W (eApp g r) σ H Q) : tCB (rDs (cxt X cl) W g) (tAs (cxt X cl) W r) σ H Q := by
  obtain ⟨l, S, ρ, F, hl, R, h⟩ := h
  exact tA_stepX hl R (satE.x h) fun ds S1 ρ1 F1 H1 vs R1 hl1 r1 p1 f1 h1 => ⟨ρ1, F1, S1, σ, ds, R1, r1, satE.mono p1 f1 h1⟩
theorem de_callB {x : Str} {p : Pos} {id : String} (hc : CallD X cl W (.builtin id) g) (hg : Gl X x) (hm : X.mg x = none) (hv : bootBuiltins x = some (.builtin id)) (ha : DA X cl W (e :: es) r) (hn : x ≠ "__name__" := by decide) (hdb : (x == ("__debug__" : Str)) = false := by decide)
    (he : starEach (e :: es) X.env = (false, eval e X.env) :: starEach es X.env := by rfl) (hpl : (backTo pos (starEach es X.env)).any (·.1) = false := by rfl) : DE X cl W (.Call (.Name x p) (e :: es) [] pos) (eApp g r) :=
  (pe_callB hc hg hm hv ha hn hdb he hpl).imp fun _ _ _ h => tCB_of h
theorem de_callTy {x : Str} {p : Pos} {id : String} (hc : CallD X cl W (.type id) g) (hg : Gl X x) (hm : X.mg x = none) (hv : bootBuiltins x = some (.type id)) (ha : DA X cl W (e :: es) r) (hn : x ≠ "__name__" := by decide) (hdb : (x == ("__debug__" : Str)) = false := by decide)
    (he : starEach (e :: es) X.env = (false, eval e X.env) :: starEach es X.env := by rfl) (hpl : (backTo pos (starEach es X.env)).any (·.1) = false := by rfl) : DE X cl W (.Call (.Name x p) (e :: es) [] pos) (eApp g r) :=
  (pe_callTy hc hg hm hv ha hn hdb he hpl).imp fun _ _ _ h => tCB_of h
end

/-! ### statements -/
def sNil : Stm := fun l S => .next l S
def sSeq (a b : Stm) : Stm := fun l S => match a l S with
  | .next l1 S1 => b l1 S1
  | o => o
def sBrk : Stm := fun l S => .brk l S
def sCont : Stm := fun l S => .cont l S
def sExpr (A : E) : Stm := fun l S => (A l S).toS l fun _ S1 => .next l S1
def sRet (A : E) : Stm := fun l S => (A l S).toS l fun d S1 => .ret d S1
def sRetN : Stm := fun _ S => .ret .non S
def sIf (c : T) (a b : Stm) : Stm := fun l S => (c l S).toS l fun k S1 => if k = true then a l S1 else b l S1
def sBad : Stm := fun _ _ => .bad
def sSet (i : Nat) (A : E) : Stm := fun l S => (A l S).toS l fun d S1 => .next (l.set i (some d)) S1
section
variable {X : Cx} {cl : Nat → Addr} {W : WX} {A : E} {c : T} {a b : Stm} {e : Expr} {st : Stmt} {sts st2 : List Stmt} {pos : Pos}
theorem dss_nil : DSs X cl W [] sNil := pss_nil.imp fun D σ H ⟨l, S, ρ, F, hl, R, h⟩ => h ρ F H σ R (List.prefix_refl _) (Le.refl _) hl
theorem dss_one (h : DS X cl W st a) : DSs X cl W [st] a := pss_one h
theorem dss_cons (h1 : DS X cl W st a) (h2 : DSs X cl W sts b) : DSs X cl W (st :: sts) (sSeq a b) := (pss_cons h1 h2).imp fun D σ H ⟨l, S, ρ, F, hl, R, h⟩ => by
  refine ⟨l, S, ρ, F, hl, R, ?_⟩
  unfold sSeq at h
  cases e : a l S with
  | next l1 S1 =>
    rw [e] at h
    exact fun ρ' F' H' σ' R' p f hl' => ⟨l1, S1, ρ', F', hl', R', satS.mono p f h⟩
  | ret d S1 => rw [e] at h; exact h
  | brk l1 S1 => rw [e] at h; exact h
  | cont l1 S1 => rw [e] at h; exact h
  | exc x l1 S1 => rw [e] at h; exact h
  | bad => rw [e] at h; exact h
theorem ds_pass : DS X cl W (.Pass pos) sNil := ps_pass.imp fun D σ H ⟨l, S, ρ, F, hl, R, h⟩ => h ρ F H σ R (List.prefix_refl _) (Le.refl _) hl
theorem ds_brk : DS X cl W (.Break pos) sBrk := ps_break.imp fun D σ H ⟨l, S, ρ, F, hl, R, h⟩ => h ρ F H σ R (List.prefix_refl _) (Le.refl _) hl
theorem ds_cont : DS X cl W (.Continue pos) sCont := ps_continue.imp fun D σ H ⟨l, S, ρ, F, hl, R, h⟩ => h ρ F H σ R (List.prefix_refl _) (Le.refl _) hl
theorem ds_doc {x j pos'} : DS X cl W (.Expr (.Constant (.str x) j pos) pos') sNil := ps_doc.imp fun D σ H ⟨l, S, ρ, F, hl, R, h⟩ => h ρ F H σ R (List.prefix_refl _) (Le.refl _) hl
theorem ds_bad : DS X cl W st sBad := ps_never.imp fun D σ H ⟨l, S, ρ, F, hl, R, h⟩ => h
theorem dss_bad : DSs X cl W sts sBad := pss_never.imp fun D σ H ⟨l, S, ρ, F, hl, R, h⟩ => h
theorem ds_expr (h : DE X cl W e A) (hs : swapsWith e none pos.line X.env = pure false := by rfl) : DS X cl W (.Expr e pos) (sExpr A) := (ps_expr h hs).imp fun D σ H ⟨l, S, ρ, F, hl, R, h⟩ => by
  refine tE_stepX hl R (satS.x hl h) fun d S1 ρ1 F1 H1 v R1 hl1 r1 p1 f1 h1 => ?_
  exact h1 ρ1 F1 H1 σ R1 p1 f1 hl1
theorem ds_ret (h : DE X cl W e A) : DS X cl W (.Return (some e) pos) (sRet A) := (ps_ret h).imp fun D σ H ⟨l, S, ρ, F, hl, R, h⟩ => by
  refine tE_stepX hl R (satS.x hl h) fun d S1 ρ1 F1 H1 v R1 hl1 r1 p1 f1 h1 => ?_
  exact h1 ρ1 F1 H1 v R1 p1 f1 r1
theorem ds_retN : DS X cl W (.Return none pos) sRetN := ps_retN.imp fun D σ H ⟨l, S, ρ, F, hl, R, h⟩ => h ρ F H .non R (List.prefix_refl _) (Le.refl _) .non
theorem ds_if (hc : DT X cl W e c) (ha : DSs X cl W sts a) (hb : DSs X cl W st2 b) : DS X cl W (.If e sts st2 pos) (sIf c a b) := (ps_if hc ha hb).imp fun D σ H ⟨l, S, ρ, F, hl, R, h⟩ => by
  refine tT_stepX hl R (satS.x hl h) fun d S1 ρ1 F1 H1 R1 hl1 p1 f1 h1 => ?_
  have h2 := satS.mono p1 f1 h1
  cases d with
  | true => rw [if_pos rfl] at h2 ⊢; exact ⟨l, S1, ρ1, F1, hl1, R1, h2⟩
  | false => rw [if_neg Bool.false_ne_true] at h2 ⊢; exact ⟨l, S1, ρ1, F1, hl1, R1, h2⟩
theorem ds_set {i : Nat} {x : Str} {pos' : Pos} (he : DE X cl W e A) (hN : X.N.Nodup) (hi : X.N[i]? = some x := by rfl) (hx : L2.Loc X.env.scope x := by first | exact Or.inl rfl | exact Or.inr rfl) (hs : swapsWith e (some (.Name x pos')) pos.line X.env = pure false := by rfl) (hf : X.fn x = true ∨ X.env.scope.names.lookup x = some .local := by first | exact .inl rfl | exact .inr rfl | assumption) :
    DS X cl W (.Assign [.Name x pos'] e pos) (sSet i A) := (ps_set hN hi hx he hs hf).imp fun D σ H ⟨l, S, ρ, F, hl, R, h⟩ => by
  refine tE_stepX hl R (satS.x hl h) fun d S1 ρ1 F1 H1 v R1 hl1 r1 p1 f1 h1 => ?_
  exact h1 ρ1 F1 H1 _ R1 p1 f1 (hl1.set i r1)
end
end DL

/-! DL5: ==, !=, in, not in; items, slices. -/
namespace DL
open PySem PySem.Spec PyProof.Rows L2

/-! ### data as the kit's data -/
mutual
def pd : D → PyData
  | .non => .none
  | .bl b => .bool b
  | .int i => .int i
  | .str s => .str s
  | .tup xs => .tuple (pds xs)
  | .lst xs => .list (pds xs)
  | .dic _ _ => .dict []
  | .ref _ => .dict []
  | .exc _ => .dict []
def pds : List D → List PyData
  | [] => []
  | d :: ds => pd d :: pds ds
end
mutual
theorem pd_plain : ∀ d : D, dp d < 1000 → PyData.plain (pd d) = true ∧ (pd d).depth ≤ dp d
  | .non, _ => ⟨rfl, Nat.le_refl _⟩
  | .bl b, _ => ⟨rfl, Nat.le_refl _⟩
  | .int i, _ => ⟨rfl, Nat.le_refl _⟩
  | .str s, _ => ⟨rfl, Nat.le_refl _⟩
  | .tup xs, h => by
    unfold dp at h
    obtain ⟨a, b⟩ := pds_plain xs (by omega)
    unfold pd dp
    exact ⟨a, by show PyData.depthAll (pds xs) + 1 ≤ _; omega⟩
  | .lst xs, h => by
    unfold dp at h
    obtain ⟨a, b⟩ := pds_plain xs (by omega)
    unfold pd dp
    exact ⟨a, by show PyData.depthAll (pds xs) + 1 ≤ _; omega⟩
  | .dic _ _, h => by unfold dp at h; omega
  | .ref _, h => by unfold dp at h; omega
  | .exc _, h => by unfold dp at h; omega
theorem pds_plain : ∀ ds : List D, dps ds < 1000 → PyData.plainAll (pds ds) = true ∧ PyData.depthAll (pds ds) ≤ dps ds
  | [], _ => ⟨rfl, Nat.le_refl _⟩
  | d :: ds, h => by
    unfold dps at h
    obtain ⟨a, b⟩ := pd_plain d (by omega)
    obtain ⟨a', b'⟩ := pds_plain ds (by omega)
    unfold pds dps
    refine ⟨?_, ?_⟩
    · show (PyData.plain (pd d) && PyData.plainAll (pds ds)) = true
      rw [a, a']; rfl
    · show max (pd d).depth (PyData.depthAll (pds ds)) ≤ _
      omega
end
mutual
theorem eqv_pd : ∀ d e : D, dp d < 1000 → dp e < 1000 → PyData.eqv (pd d) (pd e) = eqD d e
  | d, e, hd, he => by
    cases d with
    | tup xs =>
      cases e with
      | tup ys =>
        unfold dp at hd he
        show PyData.eqvAll (pds xs) (pds ys) = eqD (.tup xs) (.tup ys)
        rw [eqD_tup]
        exact eqv_pds xs ys (by omega) (by omega)
      | dic _ _ => unfold dp at he; omega
      | ref _ => unfold dp at he; omega
      | exc _ => unfold dp at he; omega
      | _ => rfl
    | lst xs =>
      cases e with
      | lst ys =>
        unfold dp at hd he
        show PyData.eqvAll (pds xs) (pds ys) = eqD (.lst xs) (.lst ys)
        rw [eqD_lst]
        exact eqv_pds xs ys (by omega) (by omega)
      | dic _ _ => unfold dp at he; omega
      | ref _ => unfold dp at he; omega
      | exc _ => unfold dp at he; omega
      | _ => rfl
    | dic _ _ => unfold dp at hd; omega
    | ref _ => unfold dp at hd; omega
    | exc _ => unfold dp at hd; omega
    | _ =>
      cases e with
      | dic _ _ => unfold dp at he; omega
      | ref _ => unfold dp at he; omega
      | exc _ => unfold dp at he; omega
      | _ => rfl
theorem eqv_pds : ∀ xs ys : List D, dps xs < 1000 → dps ys < 1000 → PyData.eqvAll (pds xs) (pds ys) = eqDs xs ys
  | [], [], _, _ => rfl
  | [], _ :: _, _, _ => rfl
  | _ :: _, [], _, _ => rfl
  | x :: xs, y :: ys, h, h' => by
    unfold dps at h h'
    show (PyData.eqv (pd x) (pd y) && PyData.eqvAll (pds xs) (pds ys)) = eqDs (x :: xs) (y :: ys)
    unfold eqDs
    rw [eqv_pd x y (by omega) (by omega), eqv_pds xs ys (by omega) (by omega)]
end
section
variable {C : Ct} {ρ : List Addr} {F H : Hp} {S : Sto}
theorem rep_Dp0 (hF : Le F H) : ∀ (n : Nat) (v : V) (d : D), sizeOf d < n → RepD C ρ F v d → dp d < 1000 → Dp C.K H v (pd d)
  | 0, _, _, hn, _, _ => by omega
  | n + 1, v, d, hn, r, hd => by
    have all : ∀ (xs : List D) (vs : List V), sizeOf xs < n → RepAll C ρ F vs xs → dps xs < 1000 → DpAll C.K H vs (pds xs) := by
      intro xs
      induction xs with
      | nil => intro vs _ ra _; cases ra; exact .nil
      | cons x xs ih =>
        intro vs hs ra hd
        cases ra with
        | cons h t =>
          unfold dps at hd
          exact .cons (rep_Dp0 hF n _ _ (by simp at hs; omega) h (by omega)) (ih _ (by simp at hs; omega) t (by omega))
    cases r with
    | non => exact .non
    | bl b => exact .bl b
    | int i => exact .int i
    | str s => exact .str s
    | @tup a vs xs hq ra => unfold dp at hd; exact .tup (sqT_mono hF hq) (all xs vs (by simp at hn; omega) ra (by omega))
    | @lst a vs xs hq ra => unfold dp at hd; exact .lst (sqL_mono hF hq) (all xs vs (by simp at hn; omega) ra (by omega))
    | dicK => unfold dp at hd; omega
    | ref => unfold dp at hd; omega
theorem rep_DpAll0 (hF : Le F H) {xs : List D} {vs : List V} (ra : RepAll C ρ F vs xs) (hd : dps xs < 1000) : DpAll C.K H vs (pds xs) := by
  induction xs generalizing vs with
  | nil => cases ra; exact .nil
  | cons x xs ih =>
    cases ra with
    | cons h t =>
      unfold dps at hd
      exact .cons (rep_Dp0 hF _ _ _ (Nat.lt_succ_self _) h (by omega)) (ih t (by omega))
theorem rep_Dp (R : Rel C ρ F S H) : ∀ (n : Nat) (v : V) (d : D), sizeOf d < n → RepD C ρ F v d → dp (dr S d) < 1000 → Dp C.K H v (pd (dr S d))
  | 0, _, _, hn, _, _ => by omega
  | n + 1, v, d, hn, r, hd => by
    have all : ∀ (xs : List D) (vs : List V), sizeOf xs < n → RepAll C ρ F vs xs → dps (drs S xs) < 1000 → DpAll C.K H vs (pds (drs S xs)) := by
      intro xs
      induction xs with
      | nil => intro vs _ ra _; cases ra; unfold drs; exact .nil
      | cons x xs ih =>
        intro vs hs ra hd
        cases ra with
        | cons h t =>
          unfold drs dps at hd
          unfold drs
          exact .cons (rep_Dp R n _ _ (by simp at hs; omega) h (by omega)) (ih _ (by simp at hs; omega) t (by omega))
    cases r with
    | non => unfold dr; exact .non
    | bl b => unfold dr; exact .bl b
    | int i => unfold dr; exact .int i
    | str s => unfold dr; exact .str s
    | @tup a vs xs hq ra =>
      unfold dr at hd ⊢
      unfold dp at hd
      exact .tup (sqT_mono R.fz hq) (all xs vs (by simp at hn; omega) ra (by omega))
    | @lst a vs xs hq ra =>
      unfold dr at hd ⊢
      unfold dp at hd
      exact .lst (sqL_mono R.fz hq) (all xs vs (by simp at hn; omega) ra (by omega))
    | dicK => unfold dr dp at hd; omega
    | @ref a m e =>
      cases hS : S[m]? with
      | none => simp [dr, hS, dp] at hd
      | some c =>
        cases c with
        | lst xs =>
          have e2 : dr S (.ref m) = .lst xs := by simp [dr, hS]
          rw [e2] at hd ⊢
          obtain ⟨vs, hv, ra⟩ := R.cell m a _ e hS
          unfold dp at hd
          exact .lst (SqL.of hv) (rep_DpAll0 R.fz ra (by omega))
        | _ => simp [dr, hS, dp] at hd
end
/-! ### == and != -/
def flatOk (S : Sto) (x : D) : Bool := decide (dp (dr S x) ≤ 60)
def eqvD (x y : D) (S : Sto) : Res D := if (flatOk S x && flatOk S y) = true then .ok (.bl (eqD (dr S x) (dr S y))) S else .bad
def nevD (x y : D) (S : Sto) : Res D := if (flatOk S x && flatOk S y) = true then .ok (.bl (!eqD (dr S x) (dr S y))) S else .bad
/-- x in a list or a tuple -/
def inL (S : Sto) (x : D) (ys : List D) : Bool := (drs S ys).any fun y => eqD y (dr S x)
def isSub (x y : Str) : Bool := !(Builtin.Str.occurrences y x 0 y.length 1).isEmpty
def inD (x y : D) (S : Sto) : Res D := match x, y with
  | .str i, .str j => .ok (.bl (isSub i j)) S
  | x, y => match seqOf S y with
    | some ys => if (flatOk S x && decide (dps (drs S ys) ≤ 60)) = true then .ok (.bl (inL S x ys)) S else .bad
    | none => .bad
def ninD (x y : D) (S : Sto) : Res D := match x, y with
  | .str i, .str j => .ok (.bl (!isSub i j)) S
  | x, y => match seqOf S y with
    | some ys => if (flatOk S x && decide (dps (drs S ys) ≤ 60)) = true then .ok (.bl (!inL S x ys)) S else .bad
    | none => .bad
theorem any_pds {S : Sto} {x : D} (hx : dp (dr S x) < 1000) : ∀ {ys : List D}, dps (drs S ys) < 1000 → ((pds (drs S ys)).any fun y => PyData.eqv y (pd (dr S x))) = inL S x ys
  | [], _ => by unfold inL drs pds; rfl
  | y :: ys, h => by
    unfold drs dps at h
    unfold inL drs pds
    rw [List.any_cons, List.any_cons, eqv_pd _ _ (by omega) hx, any_pds hx (by omega)]
    rfl
section
variable {C : Ct} {ρ : List Addr} {F H : Hp} {S : Sto}
theorem drs_len : ∀ ds : List D, (drs S ds).length = ds.length
  | [] => by unfold drs; rfl
  | d :: ds => by unfold drs; simp [drs_len ds]
end
/-- the items of a sequence, as data -/
theorem rep_DpAll {C : Ct} {ρ : List Addr} {F H : Hp} {S : Sto} (R : Rel C ρ F S H) {vs : List V} {ds : List D} (ra : RepAll C ρ F vs ds) (hd : dps (drs S ds) < 1000) : DpAll C.K H vs (pds (drs S ds)) := by
  induction ds generalizing vs with
  | nil => cases ra; unfold drs; exact .nil
  | cons x xs ih =>
    cases ra with
    | cons h t =>
      unfold drs dps at hd
      unfold drs
      exact .cons (rep_Dp R _ _ _ (Nat.lt_succ_self _) h (by omega)) (ih t (by omega))
section
variable {X : Cx} {cl : Nat → Addr} {W : WX}
theorem od_eq (hu : X.A.units + 64 < cLine) : OpD X cl W (compareOp .Eq) eqvD := by
  rintro pins s σ H x y v u Q I rx ry ⟨ρ, F, S, σ', dx, dy, R, r1, r2, h⟩
  unfold eqvD at h
  split at h
  · next hk =>
    rw [Bool.and_eq_true] at hk
    have h1 := of_decide_eq_true hk.1
    have h2 := of_decide_eq_true hk.2
    obtain ⟨as, q1⟩ := Dp.reads I _ _ _ (rep_Dp R _ _ _ (Nat.lt_succ_self _) r1 (by omega)) rx
    obtain ⟨bs, q2⟩ := Dp.reads I _ _ _ (rep_Dp R _ _ _ (Nat.lt_succ_self _) r2 (by omega)) ry
    obtain ⟨p1, l1⟩ := pd_plain (dr S dx) (by omega)
    obtain ⟨p2, l2⟩ := pd_plain (dr S dy) (by omega)
    refine SeqAt.eq_plain q1 q2 p1 p2 (by omega) ?_
    rw [eqv_pd _ _ (by omega) (by omega)]
    exact ⟨.bl _, H, I, rfl, h.now R (.bl _)⟩
  · exact h.elim
theorem od_ne (hu : X.A.units + 64 < cLine) : OpD X cl W (compareOp .NotEq) nevD := by
  rintro pins s σ H x y v u Q I rx ry ⟨ρ, F, S, σ', dx, dy, R, r1, r2, h⟩
  unfold nevD at h
  split at h
  · next hk =>
    rw [Bool.and_eq_true] at hk
    have h1 := of_decide_eq_true hk.1
    have h2 := of_decide_eq_true hk.2
    obtain ⟨as, q1⟩ := Dp.reads I _ _ _ (rep_Dp R _ _ _ (Nat.lt_succ_self _) r1 (by omega)) rx
    obtain ⟨bs, q2⟩ := Dp.reads I _ _ _ (rep_Dp R _ _ _ (Nat.lt_succ_self _) r2 (by omega)) ry
    obtain ⟨p1, l1⟩ := pd_plain (dr S dx) (by omega)
    obtain ⟨p2, l2⟩ := pd_plain (dr S dy) (by omega)
    refine SeqAt.ne_plain q1 q2 p1 p2 (by omega) ?_
    rw [eqv_pd _ _ (by omega) (by omega)]
    exact ⟨.bl _, H, I, rfl, h.now R (.bl _)⟩
  · exact h.elim
theorem seq_reads {C : Ct} {ρ : List Addr} {F : Hp} {S : Sto} {H : Hp} {y : V} {dy : D} {ys : List D} (R : Rel C ρ F S H) (r : RepD C ρ F y dy) (hs : seqOf S dy = some ys) (hd : dps (drs S ys) ≤ 60) :
    Dp C.K H y (.list (pds (drs S ys))) ∨ Dp C.K H y (.tuple (pds (drs S ys))) := by
  obtain ⟨a, vs, rfl, hq, ra⟩ := rep_seq R r hs
  have := rep_DpAll R ra (by omega)
  rcases hq with hq | hq
  · exact .inl (.lst hq this)
  · exact .inr (.tup hq this)
theorem od_in (hu : X.A.units + 64 < cLine) : OpD X cl W (compareOp .In) inD := by
  rintro pins s σ H x y v u Q I rx ry ⟨ρ, F, S, σ', dx, dy, R, r1, r2, h⟩
  unfold inD at h
  split at h
  · cases r1; cases r2
    exact op_in_str pins s σ H _ _ v u Q I rx ry ⟨_, _, rfl, rfl, h.now R (.bl _)⟩
  · split at h
    · next ys hs =>
      split at h
      · next hk =>
        rw [Bool.and_eq_true] at hk
        have h1 := of_decide_eq_true hk.1
        have h2 := of_decide_eq_true hk.2
        obtain ⟨as, q1⟩ := Dp.reads I _ _ _ (rep_Dp R _ _ _ (Nat.lt_succ_self _) r1 (by omega)) rx
        obtain ⟨p1, l1⟩ := pd_plain (dr S dx) (by omega)
        obtain ⟨p2, l2⟩ := pds_plain (drs S ys) (by omega)
        have fin : EP X pins σ Q (.bool ((pds (drs S ys)).any fun y => PyData.eqv y (pd (dr S dx)))) s := by
          rw [any_pds (by omega) (by omega)]
          exact ⟨.bl _, H, I, rfl, h.now R (.bl _)⟩
        rcases seq_reads R r2 hs h2 with q | q
        · obtain ⟨bs, q2⟩ := Dp.reads I _ _ _ q ry
          exact SeqAt.in_list_data q2 q1 p2 p1 (by omega) fin
        · obtain ⟨bs, q2⟩ := Dp.reads I _ _ _ q ry
          exact SeqAt.in_tuple_data q2 q1 p2 p1 (by omega) fin
      · exact h.elim
    · exact h.elim
theorem od_nin (hu : X.A.units + 64 < cLine) : OpD X cl W (compareOp .NotIn) ninD := by
  rintro pins s σ H x y v u Q I rx ry ⟨ρ, F, S, σ', dx, dy, R, r1, r2, h⟩
  unfold ninD at h
  split at h
  · cases r1; cases r2
    exact op_notin_str pins s σ H _ _ v u Q I rx ry ⟨_, _, rfl, rfl, h.now R (.bl _)⟩
  · split at h
    · next ys hs =>
      split at h
      · next hk =>
        rw [Bool.and_eq_true] at hk
        have h1 := of_decide_eq_true hk.1
        have h2 := of_decide_eq_true hk.2
        obtain ⟨as, q1⟩ := Dp.reads I _ _ _ (rep_Dp R _ _ _ (Nat.lt_succ_self _) r1 (by omega)) rx
        obtain ⟨p1, l1⟩ := pd_plain (dr S dx) (by omega)
        obtain ⟨p2, l2⟩ := pds_plain (drs S ys) (by omega)
        have fin : EP X pins σ Q (.bool (!(pds (drs S ys)).any fun y => PyData.eqv y (pd (dr S dx)))) s := by
          rw [any_pds (by omega) (by omega)]
          exact ⟨.bl _, H, I, rfl, h.now R (.bl _)⟩
        rcases seq_reads R r2 hs h2 with q | q
        · obtain ⟨bs, q2⟩ := Dp.reads I _ _ _ q ry
          exact SeqAt.notIn_list_data q2 q1 p2 p1 (by omega) fin
        · obtain ⟨bs, q2⟩ := Dp.reads I _ _ _ q ry
          exact SeqAt.notIn_tuple_data q2 q1 p2 p1 (by omega) fin
      · exact h.elim
    · exact h.elim
end
/-! ### items -/
theorem _root_.L2.IxR.weak {X : Cx} {r r' : R2} (h : IxR X r) (i : ∀ x y H Q, r' x y H Q → r x y H Q) : IxR X r' := by
  intro pins s σ H x y v u Q T id I rx ry q
  exact h pins s σ H x y v u Q T id I rx ry (i _ _ _ _ q)
theorem atI_rep {C : Ct} {ρ : List Addr} {F : Hp} {vs : List V} {ds : List D} (r : RepAll C ρ F vs ds) {i : Int} {d : D} (h : atI ds i = some d) : ∃ v, atI vs i = some v ∧ RepD C ρ F v d := by
  unfold atI at h ⊢
  rw [r.len]
  cases e : ixN ds.length i with
  | none => rw [e] at h; cases h
  | some j => rw [e] at h; exact r.get h
def ixD (x y : D) (S : Sto) : Res D := match x, y with
  | .str z, .int i => if z.length ≤ sizeLine then (match atI z.cps.toList i with | some c => .ok (.str ⟨#[c]⟩) S | none => .bad) else .bad
  | x, .int i => match seqOf S x with
    | some xs => (match atI xs i with | some d => .ok d S | none => .bad)
    | none => .bad
  | _, _ => .bad
/-- o[lo:hi] -/
def slD (x : D) (lo hi : Option Int) (S : Sto) : Res D := match x with
  | .tup xs => .ok (.tup (cutL xs lo hi)) S
  | x => match listOf S x with
    | some xs => .ok (.lst (cutL xs lo hi)) S
    | none => .bad
where cutL (xs : List D) (lo hi : Option Int) : List D := (xs.drop (HT.sIx xs.length 0 lo)).take (HT.sIx xs.length xs.length hi - HT.sIx xs.length 0 lo)
abbrev TP := Loc → Sto → Res (Option Int)
def pNo : TP := fun _ S => .ok none S
def toI : D → Sto → Res (Option Int)
  | .int i, S => .ok (some i) S
  | _, _ => .bad
def pAt (A : E) : TP := fun l S => (A l S).bind toI
def eSl (A : E) (p q : TP) : E := fun l S => (A l S).bind fun x S1 => (p l S1).bind fun lo S2 => (q l S2).bind fun hi S3 => slD x lo hi S3
def tPO (C : Ct) (W : WX) (p : TP) : TO := fun σ H Q => ∃ l S ρ F, LRel C ρ F σ l ∧ Rel C ρ F S H ∧ satX C W ρ F σ (p l S) fun o S' => ∀ ρ' F' H', Rel C ρ' F' S' H' → ρ <+: ρ' → Le F F' → Q o H'
theorem _root_.L2.PO.imp {X : Cx} {e : Option Expr} {t t' : TO} (h : PO X e t) (i : ∀ σ H Q, t' σ H Q → t σ H Q) : PO X e t' := ⟨fun pins s σ H Q I q => h.run pins s σ H Q I (i _ _ _ q)⟩
abbrev DP (X : Cx) (cl : Nat → Addr) (W : WX) (e : Option Expr) (p : TP) : Prop := PO X e (tPO (cxt X cl) W p)
theorem satX.mono {α : Type} {C : Ct} {W : WX} {ρ ρ1 : List Addr} {F F1 : Hp} {σ : L2.St} {r : Res α} {ok ok' : α → Sto → Prop} (hr : ρ <+: ρ1) (hF : Le F F1) (h : satX C W ρ F σ r ok) (i : ∀ d S, ok d S → ok' d S) : satX C W ρ1 F1 σ r ok' := by
  cases r with
  | ok d S => exact i d S h
  | exc x S => exact fun ρ' F' H' dd a b c => h ρ' F' H' dd a (hr.trans b) (hF.trans c)
  | bad => exact h
theorem tP_stepX {C : Ct} {W : WX} {p : TP} {σ : L2.St} {H : Hp} {l : Loc} {S : Sto} {ρ : List Addr} {F : Hp} {ok : Option Int → Sto → Prop} (hl : LRel C ρ F σ l) (R : Rel C ρ F S H) (h : satX C W ρ F σ (p l S) ok) {Q1 : Option Int → Hp → Prop}
    (hk : ∀ o S1 ρ1 F1 H1, Rel C ρ1 F1 S1 H1 → LRel C ρ1 F1 σ l → ρ <+: ρ1 → Le F F1 → ok o S1 → Q1 o H1) : tPO C W p σ H Q1 := by
  refine ⟨l, S, ρ, F, hl, R, h.mono (List.prefix_refl _) (Le.refl _) fun d S1 q ρ1 F1 H1 R1 p1 f1 => hk d S1 ρ1 F1 H1 R1 (hl.mono p1 f1) p1 f1 q⟩
section
variable {X : Cx} {cl : Nat → Addr} {W : WX} {A B : E} {a b e : Expr} {p q : TP} {pos p2 : Pos} {lo hi : Option Expr}
theorem xd_ix : IxR X (rD2 (cxt X cl) W ixD) := by
  refine ix_seq.weak ?_
  rintro x y H Q ⟨ρ, F, S, σ', dx, dy, R, r1, r2, h⟩
  unfold ixD at h
  split at h
  · cases r1; cases r2
    split at h
    · next hz =>
      split at h
      · next c e => exact .inr (.inr ⟨_, _, c, rfl, rfl, hz, e, h.now R (.str _)⟩)
      · exact h.elim
    · exact h.elim
  · cases r2
    split at h
    · next xs hs =>
      split at h
      · next d e =>
        obtain ⟨a, vs, rfl, hq, ra⟩ := rep_seq R r1 hs
        obtain ⟨v', e', r'⟩ := atI_rep ra e
        rcases hq with hq | hq
        · exact .inl ⟨a, vs, _, v', rfl, rfl, hq, e', h.now R r'⟩
        · exact .inr (.inl ⟨a, vs, _, v', rfl, rfl, hq, e', h.now R r'⟩)
      · exact h.elim
    · exact h.elim
  · exact h.elim
theorem de_ix (ha : DE X cl W a A) (hb : DE X cl W b B) (hs : PlainIx b := by intro _ _; rfl) : DE X cl W (.Subscript a b pos) (eOp2 ixD A B) := (pe_ix xd_ix ha hb hs).imp fun _ _ _ h => tE_op2 h
theorem dp_no : DP X cl W none pNo := po_none.imp fun σ H Q ⟨l, S, ρ, F, hl, R, h⟩ => h ρ F H R (List.prefix_refl _) (Le.refl _)
theorem dp_at (h : DE X cl W e A) : DP X cl W (some e) (pAt A) := (po_some h).imp fun σ H Q ⟨l, S, ρ, F, hl, R, h⟩ => by
  unfold pAt at h
  have hx : satX (cxt X cl) W ρ F σ (A l S) fun d S1 => satX (cxt X cl) W ρ F σ (toI d S1) fun o S' => ∀ ρ' F' H', Rel (cxt X cl) ρ' F' S' H' → ρ <+: ρ' → Le F F' → Q o H' := by
    cases e : A l S <;> rw [e] at h <;> exact h
  refine tE_stepX hl R hx fun d S1 ρ1 F1 H1 v R1 hl1 r1 p1 f1 h1 => ?_
  cases r1 with
  | int i => exact ⟨i, rfl, h1 ρ1 F1 H1 R1 p1 f1⟩
  | _ => exact h1.elim
theorem cutL_len (xs : List D) (lo hi : Option Int) : (slD.cutL xs lo hi).length ≤ xs.length := by
  unfold slD.cutL
  rw [List.length_take, List.length_drop]
  omega
theorem de_sl (he : DE X cl W e A) (hl : DP X cl W lo p) (hu : DP X cl W hi q) : DE X cl W (.Subscript e (.Slice lo hi none p2) pos) (eSl A p q) := by
  refine (pe_slice (sl_tupA.or sl_list) he hl hu).imp fun σ H Q ⟨l, S, ρ, F, hl, R, h⟩ => ?_
  refine tE_stepX hl R (satE.x h) fun d S1 ρ1 F1 H1 v R1 hl1 r1 p1 f1 h1 => ?_
  refine tP_stepX hl1 R1 (satE.x (satE.mono p1 f1 h1)) fun o1 S2 ρ2 F2 H2 R2 hl2 p2 f2 h2 => ?_
  refine tP_stepX hl2 R2 (satE.x (satE.mono p2 f2 h2)) fun o2 S3 ρ3 F3 H3 R3 hl3 p3 f3 h3 => ?_
  have h4 := satE.mono p3 f3 h3
  have r3 := (r1.mono p2 f2).mono p3 f3
  clear h1 h2 h3 h
  unfold slD at h4
  split at h4
  · next xs =>
    obtain ⟨a, vs, rfl, hq, ra⟩ := rep_tup R3 r3
    refine .inl ⟨a, vs, rfl, hq, ?_⟩
    have rc : RepAll (cxt X cl) ρ3 F3 (cutV vs o1 o2) (slD.cutL xs o1 o2) := by
      unfold cutV slD.cutL
      rw [ra.len]
      exact (ra.drop _).take _
    refine ⟨fun e => ?_, fun _ p hp => h4.newT R3 rc hp⟩
    rw [ra.len] at e
    have e2 : slD.cutL xs o1 o2 = xs := by
      unfold slD.cutL
      rw [e.1, e.2, List.drop_zero, Nat.sub_zero, List.take_length]
    rw [e2] at h4
    exact h4.now R3 r3
  · split at h4
    · next xs hs =>
      obtain ⟨a, vs, rfl, hq, ra⟩ := rep_list R3 r3 hs
      refine .inr ⟨a, vs, rfl, hq, fun p hp => h4.newL R3 ?_ hp⟩
      unfold cutV slD.cutL
      rw [ra.len]
      exact (ra.drop _).take _
    · exact h4.elim
end
end DL

/-! DL6: leaving a scope: the live cells laid in it are frozen and forgotten. -/
namespace DL
open PySem PySem.Spec PyProof.Rows L2

mutual
/-- every cell named is below n -/
def rlt (n : Nat) : D → Bool
  | .ref k => decide (k < n)
  | .tup xs => rlts n xs
  | .lst xs => rlts n xs
  | .dic _ es => rlts n es
  | .exc _ => false
  | _ => true
def rlts (n : Nat) : List D → Bool
  | [] => true
  | d :: ds => rlt n d && rlts n ds
end
mutual
/-- every cell named is put in by f -/
def sbD (f : Nat → Option D) : D → Option D
  | .non => some .non
  | .bl b => some (.bl b)
  | .int i => some (.int i)
  | .str s => some (.str s)
  | .ref i => f i
  | .tup xs => (sbDs f xs).map .tup
  | .lst xs => (sbDs f xs).map .lst
  | .dic t es => (sbDs f es).map (.dic t)
  | .exc _ => none
def sbDs (f : Nat → Option D) : List D → Option (List D)
  | [] => some []
  | d :: ds => (sbD f d).bind fun e => (sbDs f ds).map (e :: ·)
end
/-- a cell as a value, its items by g -/
def cellV (S : Sto) (g : List D → Option (List D)) (i : Nat) : Option D := match S[i]? with
  | some (.lst xs) => (g xs).map .lst
  | some (.dic false es) => (g es).map (.dic false)
  | _ => none
/-- the cells from n on as values (k: how deep cells stand in cells) -/
def fzR (n : Nat) (S : Sto) : Nat → Nat → Option D
  | 0, i => if i < n then some (.ref i) else none
  | k + 1, i => if i < n then some (.ref i) else cellV S (sbDs (fzR n S k)) i
abbrev fzD (k n : Nat) (S : Sto) : D → Option D := sbD (fzR n S k)
abbrev fzDs (k n : Nat) (S : Sto) : List D → Option (List D) := sbDs (fzR n S k)
theorem fzs_nil {f : Nat → Option D} : sbDs f [] = some [] := by unfold sbDs; rfl
theorem fzs_cons {f : Nat → Option D} {d : D} {ds : List D} : sbDs f (d :: ds) = (sbD f d).bind fun e => (sbDs f ds).map (e :: ·) := by rw [sbDs]
theorem fzR_lt {n : Nat} {S : Sto} {i : Nat} (h : i < n) : ∀ k, fzR n S k i = some (.ref i)
  | 0 => by unfold fzR; rw [if_pos h]
  | k + 1 => by unfold fzR; rw [if_pos h]
-- what has no cells from n on stays
mutual
theorem fz_rlt (k n : Nat) (S : Sto) : ∀ d : D, rlt n d = true → fzD k n S d = some d
  | .non, _ => by unfold fzD sbD; rfl
  | .bl _, _ => by unfold fzD sbD; rfl
  | .int _, _ => by unfold fzD sbD; rfl
  | .str _, _ => by unfold fzD sbD; rfl
  | .tup xs, h => by unfold rlt at h; unfold fzD sbD; rw [fzs_rlt k n S xs h]; rfl
  | .lst xs, h => by unfold rlt at h; unfold fzD sbD; rw [fzs_rlt k n S xs h]; rfl
  | .dic t xs, h => by unfold rlt at h; unfold fzD sbD; rw [fzs_rlt k n S xs h]; rfl
  | .ref i, h => by unfold rlt at h; unfold fzD sbD; exact fzR_lt (of_decide_eq_true h) k
  | .exc _, h => by unfold rlt at h; cases h
theorem fzs_rlt (k n : Nat) (S : Sto) : ∀ ds : List D, rlts n ds = true → sbDs (fzR n S k) ds = some ds
  | [], _ => fzs_nil
  | d :: ds, h => by
    unfold rlts at h
    rw [Bool.and_eq_true] at h
    rw [fzs_cons, show sbD (fzR n S k) d = some d from fz_rlt k n S d h.1, fzs_rlt k n S ds h.2]; rfl
end
def cellRlt (n : Nat) : Cell → Bool
  | .lst xs => rlts n xs
  | .dic _ es => rlts n es
  | .ins _ fs => rlts n (fs.map (·.2))
  | .dead => true
/-- the old cells are as they were, or name old cells only -/
def TrOk (S S' : Sto) : Prop := S.length ≤ S'.length ∧ ∀ i, i < S.length → S'[i]? = S[i]? ∨ ∃ c, S'[i]? = some c ∧ cellRlt S.length c = true
open Classical in
/-- out of the scope that began at S -/
noncomputable def exitD (S : Sto) (d : D) (S' : Sto) : Res D := if TrOk S S' then (match fzD 4 S.length S' d with
  | some e => .ok e (S'.take S.length)
  | none => .bad) else .bad
open Classical in
/-- the same by an exception -/
noncomputable def exitX (S : Sto) (x : Nat) (S' : Sto) : Res D := if TrOk S S' then .exc x (S'.take S.length) else .bad
open Classical in
/-- .. the answer is one new live list -/
noncomputable def exitN (S : Sto) (d : D) (S' : Sto) : Res D := if TrOk S S' then (match d with
  | .ref k => if k < S.length then .bad else (match S'[k]? with
    | some (.lst xs) => (match fzDs 4 S.length (S'.set k .dead) xs with
      | some ys => .ok (.ref S.length) (S'.take S.length ++ [.lst ys])
      | none => .bad)
    | _ => .bad)
  | _ => .bad) else .bad

section
variable {C : Ct} {ρ : List Addr} {F H : Hp} {S : Sto}
-- what is told of old cells holds by them alone
mutual
theorem RepD.cut {ρ' : List Addr} {n : Nat} (hp : ρ'.take n = ρ) : ∀ {v : V} {d : D}, RepD C ρ' F v d → rlt n d = true → RepD C ρ F v d
  | _, _, .non, _ => .non
  | _, _, .bl b, _ => .bl b
  | _, _, .int b, _ => .int b
  | _, _, .str b, _ => .str b
  | _, _, .tup q r, h => by unfold rlt at h; exact .tup q (RepAll.cut hp r h)
  | _, _, .lst q r, h => by unfold rlt at h; exact .lst q (RepAll.cut hp r h)
  | _, _, .dicK q r, h => by unfold rlt at h; exact .dicK q (RepKV.cut hp r h)
  | _, _, .ref e, h => by
    unfold rlt at h
    refine .ref ?_
    rw [← hp, List.getElem?_take_of_lt (of_decide_eq_true h)]
    exact e
theorem RepAll.cut {ρ' : List Addr} {n : Nat} (hp : ρ'.take n = ρ) : ∀ {vs : List V} {ds : List D}, RepAll C ρ' F vs ds → rlts n ds = true → RepAll C ρ F vs ds
  | _, _, .nil, _ => .nil
  | _, _, .cons r t, h => by
    unfold rlts at h
    rw [Bool.and_eq_true] at h
    exact .cons (RepD.cut hp r h.1) (RepAll.cut hp t h.2)
theorem RepKV.cut {ρ' : List Addr} {n : Nat} (hp : ρ'.take n = ρ) : ∀ {vs : List (Key × V)} {ds : List D}, RepKV C ρ' F vs ds → rlts n ds = true → RepKV C ρ F vs ds
  | _, _, .nil, _ => .nil
  | _, _, .cons r t, h => by
    unfold rlts at h
    rw [Bool.and_eq_true] at h
    have h1 := h.1
    unfold rlt rlts rlts rlts at h1
    simp only [Bool.and_eq_true] at h1
    exact .cons (RepD.cut hp r h1.2.1) (RepKV.cut hp t h.2)
end
mutual
theorem RepD.rlt : ∀ {v : V} {d : D}, RepD C ρ F v d → DL.rlt ρ.length d = true
  | _, _, .non => by unfold DL.rlt; rfl
  | _, _, .bl b => by unfold DL.rlt; rfl
  | _, _, .int b => by unfold DL.rlt; rfl
  | _, _, .str b => by unfold DL.rlt; rfl
  | _, _, .tup q r => by unfold DL.rlt; exact RepAll.rlts r
  | _, _, .lst q r => by unfold DL.rlt; exact RepAll.rlts r
  | _, _, .dicK q r => by unfold DL.rlt; exact RepKV.rlts r
  | _, _, .ref e => by unfold DL.rlt; exact decide_eq_true (List.getElem?_eq_some_iff.mp e).1
theorem RepAll.rlts : ∀ {vs : List V} {ds : List D}, RepAll C ρ F vs ds → DL.rlts ρ.length ds = true
  | _, _, .nil => by unfold DL.rlts; rfl
  | _, _, .cons r t => by unfold DL.rlts; rw [RepD.rlt r, RepAll.rlts t]; rfl
theorem RepKV.rlts : ∀ {vs : List (Key × V)} {ds : List D}, RepKV C ρ F vs ds → DL.rlts ρ.length ds = true
  | _, _, .nil => by unfold DL.rlts; rfl
  | _, _, .cons (k := k) r t => by
    unfold DL.rlts; rw [RepKV.rlts t]
    have : DL.rlt ρ.length (keyD k) = true := by cases k <;> (show DL.rlt _ _ = true; unfold keyD; unfold DL.rlt; rfl)
    unfold DL.rlt DL.rlts DL.rlts DL.rlts; rw [this, RepD.rlt r]; rfl
end
theorem RepF.rlts {vs : List (Str × V)} {ds : List (Str × D)} (r : RepF C ρ F vs ds) : DL.rlts ρ.length (ds.map (·.2)) = true := by
  induction r with
  | nil => show DL.rlts _ [] = true; unfold DL.rlts; rfl
  | cons h _ ih => show DL.rlts _ (_ :: _) = true; unfold DL.rlts; rw [h.rlt, ih]; rfl
theorem RepF.cut {ρ' : List Addr} {n : Nat} (hp : ρ'.take n = ρ) {vs : List (Str × V)} {ds : List (Str × D)} (r : RepF C ρ' F vs ds) (h : DL.rlts n (ds.map (·.2)) = true) : RepF C ρ F vs ds := by
  induction r with
  | nil => exact .nil
  | cons q _ ih =>
    rw [List.map_cons] at h
    unfold DL.rlts at h
    rw [Bool.and_eq_true] at h
    exact .cons (q.cut hp h.1) (ih h.2)
theorem CellRep.rlt {a : Addr} : ∀ {c : Cell}, CellRep C ρ F H a c → cellRlt ρ.length c = true
  | .lst xs, ⟨vs, _, r⟩ => r.rlts
  | .dic false es, ⟨kvs, _, r⟩ => r.rlts
  | .dic true es, h => h.elim
  | .ins c fs, ⟨dx, vfs, _, r⟩ => r.rlts
  | .dead, _ => rfl
theorem CellRep.cut {ρ' : List Addr} {n : Nat} (hp : ρ'.take n = ρ) {a : Addr} : ∀ {c : Cell}, CellRep C ρ' F H a c → cellRlt n c = true → CellRep C ρ F H a c
  | .lst xs, ⟨vs, h, r⟩, q => ⟨vs, h, r.cut hp q⟩
  | .dic false es, ⟨kvs, h, r⟩, q => ⟨kvs, h, r.cut hp q⟩
  | .dic true es, h, _ => h.elim
  | .ins c fs, ⟨dx, vfs, h, r⟩, q => ⟨dx, vfs, h, r.cut hp q⟩
  | .dead, _, _ => trivial
end
open Classical in
/-- the frozen part behind the scope: the cells laid since are in it -/
noncomputable def fzF (ρ' : List Addr) (n : Nat) (S' : Sto) (F' H' : Hp) : Hp := fun b => if ∃ k c, n ≤ k ∧ ρ'[k]? = some b ∧ S'[k]? = some c ∧ c ≠ .dead then H' b else F' b
section
variable {C : Ct} {ρ ρ' : List Addr} {F F' H H' : Hp} {S S' : Sto}
theorem fzF_le (R : Rel C ρ' F' S' H') (n : Nat) : Le F' (fzF ρ' n S' F' H') := fun a o e => by
  unfold fzF
  split
  · exact R.fz a o e
  · exact e
theorem fzF_sub (R : Rel C ρ' F' S' H') (n : Nat) : Le (fzF ρ' n S' F' H') H' := fun a o e => by
  unfold fzF at e
  split at e
  · exact e
  · exact R.fz a o e
theorem fzF_at {n k : Nat} {b : Addr} {c : Cell} (hk : n ≤ k) (e : ρ'[k]? = some b) (e2 : S'[k]? = some c) (h : c ≠ .dead) : fzF ρ' n S' F' H' b = H' b := by
  unfold fzF
  rw [if_pos ⟨k, c, hk, e, e2, h⟩]
-- what is told is told of the values
mutual
theorem RepD.sb {G G' : Hp} {f : Nat → Option D} (hle : Le G G') (hf : ∀ i a e, ρ'[i]? = some a → f i = some e → RepD C ρ G' (.ref a) e) : ∀ {v : V} {d e : D}, RepD C ρ' G v d → sbD f d = some e → RepD C ρ G' v e
  | _, _, e, .non, h => by unfold sbD at h; cases h; exact .non
  | _, _, e, .bl b, h => by unfold sbD at h; cases h; exact .bl b
  | _, _, e, .int b, h => by unfold sbD at h; cases h; exact .int b
  | _, _, e, .str b, h => by unfold sbD at h; cases h; exact .str b
  | _, _, e, .tup (xs := xs) hq ra, h => by
    unfold sbD at h
    cases e2 : sbDs f xs with
    | none => rw [e2] at h; cases h
    | some es => rw [e2] at h; cases h; exact .tup (sqT_mono hle hq) (RepAll.sb hle hf ra e2)
  | _, _, e, .lst (xs := xs) hq ra, h => by
    unfold sbD at h
    cases e2 : sbDs f xs with
    | none => rw [e2] at h; cases h
    | some es => rw [e2] at h; cases h; exact .lst (sqL_mono hle hq) (RepAll.sb hle hf ra e2)
  | _, _, e, .dicK (es := xs) hq ra, h => by
    unfold sbD at h
    cases e2 : sbDs f xs with
    | none => rw [e2] at h; cases h
    | some es => rw [e2] at h; cases h; exact .dicK (hle _ _ hq) (RepKV.sb hle hf ra e2)
  | _, _, e, .ref he, h => by unfold sbD at h; exact hf _ _ _ he h
theorem RepAll.sb {G G' : Hp} {f : Nat → Option D} (hle : Le G G') (hf : ∀ i a e, ρ'[i]? = some a → f i = some e → RepD C ρ G' (.ref a) e) : ∀ {vs : List V} {ds es : List D}, RepAll C ρ' G vs ds → sbDs f ds = some es → RepAll C ρ G' vs es
  | _, _, es, .nil, h => by rw [fzs_nil] at h; cases h; exact .nil
  | _, _, es, .cons (d := d) (ds := ds) r t, h => by
    rw [fzs_cons] at h
    cases e1 : sbD f d with
    | none => rw [e1] at h; cases h
    | some e =>
      cases e2 : sbDs f ds with
      | none => rw [e1, e2] at h; cases h
      | some es' =>
        rw [e1, e2] at h
        cases h
        exact .cons (RepD.sb hle hf r e1) (RepAll.sb hle hf t e2)
theorem RepKV.sb {G G' : Hp} {f : Nat → Option D} (hle : Le G G') (hf : ∀ i a e, ρ'[i]? = some a → f i = some e → RepD C ρ G' (.ref a) e) : ∀ {vs : List (Key × V)} {ds es : List D}, RepKV C ρ' G vs ds → sbDs f ds = some es → RepKV C ρ G' vs es
  | _, _, es, .nil, h => by rw [fzs_nil] at h; cases h; exact .nil
  | _, _, es, .cons (k := kk) (d := d) (ds := ds) r t, h => by
    have hk : sbD f (keyD kk) = some (keyD kk) := by
      cases kk with
      | inl i => show sbD f (.int i) = _; unfold sbD; rfl
      | inr x => show sbD f (.str x) = _; unfold sbD; rfl
    rw [fzs_cons] at h
    unfold sbD at h
    rw [fzs_cons, fzs_cons, fzs_nil, hk] at h
    cases e1 : sbD f d with
    | none => rw [e1] at h; cases h
    | some e =>
      cases e2 : sbDs f ds with
      | none => rw [e1, e2] at h; cases h
      | some es' =>
        rw [e1, e2] at h
        cases h
        exact .cons (RepD.sb hle hf r e1) (RepKV.sb hle hf t e2)
end
theorem rep_fzR {n : Nat} (hp : ρ'.take n = ρ) (R : Rel C ρ' F' S' H') : ∀ (k : Nat) (i : Nat) (a : Addr) (e : D), ρ'[i]? = some a → fzR n S' k i = some e → RepD C ρ (fzF ρ' n S' F' H') (.ref a) e := by
  have low : ∀ (i : Nat) (a : Addr), i < n → ρ'[i]? = some a → RepD C ρ (fzF ρ' n S' F' H') (.ref a) (.ref i) := fun i a hi he => .ref (by rw [← hp, List.getElem?_take_of_lt hi]; exact he)
  intro k
  induction k with
  | zero =>
    intro i a e he h
    unfold fzR at h
    split at h
    · next hi => cases h; exact low i a hi he
    · cases h
  | succ k ih =>
    intro i a e he h
    unfold fzR at h
    split at h
    · next hi => cases h; exact low i a hi he
    · next hi =>
      unfold cellV at h
      split at h
      · next xs hS =>
        obtain ⟨vs, hv, ra⟩ := R.cell i a _ he hS
        cases e2 : sbDs (fzR n S' k) xs with
        | none => rw [e2] at h; cases h
        | some es =>
          rw [e2] at h; cases h
          exact .lst (SqL.of ((fzF_at (Nat.le_of_not_lt hi) he hS (by intro z; cases z)).trans hv)) (RepAll.sb (fzF_le R n) ih ra e2)
      · next xs hS =>
        obtain ⟨vs, hv, ra⟩ := R.cell i a _ he hS
        cases e2 : sbDs (fzR n S' k) xs with
        | none => rw [e2] at h; cases h
        | some es =>
          rw [e2] at h; cases h
          exact .dicK ((fzF_at (Nat.le_of_not_lt hi) he hS (by intro z; cases z)).trans hv) (RepKV.sb (fzF_le R n) ih ra e2)
      · cases h
theorem rep_fz {n k : Nat} (hp : ρ'.take n = ρ) (R : Rel C ρ' F' S' H') {v : V} {d e : D} (r : RepD C ρ' F' v d) (h : fzD k n S' d = some e) : RepD C ρ (fzF ρ' n S' F' H') v e :=
  RepD.sb (fzF_le R n) (rep_fzR hp R k) r h
/-- the relation behind the scope -/
theorem Rel.exit (R0 : Rel C ρ F S H) (hpre : ρ <+: ρ') (R : Rel C ρ' F' S' H') (t : TrOk S S') : Rel C ρ (fzF ρ' S.length S' F' H') (S'.take S.length) H' ∧ ρ'.take S.length = ρ ∧ Le F' (fzF ρ' S.length S' F' H') := by
  have hp : ρ'.take S.length = ρ := by
    obtain ⟨x, rfl⟩ := hpre
    rw [← R0.len, List.take_left]
  have hget : ∀ i a, ρ[i]? = some a → ρ'[i]? = some a ∧ i < S.length := fun i a e => ⟨pre_get hpre e, by rw [← R0.len]; exact (List.getElem?_eq_some_iff.mp e).1⟩
  have hS : ∀ i c, i < S.length → (S'.take S.length)[i]? = some c → S'[i]? = some c := fun i c hi e => by rw [List.getElem?_take_of_lt hi] at e; exact e
  refine ⟨⟨fzF_sub R _, ?_, fun i a c e1 e2 => ?_, fun i a c e1 e2 hc => ?_, fun i j a ci cj h1 h2 h3 h4 hi hj => ?_⟩, hp, fzF_le R _⟩
  · rw [List.length_take, R0.len, Nat.min_eq_left t.1]
  · obtain ⟨e3, hi⟩ := hget i a e1
    have e4 := hS i c hi e2
    have cr := R.cell i a c e3 e4
    have hr : cellRlt S.length c = true := by
      rcases t.2 i hi with h | ⟨c', h, h'⟩
      · rw [e4] at h
        have := (R0.cell i a c e1 h.symm).rlt
        rw [R0.len] at this; exact this
      · rw [e4] at h; cases h; exact h'
    exact (cr.cut hp hr).mono (List.prefix_refl _) (fzF_le R _) fun o e => e
  · obtain ⟨e3, hi⟩ := hget i a e1
    have e4 := hS i c hi e2
    unfold fzF
    rw [if_neg]
    · exact R.apart i a c e3 e4 hc
    · rintro ⟨k, ck, hk, k1, k2, k3⟩
      have := R.inj i k a c ck e3 k1 e4 k2 hc k3
      omega
  · obtain ⟨e3, l1⟩ := hget i a h1
    obtain ⟨e4, l2⟩ := hget j a h2
    exact R.inj i j a ci cj e3 e4 (hS i ci l1 h3) (hS j cj l2 h4) hi hj
/-- leaving with a value -/
theorem exit_ok {v : V} {d e : D} {S2 : Sto} (R0 : Rel C ρ F S H) (hpre : ρ <+: ρ') (R : Rel C ρ' F' S' H') (hF : Le F F') (r : RepD C ρ' F' v d) (h : exitD S d S' = .ok e S2) :
    ∃ F2, Rel C ρ F2 S2 H' ∧ Le F F2 ∧ RepD C ρ F2 v e := by
  unfold exitD at h
  split at h
  · next t =>
    split at h
    · next e' he =>
      injection h with h1 h2
      subst h1 h2
      obtain ⟨R2, hp, hl⟩ := Rel.exit R0 hpre R t
      exact ⟨_, R2, hF.trans hl, rep_fz hp R r he⟩
    · cases h
  · cases h
theorem exit_x {x y : Nat} {S2 : Sto} (R0 : Rel C ρ F S H) (hpre : ρ <+: ρ') (R : Rel C ρ' F' S' H') (hF : Le F F') (h : exitX S x S' = .exc y S2) :
    x = y ∧ ∃ F2, Rel C ρ F2 S2 H' ∧ Le F F2 := by
  unfold exitX at h
  split at h
  · next t =>
    injection h with h1 h2
    subst h1 h2
    obtain ⟨R2, hp, hl⟩ := Rel.exit R0 hpre R t
    exact ⟨rfl, _, R2, hF.trans hl⟩
  · cases h
theorem exitD_cases (S : Sto) (d : D) (S' : Sto) : (∃ e S2, exitD S d S' = .ok e S2) ∨ exitD S d S' = .bad := by
  unfold exitD
  split
  · split
    · exact .inl ⟨_, _, rfl⟩
    · exact .inr rfl
  · exact .inr rfl
theorem exitX_cases (S : Sto) (x : Nat) (S' : Sto) : (∃ S2, exitX S x S' = .exc x S2) ∨ exitX S x S' = .bad := by
  unfold exitX
  split
  · exact .inl ⟨_, rfl⟩
  · exact .inr rfl
/-- a live cell is given up -/
theorem Rel.die (R : Rel C ρ F S H) (k : Nat) : Rel C ρ F (S.set k .dead) H := by
  have get : ∀ (i : Nat) (c : Cell), (S.set k .dead)[i]? = some c → c = .dead ∨ S[i]? = some c := fun i c e => by
    rw [List.getElem?_set] at e
    split at e
    · split at e
      · exact .inl (Option.some.inj e).symm
      · cases e
    · exact .inr e
  refine ⟨R.fz, by simp [R.len], fun i a c e1 e2 => ?_, fun i a c e1 e2 hc => ?_, fun i j a ci cj h1 h2 h3 h4 hi hj => ?_⟩
  · rcases get i c e2 with rfl | e
    · trivial
    · exact R.cell i a c e1 e
  · rcases get i c e2 with rfl | e
    · exact absurd rfl hc
    · exact R.apart i a c e1 e hc
  · rcases get i ci h3 with rfl | e3
    · exact absurd rfl hi
    · rcases get j cj h4 with rfl | e4
      · exact absurd rfl hj
      · exact R.inj i j a ci cj h1 h2 e3 e4 hi hj
/-- a thing that is tracked, no live cell: a cell again -/
theorem Rel.add (R : Rel C ρ F S H) {p : Addr} {c : Cell} (hF : F p = none) (hno : ∀ (i : Nat) (ci : Cell), ρ[i]? = some p → S[i]? = some ci → ci = .dead) (hn : CellRep C (ρ ++ [p]) F H p c) : Rel C (ρ ++ [p]) F (S ++ [c]) H := by
  have pr : ρ <+: ρ ++ [p] := List.prefix_append _ _
  have gρ : ∀ j b, (ρ ++ [p])[j]? = some b → (ρ[j]? = some b ∧ j < ρ.length) ∨ (j = ρ.length ∧ b = p) := fun j b e => by
    by_cases hj : j < ρ.length
    · rw [List.getElem?_append_left hj] at e; exact .inl ⟨e, hj⟩
    · have hl : j < (ρ ++ [p]).length := (List.getElem?_eq_some_iff.mp e).1
      have hj' : j = ρ.length := by simp at hl; omega
      subst hj'
      simp at e
      exact .inr ⟨rfl, e.symm⟩
  have gS : ∀ j cj, j < ρ.length → (S ++ [c])[j]? = some cj → S[j]? = some cj := fun j cj hj e => by
    rw [List.getElem?_append_left (by rw [← R.len]; exact hj)] at e; exact e
  have gL : ∀ cj, (S ++ [c])[ρ.length]? = some cj → cj = c := fun cj e => by
    rw [R.len] at e; simp at e; exact e.symm
  refine ⟨R.fz, by simp [R.len], fun j b cj h1 h2 => ?_, fun j b cj h1 h2 hc => ?_, fun j k b cj ck h1 h2 h3 h4 hj hk => ?_⟩
  · rcases gρ j b h1 with ⟨h1, hl⟩ | ⟨rfl, rfl⟩
    · exact (R.cell j b cj h1 (gS j cj hl h2)).mono pr (Le.refl _) fun u e => e
    · have hc := gL cj h2; subst hc; exact hn
  · rcases gρ j b h1 with ⟨h1, hl⟩ | ⟨rfl, rfl⟩
    · exact R.apart j b cj h1 (gS j cj hl h2) hc
    · exact hF
  · rcases gρ j b h1 with ⟨g1, hl⟩ | ⟨e1, e2⟩ <;> rcases gρ k b h2 with ⟨g2, hl'⟩ | ⟨e3, e4⟩
    · exact R.inj j k b cj ck g1 g2 (gS j cj hl h3) (gS k ck hl' h4) hj hk
    · subst e4; exact absurd (hno j cj g1 (gS j cj hl h3)) hj
    · subst e2; exact absurd (hno k ck g2 (gS k ck hl' h4)) hk
    · rw [e1, e3]
/-- leaving with a new live list -/
theorem exit_nw {v : V} {d e : D} {S2 : Sto} (R0 : Rel C ρ F S H) (hpre : ρ <+: ρ') (R : Rel C ρ' F' S' H') (hF : Le F F') (r : RepD C ρ' F' v d) (h : exitN S d S' = .ok e S2) :
    ∃ ρ2 F2, Rel C ρ2 F2 S2 H' ∧ ρ <+: ρ2 ∧ Le F F2 ∧ RepD C ρ2 F2 v e := by
  unfold exitN at h
  split at h
  · next t =>
    split at h
    · next k =>
      split at h
      · cases h
      · next hk =>
        split at h
        · next xs hS =>
          split at h
          · next ys he =>
            injection h with h1 h2
            subst h1 h2
            cases r with
            | @ref a _ ea =>
            have hk' : S.length ≤ k := Nat.le_of_not_lt hk
            have Rd := R.die k
            have t' : TrOk S (S'.set k .dead) := ⟨by simpa using t.1, fun i hi => by
              rw [List.getElem?_set_ne (by omega)]; exact t.2 i hi⟩
            obtain ⟨R2, hp, hl⟩ := Rel.exit R0 hpre Rd t'
            have e1 : (S'.set k .dead).take S.length = S'.take S.length := by
              refine List.ext_getElem? fun i => ?_
              by_cases hi : i < S.length
              · rw [List.getElem?_take_of_lt hi, List.getElem?_take_of_lt hi, List.getElem?_set_ne (by omega)]
              · rw [List.getElem?_eq_none (by simp; omega), List.getElem?_eq_none (by simp; omega)]
            rw [e1] at R2
            have hne : (Cell.lst xs) ≠ .dead := by intro z; cases z
            have hFa : F' a = none := R.apart k a _ ea hS hne
            have hno : ∀ (i : Nat) (ci : Cell), ρ'[i]? = some a → (S'.set k .dead)[i]? = some ci → ci = .dead := fun i ci h1 h2 => by
              by_cases hi : k = i
              · subst hi
                rw [List.getElem?_set_self (List.getElem?_eq_some_iff.mp hS).1] at h2
                exact (Option.some.inj h2).symm
              · rw [List.getElem?_set_ne hi] at h2
                by_cases hd : ci = .dead
                · exact hd
                · exact absurd (R.inj k i a _ ci ea h1 hS h2 hne hd) hi
            have hfa : fzF ρ' S.length (S'.set k .dead) F' H' a = none := by
              unfold fzF
              rw [if_neg]
              · exact hFa
              · rintro ⟨j, c, _, j1, j2, j3⟩
                exact j3 (hno j c j1 j2)
            obtain ⟨vs, hv, ra⟩ := R.cell k a _ ea hS
            have ra' := RepAll.sb (fzF_le Rd S.length) (rep_fzR hp Rd 4) ra he
            have pr : ρ <+: ρ ++ [a] := List.prefix_append _ _
            refine ⟨ρ ++ [a], _, Rel.add R2 hfa (fun i ci h1 h2 => ?_) ⟨vs, hv, ra'.mono pr (Le.refl _)⟩, pr, hF.trans hl, .ref ?_⟩
            · have hi : i < S.length := by rw [← R0.len]; exact (List.getElem?_eq_some_iff.mp h1).1
              rw [List.getElem?_take_of_lt hi] at h2
              exact hno i ci (pre_get hpre h1) (by rw [List.getElem?_set_ne (by omega)]; exact h2)
            · rw [← R0.len]; exact ref_last
          · cases h
        · cases h
    · cases h
  · cases h
/-- how a def's live cells end: frozen and forgotten; one new list; all of them stay -/
inductive _root_.DL.Mode where
  | fr | nw | rw
noncomputable def _root_.DL.exitM : Mode → Sto → D → Sto → Res D
  | .fr, S, d, S' => exitD S d S'
  | .nw, S, d, S' => exitN S d S'
  | .rw, _, d, S' => .ok d S'
noncomputable def _root_.DL.exitMX : Mode → Sto → Nat → Sto → Res D
  | .rw, _, x, S' => .exc x S'
  | _, S, x, S' => exitX S x S'
theorem exitN_cases (S : Sto) (d : D) (S' : Sto) : (∃ e S2, exitN S d S' = .ok e S2) ∨ exitN S d S' = .bad := by
  unfold exitN
  split
  · split
    · split
      · exact .inr rfl
      · split
        · split
          · exact .inl ⟨_, _, rfl⟩
          · exact .inr rfl
        · exact .inr rfl
    · exact .inr rfl
  · exact .inr rfl
theorem exitM_cases (m : Mode) (S : Sto) (d : D) (S' : Sto) : (∃ e S2, exitM m S d S' = .ok e S2) ∨ exitM m S d S' = .bad := by
  cases m with
  | fr => exact exitD_cases S d S'
  | nw => exact exitN_cases S d S'
  | rw => exact .inl ⟨_, _, rfl⟩
theorem exitM_ok {m : Mode} {v : V} {d e : D} {S2 : Sto} (R0 : Rel C ρ F S H) (hpre : ρ <+: ρ') (R : Rel C ρ' F' S' H') (hF : Le F F') (r : RepD C ρ' F' v d) (h : exitM m S d S' = .ok e S2) :
    ∃ ρ2 F2, Rel C ρ2 F2 S2 H' ∧ ρ <+: ρ2 ∧ Le F F2 ∧ RepD C ρ2 F2 v e := by
  cases m with
  | fr =>
    obtain ⟨F2, a, b, c⟩ := exit_ok R0 hpre R hF r h
    exact ⟨ρ, F2, a, List.prefix_refl _, b, c⟩
  | nw => exact exit_nw R0 hpre R hF r h
  | rw =>
    injection h with h1 h2
    subst h1 h2
    exact ⟨ρ', F', R, hpre, hF, r⟩
/-! how one sees that a scope is left well -/
theorem TrOk.ext (S E : Sto) : TrOk S (S ++ E) := ⟨by simp, fun i hi => .inl (by rw [List.getElem?_append_left hi])⟩
theorem exit_ext {S E : Sto} {d e : D} (h : fzD 4 S.length (S ++ E) d = some e) : exitD S d (S ++ E) = .ok e S := by
  unfold exitD
  rw [if_pos (TrOk.ext S E), h, List.take_left]
theorem exit_same {S : Sto} {d : D} (h : rlt S.length d = true) : exitD S d S = .ok d S := by
  have := exit_ext (S := S) (E := []) (d := d) (e := d) (by rw [List.append_nil]; exact fz_rlt _ _ _ d h)
  rwa [List.append_nil] at this
theorem exitN_ext {S : Sto} {xs : List D} (h : rlts S.length xs = true) : exitN S (.ref S.length) (S ++ [.lst xs]) = .ok (.ref S.length) (S ++ [.lst xs]) := by
  unfold exitN
  rw [if_pos (TrOk.ext S _)]
  simp only [Nat.lt_irrefl, if_false]
  rw [List.getElem?_append_right (Nat.le_refl _), Nat.sub_self]
  simp only [List.getElem?_cons_zero]
  have e : fzDs 4 S.length ((S ++ [Cell.lst xs]).set S.length .dead) xs = some xs := fzs_rlt _ _ _ xs h
  unfold fzDs at e ⊢
  rw [e]
  simp only [List.take_left]
theorem exitX_ext {S E : Sto} {x : Nat} : exitX S x (S ++ E) = .exc x S := by
  unfold exitX
  rw [if_pos (TrOk.ext S E), List.take_left]
theorem exitX_same {S : Sto} {x : Nat} : exitX S x S = .exc x S := by
  have := exitX_ext (S := S) (E := []) (x := x)
  rwa [List.append_nil] at this
end
end DL

/-! DL7: targets, loops, comprehensions. -/
namespace DL
open PySem PySem.Spec PyProof.Rows L2

/-! ### targets -/
/-- what storing does: the slots it may change are named beside -/
abbrev GD := D → Loc → Sto → Option (Loc × Sto)
def Keep (ix : List Nat) (σ σ' : L2.St) : Prop := ∀ vs : List Nat, (∀ i ∈ ix, i ∈ vs) → wipe σ' vs = wipe σ vs
def satG (C : Ct) (ix : List Nat) (ρ : List Addr) (F : Hp) (σ : L2.St) (r : Option (Loc × Sto)) (Q : L2.St → Hp → Prop) : Prop := match r with
  | some (l', S') => ∀ ρ' F' H' σ', Rel C ρ' F' S' H' → ρ <+: ρ' → Le F F' → LRel C ρ' F' σ' l' → Keep ix σ σ' → Q σ' H'
  | none => False
def tG (C : Ct) (ix : List Nat) (G : GD) : TG := fun v σ H Q => ∃ l S ρ F d, LRel C ρ F σ l ∧ Rel C ρ F S H ∧ RepD C ρ F v d ∧ satG C ix ρ F σ (G d l S) Q
theorem _root_.L2.PG.imp {X : Cx} {e : Expr} {t t' : TG} (h : PG X e t) (i : ∀ v σ H Q, t' v σ H Q → t v σ H Q) : PG X e t' := ⟨fun pins s σ H v u Q I r q => h.run pins s σ H v u Q I r (i _ _ _ _ q)⟩
abbrev DG (X : Cx) (cl : Nat → Addr) (ix : List Nat) (e : Expr) (G : GD) : Prop := PG X e (tG (cxt X cl) ix G)
def gNm (i : Nat) : GD := fun d l S => some (l.set i (some d), S)
/-- names, one after another, of a tuple's items -/
def gNms : List Nat → List D → Loc → Option Loc
  | [], [], l => some l
  | i :: is, d :: ds, l => gNms is ds (l.set i (some d))
  | _, _, _ => none
def gTp (is : List Nat) : GD := fun d l S => match d with
  | .tup xs => (gNms is xs l).map fun l' => (l', S)
  | _ => none
theorem wipe_set {σ : L2.St} {i : Nat} {v : Option V} : ∀ {vs : List Nat}, i ∈ vs → wipe (σ.set i v) vs = wipe σ vs
  | [], h => by cases h
  | j :: vs, h => by
    unfold wipe
    by_cases hj : i ∈ vs
    · rw [wipe_set hj]
    · have hij : i = j := by
        rcases List.mem_cons.mp h with e | e
        · exact e
        · exact absurd e hj
      subst hij
      have : ∀ {vs : List Nat} {σ : L2.St}, i ∉ vs → wipe (σ.set i v) vs = (wipe σ vs).set i v := by
        intro vs
        induction vs with
        | nil => intro σ _; rfl
        | cons k vs ih =>
          intro σ hn
          simp only [List.mem_cons, not_or] at hn
          unfold wipe
          rw [ih hn.2, List.set_comm _ _ hn.1]
      rw [this hj, List.set_set]
theorem Keep.refl {ix : List Nat} {σ : L2.St} : Keep ix σ σ := fun _ _ => rfl
theorem Keep.trans {ix : List Nat} {σ σ1 σ2 : L2.St} (a : Keep ix σ σ1) (b : Keep ix σ1 σ2) : Keep ix σ σ2 := fun vs h => (b vs h).trans (a vs h)
theorem Keep.set {ix : List Nat} {σ : L2.St} {i : Nat} {v : Option V} (h : i ∈ ix) : Keep ix σ (σ.set i v) := fun vs hv => wipe_set (hv i h)
section
variable {X : Cx} {cl : Nat → Addr} {pos : Pos}
theorem dg_name {i : Nat} {x : Str} (hN : X.N.Nodup) (hi : X.N[i]? = some x := by rfl) (hx : L2.Loc X.env.scope x := by first | exact Or.inl rfl | exact Or.inr rfl) (hf : X.fn x = true ∨ X.env.scope.names.lookup x = some .local := by first | exact .inl rfl | exact .inr rfl | assumption) :
    DG X cl [i] (.Name x pos) (gNm i) := (pg_name hN hi hx hf).imp fun v σ H Q ⟨l, S, ρ, F, d, hl, R, r, h⟩ => h ρ F H _ R (List.prefix_refl _) (Le.refl _) (hl.set i r) (Keep.set List.mem_cons_self)
/-- several plain names -/
def tGs (C : Ct) (is : List Nat) : TGs := fun vs σ H Q => ∃ ρ F ds l l', LRel C ρ F σ l ∧ RepAll C ρ F vs ds ∧ gNms is ds l = some l' ∧ ∀ σ', LRel C ρ F σ' l' → Keep is σ σ' → Q σ' H
abbrev DGs (X : Cx) (cl : Nat → Addr) (is : List Nat) (es : List Expr) : Prop := PGs X es (tGs (cxt X cl) is)
theorem dgs_nil : DGs X cl [] [] := ⟨fun pins s σ H vs us Q I r h => by
  obtain ⟨ρ, F, ds, l, l', hl, ra, e, q⟩ := h
  refine pgs_nil.run pins s σ H vs us Q I r ?_
  cases ds with
  | nil =>
    cases ra
    obtain rfl := Option.some.inj (show some l = some l' from e)
    exact ⟨rfl, q σ hl Keep.refl⟩
  | cons _ _ => exact nomatch e⟩
theorem dgs_cons {i : Nat} {is : List Nat} {x : Str} {es : List Expr} (h2 : DGs X cl is es) (hN : X.N.Nodup) (hi : X.N[i]? = some x := by rfl) (hx : L2.Loc X.env.scope x := by first | exact Or.inl rfl | exact Or.inr rfl)
    (hf : X.fn x = true ∨ X.env.scope.names.lookup x = some .local := by first | exact .inl rfl | exact .inr rfl | assumption)
    (hs : (assignEach (.Name x pos :: es) X.env).map (·.2) = assign (.Name x pos) X.env :: (assignEach es X.env).map (·.2) := by rfl) : DGs X cl (i :: is) (.Name x pos :: es) := ⟨fun pins s σ H vs us Q I r h => by
  obtain ⟨ρ, F, ds, l, l', hl, ra, e, q⟩ := h
  refine (pgs_cons (pg_name hN hi hx hf) h2 hs).run pins s σ H vs us Q I r ?_
  cases ra with
  | nil => exact nomatch e
  | cons rv rs =>
    refine ⟨_, _, rfl, ρ, F, _, _, l', hl.set i rv, rs, e, fun σ' hl' k => q σ' hl' ?_⟩
    exact (Keep.set (ix := i :: is) List.mem_cons_self).trans fun vs hv => k vs fun j hj => hv j (List.mem_cons_of_mem _ hj)⟩
theorem gNms_len : ∀ {is : List Nat} {ds : List D} {l l' : Loc}, gNms is ds l = some l' → ds.length = is.length
  | [], [], _, _, _ => rfl
  | [], _ :: _, _, _, h => nomatch h
  | _ :: _, [], _, _, h => nomatch h
  | i :: is, d :: ds, l, l', h => by
    have := gNms_len (is := is) (ds := ds) h
    simp [this]
theorem dg_tup {es : List Expr} {k n : Nat} {is : List Nat} (hc : X.calm = true) (h : DGs X cl is es) (hi : is.length = n := by rfl)
    (hn : (assignEach es X.env).length = n := by rfl) (hst : (assignEach es X.env).findIdx? (·.1) = none := by rfl) : DG X cl is (.Tuple es k pos) (gTp is) := (pg_tup hc h hn hst).imp fun v σ H Q ⟨l, S, ρ, F, d, hl, R, r, h⟩ => by
  unfold gTp at h
  split at h
  · next xs =>
    obtain ⟨a, vs, rfl, hq, ra⟩ := rep_tup R r
    cases e : gNms is xs l with
    | none => rw [e] at h; exact h.elim
    | some l' =>
      rw [e] at h
      refine ⟨a, vs, rfl, hq, by rw [ra.len, gNms_len e, hi], ρ, F, xs, l, l', hl, ra, e, fun σ' hl' k => h ρ F H σ' R (List.prefix_refl _) (Le.refl _) hl' k⟩
  · exact h.elim
end

/-! ### target = value -/
def sAsg (A : E) (G : GD) : Stm := fun l S => (A l S).toS l fun d S1 => match G d l S1 with
  | some (l1, S2) => .next l1 S2
  | none => .bad
theorem satG.of {C : Ct} {W : WX} {ix : List Nat} {ρ : List Addr} {F : Hp} {σ : L2.St} {r : Option (Loc × Sto)} {D : Ends} (h : satS C W ρ F (match r with
    | some (l1, S2) => .next l1 S2
    | none => .bad) D) : satG C ix ρ F σ r D.nx := by
  cases r with
  | none => exact h
  | some p => exact fun ρ' F' H' σ' a b c d _ => h ρ' F' H' σ' a b c d
section
variable {X : Cx} {cl : Nat → Addr} {W : WX} {A : E} {G : GD} {e tg : Expr} {pos : Pos} {ix : List Nat}
theorem ds_asg (he : DE X cl W e A) (hg : DG X cl ix tg G) (hs : swapsWithSole [tg] e pos.line X.env = pure false := by rfl) (hw : swappedStores [tg] e X.env = pure none := by rfl)
    (h1 : (assignEach [tg] X.env).map (·.2) = [assign tg X.env] := by rfl) : DS X cl W (.Assign [tg] e pos) (sAsg A G) := (ps_asg he hg hs hw h1).imp fun D σ H ⟨l, S, ρ, F, hl, R, h⟩ => by
  refine tE_stepX hl R (satS.x hl h) fun d S1 ρ1 F1 H1 v R1 hl1 r1 p1 f1 h1 => ?_
  exact ⟨l, S1, ρ1, F1, d, hl1, R1, r1, satG.of (satS.mono p1 f1 h1)⟩
end

/-! ### what is walked -/
/-- the items, and what must stay so while they are walked -/
structure Seqn where
  items : List D
  gd : Sto → Prop
def ItOk (C : Ct) (J : It) (ρ1 : List Addr) (F1 : Hp) (q : Seqn) : Prop := ∀ ρ F S H i, ρ1 <+: ρ → Le F1 F → Rel C ρ F S H → q.gd S →
  (q.items.length ≤ i → J.stop i H) ∧ ∀ d, q.items[i]? = some d → J.go i H ∧ ∀ x H', J.yld i H x H' → ∃ F', Le F F' ∧ Rel C ρ F' S H' ∧ RepD C ρ F' x d
abbrev I := Loc → Sto → Res Seqn
def tI (C : Ct) (W : WX) (A : I) : TI := fun σ H R => ∃ l S ρ F, LRel C ρ F σ l ∧ Rel C ρ F S H ∧ satX C W ρ F σ (A l S) fun q S1 => ∀ ρ1 F1 H1 J, Rel C ρ1 F1 S1 H1 → ρ <+: ρ1 → Le F F1 → ItOk C J ρ1 F1 q → R J H1
abbrev DI (X : Cx) (cl : Nat → Addr) (W : WX) (tg e : Expr) (A : I) : Prop := PI X tg e (tI (cxt X cl) W A)
theorem _root_.L2.PI.imp {X : Cx} {tg e : Expr} {t t' : TI} (h : PI X tg e t) (i : ∀ σ H Q, t' σ H Q → t σ H Q) : PI X tg e t' := ⟨fun pins s σ H R I q => h.run pins s σ H R I (i _ _ _ q)⟩
theorem satX.of {α β : Type} {C : Ct} {W : WX} {ρ : List Addr} {F : Hp} {σ : L2.St} {r : Res α} {k : α → Sto → Res β} {ok : β → Sto → Prop} (h : satX C W ρ F σ (r.bind k) ok) : satX C W ρ F σ r fun d S => satX C W ρ F σ (k d S) ok := by
  cases r <;> exact h
/-- a list, a tuple -/
def iSeq (A : E) : I := fun l S => (A l S).bind fun d S1 => match seqOf S1 d with
  | some xs => .ok ⟨xs, fun S' => seqOf S' d = some xs⟩ S1
  | none => .bad
def rangeI (lo : Int) (n : Nat) : List D := (List.range n).map fun (i : Nat) => D.int (lo + i)
@[irreducible] def small62 (i : Int) : Bool := decide (-(2 ^ 62) ≤ i) && decide (i < 2 ^ 62)
def iR1 (r : As) : I := fun l S => (r l S).bind fun ds S1 => match ds with
  | [.int j] => if small62 j = true then .ok ⟨rangeI 0 j.toNat, fun _ => True⟩ S1 else .bad
  | _ => .bad
def iR2 (r : As) : I := fun l S => (r l S).bind fun ds S1 => match ds with
  | [.int i, .int j] => if (small62 i && small62 j) = true then .ok ⟨rangeI i (j - i).toNat, fun _ => True⟩ S1 else .bad
  | _ => .bad
theorem rangeI_get {lo : Int} {n i : Nat} {d : D} (h : (rangeI lo n)[i]? = some d) : i < n ∧ d = .int (lo + i) := by
  unfold rangeI at h
  rw [List.getElem?_map] at h
  by_cases hi : i < n
  · rw [List.getElem?_range hi] at h
    exact ⟨hi, (Option.some.inj h).symm⟩
  · rw [List.getElem?_eq_none (by simpa using hi)] at h; cases h
theorem rangeI_len (lo : Int) (n : Nat) : (rangeI lo n).length = n := by simp [rangeI]
theorem itOk_range {C : Ct} {ρ : List Addr} {F : Hp} (lo : Int) (n : Nat) : ItOk C (Itr lo n) ρ F ⟨rangeI lo n, fun _ => True⟩ := fun ρ1 F1 S H i _ _ R _ => by
  refine ⟨fun h => by rw [rangeI_len] at h; exact h, fun d hd => ?_⟩
  obtain ⟨hi, rfl⟩ := rangeI_get hd
  exact ⟨hi, fun x H' ⟨e1, e2⟩ => by subst e1 e2; exact ⟨F1, Le.refl _, R, .int _⟩⟩
/-- the same sequence, told twice -/
theorem RepAll.get2 {C : Ct} {ρ : List Addr} {F : Hp} {vs : List V} {ds : List D} (r : RepAll C ρ F vs ds) {i : Nat} {d : D} {v : V} (h : ds[i]? = some d) (h' : vs[i]? = some v) : RepD C ρ F v d := by
  obtain ⟨v', e, r'⟩ := r.get h
  rw [h'] at e; cases e; exact r'
section
variable {X : Cx} {cl : Nat → Addr} {W : WX} {A : E} {r : As} {e a b tg : Expr} {pos p : Pos}
theorem di_seqL (he : DE X cl W e A) : PI X tg e (iList X.K (tE (cxt X cl) W A)) := pi_list he
theorem itOk_list {C : Ct} {ρ1 : List Addr} {F1 : Hp} {ad : Addr} {d : D} {xs : List D} (r1 : RepD C ρ1 F1 (.ref ad) d) (hne : ∀ ys, d ≠ .tup ys) : ItOk C (Itl C.K ad) ρ1 F1 ⟨xs, fun S => seqOf S d = some xs⟩ := fun ρ F S H i p f R g => by
  have g' : seqOf S d = some xs := g
  have gl : listOf S d = some xs := by
    cases d with
    | tup ys => exact absurd rfl (hne ys)
    | _ => exact g'
  obtain ⟨a', vs, ea, hq, ra⟩ := rep_list R (r1.mono p f) gl
  cases ea
  refine ⟨fun h => ⟨vs, hq, by rw [ra.len]; exact h⟩, fun dd hd => ?_⟩
  obtain ⟨v, hv, rv⟩ := ra.get hd
  exact ⟨⟨vs, v, hq, hv⟩, fun x H' ⟨e1, e2⟩ => by subst e1; exact ⟨F, Le.refl _, R, ra.get2 hd (e2 vs hq)⟩⟩
theorem itOk_tup {C : Ct} {ρ1 : List Addr} {F1 : Hp} {ad : Addr} {xs : List D} (r1 : RepD C ρ1 F1 (.ref ad) (.tup xs)) : ItOk C (Itt C.K ad) ρ1 F1 ⟨xs, fun S => seqOf S (.tup xs) = some xs⟩ := fun ρ F S H i p f R g => by
  obtain ⟨a', vs, ea, hq, ra⟩ := rep_tup R (r1.mono p f)
  cases ea
  refine ⟨fun h => ⟨vs, hq, by rw [ra.len]; exact h⟩, fun dd hd => ?_⟩
  obtain ⟨v, hv, rv⟩ := ra.get hd
  exact ⟨⟨vs, v, hq, hv⟩, fun x H' ⟨e1, e2⟩ => by subst e1; exact ⟨F, Le.refl _, R, ra.get2 hd (e2 vs hq)⟩⟩
/-- list or tuple: by what comes -/
theorem di_seq (he : DE X cl W e A) : DI X cl W tg e (iSeq A) := ⟨fun pins s σ H R I h => by
  obtain ⟨l, S, ρ, F, hl, RR, h⟩ := h
  -- what comes, with its relation
  have h' := satX.of h
  refine thn (he.run pins s σ H (fun x H1 => ∃ d S1 ρ1 F1, Rel (cxt X cl) ρ1 F1 S1 H1 ∧ RepD (cxt X cl) ρ1 F1 x d ∧ ρ <+: ρ1 ∧ Le F F1 ∧ satX (cxt X cl) W ρ F σ (match seqOf S1 d with
      | some xs => .ok ⟨xs, fun S' => seqOf S' d = some xs⟩ S1
      | none => .bad) fun q S1 => ∀ ρ1 F1 H1 J, Rel (cxt X cl) ρ1 F1 S1 H1 → ρ <+: ρ1 → Le F F1 → ItOk (cxt X cl) J ρ1 F1 q → R J H1) I (tE_stepX hl RR h' fun d S1 ρ1 F1 H1 v R1 hl1 r1 p1 f1 h1 => ⟨d, S1, ρ1, F1, R1, r1, p1, f1, h1⟩)) fun v s1 ⟨x, H1, I1, rv, d, S1, ρ1, F1, R1, r1, p1, f1, h1⟩ => ?_
  split at h1
  · next xs hs =>
    have h2 := h1 ρ1 F1 H1
    obtain ⟨a, vs, rfl, hq, ra⟩ := rep_seq R1 r1 hs
    cases rv
    by_cases hne : ∃ ys, d = .tup ys
    · obtain ⟨ys, rfl⟩ := hne
      have hq' : SqT X.K H1 a vs := by
        obtain ⟨a', vs', ea, hq', ra'⟩ := rep_tup R1 r1
        cases ea
        rcases hq with hq | hq
        · exact (Inv.sq_apart I1 hq hq').elim
        · exact hq
      obtain rfl := Option.some.inj (show some ys = some xs from hs)
      obtain ⟨its, rvv, pl, hz⟩ := I1.tuple hq'
      refine wpAny_pyIter_tuple (show s1.heap.IsTuple a its.toArray from pl) ?_
      refine ⟨s1.heap.objs.size, [s1.heap.objs.size], _, _, H1, rfl, I1.kept (t' := s1.toks) fun b o e => Heap.get?_push_of_some _ e, turn_tuple a _, ⟨_, Heap.get?_push_size _ rfl, rfl, rfl⟩, fun b hb => ?_, h2 _ R1 p1 f1 (itOk_tup r1)⟩
      have e : b = s1.heap.objs.size := by simpa using hb
      subst e
      exact I1.fpOk (Nat.le_refl _) (I1.hok.fresh (Nat.le_refl _))
    · have hne' : ∀ ys, d ≠ .tup ys := fun ys e => hne ⟨ys, e⟩
      have hl' : listOf S1 d = some xs := by
        cases d with
        | tup ys => exact absurd rfl (hne' ys)
        | _ => exact hs
      obtain ⟨a', vs', ea, hq', ra'⟩ := rep_list R1 r1 hl'
      cases ea
      obtain ⟨its, rvv, pl, hz⟩ := I1.list hq'
      refine wpAny_pyIter_list pl.isList ?_
      refine ⟨s1.heap.objs.size, [s1.heap.objs.size], _, _, H1, rfl, I1.kept (t' := s1.toks) fun b o e => Heap.get?_push_of_some _ e, turn_list a _, ⟨_, Heap.get?_push_size _ rfl, rfl, rfl⟩, fun b hb => ?_, h2 _ R1 p1 f1 (itOk_list r1 hne')⟩
      have e : b = s1.heap.objs.size := by simpa using hb
      subst e
      exact I1.fpOk (Nat.le_refl _) (I1.hok.fresh (Nat.le_refl _))
  · exact h1.elim⟩
theorem s62 {i : Int} (h : small62 i = true) : -(2 ^ 62) ≤ i ∧ i < 2 ^ 62 := by
  unfold small62 at h
  rw [Bool.and_eq_true] at h
  exact ⟨of_decide_eq_true h.1, of_decide_eq_true h.2⟩
theorem di_r1 (hg : Gl X "range") (hm : X.mg "range" = none) (ha : DA X cl W [a] r) (hs : starEach [a] X.env = [(false, eval a X.env)] := by rfl) : DI X cl W tg (.Call (.Name "range" p) [a] [] pos) (iR1 r) := (pi_range1 hg hm ha hs).imp fun σ H Q ⟨l, S, ρ, F, hl, R, h⟩ => by
  refine tA_stepX hl R (satX.of h) fun ds S1 ρ1 F1 H1 vs R1 hl1 r1 p1 f1 h1 => ?_
  split at h1
  · next j =>
    split at h1
    · next hj =>
      obtain ⟨b1, b2⟩ := s62 hj
      cases r1 with
      | cons q t =>
        cases q; cases t
        exact ⟨j, rfl, b1, b2, h1 ρ1 F1 H1 _ R1 p1 f1 (itOk_range 0 _)⟩
    · exact h1.elim
  · exact h1.elim
theorem di_r2 (hg : Gl X "range") (hm : X.mg "range" = none) (ha : DA X cl W [a, b] r) (hs : starEach [a, b] X.env = [(false, eval a X.env), (false, eval b X.env)] := by rfl) (hs2 : starEach [b] X.env = [(false, eval b X.env)] := by rfl) :
    DI X cl W tg (.Call (.Name "range" p) [a, b] [] pos) (iR2 r) := (pi_range2 hg hm ha hs hs2).imp fun σ H Q ⟨l, S, ρ, F, hl, R, h⟩ => by
  refine tA_stepX hl R (satX.of h) fun ds S1 ρ1 F1 H1 vs R1 hl1 r1 p1 f1 h1 => ?_
  split at h1
  · next i j =>
    split at h1
    · next hj =>
      rw [Bool.and_eq_true] at hj
      obtain ⟨b1, b2⟩ := s62 hj.1
      obtain ⟨b3, b4⟩ := s62 hj.2
      cases r1 with
      | cons q t =>
        cases t with
        | cons q' t' =>
          cases q; cases q'; cases t'
          exact ⟨i, j, rfl, ⟨b1, b2, b3, b4⟩, h1 ρ1 F1 H1 _ R1 p1 f1 (itOk_range i _)⟩
    · exact h1.elim
  · exact h1.elim
end

/-! ### for -/
open Classical in
noncomputable def forL (gd : Sto → Prop) (G : GD) (body : Stm) : List D → Stm
  | [], l, S => if gd S then .next l S else .bad
  | d :: ds, l, S => if gd S then (match G d l S with
    | none => .bad
    | some (l1, S1) => match body l1 S1 with
      | .next l2 S2 => forL gd G body ds l2 S2
      | .cont l2 S2 => forL gd G body ds l2 S2
      | .brk l2 S2 => .next l2 S2
      | .ret d S2 => .ret d S2
      | .exc x l2 S2 => .exc x l2 S2
      | .bad => .bad) else .bad
noncomputable def sFor (A : I) (G : GD) (body : Stm) : Stm := fun l S => (A l S).toS l fun q S1 => forL q.gd G body q.items l S1
theorem drop_at {α : Type} {xs : List α} {i : Nat} {d : α} (h : xs[i]? = some d) : xs.drop i = d :: xs.drop (i + 1) := by
  obtain ⟨hi, e⟩ := List.getElem?_eq_some_iff.mp h
  rw [List.drop_eq_getElem_cons hi, e]
section
variable {X : Cx} {cl : Nat → Addr} {W : WX} {A : I} {G : GD} {body : Stm} {tg iter : Expr} {sts : List Stmt} {pos : Pos} {ix : List Nat}
theorem ds_for (hp : PassesOwn (model X.prog X.w) X.A X.env X.xe) (hc : X.calm = true) (hi : DI X cl W tg iter A) (hg : DG X cl ix tg G) (hb : DSs X cl W sts body) (hs : ∀ x, foldedSetIterable iter X.env x = pure x := by intro _; rfl) :
    DS X cl W (.For tg iter sts [] pos) (sFor A G body) := (ps_for hp hc hi hg hb hs).imp fun D σ H ⟨l, S, ρ, F, hl, R, h⟩ => by
  refine ⟨l, S, ρ, F, hl, R, ?_⟩
  have hx := satS.x hl h
  refine hx.mono (List.prefix_refl _) (Le.refl _) fun q S1 h1 ρ1 F1 H1 J R1 p1 f1 ok => ?_
  refine ⟨fun i m σ H => m = q.items.length - i ∧ i ≤ q.items.length ∧ ∃ l S ρ F, LRel (cxt X cl) ρ F σ l ∧ Rel (cxt X cl) ρ F S H ∧ ρ1 <+: ρ ∧ Le F1 F ∧ satS (cxt X cl) W ρ F (forL q.gd G body (q.items.drop i) l S) D, ⟨_, rfl, Nat.zero_le _, l, S1, ρ1, F1, hl.mono p1 f1, R1, List.prefix_refl _, Le.refl _, h1.mono p1 f1⟩, ?_⟩
  rintro i m σ H ⟨rfl, hi, l, S, ρ, F, hl, R, p, f, h⟩
  by_cases hlt : i < q.items.length
  · obtain ⟨d, hd⟩ : ∃ d, q.items[i]? = some d := ⟨_, List.getElem?_eq_getElem hlt⟩
    rw [drop_at hd] at h
    unfold forL at h
    split at h
    · next g =>
      obtain ⟨_, ok2⟩ := ok ρ F S H i p f R g
      obtain ⟨go, yl⟩ := ok2 d hd
      refine .inr ⟨go, _, fun σ' H' h' => ⟨q.items.length - (i + 1), by omega, rfl, hlt, h'⟩, fun x H' y => ?_⟩
      obtain ⟨F', f', R', r'⟩ := yl x H' y
      refine ⟨l, S, ρ, F', d, hl.mono (List.prefix_refl _) f', R', r', ?_⟩
      have h2 := h.mono (List.prefix_refl _) f'
      cases e : G d l S with
      | none => rw [e] at h2; exact h2.elim
      | some q2 =>
        obtain ⟨l1, S2⟩ := q2
        rw [e] at h2
        intro ρ2 F2 H2 σ2 R2 p2 f2 hl2 _
        refine ⟨l1, S2, ρ2, F2, hl2, R2, ?_⟩
        have h3 := h2.mono p2 f2
        dsimp only at h3
        have hle : Le F1 F2 := (f.trans f').trans f2
        cases e2 : body l1 S2 with
        | next l3 S3 =>
          rw [e2] at h3
          exact fun ρ' F'' H'' σ' R'' p' f'' hl' => ⟨l3, S3, ρ', F'', hl', R'', (p.trans p2).trans p', hle.trans f'', h3.mono p' f''⟩
        | cont l3 S3 =>
          rw [e2] at h3
          exact fun ρ' F'' H'' σ' R'' p' f'' hl' => ⟨l3, S3, ρ', F'', hl', R'', (p.trans p2).trans p', hle.trans f'', h3.mono p' f''⟩
        | brk l3 S3 => rw [e2] at h3; exact h3
        | ret v S3 => rw [e2] at h3; exact h3
        | exc x l3 S3 => rw [e2] at h3; exact h3
        | bad => rw [e2] at h3; exact h3
    · exact h.elim
  · have hdr : q.items.drop i = [] := List.drop_eq_nil_of_le (by omega)
    rw [hdr] at h
    unfold forL at h
    split at h
    · next g =>
      obtain ⟨st, _⟩ := ok ρ F S H i p f R g
      exact .inl ⟨st (by omega), h ρ F H σ R (List.prefix_refl _) (Le.refl _) hl⟩
    · exact h.elim
end

/-! ### while -/
def whF (c : T) (body : Stm) : Nat → Stm
  | 0 => fun _ _ => .bad
  | n + 1 => fun l S => (c l S).toS l fun k S1 => if k = true then (match body l S1 with
    | .next l2 S2 => whF c body n l2 S2
    | .cont l2 S2 => whF c body n l2 S2
    | .brk l2 S2 => .next l2 S2
    | .ret d S2 => .ret d S2
    | .exc x l2 S2 => .exc x l2 S2
    | .bad => .bad) else .next l S1
open Classical in
noncomputable def sWhile (c : T) (body : Stm) : Stm := fun l S => if h : ∃ n, whF c body n l S ≠ .bad then whF c body (choose h) l S else .bad
theorem whF_up (c : T) (body : Stm) : ∀ (n : Nat) (l : Loc) (S : Sto), whF c body n l S ≠ .bad → ∀ m, n ≤ m → whF c body m l S = whF c body n l S
  | 0, l, S, h, _, _ => absurd rfl h
  | n + 1, l, S, h, 0, hm => by omega
  | n + 1, l, S, h, m + 1, hm => by
    unfold whF at h ⊢
    cases e : c l S with
    | exc x S1 => rfl
    | bad => rfl
    | ok k S1 =>
      rw [e] at h
      cases k with
      | false => rfl
      | true =>
        simp only [if_true, Res.toS] at h ⊢
        cases e2 : body l S1 with
        | next l2 S2 => rw [e2] at h; exact whF_up c body n l2 S2 h m (by omega)
        | cont l2 S2 => rw [e2] at h; exact whF_up c body n l2 S2 h m (by omega)
        | _ => rfl
theorem sWhile_of {c : T} {body : Stm} {n : Nat} {l : Loc} {S : Sto} {o : Out} (h : whF c body n l S = o) (ho : o ≠ .bad) : sWhile c body l S = o := by
  have hx : ∃ n, whF c body n l S ≠ .bad := ⟨n, by rw [h]; exact ho⟩
  unfold sWhile
  rw [dif_pos hx]
  have h1 := Classical.choose_spec hx
  rcases Nat.le_total n (Classical.choose hx) with hle | hle
  · rw [whF_up c body n l S (by rw [h]; exact ho) _ hle, h]
  · rw [← whF_up c body _ l S h1 _ hle, h]
theorem whF_mk {c : T} {body : Stm} {l : Loc} {S : Sto} (h : sWhile c body l S ≠ .bad) : ∃ n, whF c body n l S = sWhile c body l S ∧ whF c body n l S ≠ .bad := by
  unfold sWhile at h ⊢
  split at h
  · next hx => exact ⟨_, by rw [dif_pos hx], Classical.choose_spec hx⟩
  · exact absurd rfl h
section
variable {X : Cx} {cl : Nat → Addr} {W : WX} {c : T} {body : Stm} {e : Expr} {sts : List Stmt} {pos : Pos}
theorem ds_while (hp : PassesOwn (model X.prog X.w) X.A X.env X.xe) (hc : DT X cl W e c) (hb : DSs X cl W sts body) : DS X cl W (.While e sts [] pos) (sWhile c body) := (ps_while hp hc hb).imp fun D σ H ⟨l, S, ρ, F, hl, R, h⟩ => by
  have hne : sWhile c body l S ≠ .bad := fun z => by rw [z] at h; exact h
  obtain ⟨n0, hn0, _⟩ := whF_mk hne
  rw [← hn0] at h
  refine ⟨fun n σ H => ∃ l S ρ F, LRel (cxt X cl) ρ F σ l ∧ Rel (cxt X cl) ρ F S H ∧ satS (cxt X cl) W ρ F (whF c body n l S) D, ⟨n0, l, S, ρ, F, hl, R, h⟩, ?_⟩
  rintro m σ H ⟨l, S, ρ, F, hl, R, h⟩
  cases m with
  | zero => exact h.elim
  | succ m =>
    unfold whF at h
    refine tT_stepX hl R (satS.x hl h) fun k S1 ρ1 F1 H1 R1 hl1 p1 f1 h1 => ?_
    have h2 := satS.mono p1 f1 h1
    cases k with
    | false =>
      rw [if_neg Bool.false_ne_true] at h2 ⊢
      exact h2 ρ1 F1 H1 σ R1 (List.prefix_refl _) (Le.refl _) hl1
    | true =>
      rw [if_pos rfl] at h2 ⊢
      refine ⟨_, fun σ' H' h' => ⟨m, Nat.lt_succ_self _, h'⟩, l, S1, ρ1, F1, hl1, R1, ?_⟩
      cases e2 : body l S1 with
      | next l3 S3 => rw [e2] at h2; exact fun ρ' F'' H'' σ' R'' p' f'' hl' => ⟨l3, S3, ρ', F'', hl', R'', h2.mono p' f''⟩
      | cont l3 S3 => rw [e2] at h2; exact fun ρ' F'' H'' σ' R'' p' f'' hl' => ⟨l3, S3, ρ', F'', hl', R'', h2.mono p' f''⟩
      | brk l3 S3 => rw [e2] at h2; exact h2
      | ret v S3 => rw [e2] at h2; exact h2
      | exc x l3 S3 => rw [e2] at h2; exact h2
      | bad => rw [e2] at h2; exact h2
end

/-! ### comprehensions (no exception leaves their elements) -/
abbrev W0 : WX := fun _ _ _ _ => False
def wipeL (l : Loc) : List Nat → Loc
  | [] => l
  | i :: is => (wipeL l is).set i none
theorem LRel.wipe {C : Ct} {ρ : List Addr} {F : Hp} {σ : L2.St} {l : Loc} (h : LRel C ρ F σ l) : ∀ vs : List Nat, LRel C ρ F (L2.wipe σ vs) (wipeL l vs)
  | [] => h
  | i :: vs => by
    unfold L2.wipe wipeL
    have q := LRel.wipe h vs
    refine ⟨by simp [q.1], fun j d e => ?_⟩
    by_cases hj : i = j
    · subst hj
      rw [List.getElem?_set] at e
      split at e
      · split at e <;> cases e
      · exact absurd rfl (by assumption)
    · rw [List.getElem?_set_ne hj] at e ⊢
      exact q.2 j d e
/-- an item put behind, in the cell n -/
def pushC (n : Nat) (y : D) (S : Sto) : Option Sto := match S[n]? with
  | some (.lst acc) => if acc.length < sizeLine then some (S.set n (.lst (acc ++ [y]))) else none
  | _ => none
open Classical in
noncomputable def lcL (gd : Sto → Prop) (G : GD) (tt : T) (el : E) (n : Nat) : List D → Loc → Sto → Res Unit
  | [], l, S => if gd S then .ok () S else .bad
  | d :: ds, l, S => if gd S then (match G d l S with
    | none => .bad
    | some (l1, S1) => (tt l1 S1).bind fun k S2 => if k = true then ((el l1 S2).bind fun y S3 => match pushC n y S3 with
        | some S4 => lcL gd G tt el n ds l S4
        | none => .bad) else lcL gd G tt el n ds l S2) else .bad
def nox {α : Type} (r : Res α) : Res α := match r with
  | .exc _ _ => .bad
  | r => r
noncomputable def eLcX (m : Mode) (A : I) (G : GD) (tt : T) (el : E) (own : List Nat) : E := fun l S => (A l S).bind fun q S1 =>
  (nox (lcL q.gd G tt el S1.length q.items (wipeL l own) (S1 ++ [.lst []]))).bind fun _ S2 => exitM m S1 (.ref S1.length) S2
noncomputable abbrev eLc := eLcX .fr
noncomputable abbrev eLcM := eLcX .nw
def tTrue : T := fun _ S => .ok true S
section
variable {X : Cx} {cl : Nat → Addr}
abbrev DTs (X : Cx) (cl : Nat → Addr) (W : WX) (ifs : List Expr) (c : T) : Prop := PTs X ifs (tT (cxt X cl) W c)
theorem dts_nil {W : WX} : DTs X cl W [] tTrue := ⟨fun pins s σ H Q I ⟨l, S, ρ, F, hl, R, h⟩ => pts_nil.run pins s σ H Q I (h ρ F H R (List.prefix_refl _) (Le.refl _))⟩
theorem dts_one {W : WX} {e : Expr} {c : T} (h : DT X cl W e c) : DTs X cl W [e] c := pts_one h
theorem satX.nx {α : Type} {C : Ct} {ρ : List Addr} {F : Hp} {σ : L2.St} {r : Res α} {ok : α → Sto → Prop} (h : ∀ d S, r = .ok d S → ok d S) (hx : ∀ x S, r ≠ .exc x S) (hb : r ≠ .bad) : satX C W0 ρ F σ r ok := by
  cases r with
  | ok d S => exact h d S rfl
  | exc x S => exact absurd rfl (hx x S)
  | bad => exact absurd rfl hb
theorem pushC_some {n : Nat} {y : D} {S S' : Sto} (h : pushC n y S = some S') : ∃ acc, S[n]? = some (.lst acc) ∧ acc.length < sizeLine ∧ S' = S.set n (.lst (acc ++ [y])) := by
  unfold pushC at h
  split at h
  · next acc e =>
    split at h
    · next hz => exact ⟨acc, e, hz, (Option.some.inj h).symm⟩
    · cases h
  · cases h
/-- the kit's term of a list's walk, from this layer's -/
theorem lc_term {W : WX} {m : Mode} {A : I} {G : GD} {tt : T} {el : E} {ix : List Nat} {own : List Nat} (hix : ∀ i ∈ ix, i ∈ own) {σ : L2.St} {H : Hp} {Q : VK} (h : tE (cxt X cl) W (eLcX m A G tt el own) σ H Q) :
    tLc (tI (cxt X cl) W A) (tG (cxt X cl) ix G) (tT (cxt X cl) W0 tt) (tE (cxt X cl) W0 el) own σ H Q := by
  obtain ⟨l, S, ρ, F, hl, R, h⟩ := h
  refine ⟨l, S, ρ, F, hl, R, ?_⟩
  have hx := satE.x h
  refine hx.mono (List.prefix_refl _) (Le.refl _) fun q S1 h1 ρ1 F1 H1 J R1 p1 f1 ok' D hD => ?_
  have pr : ρ1 <+: ρ1 ++ [D] := List.prefix_append _ _
  have R2 : Rel (cxt X cl) (ρ1 ++ [D]) F1 (S1 ++ [.lst []]) (upd H1 D (.lst [])) := R1.lay hD ⟨[], upd_same, .nil⟩ (by intro z; cases z)
  have hDn : (ρ1 ++ [D])[S1.length]? = some D := by rw [← R1.len]; exact ref_last
  have hlw := (hl.mono p1 f1).wipe own
  -- the loop from turn i on
  let P := fun (i : Nat) (H : Hp) => ∃ l' S ρ F, LRel (cxt X cl) ρ F (L2.wipe σ own) l' ∧ Rel (cxt X cl) ρ F S H ∧ (ρ1 ++ [D]) <+: ρ ∧ Le F1 F ∧ l' = wipeL l own ∧
    ∃ S2, lcL q.gd G tt el S1.length (q.items.drop i) l' S = .ok () S2 ∧ satE (cxt X cl) W ρ1 F1 σ (exitM m S1 (.ref S1.length) S2) Q
  have P0 : P 0 (upd H1 D (.lst [])) := by
    cases e : lcL q.gd G tt el S1.length q.items (wipeL l own) (S1 ++ [.lst []]) with
    | ok u S2 =>
      rw [e] at h1
      exact ⟨_, _, _, _, hlw.mono pr (Le.refl _), R2, List.prefix_refl _, Le.refl _, rfl, S2, e, satE.mono p1 f1 h1⟩
    | exc x S2 => rw [e] at h1; exact h1.elim
    | bad => rw [e] at h1; exact h1.elim
  refine ⟨fun i m H => m = q.items.length - i ∧ i ≤ q.items.length ∧ P i H, ⟨_, rfl, Nat.zero_le _, P0⟩, ?_⟩
  rintro i m H ⟨rfl, hi, l', S, ρ, F, hl', R, p, f, el', S2, e, fin⟩
  by_cases hlt : i < q.items.length
  · obtain ⟨d, hd⟩ : ∃ d, q.items[i]? = some d := ⟨_, List.getElem?_eq_getElem hlt⟩
    rw [drop_at hd] at e
    unfold lcL at e
    split at e
    · next g =>
      obtain ⟨_, ok2⟩ := ok' ρ F S H i (pr.trans p) f R g
      obtain ⟨go, yl⟩ := ok2 d hd
      refine .inr ⟨go, fun H => P (i + 1) H, fun H' h' => ⟨q.items.length - (i + 1), by omega, rfl, hlt, h'⟩, fun x H' y => ?_⟩
      obtain ⟨F', f', R', r'⟩ := yl x H' y
      refine ⟨l', S, ρ, F', d, hl'.mono (List.prefix_refl _) f', R', r', ?_⟩
      cases e1 : G d l' S with
      | none => rw [e1] at e; cases e
      | some q2 =>
        obtain ⟨l1, S3⟩ := q2
        rw [e1] at e
        intro ρ2 F2 H2 σ2 R2' p2 f2 hl2 kp
        have e' : ((tt l1 S3).bind fun k S2 => if k = true then ((el l1 S2).bind fun y S3 => match pushC S1.length y S3 with
          | some S4 => lcL q.gd G tt el S1.length (q.items.drop (i + 1)) l' S4
          | none => .bad) else lcL q.gd G tt el S1.length (q.items.drop (i + 1)) l' S2) = .ok () S2 := e
        have wk : L2.wipe σ2 own = L2.wipe (L2.wipe σ own) own := kp _ hix
        have ww : ∀ (vs : List Nat) (σ : L2.St), L2.wipe (L2.wipe σ vs) vs = L2.wipe σ vs := by
          intro vs σ
          refine List.ext_getElem? fun j => ?_
          have l1 := wipe_length (L2.wipe σ vs) vs
          have l2 := wipe_length σ vs
          by_cases hj : j ∈ vs
          · cases e3 : (L2.wipe (L2.wipe σ vs) vs)[j]? with
            | none =>
              rw [List.getElem?_eq_none_iff] at e3
              rw [List.getElem?_eq_none_iff.mpr (by omega)]
            | some o =>
              cases o with
              | some x => exact absurd hj (wipe_some e3).2
              | none =>
                have hlt := (List.getElem?_eq_some_iff.mp e3).1
                cases e4 : (L2.wipe σ vs)[j]? with
                | none => rw [List.getElem?_eq_none_iff] at e4; omega
                | some o2 =>
                  cases o2 with
                  | none => rfl
                  | some x => exact absurd hj (wipe_some e4).2
          · rw [wipe_out hj]
        refine ⟨by rw [wk, ww], ?_⟩
        cases e2 : tt l1 S3 with
        | exc x S4 => rw [e2] at e'; cases e'
        | bad => rw [e2] at e'; cases e'
        | ok k S4 =>
          rw [e2] at e'
          have e'' : (if k = true then ((el l1 S4).bind fun y S3 => match pushC S1.length y S3 with
            | some S4 => lcL q.gd G tt el S1.length (q.items.drop (i + 1)) l' S4
            | none => .bad) else lcL q.gd G tt el S1.length (q.items.drop (i + 1)) l' S4) = .ok () S2 := e'
          refine tT_stepX hl2 R2' (ok := fun k' S' => k' = k ∧ S' = S4) (satX.nx (by rw [e2]; intro d S z; cases z; exact ⟨rfl, rfl⟩) (by rw [e2]; intro _ _ z; cases z) (by rw [e2]; intro z; cases z)) fun k' S5 ρ3 F3 H3 R3 hl3 p3 f3 hk => ?_
          obtain ⟨rfl, rfl⟩ := hk
          have hle : Le F1 F3 := ((f.trans f').trans f2).trans f3
          have hpp := (p.trans p2).trans p3
          have back : LRel (cxt X cl) ρ3 F3 (L2.wipe σ own) l' := hl'.mono (p2.trans p3) ((f'.trans f2).trans f3)
          cases k' with
          | false =>
            rw [if_neg Bool.false_ne_true] at e'' ⊢
            exact ⟨l', S5, ρ3, F3, back, R3, hpp, hle, el', S2, e'', fin⟩
          | true =>
            rw [if_pos rfl] at e'' ⊢
            cases e3 : el l1 S5 with
            | exc x S4 => rw [e3] at e''; cases e''
            | bad => rw [e3] at e''; cases e''
            | ok y0 S6 =>
              rw [e3] at e''
              refine tE_stepX hl3 R3 (ok := fun y' S' => y' = y0 ∧ S' = S6) (satX.nx (by rw [e3]; intro d S z; cases z; exact ⟨rfl, rfl⟩) (by rw [e3]; intro _ _ z; cases z) (by rw [e3]; intro z; cases z)) fun y' S7 ρ4 F4 H4 vy R4 hl4 ry p4 f4 hk => ?_
              obtain ⟨rfl, rfl⟩ := hk
              have e4 : (match pushC S1.length y' S7 with
                | some S4 => lcL q.gd G tt el S1.length (q.items.drop (i + 1)) l' S4
                | none => .bad) = .ok () S2 := e''
              cases e5 : pushC S1.length y' S7 with
              | none => rw [e5] at e4; cases e4
              | some S8 =>
                rw [e5] at e4
                obtain ⟨acc, ha, hz, rfl⟩ := pushC_some e5
                have hp4 := hpp.trans p4
                have hD4 := pre_get hp4 hDn
                obtain ⟨vs, hv, ra⟩ := R4.cell _ _ _ hD4 ha
                refine ⟨vs, hv, by rw [ra.len]; exact hz, l', _, ρ4, F4, back.mono p4 f4, R4.put (c' := .lst (acc ++ [y'])) hD4 ha (by intro z; cases z) ⟨vs ++ [vy], upd_same, ra.snoc ry⟩ (by intro z; cases z), hp4, hle.trans f4, el', S2, e4, fin⟩
    · cases e
  · have hdr : q.items.drop i = [] := List.drop_eq_nil_of_le (by omega)
    rw [hdr] at e
    unfold lcL at e
    split at e
    · next g =>
      obtain ⟨st, _⟩ := ok' ρ F S H i (pr.trans p) f R g
      cases e
      refine .inl ⟨st (by omega), ?_⟩
      rcases exitM_cases m S1 (.ref S1.length) S with ⟨e0, S3, e1⟩ | e1
      · rw [e1] at fin
        obtain ⟨ρ2, F2, R5, p5, f5, r5⟩ := exitM_ok R1 (pr.trans p) R f (.ref (pre_get p hDn)) e1
        exact fin ρ2 F2 H (.ref D) R5 p5 f5 r5
      · rw [e1] at fin; exact fin.elim
    · cases e
theorem de_lc {W : WX} (m : Mode) {A : I} {G : GD} {tt : T} {el : E} {ix : List Nat} {elt tg iter : Expr} {ifs : List Expr} {scope : Scope} {own : List (Str × Nat)} {pos : Pos} (hc : X.calm = true) (hN : X.N.Nodup) (hi : DI X cl W tg iter A) (ok : BlkOk X.N X.env.scope scope own) (hix : ∀ i ∈ ix, i ∈ own.map (·.2))
    (hg : ∀ (s : Shared) (H : Hp) (C : Addr) (c : List (Str × Addr)) (fp : List Addr), DG (X.blk s H scope (compEnvC scope c C X.env) fp) cl ix tg G)
    (ht : ∀ (s : Shared) (H : Hp) (C : Addr) (c : List (Str × Addr)) (fp : List Addr), DTs (X.blk s H scope (compEnvC scope c C X.env) fp) cl W0 ifs tt)
    (he : ∀ (s : Shared) (H : Hp) (C : Addr) (c : List (Str × Addr)) (fp : List Addr), DE (X.blk s H scope (compEnvC scope c C X.env) fp) cl W0 elt el) (hs : ∀ x, foldedSetIterable iter X.env x = pure x := by intro _; rfl) :
    DE X cl W (.ListComp elt [⟨tg, iter, ifs, 0⟩] scope pos) (eLcX m A G tt el (own.map (·.2))) :=
  (pe_lc (g := tG (cxt X cl) ix G) (tt := tT (cxt X cl) W0 tt) (te := tE (cxt X cl) W0 el) hc hN hi ok hg ht he hs).imp fun _ _ _ h => lc_term hix h
/-- name = [..] on one line -/
theorem ds_setLc {W : WX} (m : Mode) {A : I} {G : GD} {tt : T} {el : E} {ix : List Nat} {i : Nat} {y : Str} {py : Pos} {elt tg iter : Expr} {ifs : List Expr} {scope : Scope} {own : List (Str × Nat)} {pos spos : Pos} (hc : X.calm = true) (hN : X.N.Nodup) (hy : X.N[i]? = some y) (hyl : X.env.scope.names.lookup y = some .local)
    (hsw : swapsWith (.ListComp elt [⟨tg, iter, ifs, 0⟩] scope pos) (some (.Name y py)) spos.line X.env = pure true) (hi : DI X cl W tg iter A) (ok : BlkOk X.N X.env.scope scope own) (hix : ∀ i ∈ ix, i ∈ own.map (·.2))
    (hg : ∀ (s : Shared) (H : Hp) (C : Addr) (c : List (Str × Addr)) (fp : List Addr), DG (X.blk s H scope (compEnvC scope c C X.env) fp) cl ix tg G)
    (ht : ∀ (s : Shared) (H : Hp) (C : Addr) (c : List (Str × Addr)) (fp : List Addr), DTs (X.blk s H scope (compEnvC scope c C X.env) fp) cl W0 ifs tt)
    (he : ∀ (s : Shared) (H : Hp) (C : Addr) (c : List (Str × Addr)) (fp : List Addr), DE (X.blk s H scope (compEnvC scope c C X.env) fp) cl W0 elt el) (hs : ∀ x, foldedSetIterable iter X.env x = pure x := by intro _; rfl) :
    DS X cl W (.Assign [.Name y py] (.ListComp elt [⟨tg, iter, ifs, 0⟩] scope pos) spos) (sSet i (eLcX m A G tt el (own.map (·.2)))) :=
  (ps_setLc (g := tG (cxt X cl) ix G) (tt := tT (cxt X cl) W0 tt) (te := tE (cxt X cl) W0 el) hc hN hy hyl hsw hi ok hg ht he hs).imp fun D σ H ⟨l, S, ρ, F, hl, R, h⟩ => by
  have q : tE (cxt X cl) W (eLcX m A G tt el (own.map (·.2))) σ H fun x H1 => gName i x σ H1 D.nx := tE_stepX hl R (satS.x hl h) fun d S1 ρ1 F1 H1 v R1 hl1 r1 p1 f1 h1 => h1 ρ1 F1 H1 _ R1 p1 f1 (hl1.set i r1)
  exact lc_term hix q
end
end DL

/-! DL8: chains, built-in functions, methods of lists, storing an item, calls of defs. -/
namespace DL
open PySem PySem.Spec PyProof.Rows L2

/-! ### a op1 b op2 c -/
def eChain (g g' : D → D → Sto → Res D) (A B Cc : E) : E := fun l S => (A l S).bind fun x S1 => (B l S1).bind fun y S2 => (g x y S2).bind fun z S3 => (isBl z S3).bind fun k S4 =>
  if k = true then (Cc l S4).bind fun u S5 => g' y u S5 else .ok (.bl false) S4
section
variable {X : Cx} {cl : Nat → Addr} {W : WX} {A B Cc : E} {a b c : Expr} {pos : Pos} {op op' : CmpOp} {g g' : D → D → Sto → Res D}
/-- a rule whose answer never raises and keeps the store -/
def Calm2 (g : D → D → Sto → Res D) : Prop := ∀ x y S, (∃ d, g x y S = .ok d S) ∨ g x y S = .bad
theorem calm_ord (p : Int → Int → Bool) : Calm2 (ordD p) := fun x y S => by
  unfold ordD
  split
  · exact .inl ⟨_, rfl⟩
  · exact .inr rfl
theorem tChain_of (hg : Calm2 g) {σ : L2.St} {H : Hp} {Q : VK} (h : tE (cxt X cl) W (eChain g g' A B Cc) σ H Q) : tChain (rD2 (cxt X cl) W g) (rD2 (cxt X cl) W g') (tE (cxt X cl) W A) (tE (cxt X cl) W B) (tE (cxt X cl) W Cc) σ H Q := by
  obtain ⟨l, S, ρ, F, hl, R, h⟩ := h
  refine tE_stepX hl R (satE.x h) fun x S1 ρ1 F1 H1 v R1 hl1 r1 p1 f1 h1 => ?_
  refine tE_stepX hl1 R1 (satE.x (satE.mono p1 f1 h1)) fun y S2 ρ2 F2 H2 u R2 hl2 r2 p2 f2 h2 => ?_
  have h3 := satE.mono p2 f2 h2
  rcases hg x y S2 with ⟨d, e⟩ | e
  · rw [e] at h3
    refine ⟨ρ2, F2, S2, σ, x, y, R2, r1.mono p2 f2, r2, ?_⟩
    rw [e]
    intro ρ3 F3 H3 z R3 p3 f3 rz
    rcases isBl_cases d S2 with ⟨k, rfl, e2⟩ | e2
    · cases rz
      refine ⟨k, rfl, ?_⟩
      have h4 : satE (cxt X cl) W ρ2 F2 σ ((isBl (.bl k) S2).bind fun k S4 => if k = true then (Cc l S4).bind fun u S5 => g' y u S5 else .ok (.bl false) S4) Q := h3
      rw [e2] at h4
      have h5 : satE (cxt X cl) W ρ3 F3 σ (if k = true then (Cc l S2).bind fun u S5 => g' y u S5 else .ok (.bl false) S2) Q := satE.mono p3 f3 h4
      cases k with
      | false => rw [if_neg Bool.false_ne_true] at h5 ⊢; exact satE.now h5 R3 (.bl false)
      | true =>
        rw [if_pos rfl] at h5 ⊢
        refine tE_stepX (hl2.mono p3 f3) R3 (satE.x h5) fun u' S5 ρ4 F4 H4 w' R4 hl4 r4 p4 f4 h6 => ?_
        exact ⟨ρ4, F4, S5, σ, y, u', R4, (r2.mono p3 f3).mono p4 f4, r4, satE.mono p4 f4 h6⟩
    · have h4 : satE (cxt X cl) W ρ2 F2 σ ((isBl d S2).bind fun k S4 => if k = true then (Cc l S4).bind fun u S5 => g' y u S5 else .ok (.bl false) S4) Q := h3
      rw [e2] at h4; exact h4.elim
  · rw [e] at h3; exact h3.elim
theorem de_chain (ho : OpD X cl W (compareOp op) g) (ho' : OpD X cl W (compareOp op') g') (hg : Calm2 g) (ha : DE X cl W a A) (hb : DE X cl W b B) (hc : DE X cl W c Cc)
    (hm : lastMarks [op, op'] [b, c] = false := by with_unfolding_all rfl) : DE X cl W (.Compare a [op, op'] [b, c] pos) (eChain g g' A B Cc) := (pe_chain ho ho' ha hb hc hm).imp fun _ _ _ h => tChain_of hg h
theorem dt_chain (ho : OpD X cl W (compareOp op) g) (ho' : OpD X cl W (compareOp op') g') (hg : Calm2 g) (ha : DE X cl W a A) (hb : DE X cl W b B) (hc : DE X cl W c Cc)
    (hm : lastMarks [op, op'] [b, c] = false := by with_unfolding_all rfl) : DT X cl W (.Compare a [op, op'] [b, c] pos) (tVal (eChain g g' A B Cc)) := (pt_chain ho ho' ha hb hc hm).imp fun σ H Q h => tChain_of hg (tB_of h)
end

/-! ### built-in functions -/
def lenD (ds : List D) (S : Sto) : Res D := match ds with
  | [.str s] => if s.length ≤ sizeLine then .ok (.int s.length) S else .bad
  | [d] => (match seqOf S d with | some xs => .ok (.int xs.length) S | none => .bad)
  | _ => .bad
def absD (ds : List D) (S : Sto) : Res D := match ds with
  | [.int i] => .ok (.int (if i < 0 then -i else i)) S
  | _ => .bad
def divmodD (ds : List D) (S : Sto) : Res D := match ds with
  | [.int i, .int j] => if divOk j = true then .ok (.tup [.int (i / j), .int (i % j)]) S else .bad
  | _ => .bad
def maxD (ds : List D) (S : Sto) : Res D := match ds with
  | [.int i, .int j] => .ok (.int (if j > i then j else i)) S
  | _ => .bad
def minD (ds : List D) (S : Sto) : Res D := match ds with
  | [.int i, .int j] => .ok (.int (if j < i then j else i)) S
  | _ => .bad
def intD (ds : List D) (S : Sto) : Res D := match ds with
  | [.int i] => .ok (.int i) S
  | [.bl b] => .ok (.int (if b then 1 else 0)) S
  | _ => .bad
def strD (ds : List D) (S : Sto) : Res D := match ds with
  | [.int i] => if i.natAbs.log2 < 1920 then .ok (.str (toString i)) S else .bad
  | _ => .bad
def listD (ds : List D) (S : Sto) : Res D := match ds with
  | [d] => (match seqOf S d with | some xs => .ok (.lst xs) S | none => .bad)
  | _ => .bad
def listDM (ds : List D) (S : Sto) : Res D := match ds with
  | [d] => (match seqOf S d with | some xs => newCell xs S | none => .bad)
  | _ => .bad
def tupleD (ds : List D) (S : Sto) : Res D := match ds with
  | [d] => (match seqOf S d with | some xs => .ok (.tup xs) S | none => .bad)
  | _ => .bad
def asBls : List D → Option (List Bool)
  | [] => some []
  | .bl b :: ds => (asBls ds).map (b :: ·)
  | _ => none
def asInts : List D → Option (List Int)
  | [] => some []
  | .int b :: ds => (asInts ds).map (b :: ·)
  | _ => none
def allD (ds : List D) (S : Sto) : Res D := match ds with
  | [d] => (match (listOf S d).bind asBls with | some bs => .ok (.bl (bs.all id)) S | none => .bad)
  | _ => .bad
def sumD (ds : List D) (S : Sto) : Res D := match ds with
  | [d] => (match (listOf S d).bind asInts with | some bs => .ok (.int bs.sum) S | none => .bad)
  | _ => .bad
section
variable {C : Ct} {ρ : List Addr} {F : Hp}
theorem rep_bls : ∀ {vs : List V} {ds : List D} {bs : List Bool}, RepAll C ρ F vs ds → asBls ds = some bs → vs = bs.map V.bl
  | _, _, bs, .nil, e => by cases e; rfl
  | _, _, bs, .cons (d := d) (ds := ds) r t, e => by
    cases r with
    | bl b =>
      unfold asBls at e
      cases e2 : asBls ds with
      | none => rw [e2] at e; cases e
      | some cs => rw [e2] at e; cases e; rw [rep_bls t e2]; rfl
    | _ => exact nomatch e
theorem rep_ints : ∀ {vs : List V} {ds : List D} {bs : List Int}, RepAll C ρ F vs ds → asInts ds = some bs → vs = bs.map V.int
  | _, _, bs, .nil, e => by cases e; rfl
  | _, _, bs, .cons (d := d) (ds := ds) r t, e => by
    cases r with
    | int b =>
      unfold asInts at e
      cases e2 : asInts ds with
      | none => rw [e2] at e; cases e
      | some cs => rw [e2] at e; cases e; rw [rep_ints t e2]; rfl
    | _ => exact nomatch e
end
section
variable {X : Cx} {cl : Nat → Addr} {W : WX}
theorem cd_len : CallD X cl W (.builtin "len") lenD := call_len.weak fun xs H Q ⟨ρ, F, S, σ, ds, R, ra, h⟩ => by
  unfold lenD at h
  split at h
  · cases ra with
    | cons r t =>
      cases r; cases t
      split at h
      · next hz => exact ⟨_, _, rfl, ⟨hz, rfl⟩, h.now R (.int _)⟩
      · exact h.elim
  · split at h
    · next xs' hs =>
      cases ra with
      | cons r t =>
        cases t
        obtain ⟨a, vs, rfl, hq, ra⟩ := rep_seq R r hs
        have fin := h.now R (.int _)
        rw [← ra.len] at fin
        rcases hq with hq | hq
        · exact ⟨_, _, rfl, .inl ⟨vs, hq, rfl⟩, fin⟩
        · exact ⟨_, _, rfl, .inr ⟨vs, hq, rfl⟩, fin⟩
    · exact h.elim
  · exact h.elim
theorem cd_abs : CallD X cl W (.builtin "abs") absD := call_abs.weak fun xs H Q ⟨ρ, F, S, σ, ds, R, ra, h⟩ => by
  unfold absD at h
  split at h
  · cases ra with
    | cons r t => cases r; cases t; exact ⟨_, rfl, h.now R (.int _)⟩
  · exact h.elim
theorem divOk_p {i j : Int} (h : divOk j = true) : CDivP i j := by
  unfold divOk at h
  rw [Bool.and_eq_true] at h
  exact ⟨of_decide_eq_true h.1, PyProof.noPylong_of_log2 (of_decide_eq_true h.2)⟩
theorem cd_divmod : CallD X cl W (.builtin "divmod") divmodD := call_divmodW.weak fun xs H Q ⟨ρ, F, S, σ, ds, R, ra, h⟩ => by
  unfold divmodD at h
  split at h
  · cases ra with
    | cons r t => cases t with
      | cons r' t' =>
        cases r; cases r'; cases t'
        split at h
        · next hk => exact ⟨_, _, rfl, divOk_p hk, fun p hp => h.newT R (.cons (.int _) (.cons (.int _) .nil)) hp⟩
        · exact h.elim
  · exact h.elim
theorem cd_max (hc : X.calm = true) : CallD X cl W (.builtin "max") maxD := (call_max2 hc).weak fun xs H Q ⟨ρ, F, S, σ, ds, R, ra, h⟩ => by
  unfold maxD at h
  split at h
  · cases ra with
    | cons r t => cases t with
      | cons r' t' => cases r; cases r'; cases t'; exact ⟨_, _, rfl, h.now R (.int _)⟩
  · exact h.elim
theorem cd_min (hc : X.calm = true) : CallD X cl W (.builtin "min") minD := (call_min2 hc).weak fun xs H Q ⟨ρ, F, S, σ, ds, R, ra, h⟩ => by
  unfold minD at h
  split at h
  · cases ra with
    | cons r t => cases t with
      | cons r' t' => cases r; cases r'; cases t'; exact ⟨_, _, rfl, h.now R (.int _)⟩
  · exact h.elim
theorem cd_int : CallD X cl W (.type "int") intD := call_int1.weak fun xs H Q ⟨ρ, F, S, σ, ds, R, ra, h⟩ => by
  unfold intD at h
  split at h
  · cases ra with
    | cons r t => cases r; cases t; exact .inl ⟨_, rfl, h.now R (.int _)⟩
  · cases ra with
    | cons r t => cases r; cases t; exact .inr ⟨_, rfl, h.now R (.int _)⟩
  · exact h.elim
theorem cd_str : CallD X cl W (.type "str") strD := call_str_int.weak fun xs H Q ⟨ρ, F, S, σ, ds, R, ra, h⟩ => by
  unfold strD at h
  split at h
  · cases ra with
    | cons r t =>
      cases r; cases t
      split at h
      · next hk => exact ⟨_, rfl, hk, h.now R (.str _)⟩
      · exact h.elim
  · exact h.elim
theorem cd_list : CallD X cl W (.type "list") listD := call_list_of.weak fun xs H Q ⟨ρ, F, S, σ, ds, R, ra, h⟩ => by
  unfold listD at h
  split at h
  · split at h
    · next xs' hs =>
      cases ra with
      | cons r t =>
        cases t
        obtain ⟨a, vs, rfl, hq, ra⟩ := rep_seq R r hs
        exact ⟨a, vs, rfl, hq, fun p hp => h.newL R ra hp⟩
    · exact h.elim
  · exact h.elim
theorem cd_listM : CallD X cl W (.type "list") listDM := call_list_of.weak fun xs H Q ⟨ρ, F, S, σ, ds, R, ra, h⟩ => by
  unfold listDM at h
  split at h
  · split at h
    · next xs' hs =>
      cases ra with
      | cons r t =>
        cases t
        obtain ⟨a, vs, rfl, hq, ra⟩ := rep_seq R r hs
        exact ⟨a, vs, rfl, hq, fun p hp => h.newM R ra hp⟩
    · exact h.elim
  · exact h.elim
theorem cd_tuple : CallD X cl W (.type "tuple") tupleD := call_tuple_of.weak fun xs H Q ⟨ρ, F, S, σ, ds, R, ra, h⟩ => by
  unfold tupleD at h
  split at h
  · next d =>
    split at h
    · next xs' hs =>
      cases ra with
      | cons r t =>
        cases t
        by_cases hd : ∃ ys, d = .tup ys
        · obtain ⟨ys, rfl⟩ := hd
          obtain rfl := Option.some.inj (show some ys = some xs' from hs)
          obtain ⟨a, vs, rfl, hq, ra⟩ := rep_tup R r
          exact ⟨a, vs, rfl, .inr ⟨hq, h.now R r⟩⟩
        · have hl : listOf S d = some xs' := by
            cases d with
            | tup ys => exact absurd ⟨ys, rfl⟩ hd
            | _ => exact hs
          obtain ⟨a, vs, rfl, hq, ra⟩ := rep_list R r hl
          exact ⟨a, vs, rfl, .inl ⟨hq, fun p hp => h.newT R ra hp⟩⟩
    · exact h.elim
  · exact h.elim
theorem cd_all (hc : X.calm = true) : CallD X cl W (.builtin "all") allD := (cr_all hc).weak fun xs H Q ⟨ρ, F, S, σ, ds, R, ra, h⟩ => by
  unfold allD at h
  split at h
  · next d =>
    cases e : listOf S d with
    | none => rw [e] at h; exact h.elim
    | some ys =>
      rw [e] at h
      cases e2 : asBls ys with
      | none => simp only [Option.bind, e2] at h; exact h.elim
      | some bs =>
        simp only [Option.bind, e2] at h
        cases ra with
        | cons r t =>
          cases t
          obtain ⟨a, vs, rfl, hq, ra⟩ := rep_list R r e
          rw [rep_bls ra e2] at hq
          exact ⟨a, bs, rfl, hq, h.now R (.bl _)⟩
  · exact h.elim
theorem cd_sum (hc : X.calm = true) : CallD X cl W (.builtin "sum") sumD := (cr_sum hc).weak fun xs H Q ⟨ρ, F, S, σ, ds, R, ra, h⟩ => by
  unfold sumD at h
  split at h
  · next d =>
    cases e : listOf S d with
    | none => rw [e] at h; exact h.elim
    | some ys =>
      rw [e] at h
      cases e2 : asInts ys with
      | none => simp only [Option.bind, e2] at h; exact h.elim
      | some bs =>
        simp only [Option.bind, e2] at h
        cases ra with
        | cons r t =>
          cases t
          obtain ⟨a, vs, rfl, hq, ra⟩ := rep_list R r e
          rw [rep_ints ra e2] at hq
          exact ⟨a, bs, rfl, hq, h.now R (.int _)⟩
  · exact h.elim
end

/-! ### isinstance -/
def tyD (S : Sto) : D → Option String
  | .non => some "NoneType"
  | .bl _ => some "bool"
  | .int _ => some "int"
  | .str _ => some "str"
  | .tup _ => some "tuple"
  | .lst _ => some "list"
  | .dic _ _ => some "dict"
  | .ref n => (match S[n]? with
    | some (.lst _) => some "list"
    | some (.dic _ _) => some "dict"
    | _ => none)
  | .exc _ => none
def isiD (T : String) (d : D) (S : Sto) : Res D := match (tyD S d).bind fun t => kitB t T with
  | some b => .ok (.bl b) S
  | none => .bad
section
variable {X : Cx} {cl : Nat → Addr} {W : WX} {A : E} {e : Expr} {T : String}
theorem kit_ofD {pins : List (Addr × Obj)} {σ : L2.St} {s : Shared} {ρ : List Addr} {F H : Hp} {S : Sto} {v : V} {u : Value} {d : D} {t : String} (I : Inv X pins σ H s) (R : Rel (cxt X cl) ρ F S H) (rv : RelV v u) (r : RepD (cxt X cl) ρ F v d) (h : tyD S d = some t) :
    ∃ P : Heap → Prop, PySem.W.KitX X.K u (.type t) P ∧ P s.heap ∧ u ≠ .builtin "__main__.__loader__#opaque" := by
  have lst : ∀ {a : Addr} {vs : List V}, SqL X.K H a vs → ∃ P : Heap → Prop, PySem.W.KitX X.K (.ref a) (.type "list") P ∧ P s.heap ∧ Value.ref a ≠ .builtin "__main__.__loader__#opaque" := fun hq => by
    obtain ⟨its, _, ⟨o, n, ho, hc, _, _⟩, _⟩ := I.list hq
    exact ⟨_, PySem.W.kitx_list, ⟨o, ho, hc⟩, fun z => nomatch z⟩
  have dic : ∀ {a : Addr} {kvs : List (Key × V)}, H a = some (.dK kvs) → ∃ P : Heap → Prop, PySem.W.KitX X.K (.ref a) (.type "dict") P ∧ P s.heap ∧ Value.ref a ≠ .builtin "__main__.__loader__#opaque" := fun ea => by
    obtain ⟨_, _, vs, _, o, es, ep, h1, h2, _⟩ := I.hok _ _ ea
    exact ⟨_, PySem.W.kitx_dict, ⟨o, h1, h2.1⟩, fun z => nomatch z⟩
  cases r with
  | non => cases h; cases rv; exact ⟨_, PySem.W.kitx_none, True.intro, fun z => nomatch z⟩
  | bl y => cases h; cases rv; exact ⟨_, PySem.W.kitx_bool, True.intro, fun z => nomatch z⟩
  | int i => cases h; obtain ⟨t, rfl⟩ := rv; exact ⟨_, PySem.W.kitx_int, True.intro, fun z => nomatch z⟩
  | str y => cases h; obtain ⟨t, rfl⟩ := rv; exact ⟨_, PySem.W.kitx_str, True.intro, fun z => nomatch z⟩
  | tup hq ra =>
    cases h; cases rv
    obtain ⟨its, _, ⟨o, ho, hc, _⟩, _⟩ := I.tuple (sqT_mono R.fz hq)
    exact ⟨_, PySem.W.kitx_tuple, ⟨o, ho, hc⟩, fun z => nomatch z⟩
  | lst hq ra => cases h; cases rv; exact lst (sqL_mono R.fz hq)
  | dicK hq ra => cases h; cases rv; exact dic (R.fz _ _ hq)
  | @ref a n he =>
    cases rv
    have h' : (match S[n]? with
      | some (.lst _) => some "list"
      | some (.dic _ _) => some "dict"
      | _ => none) = some t := h
    split at h'
    · next xs es =>
      cases h'
      obtain ⟨vs, hv, _⟩ := R.cell n a _ he es
      exact lst (SqL.of hv)
    · next t' xs es =>
      cases h'
      cases t' with
      | true => exact (R.cell n a _ he es).elim
      | false =>
        obtain ⟨vs, hv, _⟩ := R.cell n a _ he es
        exact dic hv
    · cases h'
theorem de_isi {p p2 pos : Pos} (he : DE X cl W e A) (hg : Gl X "isinstance") (hm : X.mg "isinstance" = none) (T : String) {x : Str} (hgT : Gl X x) (hmT : X.mg x = none) (hv : bootBuiltins x = some (.type T) := by rfl) (hn : x ≠ "__name__" := by decide) (hdb : (x == ("__debug__" : Str)) = false := by decide)
    (hi : bootBuiltins "isinstance" = some (.builtin "isinstance") := by rfl) (hs : starEach [e, .Name x p2] X.env = [(false, eval e X.env), (false, eval (.Name x p2) X.env)] := by rfl) (hs1 : starEach [.Name x p2] X.env = [(false, eval (.Name x p2) X.env)] := by rfl) :
    DE X cl W (.Call (.Name "isinstance" p) [e, .Name x p2] [] pos) (eOp1 (isiD T) A) := ⟨fun pins s σ H Q I ⟨l, S, ρ, F, hl, R, h⟩ => by
  refine (pe_callB (r := fun xs H' Q' => ∃ v S1 ρ1 F1 d, xs = [v, .ty T] ∧ Rel (cxt X cl) ρ1 F1 S1 H' ∧ RepD (cxt X cl) ρ1 F1 v d ∧ satE (cxt X cl) W ρ1 F1 σ (isiD T d S1) Q') (fun pins s σ' H xs us Q I r hh => ?_) hg hm hi (pa_cons he (pa_cons (pe_bltn (v := .ty T) hgT hmT hv rfl hn hdb) pa_nil (by rw [hs1]; rfl)) (by rw [hs, hs1])) (by decide) (by decide) (by rw [hs, hs1]) (by rw [hs1]; rfl)).run pins s σ H Q I ?_
  · obtain ⟨v, S1, ρ1, F1, d, rfl, R1, rd, hh⟩ := hh
    obtain ⟨u1, u2, rfl, r1, r2⟩ := vals2 r
    cases (show u2 = Value.type T from r2)
    unfold isiD at hh
    cases e1 : tyD S1 d with
    | none => rw [e1] at hh; exact hh.elim
    | some t =>
      rw [e1] at hh
      cases e2 : kitB t T with
      | none => simp only [Option.bind, e2] at hh; exact hh.elim
      | some b =>
        simp only [Option.bind, e2] at hh
        obtain ⟨P, Z, pp, hx⟩ := kit_ofD I R1 r1 rd e1
        exact PySem.W.kia_one Z I.kIn pp (kit_ty e2) hx fun tk => ⟨.bl b, H, I.tok tk, rfl, hh.now R1 (.bl b)⟩
  · refine tE_stepX hl R (satE.x h) fun d S1 ρ1 F1 H1 v R1 hl1 r1 p1 f1 h1 => ?_
    exact ⟨v, S1, ρ1, F1, d, rfl, R1, r1, satE.mono p1 f1 h1⟩⟩
end

/-! ### calls of defs -/
def spF (C : Ct) (n : Nat) (Fm : List D → Sto → Res D) : Sp := fun vs H Q E => vs.length = n ∧ ∃ S ρ F ds, Rel C ρ F S H ∧ RepAll C ρ F vs ds ∧ satE C (fun c d _ H' => E c d H') ρ F [] (Fm ds S) Q
/-- a def as its callers see it -/
structure Cal (P : Program) (w : World) (K : PySem.W.Frag) (mg : Str → Option Value) (base : Heap) (cl : Nat → Addr) (k : Nat) (x : Str) (Fm : List D → Sto → Res D) : Prop where
  ex : ∃ (f : Addr) (fd : FuncData) (ps : List Str), FnOk P w K mg base (L2.CX P w) k f fd ps (spF ⟨P, w, K, cl⟩ ps.length Fm) ∧ Binds K fd ps [] ∧ mg x = some (.ref f) ∧ PySem.W.keepIn K (.ref f) = true ∧ ∀ ds S, Fm ds S ≠ .bad → ds.length = ps.length
theorem Cal.up {P : Program} {w : World} {K : PySem.W.Frag} {mg : Str → Option Value} {base : Heap} {cl : Nat → Addr} {k k' : Nat} {x : Str} {Fm : List D → Sto → Res D} (c : Cal P w K mg base cl k x Fm) (h : k ≤ k') : Cal P w K mg base cl k' x Fm := by
  obtain ⟨f, fd, ps, F, b, g, kp, ln⟩ := c.ex
  exact ⟨f, fd, ps, F.mono h, b, g, kp, ln⟩
theorem tkNo {X : Cx} : Takes X W0 := fun u s' ⟨_, _, _, _, _, _, _, _, _, _, _, _, _, _, _, _, w⟩ => w.elim
theorem satE.wish {C : Ct} {W W' : WX} {ρ : List Addr} {F : Hp} {σ σ' : L2.St} {r : Res D} {Q : VK} (h : satE C W ρ F σ r Q) (i : ∀ c d H, W c d σ H → W' c d σ' H) : satE C W' ρ F σ' r Q := by
  cases r with
  | ok d S => exact h
  | exc x S => exact fun ρ' F' H' dd a b c => i _ _ _ (h ρ' F' H' dd a b c)
  | bad => exact h
section
variable {X : Cx} {cl : Nat → Addr} {W : WX} {r : As} {e : Expr} {es : List Expr} {p pos : Pos} {k : Nat} {x : Str} {Fm : List D → Sto → Res D}
theorem de_call (c : Cal X.prog X.w X.K X.mg X.base cl k x Fm) (hr : Room k X.A) (tk : Takes X W) (hg : Gl X x) (ha : DA X cl W (e :: es) r) (hdb : (x == ("__debug__" : Str)) = false := by decide) (he : starEach (e :: es) X.env = (false, eval e X.env) :: starEach es X.env := by rfl) (hpl : (backTo pos (starEach es X.env)).any (·.1) = false := by rfl) :
    DE X cl W (.Call (.Name x p) (e :: es) [] pos) (eApp Fm r) := by
  obtain ⟨f, fd, ps, F, b, g, kp, ln⟩ := c.ex
  refine (pe_callS (E := WE W) F hr hg g kp b (fun σ => passAt tk σ) ha hdb he hpl).imp fun σ H Q ⟨l, S, ρ, F', hl, R, h⟩ => ?_
  refine tA_stepX hl R (satE.x h) fun ds S1 ρ1 F1 H1 vs R1 hl1 r1 p1 f1 h1 => ?_
  have hb : Fm ds S1 ≠ .bad := fun z => by rw [z] at h1; exact h1
  exact ⟨by rw [r1.len]; exact ln ds S1 hb, S1, ρ1, F1, ds, R1, r1, satE.wish (satE.mono p1 f1 h1) fun c d H w => w⟩
end

/-! ### the rule for a def -/
/-- a def, run: n its parameters, N its names -/
noncomputable def runF (n N : Nat) (m : Mode) (B : Stm) : List D → Sto → Res D := fun ds S => if ds.length = n then (match B (ds.map some ++ List.replicate (N - n) none) S with
  | .next _ S' => exitM m S .non S'
  | .ret d S' => exitM m S d S'
  | .exc x _ S' => exitMX m S x S'
  | _ => .bad) else .bad
theorem runF_len {n N : Nat} {m : Mode} {B : Stm} {ds : List D} {S : Sto} (h : runF n N m B ds S ≠ .bad) : ds.length = n := by
  unfold runF at h
  split at h
  · assumption
  · exact absurd rfl h
/-- the rule: the body's derivation in the def's own context -/
theorem fn_rule {P : Program} {w : World} {K : PySem.W.Frag} {mg : Str → Option Value} {base : Heap} {cl : Nat → Addr} {k : Nat} {x qual : Str} {params : Arguments} {body : List Stmt} {scope : Scope} {f : Addr} {fd : FuncData} {N ps : List Str} {m : Mode} {B : Stm}
    (Fd : FunD K x qual params body scope [] [] f fd) (Sc : FnScope N ps scope)
    (hbody : ∀ (cdv : Value) (A : Around) (outer : List Env) (s : Shared) (H : Hp) (E : XK), Room k (A.deeper (envOfC qual scope s.heap.objs.size f cdv)) →
      DSs (cxOf (L2.CX P w) P w K mg base N qual scope f cdv A outer s H E) cl (fun c d _ H' => E c d H') body B) :
    FnOk P w K mg base (L2.CX P w) (k + 1) f fd ps (spF ⟨P, w, K, cl⟩ ps.length (runF ps.length N.length m B)) := by
  refine Fd.ok Sc (fun vs H Q E h => h.1) fun cdv A outer s H vs Q E hr h => ⟨_, hbody cdv A outer s H E hr, ?_⟩
  obtain ⟨hlen, S, ρ, F, ds, R, ra, h⟩ := h
  have hpn : ps.length ≤ N.length := by have := congrArg List.length Sc.pre; rw [List.length_take] at this; omega
  have hl : LRel ⟨P, w, K, cl⟩ ρ F (L2.start N vs) (ds.map some ++ List.replicate (N.length - ps.length) none) := by
    unfold L2.start
    have hdl : ds.length = ps.length := by rw [← ra.len, hlen]
    refine ⟨by simp [hlen, hdl], fun i d e => ?_⟩
    by_cases hi : i < ds.length
    · rw [List.getElem?_append_left (by simpa using hi), List.getElem?_map] at e
      cases e2 : ds[i]? with
      | none => rw [e2] at e; cases e
      | some d' =>
        rw [e2] at e; cases e
        obtain ⟨v, hv, rv⟩ := ra.get e2
        exact ⟨v, by rw [List.getElem?_append_left (by simpa [ra.len] using hi), List.getElem?_map, hv]; rfl, rv⟩
    · rw [List.getElem?_append_right (by simpa using hi), List.getElem?_replicate] at e
      split at e <;> cases e
  refine ⟨_, S, ρ, F, hl, R, ?_⟩
  unfold runF at h
  split at h
  · cases e : B (ds.map some ++ List.replicate (N.length - ps.length) none) S with
    | next l' S' =>
      rw [e] at h
      intro ρ' F' H' σ' R' p f' _
      have h' : satE (⟨P, w, K, cl⟩ : Ct) (fun c d _ H' => E c d H') ρ F [] (exitM m S .non S') Q := h
      rcases exitM_cases m S .non S' with ⟨d, S2, e2⟩ | e2
      · rw [e2] at h'
        obtain ⟨ρ2, F2, R2, p2, f2, r2⟩ := exitM_ok R p R' f' .non e2
        exact h' ρ2 F2 H' _ R2 p2 f2 r2
      · rw [e2] at h'; exact h'.elim
    | ret d S' =>
      rw [e] at h
      intro ρ' F' H' v R' p f' r'
      have h' : satE (⟨P, w, K, cl⟩ : Ct) (fun c d _ H' => E c d H') ρ F [] (exitM m S d S') Q := h
      rcases exitM_cases m S d S' with ⟨d2, S2, e2⟩ | e2
      · rw [e2] at h'
        obtain ⟨ρ2, F2, R2, p2, f2, r2⟩ := exitM_ok R p R' f' r' e2
        exact h' ρ2 F2 H' _ R2 p2 f2 r2
      · rw [e2] at h'; exact h'.elim
    | exc x l' S' =>
      rw [e] at h
      intro ρ' F' H' σ' dd R' p f' _
      have go : ∀ (h' : satE (⟨P, w, K, cl⟩ : Ct) (fun c d _ H' => E c d H') ρ F [] (exitX S x S') Q), E (.ref (cl x)) dd H' := fun h' => by
        rcases exitX_cases S x S' with ⟨S2, e2⟩ | e2
        · rw [e2] at h'
          obtain ⟨_, F2, R2, f2⟩ := exit_x R p R' f' e2
          exact h' ρ F2 H' dd R2 (List.prefix_refl _) f2
        · rw [e2] at h'; exact h'.elim
      cases m with
      | fr => exact go h
      | nw => exact go h
      | rw => exact h ρ' F' H' dd R' p f'
    | brk l' S' => rw [e] at h; exact h.elim
    | cont l' S' => rw [e] at h; exact h.elim
    | bad => rw [e] at h; exact h.elim
  · exact h.elim
theorem cal_of {P : Program} {w : World} {K : PySem.W.Frag} {mg : Str → Option Value} {base : Heap} {cl : Nat → Addr} {k N : Nat} {x : Str} {f : Addr} {fd : FuncData} {ps : List Str} {m : Mode} {B : Stm} (F : FnOk P w K mg base (L2.CX P w) k f fd ps (spF ⟨P, w, K, cl⟩ ps.length (runF ps.length N m B)))
    (b : Binds K fd ps []) (g : mg x = some (.ref f)) (kp : PySem.W.keepIn K (.ref f) = true) : Cal P w K mg base cl k x (runF ps.length N m B) := ⟨f, fd, ps, F, b, g, kp, fun _ _ h => runF_len h⟩
/-- in a def's own context -/
theorem takesF {P : Program} {w : World} {K : PySem.W.Frag} {mg : Str → Option Value} {base : Heap} {N : List Str} {qual : Str} {scope : Scope} {f : Addr} {cdv : Value} {A : Around} {outer : List Env} {s : Shared} {H : Hp} {E : XK} :
    Takes (cxOf (L2.CX P w) P w K mg base N qual scope f cdv A outer s H E) (fun c d _ H' => E c d H') := takes_of rfl rfl rfl rfl
theorem ownsF {P : Program} {w : World} {K : PySem.W.Frag} {mg : Str → Option Value} {base : Heap} {N : List Str} {qual : Str} {scope : Scope} {f : Addr} {cdv : Value} {A : Around} {outer : List Env} {s : Shared} {H : Hp} {E : XK} :
    PassesOwn (model P w) (cxOf (L2.CX P w) P w K mg base N qual scope f cdv A outer s H E).A (cxOf (L2.CX P w) P w K mg base N qual scope f cdv A outer s H E).env (cxOf (L2.CX P w) P w K mg base N qual scope f cdv A outer s H E).xe := passes_of rfl
end DL

/-! DL9: methods of lists, storing an item, op=. -/
namespace DL
open PySem PySem.Spec PyProof.Rows L2

/-! ### o.m(..) of a built-in type -/
def eMt (T : String) (g : D → List D → Sto → Res D) (A : E) (r : As) : E := fun l S => (A l S).bind fun x S1 => if tyD S1 x = some T then (r l S1).bind fun ds S2 => g x ds S2 else .bad
def rMt (C : Ct) (W : WX) (g : D → List D → Sto → Res D) : V → List V → Hp → VK → Prop := fun x xs H Q => ∃ ρ F S σ d ds, Rel C ρ F S H ∧ RepD C ρ F x d ∧ RepAll C ρ F xs ds ∧ satE C W ρ F σ (g d ds S) Q
abbrev MtD (X : Cx) (cl : Nat → Addr) (W : WX) (id : String) (g : D → List D → Sto → Res D) : Prop := MtR X id (rMt (cxt X cl) W g)
theorem _root_.L2.MtR.weak {X : Cx} {id : String} {r r' : V → List V → Hp → VK → Prop} (h : MtR X id r) (i : ∀ x xs H Q, r' x xs H Q → r x xs H Q) : MtR X id r' := fun pins s σ H x xs v us Q I rx rs q => h pins s σ H x xs v us Q I rx rs (i _ _ _ _ q)
section
variable {C : Ct} {W : WX} {ρ : List Addr} {F H : Hp} {S : Sto} {v : V} {d : D} {T : String}
theorem rep_ty (R : Rel C ρ F S H) (r : RepD C ρ F v d) (h : tyD S d = some T) (hT : T = "list" ∨ T = "str" ∨ T = "dict") : tyV C.K T v H := by
  cases r with
  | str s => cases h; rfl
  | lst hq _ => cases h; exact .inl ⟨rfl, _, sqL_mono R.fz hq⟩
  | dicK hq _ => cases h; exact .inr (.inr (.inl ⟨rfl, .inl ⟨_, R.fz _ _ hq⟩⟩))
  | non => cases h; rcases hT with h | h | h <;> exact absurd h (by decide)
  | bl _ => cases h; rcases hT with h | h | h <;> exact absurd h (by decide)
  | int _ => cases h; rcases hT with h | h | h <;> exact absurd h (by decide)
  | tup _ _ => cases h; rcases hT with h | h | h <;> exact absurd h (by decide)
  | @ref a n he =>
    have h' : (match S[n]? with
      | some (.lst _) => some "list"
      | some (.dic _ _) => some "dict"
      | _ => none) = some T := h
    split at h'
    · next xs es =>
      cases h'
      obtain ⟨vs, hv, _⟩ := R.cell n a _ he es
      exact .inl ⟨rfl, vs, SqL.of hv⟩
    · next t' xs es =>
      cases h'
      cases t' with
      | true => exact (R.cell n a _ he es).elim
      | false =>
        obtain ⟨vs, hv, _⟩ := R.cell n a _ he es
        exact .inr (.inr (.inl ⟨rfl, .inl ⟨_, hv⟩⟩))
    · cases h'
end
section
variable {X : Cx} {cl : Nat → Addr} {W : WX} {A : E} {r : As} {o e : Expr} {es : List Expr} {T id : String} {name : Str} {apos cpos : Pos} {g : D → List D → Sto → Res D}
theorem de_mt0 (pa : PlainAttrs T) (slot : Slot T name id) (hty : typeOf (.builtin id) = pure (.type "method_descriptor")) (hm : MtD X cl W id g) (hT : T = "list" ∨ T = "str" ∨ T = "dict") (ho : DE X cl W o A)
    (hbase : attributeBase o name X.env (eval o X.env) = eval o X.env := by rfl) (hline : (apos.endLine == cpos.line) = true := by rfl) : DE X cl W (.Call (.Attribute o name apos) [] [] cpos) (eMt T g A aNil) := (pe_bm0 pa slot hty hm ho hbase hline).imp fun σ H Q ⟨l, S, ρ, F, hl, R, h⟩ => by
  refine tE_stepX hl R (satE.x h) fun d S1 ρ1 F1 H1 v R1 hl1 r1 p1 f1 h1 => ?_
  split at h1
  · next ht => exact ⟨rep_ty R1 r1 ht hT, ρ1, F1, S1, σ, d, [], R1, r1, .nil, satE.mono p1 f1 h1⟩
  · exact h1.elim
theorem de_mt (pa : PlainAttrs T) (slot : Slot T name id) (hty : typeOf (.builtin id) = pure (.type "method_descriptor")) (hm : MtD X cl W id g) (hT : T = "list" ∨ T = "str" ∨ T = "dict") (ho : DE X cl W o A) (ha : DA X cl W (e :: es) r)
    (hbase : attributeBase o name X.env (eval o X.env) = eval o X.env := by rfl)
    (hfew : ((backTo cpos (starEach (e :: es) X.env)).all (fun x => !x.1) && (backToKw cpos (keywordEach [] X.env)).all (fun x => x.1.isSome)
      && decide ((e :: es).length + ([] : List Keyword).length + (if ([] : List Keyword).isEmpty then 0 else 1) < 30)) = true := by rfl)
    (hline : (apos.endLine == cpos.line) = true := by rfl) (hs : starEach (e :: es) X.env = (false, eval e X.env) :: starEach es X.env := by rfl) (hplain : (backTo cpos (starEach es X.env)).any (·.1) = false := by rfl) :
    DE X cl W (.Call (.Attribute o name apos) (e :: es) [] cpos) (eMt T g A r) := (pe_bm pa slot hty hm ho ha hbase hfew hline hs hplain).imp fun σ H Q ⟨l, S, ρ, F, hl, R, h⟩ => by
  refine tE_stepX hl R (satE.x h) fun d S1 ρ1 F1 H1 v R1 hl1 r1 p1 f1 h1 => ?_
  split at h1
  · next ht =>
    refine ⟨rep_ty R1 r1 ht hT, ?_⟩
    refine tA_stepX hl1 R1 (satE.x (satE.mono p1 f1 h1)) fun ds S2 ρ2 F2 H2 vs R2 hl2 r2 p2 f2 h2 => ?_
    exact ⟨ρ2, F2, S2, σ, d, ds, R2, r1.mono p2 f2, r2, satE.mono p2 f2 h2⟩
  · exact h1.elim
end
/-! ### of lists -/
/-- the live list -/
def cellL (S : Sto) : D → Option (Nat × List D)
  | .ref n => (match S[n]? with
    | some (.lst xs) => some (n, xs)
    | _ => none)
  | _ => none
theorem cellL_some {S : Sto} {d : D} {n : Nat} {xs : List D} (h : cellL S d = some (n, xs)) : d = .ref n ∧ S[n]? = some (.lst xs) := by
  cases d with
  | ref m =>
    have h' : (match S[m]? with
      | some (.lst xs) => some (m, xs)
      | _ => none) = some (n, xs) := h
    split at h'
    · next ys es => cases h'; exact ⟨rfl, es⟩
    · cases h'
  | _ => exact nomatch h
theorem rep_cell {C : Ct} {ρ : List Addr} {F H : Hp} {S : Sto} {v : V} {d : D} {n : Nat} {xs : List D} (R : Rel C ρ F S H) (r : RepD C ρ F v d) (h : cellL S d = some (n, xs)) : ∃ a vs, v = .ref a ∧ ρ[n]? = some a ∧ S[n]? = some (.lst xs) ∧ H a = some (.lst vs) ∧ RepAll C ρ F vs xs := by
  obtain ⟨rfl, hS⟩ := cellL_some h
  cases r with
  | ref he =>
    obtain ⟨vs, hv, ra⟩ := R.cell n _ _ he hS
    exact ⟨_, vs, rfl, he, hS, hv, ra⟩
theorem satE.putL {C : Ct} {W : WX} {ρ : List Addr} {F H : Hp} {S : Sto} {σ : L2.St} {n : Nat} {a : Addr} {xs ys : List D} {vs : List V} {d : D} {v : V} {Q : VK} (h : satE C W ρ F σ (.ok d (S.set n (.lst ys))) Q) (R : Rel C ρ F S H) (he : ρ[n]? = some a) (hS : S[n]? = some (.lst xs)) (ra : RepAll C ρ F vs ys) (rd : RepD C ρ F v d) : Q v (upd H a (.lst vs)) :=
  h ρ F _ v (R.put (c' := .lst ys) he hS (by intro z; cases z) ⟨vs, upd_same, ra⟩ (by intro z; cases z)) (List.prefix_refl _) (Le.refl _) rd
def appendD (x : D) (ds : List D) (S : Sto) : Res D := match ds with
  | [y] => (match cellL S x with | some (n, xs) => if xs.length < sizeLine then .ok .non (S.set n (.lst (xs ++ [y]))) else .bad | none => .bad)
  | _ => .bad
def popD (x : D) (ds : List D) (S : Sto) : Res D := match ds with
  | [] => (match cellL S x with | some (n, xs) => (match xs[xs.length - 1]? with | some y => .ok y (S.set n (.lst xs.dropLast)) | none => .bad) | none => .bad)
  | _ => .bad
def popAtD (x : D) (ds : List D) (S : Sto) : Res D := match ds with
  | [.int i] => (match cellL S x with | some (n, xs) => if -(2 ^ 63) ≤ i ∧ i < 2 ^ 63 then (match seqIndex? i xs.length with | some k => (match xs[k]? with | some y => .ok y (S.set n (.lst (xs.eraseIdx k))) | none => .bad) | none => .bad) else .bad | none => .bad)
  | _ => .bad
def reverseD (x : D) (ds : List D) (S : Sto) : Res D := match ds with
  | [] => (match cellL S x with | some (n, xs) => .ok .non (S.set n (.lst xs.reverse)) | none => .bad)
  | _ => .bad
def clearD (x : D) (ds : List D) (S : Sto) : Res D := match ds with
  | [] => (match cellL S x with | some (n, xs) => .ok .non (S.set n (.lst [])) | none => .bad)
  | _ => .bad
def insertD (x : D) (ds : List D) (S : Sto) : Res D := match ds with
  | [.int i, y] => (match cellL S x with | some (n, xs) => if xs.length < sizeLine ∧ 0 ≤ i ∧ i < 2 ^ 63 then .ok .non (S.set n (.lst (xs.take i.toNat ++ [y] ++ xs.drop i.toNat))) else .bad | none => .bad)
  | _ => .bad
def flatD : D → Bool
  | .non => true
  | .bl _ => true
  | .int _ => true
  | .str _ => true
  | _ => false
def indexD (x : D) (ds : List D) (S : Sto) : Res D := match ds with
  | [y] => (match listOf S x with | some xs => if (flatD y && xs.all flatD && decide (xs.findIdx (fun z => eqD z y) < xs.length)) = true then .ok (.int (xs.findIdx fun z => eqD z y)) S else .bad | none => .bad)
  | _ => .bad
section
variable {C : Ct} {ρ : List Addr} {F : Hp}
theorem flat_rep {v : V} {d : D} (r : RepD C ρ F v d) (h : flatD d = true) : flatV v = true := by
  cases r <;> first | rfl | cases h
theorem flat_all : ∀ {vs : List V} {ds : List D}, RepAll C ρ F vs ds → ds.all flatD = true → vs.all flatV = true
  | _, _, .nil, _ => rfl
  | _, _, .cons r t, h => by
    rw [List.all_cons, Bool.and_eq_true] at h ⊢
    exact ⟨flat_rep r h.1, flat_all t h.2⟩
theorem flat_eq {v u : V} {d e : D} (r : RepD C ρ F v d) (r' : RepD C ρ F u e) (h : flatD d = true) (h' : flatD e = true) : eqV v u = eqD d e := by
  cases r <;> first
    | (cases h; done)
    | (cases r' <;> first | (cases h'; done) | (unfold eqV eqD; rfl) | (unfold eqV eqD; simp) | (unfold eqV eqD; rename_i b _; cases b <;> simp))
end
section
variable {X : Cx} {cl : Nat → Addr} {W : WX}
theorem md_append : MtD X cl W "list.append" appendD := MtR.weak mt_append fun x xs H Q ⟨ρ, F, S, σ, d, ds, R, r, ra, h⟩ => by
  unfold appendD at h
  split at h
  · next y =>
    split at h
    · next n ys hc =>
      split at h
      · next hz =>
        obtain ⟨a, vs, rfl, he, hS, hH, rv⟩ := rep_cell R r hc
        cases ra with
        | cons ry t =>
          cases t
          exact ⟨a, vs, _, rfl, rfl, hH, by rw [rv.len]; exact hz, h.putL R he hS (rv.snoc ry) .non⟩
      · exact h.elim
    · exact h.elim
  · exact h.elim
theorem md_pop0 : MtD X cl W "list.pop" popD := MtR.weak mt_pop fun x xs H Q ⟨ρ, F, S, σ, d, ds, R, r, ra, h⟩ => by
  unfold popD at h
  split at h
  · split at h
    · next n ys hc =>
      split at h
      · next y hy =>
        obtain ⟨a, vs, rfl, he, hS, hH, rv⟩ := rep_cell R r hc
        cases ra
        obtain ⟨v, hv, ry⟩ := rv.get hy
        exact ⟨a, vs, v, rfl, rfl, hH, by rw [rv.len]; exact hv, h.putL R he hS rv.dropLast ry⟩
      · exact h.elim
    · exact h.elim
  · exact h.elim
theorem md_popAt : MtD X cl W "list.pop" popAtD := MtR.weak mt_popAt fun x xs H Q ⟨ρ, F, S, σ, d, ds, R, r, ra, h⟩ => by
  unfold popAtD at h
  split at h
  · next i =>
    split at h
    · next n ys hc =>
      split at h
      · next hi =>
        split at h
        · next k hk =>
          split at h
          · next y hy =>
            obtain ⟨a, vs, rfl, he, hS, hH, rv⟩ := rep_cell R r hc
            cases ra with
            | cons ri t =>
              cases ri; cases t
              obtain ⟨v, hv, ry⟩ := rv.get hy
              exact ⟨a, vs, i, k, v, rfl, rfl, hH, hi.1, hi.2, by rw [rv.len]; exact hk, hv, h.putL R he hS (rv.erase k) ry⟩
          · exact h.elim
        · exact h.elim
      · exact h.elim
    · exact h.elim
  · exact h.elim
theorem md_reverse : MtD X cl W "list.reverse" reverseD := MtR.weak mt_reverse fun x xs H Q ⟨ρ, F, S, σ, d, ds, R, r, ra, h⟩ => by
  unfold reverseD at h
  split at h
  · split at h
    · next n ys hc =>
      obtain ⟨a, vs, rfl, he, hS, hH, rv⟩ := rep_cell R r hc
      cases ra
      exact ⟨a, vs, rfl, rfl, hH, h.putL R he hS rv.rev .non⟩
    · exact h.elim
  · exact h.elim
theorem md_clear : MtD X cl W "list.clear" clearD := MtR.weak mt_clear fun x xs H Q ⟨ρ, F, S, σ, d, ds, R, r, ra, h⟩ => by
  unfold clearD at h
  split at h
  · split at h
    · next n ys hc =>
      obtain ⟨a, vs, rfl, he, hS, hH, rv⟩ := rep_cell R r hc
      cases ra
      exact ⟨a, vs, rfl, rfl, hH, h.putL R he hS .nil .non⟩
    · exact h.elim
  · exact h.elim
theorem md_insert : MtD X cl W "list.insert" insertD := MtR.weak mt_insert fun x xs H Q ⟨ρ, F, S, σ, d, ds, R, r, ra, h⟩ => by
  unfold insertD at h
  split at h
  · next i y =>
    split at h
    · next n ys hc =>
      split at h
      · next hz =>
        obtain ⟨a, vs, rfl, he, hS, hH, rv⟩ := rep_cell R r hc
        cases ra with
        | cons ri t =>
          cases t with
          | cons ry t =>
            cases ri; cases t
            exact ⟨a, vs, i, _, rfl, rfl, hH, by rw [rv.len]; exact hz.1, hz.2.1, hz.2.2, h.putL R he hS (((rv.take _).snoc ry).app (rv.drop _)) .non⟩
      · exact h.elim
    · exact h.elim
  · exact h.elim
theorem md_index : MtD X cl W "list.index" indexD := MtR.weak mt_index fun x xs H Q ⟨ρ, F, S, σ, d, ds, R, r, ra, h⟩ => by
  unfold indexD at h
  split at h
  · next y =>
    split at h
    · next ys hs =>
      split at h
      · next hk =>
        rw [Bool.and_eq_true, Bool.and_eq_true] at hk
        obtain ⟨⟨fy, fs⟩, hlt⟩ := hk
        have hlt := of_decide_eq_true hlt
        obtain ⟨a, vs, rfl, hq, rv⟩ := rep_list R r hs
        cases ra with
        | @cons u _ _ _ ry t =>
          cases t
          have hj := List.getElem?_eq_getElem hlt
          obtain ⟨z, hz, rz⟩ := rv.get hj
          have fz : ∀ {m : Nat} {w : D}, ys[m]? = some w → flatD w = true := fun e => List.all_eq_true.mp fs _ (List.mem_of_getElem? e)
          refine ⟨a, vs, u, _, z, rfl, rfl, hq, flat_rep ry fy, flat_all rv fs, hz, ?_, fun m z' hm hz' => ?_, h.now R (.int _)⟩
          · rw [flat_eq rz ry (fz hj) fy]
            exact List.findIdx_getElem (w := hlt)
          · obtain ⟨w, hw, rw'⟩ := rv.getV hz'
            rw [flat_eq rw' ry (fz hw) fy]
            have := List.not_of_lt_findIdx hm
            obtain ⟨h1, h2⟩ := List.getElem?_eq_some_iff.mp hw
            rw [h2] at this
            simpa using this
      · exact h.elim
    · exact h.elim
  · exact h.elim
end

/-! ### o[i] = v -/
abbrev SetD := D → D → D → Sto → Option Sto
def satU (C : Ct) (ρ : List Addr) (F : Hp) (r : Option Sto) (Q : Hp → Prop) : Prop := match r with
  | some S' => ∀ ρ' F' H', Rel C ρ' F' S' H' → ρ <+: ρ' → Le F F' → Q H'
  | none => False
def tSetD (C : Ct) (g : SetD) : TSet := fun o i v H Q => ∃ ρ F S x y z, Rel C ρ F S H ∧ RepD C ρ F o x ∧ RepD C ρ F i y ∧ RepD C ρ F v z ∧ satU C ρ F (g x y z S) Q
abbrev PSD (X : Cx) (cl : Nat → Addr) (g : SetD) : Prop := PSet X (tSetD (cxt X cl) g)
def setLD : SetD := fun x y z S => match y with
  | .int k => (match cellL S x with | some (n, xs) => (match ixN xs.length k with | some j => some (S.set n (.lst (xs.set j z))) | none => none) | none => none)
  | _ => none
def gSubD (A B : E) (g : SetD) : GD := fun d l S => match A l S with
  | .ok x S1 => (match B l S1 with
    | .ok y S2 => (g x y d S2).map fun S3 => (l, S3)
    | _ => none)
  | _ => none
section
variable {X : Cx} {cl : Nat → Addr} {A B : E} {o i : Expr} {pos : Pos} {g : SetD}
theorem sd_list : PSD X cl setLD := fun pins s σ H o i v ov iv u Q I ro ri rv ⟨ρ, F, S, x, y, z, R, rx, ry, rz, h⟩ => by
  refine set_list pins s σ H o i v ov iv u Q I ro ri rv ?_
  unfold setLD at h
  split at h
  · next k =>
    split at h
    · next n xs hc =>
      split at h
      · next j hj =>
        obtain ⟨a, vs, rfl, he, hS, hH, rr⟩ := rep_cell R rx hc
        cases ry
        exact ⟨a, vs, k, j, rfl, rfl, hH, by rw [rr.len]; exact hj, h ρ F _ (R.put (c' := .lst (xs.set j z)) he hS (by intro z; cases z) ⟨_, upd_same, rr.set rz j⟩ (by intro z; cases z)) (List.prefix_refl _) (Le.refl _)⟩
      · exact h.elim
    · exact h.elim
  · exact h.elim
theorem dg_sub (ho : DE X cl W0 o A) (hi : DE X cl W0 i B) (hs : PSD X cl g) (ha : ∀ v, assign (.Subscript o i pos) X.env v = (do
      let ov ← holding [v] (eval o X.env)
      let iv ← holding [v, ov] (eval i X.env)
      standAt pos
      holding [v, ov, iv] (setItem ov iv v)
      release [v, ov, iv] []) := by intro _; rfl) : DG X cl [] (.Subscript o i pos) (gSubD A B g) := (pg_sub ho hi hs ha).imp fun v σ H Q ⟨l, S, ρ, F, d, hl, R, r, h⟩ => by
  unfold gSubD at h
  refine tE_stepX (ok := fun x S1 => satG (cxt X cl) [] ρ F σ (match B l S1 with
    | .ok y S2 => (g x y d S2).map fun S3 => (l, S3)
    | _ => none) Q) hl R (by cases e : A l S <;> rw [e] at h <;> first | exact h | exact h.elim) fun x S1 ρ1 F1 H1 o1 R1 hl1 r1 p1 f1 h1 => ?_
  refine tE_stepX (ok := fun y S2 => satG (cxt X cl) [] ρ F σ ((g x y d S2).map fun S3 => (l, S3)) Q) hl1 R1 (by cases e : B l S1 <;> rw [e] at h1 <;> first | exact h1 | exact h1.elim) fun y S2 ρ2 F2 H2 i1 R2 hl2 r2 p2 f2 h2 => ?_
  refine ⟨ρ2, F2, S2, x, y, d, R2, r1.mono p2 f2, r2, (r.mono p1 f1).mono p2 f2, ?_⟩
  cases e : g x y d S2 with
  | none => rw [e] at h2; exact h2
  | some S3 =>
    rw [e] at h2
    exact fun ρ' F' H' R' p f => h2 ρ' F' H' σ R' ((p1.trans p2).trans p) ((f1.trans f2).trans f) (hl2.mono p f) Keep.refl
end

/-! ### name op= e -/
def sAug (i : Nat) (g : D → D → Sto → Res D) (A : E) : Stm := fun l S => match l[i]? with
  | some (some x) => (A l S).toS l fun y S1 => (g x y S1).toS l fun z S2 => .next (l.set i (some z)) S2
  | _ => .bad
section
variable {X : Cx} {cl : Nat → Addr} {W : WX} {A : E} {e : Expr} {pos : Pos} {g : D → D → Sto → Res D}
theorem ds_aug {i : Nat} {x : Str} {op : Operator} {pos' : Pos} (ho : OpD X cl W (inplaceOp op) g) (he : DE X cl W e A) (hN : X.N.Nodup) (hi : X.N[i]? = some x := by rfl) (hx : L2.Loc X.env.scope x := by first | exact Or.inl rfl | exact Or.inr rfl) (hf : X.fn x = true ∨ X.env.scope.names.lookup x = some .local := by first | exact .inl rfl | exact .inr rfl | assumption) :
    DS X cl W (.AugAssign (.Name x pos') op e pos) (sAug i g A) := (ps_aug hN hi hx he (ti := rD2 (cxt X cl) W g) ho hf).imp fun D σ H ⟨l, S, ρ, F, hl, R, h⟩ => by
  unfold sAug at h
  split at h
  · next x hx =>
    obtain ⟨v, ev, rx⟩ := hl.2 i x hx
    refine ⟨v, ev, ?_⟩
    refine tE_stepX hl R (satS.x hl h) fun y S1 ρ1 F1 H1 u R1 hl1 r1 p1 f1 h1 => ?_
    refine ⟨ρ1, F1, S1, σ, x, y, R1, rx.mono p1 f1, r1, ?_⟩
    have h2 := satS.mono p1 f1 h1
    cases e2 : g x y S1 with
    | ok z S2 => rw [e2] at h2; exact fun ρ2 F2 H2 w R2 p2 f2 r2 => h2 ρ2 F2 H2 _ R2 p2 f2 ((hl1.mono p2 f2).set i r2)
    | exc c S2 => rw [e2] at h2; exact fun ρ2 F2 H2 dd R2 p2 f2 => h2 ρ2 F2 H2 σ dd R2 p2 f2 (hl1.mono p2 f2)
    | bad => rw [e2] at h2; exact h2
  · exact h.elim
end
end DL

/-! DL10: constants of the module, a comprehension given a name, pairs of names. -/
namespace DL
open PySem PySem.Spec PyProof.Rows L2

/-- a tuple of the module -/
def GTup (K : PySem.W.Frag) (mg : Str → Option Value) (x : Str) (d : D) : Prop := ∃ a vs xs, mg x = some (.ref a) ∧ d = .tup xs ∧ (∀ H, SqT K H a vs) ∧ ∀ P w cl ρ F, RepAll ⟨P, w, K, cl⟩ ρ F vs xs
section
variable {X : Cx} {cl : Nat → Addr} {W : WX}
theorem de_gint {x : Str} {i : Int} {pos : Pos} (h : ∃ t, X.mg x = some (.int i t)) (hg : Gl X x) (hd : (x == ("__debug__" : Str)) = false := by decide) : DE X cl W (.Name x pos) (eC (.int i)) := by
  obtain ⟨t, h⟩ := h
  exact de_const (pe_glob (v := .int i) hg h ⟨t, rfl⟩ hd) fun _ _ => .int i
theorem de_gstr {x : Str} {z : Str} {pos : Pos} (h : ∃ t, X.mg x = some (.str z t)) (hg : Gl X x) (hd : (x == ("__debug__" : Str)) = false := by decide) : DE X cl W (.Name x pos) (eC (.str z)) := by
  obtain ⟨t, h⟩ := h
  exact de_const (pe_glob (v := .str z) hg h ⟨t, rfl⟩ hd) fun _ _ => .str z
theorem de_gtup {x : Str} {d : D} {pos : Pos} (h : GTup X.K X.mg x d) (hg : Gl X x) (hd : (x == ("__debug__" : Str)) = false := by decide) : DE X cl W (.Name x pos) (eC d) := by
  obtain ⟨a, vs, xs, h, rfl, hq, ra⟩ := h
  exact de_const (pe_glob (v := .ref a) hg h rfl hd) fun ρ F => .tup (hq F) (ra _ _ _ ρ F)
end
/-- plain items of such a tuple -/
def dvD : He.Dv → Option D
  | .str z => some (.str z)
  | .int i => some (.int i)
  | _ => none
theorem gtup_of {K : PySem.W.Frag} {mg : Str → Option Value} {x : Str} {vs : List He.Dv} {xs : List D} (g : mg x = some (.ref (He.ga K x))) (h : He.tupB K x vs = true) (e : vs.map dvD = xs.map some) : GTup K mg x (.tup xs) := by
  refine ⟨_, _, xs, g, rfl, fun H => He.tupB_ok h H, fun P w cl ρ F => ?_⟩
  clear h g
  induction vs generalizing xs with
  | nil => cases xs with
    | nil => exact .nil
    | cons _ _ => cases e
  | cons v vs ih => cases xs with
    | nil => cases e
    | cons y ys =>
      rw [List.map_cons, List.map_cons] at e
      injection e with e1 e2
      refine .cons ?_ (ih e2)
      cases v with
      | str z => cases e1; exact .str z
      | int i => cases e1; exact .int i
      | _ => cases e1
def iaddD : D → D → Sto → Res D := fun x y S => match x, y with | .int i, .int j => .ok (.int (i + j)) S | _, _ => .bad

/-! ### a, b = x, y -/
def sPar (i j : Nat) (r : As) : Stm := fun l S => (r l S).toS l fun ds S1 => match ds with
  | [x, y] => .next ((l.set i (some x)).set j (some y)) S1
  | _ => .bad
section
variable {X : Cx} {cl : Nat → Addr} {W : WX} {r : As}
theorem ds_par {i j : Nat} {x y : Str} {a b : Expr} {px py pt pos : Pos} {kt k2 pt2} (hc : X.calm = true) (ha : DA X cl W [a, b] r) (hN : X.N.Nodup) (hi : X.N[i]? = some x := by rfl) (hj : X.N[j]? = some y := by rfl) (hij : i ≠ j := by decide)
    (hx : X.env.scope.names.lookup x = some .local := by rfl) (hy : X.env.scope.names.lookup y = some .local := by rfl)
    (hw : swappedStores [.Tuple [.Name x px, .Name y py] kt pt] (.Tuple [a, b] k2 pt2) X.env = pure (some [x, y]) := by rfl)
    (hs : swapsWithSole [.Tuple [.Name x px, .Name y py] kt pt] (.Tuple [a, b] k2 pt2) pos.line X.env = pure false := by rfl) :
    DS X cl W (.Assign [.Tuple [.Name x px, .Name y py] kt pt] (.Tuple [a, b] k2 pt2) pos) (sPar i j r) := (ps_par hc hN hi hj hij hx hy ha hw hs).imp fun D σ H ⟨l, S, ρ, F, hl, R, h⟩ => by
  refine tA_stepX hl R (satS.x hl h) fun ds S1 ρ1 F1 H1 vs R1 hl1 r1 p1 f1 h1 => ?_
  split at h1
  · next x y =>
    cases r1 with
    | cons r t => cases t with
      | cons r' t' => cases t'; exact ⟨_, _, rfl, h1 ρ1 F1 H1 _ R1 p1 f1 ((hl1.set i r).set j r')⟩
  · exact h1.elim
end
end DL
namespace DL
open PySem PySem.Spec PyProof.Rows L2
/-! ### the law's own def: nothing leaves it -/
theorem fn_calm {P : Program} {w : World} {K : PySem.W.Frag} {mg : Str → Option Value} {base : Heap} {k : Nat} {f : Addr} {fd : FuncData} {ps : List Str} {sp sp' : Sp} (F : FnOk P w K mg base (L2.CX P w) k f fd ps sp) (h : ∀ vs H Q E, sp' vs H Q E → sp vs H Q E0) : FnOk P w K mg base CX0 k f fd ps sp' :=
  ⟨fun vs H Q E q => F.len vs H Q E0 (h _ _ _ _ q), fun A outer s H args us vs Q E hr he hb hv hs => codeAny_mono (F.run A outer s H args us vs Q E0 hr he hb hv (h _ _ _ _ hs)) fun r s' hq => by
    cases r with
    | error e => obtain ⟨_, _, _, _, _, _, _, _, _, _, _, _, z⟩ := hq; exact z.elim
    | ok fl => cases fl <;> exact hq⟩
/-- what is asked of the law's def -/
def spLaw (K : PySem.W.Frag) : Sp := fun vs H Q _ => ∃ (a : Addr) (ns : List Int), vs = [.ref a] ∧ SqL K H a (ns.map V.int) ∧ ns.length ≤ 63 ∧ ∀ H', Q (.bl true) H'
theorem rep_script {C : Ct} {ρ : List Addr} {F : Hp} : ∀ ns : List Int, RepAll C ρ F (ns.map V.int) (ns.map D.int)
  | [] => .nil
  | n :: ns => .cons (.int n) (rep_script ns)
theorem law_sp {P : Program} {w : World} {K : PySem.W.Frag} {cl : Nat → Addr} {Fm : List D → Sto → Res D} (hm : ∀ ns : List Int, ns.length ≤ 63 → ∃ S', Fm [.lst (ns.map D.int)] [] = .ok (.bl true) S') (vs : List V) (H : Hp) (Q : VK) (E : XK) (h : spLaw K vs H Q E) : spF ⟨P, w, K, cl⟩ 1 Fm vs H Q E0 := by
  obtain ⟨a, ns, rfl, hq, hl, q⟩ := h
  obtain ⟨S', e⟩ := hm ns hl
  refine ⟨rfl, [], [], H, [.lst (ns.map D.int)], ⟨fun _ _ h => h, rfl, fun i a c h => by simp at h, fun i a c h => by simp at h, fun i j a ci cj h => by simp at h⟩, .one (.lst hq (rep_script ns)), ?_⟩
  rw [e]
  intro ρ' F' H' v _ _ _ r
  cases r
  exact q H'
end DL

/-! DL11: reading the abstract functions. -/
namespace DL
open PySem PySem.Spec PyProof.Rows L2
section
variable {α β : Type} {A B Cc : E} {l : Loc} {S : Sto} {r r' : As} {c t u : T} {p q : TP}
theorem bind_ok {a : α} {k : α → Sto → Res β} : (Res.ok a S).bind k = k a S := rfl
theorem bind_exc {x : Nat} {k : α → Sto → Res β} : (Res.exc (α := α) x S).bind k = .exc x S := rfl
theorem toS_ok {a : α} {k : α → Sto → Out} : (Res.ok a S).toS l k = k a S := rfl
theorem toS_exc {x : Nat} {k : α → Sto → Out} : (Res.exc (α := α) x S).toS l k = .exc x l S := rfl
theorem ap_var {i : Nat} : eVar i l S = match l[i]? with
  | some (some d) => .ok d S
  | _ => .bad := rfl
theorem ap_c {d : D} : eC d l S = .ok d S := rfl
theorem ap_op2 {f : D → D → Sto → Res D} : eOp2 f A B l S = (A l S).bind fun x S1 => (B l S1).bind fun y S2 => f x y S2 := rfl
theorem ap_op1 {f : D → Sto → Res D} : eOp1 f A l S = (A l S).bind fun x S1 => f x S1 := rfl
theorem ap_and : eAnd A B l S = (A l S).bind fun d S1 => (isBl d S1).bind fun c S2 => if c = true then B l S2 else .ok (.bl false) S2 := rfl
theorem ap_or : eOr A B l S = (A l S).bind fun d S1 => (isBl d S1).bind fun c S2 => if c = true then .ok (.bl true) S2 else B l S2 := rfl
theorem ap_not : eNot A l S = (A l S).bind fun d S1 => (truD d S1).bind fun c S2 => .ok (.bl (!c)) S2 := rfl
theorem ap_if : eIf c A B l S = (c l S).bind fun k S1 => if k = true then A l S1 else B l S1 := rfl
theorem ap_tval : tVal A l S = (A l S).bind isBl := rfl
theorem ap_ttruth : tTruth A l S = (A l S).bind truD := rfl
theorem ap_tand : tAndD t u l S = (t l S).bind fun c S1 => if c = true then u l S1 else .ok false S1 := rfl
theorem ap_tor : tOrD t u l S = (t l S).bind fun c S1 => if c = true then .ok true S1 else u l S1 := rfl
theorem ap_tnot : tNotD t l S = (t l S).bind fun c S1 => .ok (!c) S1 := rfl
theorem ap_ttrue : tTrue l S = .ok true S := rfl
theorem ap_nil : aNil l S = .ok [] S := rfl
theorem ap_cons : aCons A r l S = (A l S).bind fun d S1 => (r l S1).bind fun ds S2 => .ok (d :: ds) S2 := rfl
theorem ap_tup : eTup r l S = (r l S).bind fun ds S1 => if ds.length ≤ sizeLine then .ok (.tup ds) S1 else .bad := rfl
theorem ap_lst : eLst r l S = (r l S).bind fun ds S1 => if ds.length ≤ sizeLine then .ok (.lst ds) S1 else .bad := rfl
theorem ap_lstM : eLstM r l S = (r l S).bind fun ds S1 => if ds.length ≤ sizeLine then newCell ds S1 else .bad := rfl
theorem ap_app {g : List D → Sto → Res D} : eApp g r l S = (r l S).bind fun ds S1 => g ds S1 := rfl
theorem ap_sl : eSl A p q l S = (A l S).bind fun x S1 => (p l S1).bind fun lo S2 => (q l S2).bind fun hi S3 => slD x lo hi S3 := rfl
theorem ap_pno : pNo l S = .ok none S := rfl
theorem ap_pat : pAt A l S = (A l S).bind toI := rfl
theorem toI_int {i : Int} : toI (.int i) S = .ok (some i) S := rfl
theorem ap_mt {T : String} {g : D → List D → Sto → Res D} : eMt T g A r l S = (A l S).bind fun x S1 => if tyD S1 x = some T then (r l S1).bind fun ds S2 => g x ds S2 else .bad := rfl
theorem ap_chain {g g' : D → D → Sto → Res D} : eChain g g' A B Cc l S = (A l S).bind fun x S1 => (B l S1).bind fun y S2 => (g x y S2).bind fun z S3 => (isBl z S3).bind fun k S4 => if k = true then (Cc l S4).bind fun u S5 => g' y u S5 else .ok (.bl false) S4 := rfl
theorem isBl_bl {b : Bool} : isBl (.bl b) S = .ok b S := rfl
theorem truD_bl {b : Bool} : truD (.bl b) S = .ok b S := rfl
theorem truD_int {b : Int} : truD (.int b) S = .ok (b != 0) S := rfl
variable {a b : Stm}
theorem ap_snil : sNil l S = .next l S := rfl
theorem ap_sbrk : sBrk l S = .brk l S := rfl
theorem ap_scont : sCont l S = .cont l S := rfl
theorem ap_sexpr : sExpr A l S = (A l S).toS l fun _ S1 => .next l S1 := rfl
theorem ap_sret : sRet A l S = (A l S).toS l fun d S1 => .ret d S1 := rfl
theorem ap_sretn : sRetN l S = .ret .non S := rfl
theorem ap_sif : sIf c a b l S = (c l S).toS l fun k S1 => if k = true then a l S1 else b l S1 := rfl
theorem ap_sset {i : Nat} : sSet i A l S = (A l S).toS l fun d S1 => .next (l.set i (some d)) S1 := rfl
theorem ap_sasg {G : GD} : sAsg A G l S = (A l S).toS l fun d S1 => match G d l S1 with
  | some (l1, S2) => .next l1 S2
  | none => .bad := rfl
theorem ap_spar {i j : Nat} : sPar i j r l S = (r l S).toS l fun ds S1 => match ds with
  | [x, y] => .next ((l.set i (some x)).set j (some y)) S1
  | _ => .bad := rfl
theorem ap_saug {i : Nat} {g : D → D → Sto → Res D} : sAug i g A l S = match l[i]? with
  | some (some x) => (A l S).toS l fun y S1 => (g x y S1).toS l fun z S2 => .next (l.set i (some z)) S2
  | _ => .bad := rfl
/-- one statement ahead -/
def seqK (o : Out) (b : Stm) : Out := match o with
  | .next l1 S1 => b l1 S1
  | o => o
theorem ap_seq : sSeq a b l S = seqK (a l S) b := rfl
theorem seqK_next {l1 : Loc} {S1 : Sto} : seqK (.next l1 S1) b = b l1 S1 := rfl
theorem seqK_ret {d : D} {S1 : Sto} : seqK (.ret d S1) b = .ret d S1 := rfl
theorem seqK_brk {l1 : Loc} {S1 : Sto} : seqK (.brk l1 S1) b = .brk l1 S1 := rfl
theorem seqK_cont {l1 : Loc} {S1 : Sto} : seqK (.cont l1 S1) b = .cont l1 S1 := rfl
theorem seqK_exc {x : Nat} {l1 : Loc} {S1 : Sto} : seqK (.exc x l1 S1) b = .exc x l1 S1 := rfl
theorem seqK_ite {p : Prop} [Decidable p] {o o' : Out} : seqK (if p then o else o') b = if p then seqK o b else seqK o' b := by split <;> rfl
theorem ap_for {I0 : I} {G : GD} : sFor I0 G a l S = (I0 l S).toS l fun q S1 => forL q.gd G a q.items l S1 := rfl
theorem ap_iseq : iSeq A l S = (A l S).bind fun d S1 => match seqOf S1 d with
  | some xs => .ok ⟨xs, fun S' => seqOf S' d = some xs⟩ S1
  | none => .bad := rfl
theorem ap_ir1 : iR1 r l S = (r l S).bind fun ds S1 => match ds with
  | [.int j] => if small62 j = true then .ok ⟨rangeI 0 j.toNat, fun _ => True⟩ S1 else .bad
  | _ => .bad := rfl
theorem ap_lc {m : Mode} {I0 : I} {G : GD} {own : List Nat} : eLcX m I0 G t A own l S = (I0 l S).bind fun q S1 =>
  (nox (lcL q.gd G t A S1.length q.items (wipeL l own) (S1 ++ [.lst []]))).bind fun _ S2 => exitM m S1 (.ref S1.length) S2 := rfl
theorem ap_gtp {is : List Nat} {xs : List D} : gTp is (.tup xs) l S = (gNms is xs l).map fun l' => (l', S) := rfl
theorem gnms_nil : gNms [] [] l = some l := rfl
theorem gnms_cons {i : Nat} {is : List Nat} {d : D} {ds : List D} : gNms (i :: is) (d :: ds) l = gNms is ds (l.set i (some d)) := rfl
theorem ap_gsub {g : SetD} {d : D} : gSubD A B g d l S = match A l S with
  | .ok x S1 => (match B l S1 with
    | .ok y S2 => (g x y d S2).map fun S3 => (l, S3)
    | _ => none)
  | _ => none := rfl
/-- a loop's turn: continue is as good as the end -/
def loopN (o : Out) : Out := match o with
  | .cont l S => .next l S
  | o => o
theorem loopN_next : loopN (.next l S) = .next l S := rfl
theorem loopN_cont : loopN (.cont l S) = .next l S := rfl
theorem ap_gnm {i : Nat} {d : D} : gNm i d l S = some (l.set i (some d), S) := rfl
theorem listOf_ref {n : Nat} {xs : List D} (h : S[n]? = some (.lst xs)) : listOf S (.ref n) = some xs := by
  show (match S[n]? with
    | some (.lst xs) => some xs
    | _ => none) = some xs
  rw [h]
theorem seqOf_ref {n : Nat} {xs : List D} (h : S[n]? = some (.lst xs)) : seqOf S (.ref n) = some xs := listOf_ref h
theorem seqOf_lst {xs : List D} : seqOf S (.lst xs) = some xs := rfl
theorem seqOf_tup {xs : List D} : seqOf S (.tup xs) = some xs := rfl
theorem cellL_ref {n : Nat} {xs : List D} (h : S[n]? = some (.lst xs)) : cellL S (.ref n) = some (n, xs) := by
  show (match S[n]? with
    | some (.lst xs) => some (n, xs)
    | _ => none) = some (n, xs)
  rw [h]
/-! operators -/
theorem add_ii {i j : Int} : addD (.int i) (.int j) S = .ok (.int (i + j)) S := rfl
theorem add_ll {xs ys : List D} (h : xs.length + ys.length ≤ sizeLine) : addD (.lst xs) (.lst ys) S = .ok (.lst (xs ++ ys)) S := if_pos h
theorem add_tt {xs ys : List D} (h : xs.length + ys.length ≤ sizeLine) : addD (.tup xs) (.tup ys) S = .ok (.tup (xs ++ ys)) S := if_pos h
theorem sub_ii {i j : Int} : subD (.int i) (.int j) S = .ok (.int (i - j)) S := rfl
theorem mul_ii {i j : Int} (h : mulOk i j = true) : mulD (.int i) (.int j) S = .ok (.int (i * j)) S := if_pos h
theorem mulOk_l {i j : Int} (h : i.natAbs < 2 ^ 64) : mulOk i j = true := by unfold mulOk; simp [h]
theorem mulOk_r {i j : Int} (h : j.natAbs < 2 ^ 64) : mulOk i j = true := by unfold mulOk; simp [h]
theorem fdiv_ii {i j : Int} (h : divOk j = true) : fdivD (.int i) (.int j) S = .ok (.int (i / j)) S := if_pos h
theorem divmod_ii {i j : Int} (h : divOk j = true) : divmodD [.int i, .int j] S = .ok (.tup [.int (i / j), .int (i % j)]) S := if_pos h
theorem mod_ii {i j : Int} (h : 0 < j) : modD (.int i) (.int j) S = .ok (.int (i % j)) S := if_pos h
theorem pow_ii {i j : Int} (h : 0 ≤ j ∧ j ≤ 1000000 ∧ i.natAbs < 2 ^ 64) : powD (.int i) (.int j) S = .ok (.int (i ^ j.toNat)) S := if_pos h
theorem neg_i {i : Int} : negD (.int i) S = .ok (.int (-i)) S := rfl
theorem ord_ii {f : Int → Int → Bool} {i j : Int} : ordD f (.int i) (.int j) S = .ok (.bl (f i j)) S := rfl
theorem is_non {x : D} : isD x .non S = .ok (.bl (isNon x)) S := by cases x <;> rfl
theorem isnt_non {x : D} : isntD x .non S = .ok (.bl (!isNon x)) S := by cases x <;> rfl
theorem is_bl {x y : Bool} : isD (.bl x) (.bl y) S = .ok (.bl (decide (x = y))) S := rfl
theorem isnt_bl {x y : Bool} : isntD (.bl x) (.bl y) S = .ok (.bl (!decide (x = y))) S := rfl
theorem abs_i {i : Int} : absD [.int i] S = .ok (.int (if i < 0 then -i else i)) S := rfl
theorem int_i {i : Int} : intD [.int i] S = .ok (.int i) S := rfl
theorem int_b {i : Bool} : intD [.bl i] S = .ok (.int (if i then 1 else 0)) S := rfl
theorem max_ii {i j : Int} : maxD [.int i, .int j] S = .ok (.int (if j > i then j else i)) S := rfl
theorem min_ii {i j : Int} : minD [.int i, .int j] S = .ok (.int (if j < i then j else i)) S := rfl
theorem str_i {i : Int} (h : i.natAbs.log2 < 1920) : strD [.int i] S = .ok (.str (toString i)) S := if_pos h
theorem len_str {x : Str} (h : x.length ≤ sizeLine) : lenD [.str x] S = .ok (.int x.length) S := if_pos h
theorem len_tup {xs : List D} : lenD [.tup xs] S = .ok (.int xs.length) S := rfl
theorem len_lst {xs : List D} : lenD [.lst xs] S = .ok (.int xs.length) S := rfl
theorem tuple_lst {xs : List D} : tupleD [.lst xs] S = .ok (.tup xs) S := rfl
theorem tuple_tup {xs : List D} : tupleD [.tup xs] S = .ok (.tup xs) S := rfl
theorem list_lst {xs : List D} : listD [.lst xs] S = .ok (.lst xs) S := rfl
theorem list_tup {xs : List D} : listD [.tup xs] S = .ok (.lst xs) S := rfl
theorem ix_lst {xs : List D} {i : Int} {d : D} (h : atI xs i = some d) : ixD (.lst xs) (.int i) S = .ok d S := by
  show (match atI xs i with | some d => Res.ok d S | none => Res.bad) = _
  rw [h]
theorem ix_tup {xs : List D} {i : Int} {d : D} (h : atI xs i = some d) : ixD (.tup xs) (.int i) S = .ok d S := by
  show (match atI xs i with | some d => Res.ok d S | none => Res.bad) = _
  rw [h]
theorem len_ref {n : Nat} : lenD [.ref n] S = match S[n]? with
    | some (.lst xs) => Res.ok (D.int xs.length) S
    | _ => Res.bad := by
  show (match seqOf S (.ref n) with | some xs => Res.ok (D.int xs.length) S | none => Res.bad) = _
  show (match (match S[n]? with
    | some (.lst xs) => some xs
    | _ => none) with | some xs => Res.ok (D.int xs.length) S | none => Res.bad) = _
  split <;> rename_i h <;> (split at h <;> first | (cases h; done) | (cases h; rfl) | rfl)
theorem ty_int {i : Int} : tyD S (.int i) = some "int" := rfl
theorem ty_bl {i : Bool} : tyD S (.bl i) = some "bool" := rfl
theorem ty_str {i : Str} : tyD S (.str i) = some "str" := rfl
theorem ty_non : tyD S .non = some "NoneType" := rfl
theorem ty_tup {i : List D} : tyD S (.tup i) = some "tuple" := rfl
theorem ty_lst {i : List D} : tyD S (.lst i) = some "list" := rfl
theorem ty_ref {n : Nat} : tyD S (.ref n) = match S[n]? with
    | some (.lst _) => some "list"
    | some (.dic _ _) => some "dict"
    | _ => none := rfl
theorem isi_ap {T : String} {d : D} : isiD T d S = match (tyD S d).bind fun t => kitB t T with
  | some b => .ok (.bl b) S
  | none => .bad := rfl
end
theorem atI_lit {xs : List D} {i : Int} {j : Nat} (h : i = (j : Int)) (hj : j < xs.length) : atI xs i = xs[j]? := by
  subst h
  unfold atI ixN
  rw [if_pos (by omega), if_pos (by omega)]
  rfl
theorem divOk_of {j : Int} (h : 0 < j) (h2 : j < 2 ^ 1000) : divOk j = true := by
  unfold divOk
  rw [Bool.and_eq_true]
  refine ⟨decide_eq_true h, decide_eq_true ?_⟩
  have : j.natAbs < 2 ^ 1000 := by omega
  exact Nat.lt_of_lt_of_le (Nat.log2_lt (by omega) |>.mpr this) (by decide)
theorem small62_of {j : Int} (h : 0 ≤ j) (h2 : j < 2 ^ 62) : small62 j = true := by
  unfold small62
  rw [Bool.and_eq_true]
  exact ⟨decide_eq_true (by omega), decide_eq_true h2⟩
/-- a def run, its answer from a return -/
theorem run_ret {n N : Nat} {m : Mode} {B : Stm} {ds : List D} {S S' S2 : Sto} {d e : D} (hl : ds.length = n) (h : B (ds.map some ++ List.replicate (N - n) none) S = .ret d S') (hx : exitM m S d S' = .ok e S2) : runF n N m B ds S = .ok e S2 := by
  unfold runF; rw [if_pos hl, h]; exact hx
theorem run_none {n N : Nat} {m : Mode} {B : Stm} {ds : List D} {l' : Loc} {S S' S2 : Sto} {e : D} (hl : ds.length = n) (h : B (ds.map some ++ List.replicate (N - n) none) S = .next l' S') (hx : exitM m S .non S' = .ok e S2) : runF n N m B ds S = .ok e S2 := by
  unfold runF; rw [if_pos hl, h]; exact hx
theorem run_flat {n N : Nat} {B : Stm} {ds : List D} {S : Sto} {d : D} (hl : ds.length = n) (h : B (ds.map some ++ List.replicate (N - n) none) S = .ret d S) (hx : rlt S.length d = true) : runF n N .fr B ds S = .ok d S :=
  run_ret hl h (exit_same hx)
end DL

/-! DL12: loops and comprehensions, read. -/
namespace DL
open PySem PySem.Spec PyProof.Rows L2
theorem set_none_some {l : Loc} {i : Nat} {d : D} : (l.set i none).set i (some d) = l.set i (some d) := by rw [List.set_set]
theorem push_last {S : Sto} {acc : List D} {y : D} (h : acc.length < sizeLine) : pushC S.length y (S ++ [.lst acc]) = some (S ++ [.lst (acc ++ [y])]) := by
  unfold pushC
  rw [List.getElem?_append_right (Nat.le_refl _), Nat.sub_self]
  simp only [List.getElem?_cons_zero]
  rw [if_pos h, List.set_append_right _ _ (Nat.le_refl _), Nat.sub_self]
  rfl
section
variable {gd : Sto → Prop} {i : Nat} {el : E} {l : Loc} {S : Sto} {f : D → D} {A : I} {items : List D}
theorem lcL_map (hg : ∀ acc, gd (S ++ [.lst acc])) : ∀ (items acc : List D), (∀ d ∈ items, ∀ acc, el (l.set i (some d)) (S ++ [.lst acc]) = .ok (f d) (S ++ [.lst acc])) → acc.length + items.length ≤ sizeLine →
    lcL gd (gNm i) tTrue el S.length items (wipeL l [i]) (S ++ [.lst acc]) = .ok () (S ++ [.lst (acc ++ items.map f)])
  | [], acc, _, _ => by unfold lcL; rw [if_pos (hg acc), List.map_nil, List.append_nil]
  | d :: ds, acc, h, hz => by
    unfold lcL
    rw [if_pos (hg acc)]
    have e : (wipeL l [i]).set i (some d) = l.set i (some d) := set_none_some
    simp only [gNm, tTrue, Res.bind, if_true, e]
    rw [h d List.mem_cons_self acc]
    simp only
    rw [push_last (by simp at hz; omega)]
    simp only
    rw [lcL_map hg ds (acc ++ [f d]) (fun d' hd' => h d' (List.mem_cons_of_mem _ hd')) (by simp at hz ⊢; omega)]
    simp
theorem lc_map (hA : A l S = .ok ⟨items, gd⟩ S) (hg : ∀ acc, gd (S ++ [.lst acc])) (h : ∀ d ∈ items, ∀ acc, el (l.set i (some d)) (S ++ [.lst acc]) = .ok (f d) (S ++ [.lst acc])) (hz : items.length ≤ sizeLine) (hr : rlts S.length (items.map f) = true) :
    eLcX .fr A (gNm i) tTrue el [i] l S = .ok (.lst (items.map f)) S := by
  rw [ap_lc, hA]
  simp only [Res.bind]
  rw [lcL_map hg items [] h (by simpa using hz)]
  simp only [nox, List.nil_append]
  show exitD S (.ref S.length) (S ++ [.lst (items.map f)]) = _
  refine exit_ext ?_
  unfold fzD sbD fzR
  rw [if_neg (Nat.lt_irrefl _)]
  unfold cellV
  rw [List.getElem?_append_right (Nat.le_refl _), Nat.sub_self]
  simp only [List.getElem?_cons_zero]
  rw [fzs_rlt _ _ _ _ hr]
  rfl
end
/-- a sequence that does not change -/
theorem seq_keep {S E : Sto} {d : D} {xs : List D} (h : seqOf S d = some xs) : seqOf (S ++ E) d = some xs := by
  cases d with
  | ref n =>
    have h' : (match S[n]? with
      | some (.lst xs) => some xs
      | _ => none) = some xs := h
    split at h'
    · next ys es =>
      cases h'
      exact seqOf_ref (by rw [List.getElem?_append_left (List.getElem?_eq_some_iff.mp es).1]; exact es)
    · cases h'
  | _ => exact h
theorem get_last {S : Sto} {c : Cell} : (S ++ [c])[S.length]? = some c := by
  rw [List.getElem?_append_right (Nat.le_refl _), Nat.sub_self]; rfl
theorem set_last {S : Sto} {c c' : Cell} : (S ++ [c]).set S.length c' = S ++ [c'] := by
  rw [List.set_append_right _ _ (Nat.le_refl _), Nat.sub_self]; rfl
theorem rlts_nil {n : Nat} : rlts n [] = true := by unfold rlts; rfl
theorem rlts_cons {n : Nat} {d : D} {ds : List D} : rlts n (d :: ds) = (rlt n d && rlts n ds) := by rw [rlts]
theorem rlts_app {n : Nat} {xs ys : List D} : rlts n (xs ++ ys) = (rlts n xs && rlts n ys) := by
  induction xs with
  | nil => rw [List.nil_append, rlts_nil, Bool.true_and]
  | cons x xs ih => rw [List.cons_append, rlts_cons, rlts_cons, ih, Bool.and_assoc]
theorem rlts_all {n : Nat} : ∀ {xs : List D}, (∀ x ∈ xs, rlt n x = true) → rlts n xs = true
  | [], _ => by unfold rlts; rfl
  | x :: xs, h => by
    unfold rlts
    rw [h x List.mem_cons_self, rlts_all fun y hy => h y (List.mem_cons_of_mem _ hy)]; rfl
/-- a live list of the scope, answered -/
theorem exit_last {S : Sto} {xs : List D} (hr : rlts S.length xs = true) : exitD S (.ref S.length) (S ++ [.lst xs]) = .ok (.lst xs) S := by
  refine exit_ext ?_
  unfold fzD sbD fzR
  rw [if_neg (Nat.lt_irrefl _)]
  unfold cellV
  rw [get_last]
  simp only
  rw [fzs_rlt _ _ _ _ hr]
  rfl
/-- data that names no cell: it is below any bound -/
def pureD (d : D) : Prop := ∀ n, rlt n d = true
theorem pure_int (i : Int) : pureD (.int i) := fun n => by unfold rlt; rfl
theorem pure_bl (i : Bool) : pureD (.bl i) := fun n => by unfold rlt; rfl
theorem pure_str (i : Str) : pureD (.str i) := fun n => by unfold rlt; rfl
theorem pure_non : pureD .non := fun n => by unfold rlt; rfl
theorem pure_tup {xs : List D} (h : ∀ x ∈ xs, pureD x) : pureD (.tup xs) := fun n => by unfold rlt; exact rlts_all fun x hx => h x hx n
theorem pure_lst {xs : List D} (h : ∀ x ∈ xs, pureD x) : pureD (.lst xs) := fun n => by unfold rlt; exact rlts_all fun x hx => h x hx n
theorem pures {xs : List D} (h : ∀ x ∈ xs, pureD x) (n : Nat) : rlts n xs = true := rlts_all fun x hx => h x hx n
/-- depth -/
theorem dps_le {k : Nat} : ∀ {xs : List D}, (∀ x ∈ xs, dp x ≤ k) → dps xs ≤ k
  | [], _ => by unfold dps; omega
  | x :: xs, h => by
    have h1 := h x List.mem_cons_self
    have h2 := dps_le fun y hy => h y (List.mem_cons_of_mem _ hy)
    unfold dps; omega
-- cells put in change nothing where none stands
mutual
theorem dr_pure (S : Sto) : ∀ d : D, rlt 0 d = true → dr S d = d
  | .non, _ => by unfold dr; rfl
  | .bl _, _ => by unfold dr; rfl
  | .int _, _ => by unfold dr; rfl
  | .str _, _ => by unfold dr; rfl
  | .tup xs, h => by unfold rlt at h; unfold dr; rw [drs_pure S xs h]
  | .lst xs, h => by unfold rlt at h; unfold dr; rw [drs_pure S xs h]
  | .dic _ _, _ => by unfold dr; rfl
  | .ref n, h => by unfold rlt at h; exact absurd (of_decide_eq_true h) (Nat.not_lt_zero _)
  | .exc _, _ => by unfold dr; rfl
theorem drs_pure (S : Sto) : ∀ ds : List D, rlts 0 ds = true → drs S ds = ds
  | [], _ => by unfold drs; rfl
  | d :: ds, h => by
    unfold rlts at h
    rw [Bool.and_eq_true] at h
    unfold drs
    rw [dr_pure S d h.1, drs_pure S ds h.2]
end
theorem dr_ref {S : Sto} {n : Nat} {xs : List D} (h : S[n]? = some (.lst xs)) : dr S (.ref n) = .lst xs := by unfold dr; rw [h]
theorem eqv_of {S : Sto} {x y x' y' : D} (hx : dr S x = x') (hy : dr S y = y') (h1 : dp x' ≤ 60) (h2 : dp y' ≤ 60) : eqvD x y S = .ok (.bl (eqD x' y')) S := by
  unfold eqvD flatOk; rw [hx, hy, decide_eq_true h1, decide_eq_true h2]; rfl
theorem nev_of {S : Sto} {x y x' y' : D} (hx : dr S x = x') (hy : dr S y = y') (h1 : dp x' ≤ 60) (h2 : dp y' ≤ 60) : nevD x y S = .ok (.bl (!eqD x' y')) S := by
  unfold nevD flatOk; rw [hx, hy, decide_eq_true h1, decide_eq_true h2]; rfl
theorem eqv_ii {S : Sto} {i j : Int} : eqvD (.int i) (.int j) S = .ok (.bl (i == j)) S := by
  have := eqv_of (S := S) (x := .int i) (y := .int j) (by unfold dr; rfl) (by unfold dr; rfl) (by unfold dp; decide) (by unfold dp; decide)
  rw [this]; unfold eqD; rfl
theorem nev_ii {S : Sto} {i j : Int} : nevD (.int i) (.int j) S = .ok (.bl (!(i == j))) S := by
  have := nev_of (S := S) (x := .int i) (y := .int j) (by unfold dr; rfl) (by unfold dr; rfl) (by unfold dp; decide) (by unfold dp; decide)
  rw [this]; unfold eqD; rfl
theorem eqv_bb {S : Sto} {i j : Bool} : eqvD (.bl i) (.bl j) S = .ok (.bl (i == j)) S := by
  have := eqv_of (S := S) (x := .bl i) (y := .bl j) (by unfold dr; rfl) (by unfold dr; rfl) (by unfold dp; decide) (by unfold dp; decide)
  rw [this]; unfold eqD; rfl
theorem nev_bb {S : Sto} {i j : Bool} : nevD (.bl i) (.bl j) S = .ok (.bl (!(i == j))) S := by
  have := nev_of (S := S) (x := .bl i) (y := .bl j) (by unfold dr; rfl) (by unfold dr; rfl) (by unfold dp; decide) (by unfold dp; decide)
  rw [this]; unfold eqD; rfl
theorem eqv_ss {S : Sto} {i j : Str} : eqvD (.str i) (.str j) S = .ok (.bl (i == j)) S := by
  have := eqv_of (S := S) (x := .str i) (y := .str j) (by unfold dr; rfl) (by unfold dr; rfl) (by unfold dp; decide) (by unfold dp; decide)
  rw [this]; unfold eqD; rfl
theorem nev_ss {S : Sto} {i j : Str} : nevD (.str i) (.str j) S = .ok (.bl (!(i == j))) S := by
  have := nev_of (S := S) (x := .str i) (y := .str j) (by unfold dr; rfl) (by unfold dr; rfl) (by unfold dp; decide) (by unfold dp; decide)
  rw [this]; unfold eqD; rfl
theorem eqDs_nil {xs : List D} : eqDs xs [] = xs.isEmpty := by cases xs <;> (unfold eqDs; rfl)
/-- found != [] -/
theorem nev_empty {S : Sto} {n : Nat} {xs : List D} (h : S[n]? = some (.lst xs)) (hd : dps xs ≤ 50) : nevD (.ref n) (.lst []) S = .ok (.bl (!xs.isEmpty)) S := by
  rw [nev_of (dr_ref h) (by unfold dr drs; rfl) (by unfold dp; omega) (by unfold dp dps; decide), eqD_lst, eqDs_nil]
theorem eqv_empty {S : Sto} {n : Nat} {xs : List D} (h : S[n]? = some (.lst xs)) (hd : dps xs ≤ 50) : eqvD (.ref n) (.lst []) S = .ok (.bl xs.isEmpty) S := by
  rw [eqv_of (dr_ref h) (by unfold dr drs; rfl) (by unfold dp; omega) (by unfold dp dps; decide), eqD_lst, eqDs_nil]
/-! the live list n -/
section
variable {S : Sto} {n : Nat} {y d : D} {xs : List D} {i : Int} {ds : List D}
theorem append_last : appendD (.ref S.length) [y] (S ++ [.lst xs]) = if xs.length < sizeLine then .ok .non (S ++ [.lst (xs ++ [y])]) else .bad := by
  unfold appendD
  simp only
  rw [cellL_ref get_last]
  simp only
  rw [set_last]
theorem tuple_last : tupleD [.ref S.length] (S ++ [.lst xs]) = .ok (.tup xs) (S ++ [.lst xs]) := by
  show (match seqOf (S ++ [.lst xs]) (.ref S.length) with | some xs => Res.ok (D.tup xs) _ | none => Res.bad) = _
  rw [seqOf_ref get_last]
theorem list_last : listD [.ref S.length] (S ++ [.lst xs]) = .ok (.lst xs) (S ++ [.lst xs]) := by
  show (match seqOf (S ++ [.lst xs]) (.ref S.length) with | some xs => Res.ok (D.lst xs) _ | none => Res.bad) = _
  rw [seqOf_ref get_last]
theorem ix_last (h : atI xs i = some d) : ixD (.ref S.length) (.int i) (S ++ [.lst xs]) = .ok d (S ++ [.lst xs]) := by
  show (match seqOf (S ++ [.lst xs]) (.ref S.length) with | some xs => (match atI xs i with | some d => Res.ok d _ | none => Res.bad) | none => Res.bad) = _
  rw [seqOf_ref get_last]; simp only; rw [h]
theorem set_lastD {j : Nat} (h : ixN xs.length i = some j) : setLD (.ref S.length) (.int i) y (S ++ [.lst xs]) = some (S ++ [.lst (xs.set j y)]) := by
  unfold setLD
  simp only
  rw [cellL_ref get_last]
  simp only
  rw [h]
  simp only
  rw [set_last]
theorem ixN_in {m : Nat} (h0 : 0 ≤ i) (h : i < m) : ixN m i = some i.toNat := by unfold ixN; rw [if_pos h0, if_pos h]
end
/-- all of a list of truths -/
theorem asBls_map {xs : List D} {f : D → Bool} : asBls (xs.map fun d => .bl (f d)) = some (xs.map f) := by
  induction xs with
  | nil => rfl
  | cons x xs ih => rw [List.map_cons, List.map_cons]; unfold asBls; rw [ih]; rfl
theorem all_map {S : Sto} {xs : List D} {f : D → Bool} : allD [.lst (xs.map fun d => .bl (f d))] S = .ok (.bl (xs.all f)) S := by
  show (match (listOf S (.lst (xs.map fun d => .bl (f d)))).bind asBls with | some bs => Res.ok (D.bl (bs.all id)) S | none => Res.bad) = _
  rw [show listOf S (.lst (xs.map fun d => .bl (f d))) = some (xs.map fun d => .bl (f d)) from rfl]
  simp only [Option.bind]
  rw [asBls_map]
  simp only [List.all_map]
  rfl
/-! a range, walked: by an invariant of the turn -/
theorem forL_range {gd : Sto → Prop} {G : GD} {body : Stm} {lo : Int} {n : Nat} {l : Loc} {S : Sto} (P : Nat → Loc → Sto → Prop) (h0 : P 0 l S) (hg : ∀ i l S, P i l S → gd S)
    (hs : ∀ i l S, i < n → P i l S → ∃ l1 S1, G (.int (lo + i)) l S = some (l1, S1) ∧ ∃ l2 S2, loopN (body l1 S1) = .next l2 S2 ∧ P (i + 1) l2 S2) : ∃ l' S', forL gd G body (rangeI lo n) l S = .next l' S' ∧ P n l' S' := by
  have key : ∀ (m k : Nat), m + k = n → ∀ l S, P m l S → ∃ l' S', forL gd G body ((rangeI lo n).drop m) l S = .next l' S' ∧ P n l' S' := by
    intro m k
    induction k generalizing m with
    | zero =>
      intro hm l S p
      have : m = n := by omega
      subst this
      rw [List.drop_eq_nil_of_le (by rw [rangeI_len]; exact Nat.le_refl _)]
      unfold forL
      rw [if_pos (hg _ _ _ p)]
      exact ⟨l, S, rfl, p⟩
    | succ k ih =>
      intro hm l S p
      have hlt : m < n := by omega
      have hget : (rangeI lo n)[m]? = some (.int (lo + m)) := by
        unfold rangeI
        rw [List.getElem?_map, List.getElem?_range hlt]; rfl
      rw [drop_at hget]
      obtain ⟨l1, S1, e1, l2, S2, e2, p2⟩ := hs m l S hlt p
      obtain ⟨l', S', e3, p3⟩ := ih (m + 1) (by omega) l2 S2 p2
      refine ⟨l', S', ?_, p3⟩
      unfold forL
      rw [if_pos (hg _ _ _ p), e1]
      simp only
      cases e4 : body l1 S1 with
      | next l3 S3 => rw [e4] at e2; cases e2; exact e3
      | cont l3 S3 => rw [e4] at e2; cases e2; exact e3
      | _ => rw [e4] at e2; cases e2
  have := key 0 n (by omega) l S h0
  rwa [List.drop_zero] at this
end DL
namespace DL
open PySem PySem.Spec PyProof.Rows L2
theorem atI_mem {xs : List D} {i : Int} (h0 : 0 ≤ i) (h1 : i < xs.length) : ∃ d, atI xs i = some d ∧ d ∈ xs := by
  obtain ⟨j, rfl⟩ : ∃ j : Nat, i = j := ⟨i.toNat, by omega⟩
  have hj : j < xs.length := by omega
  exact ⟨xs[j], by rw [atI_lit rfl hj]; exact List.getElem?_eq_getElem hj, List.getElem_mem hj⟩
end DL
namespace DL
open PySem PySem.Spec PyProof.Rows L2
theorem sl_lst {xs : List D} {lo hi : Option Int} {S : Sto} : slD (.lst xs) lo hi S = .ok (.lst (slD.cutL xs lo hi)) S := rfl
theorem sl_tup {xs : List D} {lo hi : Option Int} {S : Sto} : slD (.tup xs) lo hi S = .ok (.tup (slD.cutL xs lo hi)) S := rfl
theorem cutL_mem {xs : List D} {lo hi : Option Int} {x : D} (h : x ∈ slD.cutL xs lo hi) : x ∈ xs := by
  unfold slD.cutL at h
  exact List.mem_of_mem_drop (List.mem_of_mem_take h)
/-- a list, walked: by an invariant of the turn -/
theorem forL_list {gd : Sto → Prop} {G : GD} {body : Stm} {items : List D} {l : Loc} {S : Sto} (P : Nat → Loc → Sto → Prop) (h0 : P 0 l S) (hg : ∀ i l S, P i l S → gd S)
    (hs : ∀ i d l S, items[i]? = some d → P i l S → ∃ l1 S1, G d l S = some (l1, S1) ∧ ∃ l2 S2, loopN (body l1 S1) = .next l2 S2 ∧ P (i + 1) l2 S2) : ∃ l' S', forL gd G body items l S = .next l' S' ∧ P items.length l' S' := by
  have key : ∀ (m k : Nat), m + k = items.length → ∀ l S, P m l S → ∃ l' S', forL gd G body (items.drop m) l S = .next l' S' ∧ P items.length l' S' := by
    intro m k
    induction k generalizing m with
    | zero =>
      intro hm l S p
      have : m = items.length := by omega
      subst this
      rw [List.drop_eq_nil_of_le (Nat.le_refl _)]
      unfold forL
      rw [if_pos (hg _ _ _ p)]
      exact ⟨l, S, rfl, p⟩
    | succ k ih =>
      intro hm l S p
      have hlt : m < items.length := by omega
      have hget := List.getElem?_eq_getElem hlt
      rw [drop_at hget]
      obtain ⟨l1, S1, e1, l2, S2, e2, p2⟩ := hs m _ l S hget p
      obtain ⟨l', S', e3, p3⟩ := ih (m + 1) (by omega) l2 S2 p2
      refine ⟨l', S', ?_, p3⟩
      unfold forL
      rw [if_pos (hg _ _ _ p), e1]
      simp only
      cases e4 : body l1 S1 with
      | next l3 S3 => rw [e4] at e2; cases e2; exact e3
      | cont l3 S3 => rw [e4] at e2; cases e2; exact e3
      | _ => rw [e4] at e2; cases e2
  have := key 0 items.length (by omega) l S h0
  rwa [List.drop_zero] at this
theorem ix_tupm {xs : List D} {i : Int} {S : Sto} : ixD (.tup xs) (.int i) S = match atI xs i with | some d => .ok d S | none => .bad := rfl
theorem ix_lstm {xs : List D} {i : Int} {S : Sto} : ixD (.lst xs) (.int i) S = match atI xs i with | some d => .ok d S | none => .bad := rfl
section
variable {a b c d e f : D} {l : List D}
theorem atI_0 : atI (a :: l) 0 = some a := (atI_lit (j := 0) rfl (by simp)).trans rfl
theorem atI_1 : atI (a :: b :: l) 1 = some b := (atI_lit (j := 1) rfl (by simp)).trans rfl
theorem atI_2 : atI (a :: b :: c :: l) 2 = some c := (atI_lit (j := 2) rfl (by simp)).trans rfl
theorem atI_3 : atI (a :: b :: c :: d :: l) 3 = some d := (atI_lit (j := 3) rfl (by simp)).trans rfl
theorem atI_4 : atI (a :: b :: c :: d :: e :: l) 4 = some e := (atI_lit (j := 4) rfl (by simp)).trans rfl
theorem atI_5 : atI (a :: b :: c :: d :: e :: f :: l) 5 = some f := (atI_lit (j := 5) rfl (by simp)).trans rfl
end
end DL

/-! DL13: instances: attributes, methods, constructors. -/
namespace DL
open PySem PySem.Spec PyProof.Rows L2
def putD (f : Str) (v : D) : List (Str × D) → List (Str × D)
  | [] => [(f, v)]
  | (g, u) :: r => if g = f then (g, v) :: r else (g, u) :: putD f v r
/-- the instance, its attributes -/
def insOf (S : Sto) (c : Nat) : D → Option (Nat × List (Str × D))
  | .ref n => (match S[n]? with
    | some (.ins c' fs) => if c' = c then some (n, fs) else none
    | _ => none)
  | _ => none
def attrD (c : Nat) (f : Str) (x : D) (S : Sto) : Res D := match insOf S c x with
  | some (_, fs) => (match fs.lookup f with | some d => .ok d S | none => .bad)
  | none => .bad
def sAttr (c : Nat) (f : Str) (A V : E) : Stm := fun l S => (V l S).toS l fun y S1 => (A l S1).toS l fun x S2 => match insOf S2 c x with
  | some (n, fs) => if fs.length < 1000 then .next l (S2.set n (.ins c (putD f y fs))) else .bad
  | none => .bad
def eMeth (c : Nat) (m : Str) (Fm : List D → Sto → Res D) (A : E) (r : As) : E := fun l S => (A l S).bind fun x S1 => match insOf S1 c x with
  | some (_, fs) => (match fs.lookup m with
    | none => (r l S1).bind fun ds S2 => Fm (x :: ds) S2
    | some _ => .bad)
  | none => .bad
def eNew (c : Nat) (Fm : List D → Sto → Res D) (r : As) : E := fun l S => (r l S).bind fun ds S1 => match Fm (.ref S1.length :: ds) (S1 ++ [.ins c []]) with
  | .ok .non S2 => .ok (.ref S1.length) S2
  | _ => .bad
section
variable {C : Ct} {ρ : List Addr} {F H : Hp} {S : Sto}
theorem RepF.look {f : Str} : ∀ {vs : List (Str × V)} {ds : List (Str × D)}, RepF C ρ F vs ds → (∀ d, ds.lookup f = some d → ∃ v, vs.lookup f = some v ∧ RepD C ρ F v d) ∧ (ds.lookup f = none → vs.lookup f = none)
  | _, _, .nil => ⟨fun d h => (by cases h), fun _ => rfl⟩
  | _, _, .cons (f := g) (v := v) (d := d) (vs := vs) (ds := ds) r t => by
    obtain ⟨h1, h2⟩ := RepF.look (f := f) t
    rw [List.lookup_cons, List.lookup_cons]
    cases f == g with
    | true => exact ⟨fun e h => (by cases h; exact ⟨_, rfl, r⟩), fun h => (by cases h)⟩
    | false => exact ⟨h1, h2⟩
theorem RepF.put {f : Str} {v : V} {d : D} (r : RepD C ρ F v d) : ∀ {vs : List (Str × V)} {ds : List (Str × D)}, RepF C ρ F vs ds → RepF C ρ F (putF f v vs) (putD f d ds)
  | _, _, .nil => .cons r .nil
  | _, _, .cons (f := g) q t => by
    unfold putF putD
    split
    · exact .cons r t
    · exact .cons q (RepF.put r t)
theorem RepF.len {vs : List (Str × V)} {ds : List (Str × D)} (r : RepF C ρ F vs ds) : vs.length = ds.length := by
  induction r with
  | nil => rfl
  | cons _ _ ih => simp [ih]
theorem rep_ins {v : V} {d : D} {c n : Nat} {fs : List (Str × D)} (R : Rel C ρ F S H) (r : RepD C ρ F v d) (h : insOf S c d = some (n, fs)) : ∃ a dx vfs, d = .ref n ∧ v = .ref a ∧ ρ[n]? = some a ∧ S[n]? = some (.ins c fs) ∧ H a = some (.ins (C.cl c) dx vfs) ∧ RepF C ρ F vfs fs := by
  cases r with
  | @ref a m he =>
    have h' : (match S[m]? with
      | some (.ins c' fs) => if c' = c then some (m, fs) else none
      | _ => none) = some (n, fs) := h
    split at h'
    · next c' gs es =>
      split at h'
      · next hc =>
        subst hc
        cases h'
        obtain ⟨dx, vfs, hv, rf⟩ := R.cell n a _ he es
        exact ⟨a, dx, vfs, rfl, rfl, he, es, hv, rf⟩
      · cases h'
    · cases h'
  | _ => exact nomatch h
end
section
variable {X : Cx} {cl : Nat → Addr} {W : WX} {A V' : E} {r : As} {o e value : Expr} {es : List Expr} {f m : Str} {pos pos' apos : Pos} {c k : Nat} {Fm : List D → Sto → Res D}
theorem de_attr (c : Nat) (kc : Cls X.K (cl c)) (kn : NoAttr X.K (cl c) f) (he : DE X cl W e A) (hb : attributeBase e f X.env (eval e X.env) = eval e X.env := by rfl) : DE X cl W (.Attribute e f pos) (eOp1 (attrD c f) A) := (pe_fld he hb).imp fun σ H Q ⟨l, S, ρ, F, hl, R, h⟩ => by
  refine tE_stepX hl R (satE.x h) fun d S1 ρ1 F1 H1 v R1 hl1 r1 p1 f1 h1 => ?_
  have h2 := satE.mono p1 f1 h1
  unfold attrD at h2
  split at h2
  · next n fs hi =>
    split at h2
    · next y hy =>
      obtain ⟨a, dx, vfs, rfl, rfl, ha, hS, hH, rf⟩ := rep_ins R1 r1 hi
      obtain ⟨w, hw, rw'⟩ := rf.look.1 y hy
      exact ⟨a, cl c, dx, vfs, w, rfl, hH, kc, kn, hw, h2.now R1 rw'⟩
    · exact h2.elim
  · exact h2.elim
theorem ds_attr (c : Nat) (kc : Cls X.K (cl c)) (kn : NoAttr X.K (cl c) f) (ha : DE X cl W o A) (hv : DE X cl W value V') (hs : swapsWith value (some (.Attribute o f pos')) pos.line X.env = pure false := by rfl) : DS X cl W (.Assign [.Attribute o f pos'] value pos) (sAttr c f A V') := (ps_fld ha hv hs).imp fun D σ H ⟨l, S, ρ, F, hl, R, h⟩ => by
  refine tE_stepX hl R (satS.x hl h) fun y S1 ρ1 F1 H1 u R1 hl1 r1 p1 f1 h1 => ?_
  refine tE_stepX hl1 R1 (satS.x hl1 (satS.mono p1 f1 h1)) fun x S2 ρ2 F2 H2 v R2 hl2 r2 p2 f2 h2 => ?_
  have h3 := satS.mono p2 f2 h2
  cases hi : insOf S2 c x with
  | none => rw [hi] at h3; exact h3.elim
  | some q =>
    obtain ⟨n, fs⟩ := q
    rw [hi] at h3
    simp only at h3
    split at h3
    · next hz =>
      obtain ⟨a, dx, vfs, rfl, rfl, ea, hS, hH, rf⟩ := rep_ins R2 r2 hi
      refine ⟨a, cl c, dx, vfs, rfl, hH, kc, kn, by rw [rf.len]; exact hz, ?_⟩
      exact h3 ρ2 F2 _ σ (R2.put (c' := .ins c (putD f y fs)) ea hS (by intro z; cases z) ⟨dx, _, upd_same, rf.put (r1.mono p2 f2)⟩ (by intro z; cases z)) (List.prefix_refl _) (Le.refl _) hl2
    · exact h3.elim
/-- a method as its callers see it -/
structure CalM (P : Program) (w : World) (K : PySem.W.Frag) (mg : Str → Option Value) (base : Heap) (cl : Nat → Addr) (k c : Nat) (m : Str) (Fm : List D → Sto → Res D) : Prop where
  ex : ∃ (f : Addr) (fd : FuncData) (ps : List Str), FnOk P w K mg base (L2.CX P w) k f fd ps (spF ⟨P, w, K, cl⟩ ps.length Fm) ∧ Binds K fd ps [] ∧ Meth K (cl c) m f ∧ ∀ ds S, Fm ds S ≠ .bad → ds.length = ps.length
theorem CalM.up {P : Program} {w : World} {K : PySem.W.Frag} {mg : Str → Option Value} {base : Heap} {c k k' : Nat} {m : Str} (q : CalM P w K mg base cl k c m Fm) (h : k ≤ k') : CalM P w K mg base cl k' c m Fm := by
  obtain ⟨f, fd, ps, F, b, g, ln⟩ := q.ex
  exact ⟨f, fd, ps, F.mono h, b, g, ln⟩
def tMethE (C : Addr) (m : Str) (sp : Sp) (E : L2.St → XK) (ta : TE) (t : TA) : TE := fun σ H Q => ta σ H fun x H1 => ∃ a dx fs, x = .ref a ∧ H1 a = some (.ins C dx fs) ∧ fs.lookup m = none ∧ t σ H1 fun vs H2 => sp (.ref a :: vs) H2 Q (E σ)
theorem pe_methE {C f : Addr} {fd : FuncData} {ps : List Str} {sp : Sp} {CX : CXT} {E : L2.St → XK} {ta : TE} {t : TA} {pl : Sem Bool} (he : PE X o ta) (c : Cls X.K C) (hm : Meth X.K C m f) (F : FnOk X.prog X.w X.K X.mg X.base CX k f fd ps sp) (hr : Room k X.A) (hb : Binds X.K fd ps []) (hx : ∀ σ, PassesAt CX X σ (E σ)) (ha : PA X (e :: es) t)
    (hst : starEach (e :: es) X.env = (false, eval e X.env) :: starEach es X.env := by rfl) (hpl : (backTo pos (starEach es X.env)).any (·.1) = false := by rfl)
    (ht : eval (.Call (.Attribute o m apos) (e :: es) [] pos) X.env = (do
      let ov ← eval o X.env
      standAt apos.atName
      let (f, first) ← holding [ov] (getMethod ov m pl)
      callWith pos f first (backTo pos (starEach (e :: es) X.env)) (backToKw pos (keywordEach [] X.env))) := by rfl) :
    PE X (.Call (.Attribute o m apos) (e :: es) [] pos) (tMethE C m sp E ta t) := by
  refine ⟨fun pins s σ H Q I h => ?_⟩
  refine PySem.W.methodCall_KW (pl := pl) (thn (he.run pins s σ H _ I h) fun u s1 ⟨x, H1, I1, rx, a, dx, fs, ex, ea, l, q⟩ => ?_) ht
  subst ex
  obtain rfl : u = Value.ref a := rx
  refine getmeth_ok I1 ea c hm l ?_
  refine PySem.W.callWith_K (first := [.ref a]) (h₀ := X.base) I.ok.mod.kin hm.kp (thn (ha.run pos pins s1 σ H1 _ I1 q) fun us s2 ⟨vs, H2, I2, r, q2⟩ => ⟨I2.kIn, ?_⟩) hst hpl
  exact run_fnS (us := .ref a :: us) (vs := .ref a :: vs) F hr hb (hx σ) I2 (.cons rfl r) q2
theorem pe_methE0 {C f : Addr} {fd : FuncData} {ps : List Str} {sp : Sp} {CX : CXT} {E : L2.St → XK} {ta : TE} {pl : Sem Bool} (he : PE X o ta) (c : Cls X.K C) (hm : Meth X.K C m f) (F : FnOk X.prog X.w X.K X.mg X.base CX k f fd ps sp) (hr : Room k X.A) (hb : Binds X.K fd ps []) (hx : ∀ σ, PassesAt CX X σ (E σ))
    (ht : eval (.Call (.Attribute o m apos) [] [] pos) X.env = (do
      let ov ← eval o X.env
      standAt apos.atName
      let (f, first) ← holding [ov] (getMethod ov m pl)
      callWith pos f first (backTo pos (starEach [] X.env)) (backToKw pos (keywordEach [] X.env))) := by rfl) :
    PE X (.Call (.Attribute o m apos) [] [] pos) (tMethE C m sp E ta tNil) := by
  refine ⟨fun pins s σ H Q I h => ?_⟩
  refine PySem.W.methodCall_KW (pl := pl) (thn (he.run pins s σ H _ I h) fun u s1 ⟨x, H1, I1, rx, a, dx, fs, ex, ea, l, q⟩ => ?_) ht
  subst ex
  obtain rfl : u = Value.ref a := rx
  refine getmeth_ok I1 ea c hm l ?_
  exact PySem.W.callWith_K0 (first := [.ref a]) I1.kIn hm.kp (run_fnS (us := [.ref a]) (vs := [.ref a]) F hr hb (hx σ) I1 (.cons rfl .nil) q)
theorem tMeth_of {ps : List Str} (ln : ∀ ds S, Fm ds S ≠ .bad → ds.length = ps.length) {σ : L2.St} {H : Hp} {Q : VK} (h : tE (cxt X cl) W (eMeth c m Fm A r) σ H Q) : tMethE (cl c) m (spF (cxt X cl) ps.length Fm) (WE W) (tE (cxt X cl) W A) (tAs (cxt X cl) W r) σ H Q := by
  obtain ⟨l, S, ρ, F, hl, R, h⟩ := h
  refine tE_stepX hl R (satE.x h) fun d S1 ρ1 F1 H1 v R1 hl1 r1 p1 f1 h1 => ?_
  have h2 := satE.mono p1 f1 h1
  cases hi : insOf S1 c d with
  | none => rw [hi] at h2; exact h2.elim
  | some q =>
    obtain ⟨n, fs⟩ := q
    rw [hi] at h2
    simp only at h2
    cases hm : fs.lookup m with
    | some y => rw [hm] at h2; exact h2.elim
    | none =>
      rw [hm] at h2
      obtain ⟨a, dx, vfs, rfl, rfl, ea, hS, hH, rf⟩ := rep_ins R1 r1 hi
      refine ⟨a, dx, vfs, rfl, hH, rf.look.2 hm, ?_⟩
      refine tA_stepX hl1 R1 (satE.x h2) fun ds S2 ρ2 F2 H2 vs R2 hl2 r2 p2 f2 h3 => ?_
      have hb : Fm (.ref n :: ds) S2 ≠ .bad := fun z => by rw [z] at h3; exact h3
      have hlen := ln _ _ hb
      exact ⟨by rw [← hlen]; simp [r2.len], S2, ρ2, F2, .ref n :: ds, R2, .cons (r1.mono p2 f2) r2, satE.wish (satE.mono p2 f2 h3) fun c d H w => w⟩
theorem de_meth (c : Nat) (kc : Cls X.K (cl c)) (q : CalM X.prog X.w X.K X.mg X.base cl k c m Fm) (hr : Room k X.A) (tk : Takes X W) (ho : DE X cl W o A) (ha : DA X cl W (e :: es) r) {pl : Sem Bool}
    (hst : starEach (e :: es) X.env = (false, eval e X.env) :: starEach es X.env := by rfl) (hpl : (backTo pos (starEach es X.env)).any (·.1) = false := by rfl)
    (ht : eval (.Call (.Attribute o m apos) (e :: es) [] pos) X.env = (do
      let ov ← eval o X.env
      standAt apos.atName
      let (f, first) ← holding [ov] (getMethod ov m pl)
      callWith pos f first (backTo pos (starEach (e :: es) X.env)) (backToKw pos (keywordEach [] X.env))) := by rfl) :
    DE X cl W (.Call (.Attribute o m apos) (e :: es) [] pos) (eMeth c m Fm A r) := by
  obtain ⟨f, fd, ps, F, b, g, ln⟩ := q.ex
  exact (pe_methE (pl := pl) (E := WE W) ho kc g F hr b (fun σ => passAt tk σ) ha hst hpl ht).imp fun _ _ _ h => tMeth_of ln h
theorem de_meth0 (c : Nat) (kc : Cls X.K (cl c)) (q : CalM X.prog X.w X.K X.mg X.base cl k c m Fm) (hr : Room k X.A) (tk : Takes X W) (ho : DE X cl W o A) {pl : Sem Bool}
    (ht : eval (.Call (.Attribute o m apos) [] [] pos) X.env = (do
      let ov ← eval o X.env
      standAt apos.atName
      let (f, first) ← holding [ov] (getMethod ov m pl)
      callWith pos f first (backTo pos (starEach [] X.env)) (backToKw pos (keywordEach [] X.env))) := by rfl) :
    DE X cl W (.Call (.Attribute o m apos) [] [] pos) (eMeth c m Fm A aNil) := by
  obtain ⟨f, fd, ps, F, b, g, ln⟩ := q.ex
  refine (pe_methE0 (pl := pl) (E := WE W) ho kc g F hr b (fun σ => passAt tk σ) ht).imp fun _ _ _ h => ?_
  have h2 := tMeth_of (X := X) (cl := cl) (W := W) ln h
  obtain ⟨l, S, ρ, F', hl, R, h⟩ := h
  refine tE_stepX hl R (satE.x h) fun d S1 ρ1 F1 H1 v R1 hl1 r1 p1 f1 h1 => ?_
  have h2 := satE.mono p1 f1 h1
  cases hi : insOf S1 c d with
  | none => rw [hi] at h2; exact h2.elim
  | some q =>
    obtain ⟨n, fs⟩ := q
    rw [hi] at h2
    simp only at h2
    cases hm : fs.lookup m with
    | some y => rw [hm] at h2; exact h2.elim
    | none =>
      rw [hm] at h2
      obtain ⟨a, dx, vfs, rfl, rfl, ea, hS, hH, rf⟩ := rep_ins R1 r1 hi
      refine ⟨a, dx, vfs, rfl, hH, rf.look.2 hm, ?_⟩
      have h3 : satE (cxt X cl) W ρ1 F1 _ (Fm [.ref n] S1) _ := h2
      have hb : Fm [.ref n] S1 ≠ .bad := fun z => by rw [z] at h3; exact h3
      have hlen := ln _ _ hb
      exact ⟨by rw [← hlen]; rfl, S1, ρ1, F1, [.ref n], R1, .one r1, satE.wish h3 fun c d H w => w⟩
/-- a class as its makers see it: its constructor lets nothing out -/
structure CalN (P : Program) (w : World) (K : PySem.W.Frag) (mg : Str → Option Value) (base : Heap) (cl : Nat → Addr) (k c : Nat) (x : Str) (Fm : List D → Sto → Res D) : Prop where
  ex : ∃ (f : Addr) (fd : FuncData) (ps : List Str), FnOk P w K mg base (L2.CX P w) k f fd ps (spF ⟨P, w, K, cl⟩ ps.length Fm) ∧ Binds K fd ps [] ∧ Mk K (cl c) f ∧ mg x = some (.ref (cl c)) ∧ ∀ ds S, Fm ds S ≠ .bad → ds.length = ps.length
theorem CalN.up {P : Program} {w : World} {K : PySem.W.Frag} {mg : Str → Option Value} {base : Heap} {c k k' : Nat} {x : Str} (q : CalN P w K mg base cl k c x Fm) (h : k ≤ k') : CalN P w K mg base cl k' c x Fm := by
  obtain ⟨f, fd, ps, F, b, g, mx, ln⟩ := q.ex
  exact ⟨f, fd, ps, F.mono h, b, g, mx, ln⟩
theorem pass_none {CX : CXT} (hcx : CX = L2.CX X.prog X.w) : Passes CX X E0 := fun _ _ _ _ _ _ _ h => by
  subst hcx
  obtain ⟨_, _, _, _, _, _, _, _, _, _, _, _, z⟩ := h
  exact z.elim
theorem new_sp {C : Ct} {ps : List Str} (ln : ∀ ds S, Fm ds S ≠ .bad → ds.length = ps.length) {ρ : List Addr} {F H : Hp} {S : Sto} {σ : L2.St} {ds : List D} {vs : List V} {Q : VK} (R : Rel C ρ F S H) (ra : RepAll C ρ F vs ds)
    (h : satE C W ρ F σ (match Fm (.ref S.length :: ds) (S ++ [.ins c []]) with
      | .ok .non S2 => .ok (.ref S.length) S2
      | _ => .bad) Q) {x dx : Addr} (hx : H x = none) (hd : H dx = none) (hne : dx ≠ x) : spF C ps.length Fm (.ref x :: vs) (upd (upd H dx (.own x)) x (.ins (C.cl c) dx [])) (fun v H2 => v = .non ∧ Q (.ref x) H2) E0 := by
  have R1 : Rel C ρ F S (upd H dx (.own x)) := R.grow (le_upd hd)
  have hx1 : (upd H dx (.own x)) x = none := by rw [upd_ne (Ne.symm hne)]; exact hx
  have pr : ρ <+: ρ ++ [x] := List.prefix_append _ _
  have R2 : Rel C (ρ ++ [x]) F (S ++ [.ins c []]) (upd (upd H dx (.own x)) x (.ins (C.cl c) dx [])) := R1.lay hx1 ⟨dx, [], upd_same, .nil⟩ (by intro z; cases z)
  have rx : RepD C (ρ ++ [x]) F (.ref x) (.ref S.length) := .ref (by rw [← R.len]; exact ref_last)
  cases e : Fm (.ref S.length :: ds) (S ++ [.ins c []]) with
  | ok d S2 =>
    rw [e] at h
    have hb : Fm (.ref S.length :: ds) (S ++ [.ins c []]) ≠ .bad := fun z => by rw [e] at z; cases z
    have hlen := ln _ _ hb
    refine ⟨by rw [← hlen]; simp [ra.len], _, _, F, _, R2, .cons rx (ra.mono pr (Le.refl _)), ?_⟩
    rw [e]
    intro ρ' F' H' v R3 p f r
    cases d with
    | non =>
      cases r
      exact ⟨rfl, h ρ' F' H' _ R3 (pr.trans p) f (rx.mono p f)⟩
    | _ => exact h.elim
  | exc y S2 => rw [e] at h; exact h.elim
  | bad => rw [e] at h; exact h.elim
theorem de_new (c : Nat) {x : Str} {p : Pos} (q : CalN X.prog X.w X.K X.mg X.base cl k c x Fm) (hr : Room (k + 1) X.A) (hg : Gl X x) (ha : DA X cl W (e :: es) r) (hdb : (x == ("__debug__" : Str)) = false := by decide) (he : starEach (e :: es) X.env = (false, eval e X.env) :: starEach es X.env := by rfl) (hpl : (backTo pos (starEach es X.env)).any (·.1) = false := by rfl) :
    DE X cl W (.Call (.Name x p) (e :: es) [] pos) (eNew c Fm r) := by
  obtain ⟨f, fd, ps, F, b, M, mx, ln⟩ := q.ex
  refine (pe_make (dvs := []) (ds := []) (E := E0) M F hr hg mx b .nil (pass_none rfl) ha hdb he hpl).imp fun σ H Q ⟨l, S, ρ, F', hl, R, h⟩ => ?_
  refine tA_stepX hl R (satE.x h) fun ds S1 ρ1 F1 H1 vs R1 hl1 r1 p1 f1 h1 => ?_
  intro x dx hx hd hne
  rw [List.append_nil]
  exact new_sp (C := cxt X cl) ln R1 r1 (satE.mono p1 f1 h1) hx hd hne
theorem de_new0 (c : Nat) {x : Str} {p : Pos} (q : CalN X.prog X.w X.K X.mg X.base cl k c x Fm) (hr : Room (k + 1) X.A) (hg : Gl X x) (hdb : (x == ("__debug__" : Str)) = false := by decide) : DE X cl W (.Call (.Name x p) [] [] pos) (eNew c Fm aNil) := by
  obtain ⟨f, fd, ps, F, b, M, mx, ln⟩ := q.ex
  refine (pe_make0 (dvs := []) (ds := []) (E := E0) M F hr hg mx b .nil (pass_none rfl) hdb).imp fun σ H Q ⟨l, S, ρ, F', hl, R, h⟩ => ?_
  intro x dx hx hd hne
  exact new_sp (C := cxt X cl) (ds := []) (vs := []) ln R .nil h hx hd hne
end
theorem ap_meth {c : Nat} {m : Str} {Fm : List D → Sto → Res D} {A : E} {r : As} {l : Loc} {S : Sto} : eMeth c m Fm A r l S = (A l S).bind fun x S1 => match insOf S1 c x with
  | some (_, fs) => (match fs.lookup m with
    | none => (r l S1).bind fun ds S2 => Fm (x :: ds) S2
    | some _ => .bad)
  | none => .bad := rfl
theorem ap_new {c : Nat} {Fm : List D → Sto → Res D} {r : As} {l : Loc} {S : Sto} : eNew c Fm r l S = (r l S).bind fun ds S1 => match Fm (.ref S1.length :: ds) (S1 ++ [.ins c []]) with
  | .ok .non S2 => .ok (.ref S1.length) S2
  | _ => .bad := rfl
theorem ap_sattr {c : Nat} {f : Str} {A V : E} {l : Loc} {S : Sto} : sAttr c f A V l S = (V l S).toS l fun y S1 => (A l S1).toS l fun x S2 => match insOf S2 c x with
  | some (n, fs) => if fs.length < 1000 then .next l (S2.set n (.ins c (putD f y fs))) else .bad
  | none => .bad := rfl
end DL

/-! DL14: index of a constant tuple of texts; reversed. -/
namespace DL
open PySem PySem.Spec PyProof.Rows L2
/-- a tuple of texts of the module, as its method index asks it -/
def GTupS (K : PySem.W.Frag) (mg : Str → Option Value) (x : Str) (ys : List Str) : Prop := ∃ a o, mg x = some (.ref a) ∧ K.lookup a = some o ∧ o.cls = .type "tuple" ∧ o.dict = none ∧ ∀ H, SqT K H a (ys.map V.str)
def tupDn (K : PySem.W.Frag) (x : Str) : Bool := match K.lookup (He.ga K x) with
  | some ⟨.type "tuple", none, _, _⟩ => true
  | _ => false
theorem gtups_of {K : PySem.W.Frag} {mg : Str → Option Value} {x : Str} {vs : List He.Dv} {ys : List Str} (g : mg x = some (.ref (He.ga K x))) (h : He.tupB K x vs = true) (h2 : tupDn K x = true) (e : vs.map (He.Dv.v K) = ys.map V.str) : GTupS K mg x ys := by
  unfold tupDn at h2
  split at h2
  · next dt sl q => exact ⟨_, _, g, q, rfl, rfl, fun H => by rw [← e]; exact He.tupB_ok h H⟩
  · cases h2
def tixD (ys : List Str) (d : D) (S : Sto) : Res D := match d with
  | .str z => if ys.findIdx (· == z) < ys.length then .ok (.int (ys.findIdx (· == z))) S else .bad
  | _ => .bad
section
variable {X : Cx} {cl : Nat → Addr} {W : WX} {A : E} {e : Expr} {x : Str} {ys : List Str} {p apos cpos : Pos}
theorem de_tix (v : GTupS X.K X.mg x ys) (hg : Gl X x) (ha : DE X cl W e A) (hd : (x == ("__debug__" : Str)) = false := by decide)
    (hbase : attributeBase (.Name x p) "index" X.env (eval (.Name x p) X.env) = eval (.Name x p) X.env := by rfl)
    (hfew : ((backTo cpos (starEach [e] X.env)).all (fun x => !x.1) && (backToKw cpos (keywordEach [] X.env)).all (fun x => x.1.isSome)
      && decide ([e].length + ([] : List Keyword).length + (if ([] : List Keyword).isEmpty then 0 else 1) < 30)) = true := by rfl)
    (hline : (apos.endLine == cpos.line) = true := by rfl) (hs : starEach [e] X.env = (false, eval e X.env) :: starEach [] X.env := by rfl) (hplain : (backTo cpos (starEach [] X.env)).any (·.1) = false := by rfl) :
    DE X cl W (.Call (.Attribute (.Name x p) "index" apos) [e] [] cpos) (eOp1 (tixD ys) A) := by
  obtain ⟨a, o, hm, hk, hc, hdn, hq⟩ := v
  refine (pe_bm PySem.F.plainAttrs_tuple PySem.F.slot_tuple_index PySem.F.type_tuple_index mt_tup_index (pe_glob (v := .ref a) hg hm rfl hd) (pa_cons ha pa_nil hs) hbase hfew hline hs hplain).imp fun σ H Q ⟨l, S, ρ, F, hl, R, h⟩ => ?_
  refine ⟨.inr (.inl ⟨rfl, o, hk, hc, hdn⟩), ?_⟩
  refine tE_stepX hl R (satE.x h) fun d S1 ρ1 F1 H1 v R1 hl1 r1 p1 f1 h1 => ?_
  have h2 := satE.mono p1 f1 h1
  unfold tixD at h2
  split at h2
  · next z =>
    split at h2
    · next hlt =>
      cases r1
      refine ⟨a, ys, z, _, rfl, rfl, hq H1, ?_, fun m hm e => ?_, h2.now R1 (.int _)⟩
      · rw [List.getElem?_eq_getElem hlt]
        have := List.findIdx_getElem (w := hlt)
        rw [eq_of_beq this]
      · have h3 := List.not_of_lt_findIdx hm
        obtain ⟨h4, h5⟩ := List.getElem?_eq_some_iff.mp e
        rw [h5] at h3
        simp at h3
    · exact h2.elim
  · exact h2.elim
end

/-! ### reversed -/
def iRevD (A : E) : I := fun l S => (A l S).bind fun d S1 => match seqOf S1 d with
  | some xs => .ok ⟨xs.reverse, fun S' => seqOf S' d = some xs⟩ S1
  | none => .bad
theorem rev_get {α : Type} {xs : List α} {i : Nat} {d : α} (h : xs.reverse[i]? = some d) : xs[xs.length - 1 - i]? = some d ∧ i < xs.length := by
  have hi := (List.getElem?_eq_some_iff.mp h).1
  rw [List.length_reverse] at hi
  rw [List.getElem?_reverse hi] at h
  exact ⟨h, hi⟩
section
variable {X : Cx} {cl : Nat → Addr} {W : WX} {A : E} {e tg : Expr} {p pos : Pos}
theorem di_rev (hg : Gl X "reversed") (hm : X.mg "reversed" = none) (he : DE X cl W e A) (hs : starEach [e] X.env = (false, eval e X.env) :: starEach [] X.env := by rfl) : DI X cl W tg (.Call (.Name "reversed" p) [e] [] pos) (iRevD A) := (RT.pi_revA hg hm he hs).imp fun σ H Q ⟨l, S, ρ, F, hl, R, h⟩ => by
  refine tE_stepX hl R (satX.of h) fun d S1 ρ1 F1 H1 v R1 hl1 r1 p1 f1 h1 => ?_
  split at h1
  · next xs hs =>
    by_cases hd : ∃ ys, d = .tup ys
    · obtain ⟨ys, rfl⟩ := hd
      obtain rfl := Option.some.inj (show some ys = some xs from hs)
      obtain ⟨a, vs, rfl, hq, ra⟩ := rep_tup R1 r1
      refine ⟨a, vs, rfl, .inr ⟨hq, h1 ρ1 F1 H1 _ R1 p1 f1 fun ρ F S H i p f R g => ?_⟩⟩
      obtain ⟨a', ws, ea, hq', ra'⟩ := rep_tup R (r1.mono p f)
      cases ea
      have hlen : vs.length = ws.length := by rw [ra.len, ra'.len]
      refine ⟨fun h => ?_, fun dd hd => ?_⟩
      · show vs.length ≤ i
        rw [List.length_reverse] at h
        rw [ra.len]; exact h
      · obtain ⟨h3, h4⟩ := rev_get hd
        obtain ⟨v, hv, rv⟩ := ra'.get h3
        rw [← ra'.len, ← hlen] at hv
        exact ⟨⟨by rw [ra.len]; exact h4, ws, v, hq', hv⟩, fun x H' ⟨e1, e2⟩ => by
          subst e1
          have := e2 ws hq'
          rw [hlen, ra'.len] at this
          exact ⟨F, Le.refl _, R, ra'.get2 h3 this⟩⟩
    · have hne : ∀ ys, d ≠ .tup ys := fun ys z => hd ⟨ys, z⟩
      have gl0 : listOf S1 d = some xs := by
        cases d with
        | tup ys => exact absurd rfl (hne ys)
        | _ => exact hs
      obtain ⟨a, vs, rfl, hq, ra⟩ := rep_list R1 r1 gl0
      refine ⟨a, vs, rfl, .inl ⟨hq, h1 ρ1 F1 H1 _ R1 p1 f1 fun ρ F S H i p f R g => ?_⟩⟩
      have g' : seqOf S d = some xs := g
      have gl : listOf S d = some xs := by
        cases d with
        | tup ys => exact absurd rfl (hne ys)
        | _ => exact g'
      obtain ⟨a', ws, ea, hq', ra'⟩ := rep_list R (r1.mono p f) gl
      cases ea
      have hlen : vs.length = ws.length := by rw [ra.len, ra'.len]
      refine ⟨fun h => ?_, fun dd hd => ?_⟩
      · show vs.length ≤ i
        rw [List.length_reverse] at h
        rw [ra.len]; exact h
      · obtain ⟨h3, h4⟩ := rev_get hd
        obtain ⟨v, hv, rv⟩ := ra'.get h3
        rw [← ra'.len, ← hlen] at hv
        exact ⟨⟨by rw [ra.len]; exact h4, ws, v, hq', hv⟩, fun x H' ⟨e1, e2⟩ => by
          subst e1
          have := e2 ws hq'
          rw [hlen, ra'.len] at this
          exact ⟨F, Le.refl _, R, ra'.get2 h3 this⟩⟩
  · exact h1.elim
end
end DL

namespace LW
open PySem PySem.Spec PyProof.Rows L2 DL
def top (i : Nat) : Stmt := PySem.Challenge.pw_spentonce_k08_rows_not_done.main.body.getD i (.Pass ⟨0, 0, 0, 0⟩)
section
variable {P : Program} {w : World} {K : PySem.W.Frag} {mg : Str → Option Value} {base : Heap} {cl : Nat → Addr}
def C_FACTS : D := .tup [(.str "height"), (.str "age"), (.str "worth"), (.str "ins"), (.str "outs")]
noncomputable def A__law_mixed : Stm :=
  (sRet (eOp2 modD (eOp2 mulD (eOp2 mulD (eOp2 addD (eOp2 modD (eVar 0) (eC (.int 2147483647))) (eC (.int 11))) (eC (.int 48271))) (eC (.int 69621))) (eC (.int 2147483629))))
noncomputable def F__law_mixed : List D → Sto → Res D := runF 1 1 .fr A__law_mixed
theorem sc__law_mixed : FnScope ["cell"] ["cell"] (defScope (top 7)) := ⟨rfl, rfl, rfl, by decide +kernel, rfl, by decide +kernel, by decide +kernel⟩
theorem ok__law_mixed {f : Addr} {fd : FuncData} (Fd : FunD K "_law_mixed" "_law_mixed" (defArgs (top 7)) (defBody (top 7)) (defScope (top 7)) [] [] f fd)  :
    FnOk P w K mg base (L2.CX P w) 1 f fd ["cell"] (spF ⟨P, w, K, cl⟩ 1 F__law_mixed) :=
  fn_rule Fd sc__law_mixed fun cdv A outer s H E hr => by
  unfold A__law_mixed
  exact (dss_one (ds_ret (de_bin od_mod (de_bin od_mul (de_bin od_mul (de_bin od_add (de_bin od_mod (dv 0) de_int) de_int) de_int) de_int) de_int)))
noncomputable def A__law_cell : Stm :=
  (sSeq (sIf (tVal (eOp2 ltD (eVar 1) (eApp lenD (aCons (eVar 0) aNil))))
  (sRet (eOp2 ixD (eVar 0) (eVar 1)))
  sNil)
  (sRet (eC (.int 0))))
noncomputable def F__law_cell : List D → Sto → Res D := runF 2 2 .fr A__law_cell
theorem sc__law_cell : FnScope ["script", "k"] ["script", "k"] (defScope (top 8)) := ⟨rfl, rfl, rfl, by decide +kernel, rfl, by decide +kernel, by decide +kernel⟩
theorem ok__law_cell {f : Addr} {fd : FuncData} (Fd : FunD K "_law_cell" "_law_cell" (defArgs (top 8)) (defBody (top 8)) (defScope (top 8)) [] [] f fd) (g_len : mg "len" = none) :
    FnOk P w K mg base (L2.CX P w) 1 f fd ["script", "k"] (spF ⟨P, w, K, cl⟩ 2 F__law_cell) :=
  fn_rule Fd sc__law_cell fun cdv A outer s H E hr => by
  unfold A__law_cell
  exact (dss_cons (ds_if (dt_cmp od_lt (dv 1) (de_callB cd_len rfl g_len rfl (da_cons (dv 0) da_nil)))
  (dss_one (ds_ret (de_ix (dv 0) (dv 1))))
  dss_nil)
  (dss_one (ds_ret de_int)))
noncomputable def L__law_numbers_1 : E :=
  (eApp F__law_cell (aCons (eVar 0) (aCons (eOp2 addD (eC (.int 4)) (eVar 2)) aNil)))
noncomputable def L__law_numbers_3 : Stm :=
  (sSeq (sSet 3 (eOp2 modD (eOp2 addD (eOp2 addD (eOp2 mulD (eVar 3) (eC (.int 48271))) (eOp2 mulD (eVar 5) (eVar 5))) (eC (.int 3))) (eC (.int 2147483647))))
  (sSet 4 (eOp2 addD (eOp2 mulD (eVar 4) (eC (.int 1000003))) (eOp2 fdivD (eVar 3) (eC (.int 5))))))
noncomputable def L__law_numbers_2 : Stm :=
  (sSeq (sSet 3 (eApp F__law_mixed (aCons (eOp2 addD (eApp F__law_cell (aCons (eVar 0) (aCons (eOp2 addD (eC (.int 4)) (eVar 2)) aNil))) (eOp2 mulD (eC (.int 1000)) (eVar 2))) aNil)))
  (sSeq (sSet 4 (eVar 3))
  (sSeq (sFor (iR1 (aCons (eC (.int 12)) aNil)) (gNm 5)
  L__law_numbers_3)
  (sExpr (eMt "list" appendD (eVar 1) (aCons (eVar 4) aNil))))))
noncomputable def A__law_numbers : Stm :=
  (sSeq (sIf (tVal (eOp2 eqvD (eOp2 modD (eApp F__law_cell (aCons (eVar 0) (aCons (eC (.int 0)) aNil))) (eC (.int 2))) (eC (.int 0))))
  (sRet (eLc (iR1 (aCons (eC (.int 7)) aNil)) (gNm 2) tTrue L__law_numbers_1 [2]))
  sNil)
  (sSeq (sSet 1 (eLstM aNil))
  (sSeq (sFor (iR1 (aCons (eC (.int 7)) aNil)) (gNm 2)
  L__law_numbers_2)
  (sRet (eVar 1)))))
noncomputable def F__law_numbers : List D → Sto → Res D := runF 1 6 .fr A__law_numbers
theorem sc__law_numbers : FnScope ["script", "found", "k", "number", "large", "turn"] ["script"] (defScope (top 13)) := ⟨rfl, rfl, rfl, by decide +kernel, rfl, by decide +kernel, by decide +kernel⟩
theorem ok__law_numbers {f : Addr} {fd : FuncData} (Fd : FunD K "_law_numbers" "_law_numbers" (defArgs (top 13)) (defBody (top 13)) (defScope (top 13)) [] [] f fd) (c__law_cell : Cal P w K mg base cl 1 "_law_cell" F__law_cell) (g_range : mg "range" = none) (c__law_mixed : Cal P w K mg base cl 1 "_law_mixed" F__law_mixed) :
    FnOk P w K mg base (L2.CX P w) 2 f fd ["script"] (spF ⟨P, w, K, cl⟩ 1 F__law_numbers) :=
  fn_rule Fd sc__law_numbers fun cdv A outer s H E hr => by
  unfold A__law_numbers L__law_numbers_1 L__law_numbers_2 L__law_numbers_3
  exact (dss_cons (ds_if (dt_cmp (od_eq hr.units) (de_bin od_mod (de_call (c__law_cell.up (by decide)) hr takesF rfl (da_cons (dv 0) (da_cons de_int da_nil))) de_int) de_int)
  (dss_one (ds_ret (de_lc .fr (ix := [2]) (own := [("k", 2)]) rfl sc__law_numbers.nd  (di_r1 rfl g_range (da_cons de_int da_nil)) (blkOk_by (by kernel_rfl)) (by decide) (fun _ _ _ _ _ => (dg_name (i := 2) sc__law_numbers.nd)) (fun _ _ _ _ _ => dts_nil) (fun _ _ _ _ _ => (de_call (c__law_cell.up (by decide)) hr tkNo rfl (da_cons (dv 0) (da_cons (de_bin od_add de_int (dv 2)) da_nil)))))))
  dss_nil)
  (dss_cons (ds_set (i := 1) (de_lstM da_nil) sc__law_numbers.nd)
  (dss_cons (ds_for ownsF rfl (di_r1 rfl g_range (da_cons de_int da_nil)) (dg_name (i := 2) sc__law_numbers.nd)
  (dss_cons (ds_set (i := 3) (de_call (c__law_mixed.up (by decide)) hr takesF rfl (da_cons (de_bin od_add (de_call (c__law_cell.up (by decide)) hr takesF rfl (da_cons (dv 0) (da_cons (de_bin od_add de_int (dv 2)) da_nil))) (de_bin od_mul de_int (dv 2))) da_nil)) sc__law_numbers.nd)
  (dss_cons (ds_set (i := 4) (dv 3) sc__law_numbers.nd)
  (dss_cons (ds_for ownsF rfl (di_r1 rfl g_range (da_cons de_int da_nil)) (dg_name (i := 5) sc__law_numbers.nd)
  (dss_cons (ds_set (i := 3) (de_bin od_mod (de_bin od_add (de_bin od_add (de_bin od_mul (dv 3) de_int) (de_bin od_mul (dv 5) (dv 5))) de_int) de_int) sc__law_numbers.nd)
  (dss_one (ds_set (i := 4) (de_bin od_add (de_bin od_mul (dv 4) de_int) (de_bin od_fdiv (dv 3) de_int)) sc__law_numbers.nd))))
  (dss_one (ds_expr (de_mt PySem.F.plainAttrs_list PySem.F.slot_list_append PySem.F.type_list_append md_append (by decide) (dv 1) (da_cons (dv 4) da_nil))))))))
  (dss_one (ds_ret (dv 1))))))
noncomputable def A__law_digit_row : Stm :=
  (sSeq (sSet 1 (eLst (aCons (eC (.str "drop")) (aCons (eC (.str "swap")) (aCons (eC (.str "add")) (aCons (eC (.str "sub")) (aCons (eC (.str "mul")) (aCons (eC (.str "less")) (aCons (eC (.str "same")) (aCons (eC (.str "not")) (aCons (eC (.str "need")) aNil)))))))))))
  (sSeq (sSet 1 (eOp2 addD (eVar 1) (eLst (aCons (eC (.str "height")) (aCons (eC (.str "age")) (aCons (eC (.str "worth")) (aCons (eC (.str "ins")) (aCons (eC (.str "outs")) aNil))))))))
  (sSeq (sSet 1 (eOp2 addD (eVar 1) (eLst (aCons (eC (.str "if")) (aCons (eC (.str "else")) (aCons (eC (.str "end")) aNil))))))
  (sSeq (sAsg (eApp divmodD (aCons (eVar 0) (aCons (eC (.int 20)) aNil))) (gTp [0, 2]))
  (sSeq (sIf (tVal (eOp2 ltD (eVar 2) (eC (.int 17))))
  (sRet (eTup (aCons (eVar 0) (aCons (eTup (aCons (eOp2 ixD (eVar 1) (eVar 2)) aNil)) aNil))))
  sNil)
  (sSeq (sIf (tVal (eOp2 eqvD (eVar 2) (eC (.int 17))))
  (sSeq (sAsg (eApp divmodD (aCons (eVar 0) (aCons (eOp2 subD (eOp2 mulD (eC (.int 2)) (eOp2 powD (eC (.int 10)) (eC (.int 50)))) (eC (.int 1))) aNil))) (gTp [0, 3]))
  (sRet (eTup (aCons (eVar 0) (aCons (eTup (aCons (eC (.str "push")) (aCons (eOp2 addD (eOp2 subD (eVar 3) (eOp2 powD (eC (.int 10)) (eC (.int 50)))) (eC (.int 1))) aNil))) aNil)))))
  sNil)
  (sSeq (sAsg (eApp divmodD (aCons (eVar 0) (aCons (eC (.int 10)) aNil))) (gTp [0, 3]))
  (sRet (eTup (aCons (eVar 0) (aCons (eTup (aCons (eOp2 ixD (eLst (aCons (eC (.str "copy")) (aCons (eC (.str "paid")) aNil))) (eOp2 subD (eVar 2) (eC (.int 18)))) (aCons (eVar 3) aNil))) aNil)))))))))))
noncomputable def F__law_digit_row : List D → Sto → Res D := runF 1 4 .fr A__law_digit_row
theorem sc__law_digit_row : FnScope ["number", "words", "kind", "given"] ["number"] (defScope (top 9)) := ⟨rfl, rfl, rfl, by decide +kernel, rfl, by decide +kernel, by decide +kernel⟩
theorem ok__law_digit_row {f : Addr} {fd : FuncData} (Fd : FunD K "_law_digit_row" "_law_digit_row" (defArgs (top 9)) (defBody (top 9)) (defScope (top 9)) [] [] f fd) (g_divmod : mg "divmod" = none) :
    FnOk P w K mg base (L2.CX P w) 1 f fd ["number"] (spF ⟨P, w, K, cl⟩ 1 F__law_digit_row) :=
  fn_rule Fd sc__law_digit_row fun cdv A outer s H E hr => by
  unfold A__law_digit_row
  exact (dss_cons (ds_set (i := 1) (de_lst (da_cons de_str (da_cons de_str (da_cons de_str (da_cons de_str (da_cons de_str (da_cons de_str (da_cons de_str (da_cons de_str (da_cons de_str da_nil)))))))))) sc__law_digit_row.nd)
  (dss_cons (ds_set (i := 1) (de_bin od_add (dv 1) (de_lst (da_cons de_str (da_cons de_str (da_cons de_str (da_cons de_str (da_cons de_str da_nil))))))) sc__law_digit_row.nd)
  (dss_cons (ds_set (i := 1) (de_bin od_add (dv 1) (de_lst (da_cons de_str (da_cons de_str (da_cons de_str da_nil))))) sc__law_digit_row.nd)
  (dss_cons (ds_asg (de_callB cd_divmod rfl g_divmod rfl (da_cons (dv 0) (da_cons de_int da_nil))) (dg_tup rfl (dgs_cons (i := 0) (dgs_cons (i := 2) dgs_nil sc__law_digit_row.nd) sc__law_digit_row.nd)))
  (dss_cons (ds_if (dt_cmp od_lt (dv 2) de_int)
  (dss_one (ds_ret (de_tup (da_cons (dv 0) (da_cons (de_tup (da_cons (de_ix (dv 1) (dv 2)) da_nil)) da_nil)))))
  dss_nil)
  (dss_cons (ds_if (dt_cmp (od_eq hr.units) (dv 2) de_int)
  (dss_cons (ds_asg (de_callB cd_divmod rfl g_divmod rfl (da_cons (dv 0) (da_cons (de_bin od_sub (de_bin od_mul de_int (de_bin od_pow de_int de_int)) de_int) da_nil))) (dg_tup rfl (dgs_cons (i := 0) (dgs_cons (i := 3) dgs_nil sc__law_digit_row.nd) sc__law_digit_row.nd)))
  (dss_one (ds_ret (de_tup (da_cons (dv 0) (da_cons (de_tup (da_cons de_str (da_cons (de_bin od_add (de_bin od_sub (dv 3) (de_bin od_pow de_int de_int)) de_int) da_nil))) da_nil))))))
  dss_nil)
  (dss_cons (ds_asg (de_callB cd_divmod rfl g_divmod rfl (da_cons (dv 0) (da_cons de_int da_nil))) (dg_tup rfl (dgs_cons (i := 0) (dgs_cons (i := 3) dgs_nil sc__law_digit_row.nd) sc__law_digit_row.nd)))
  (dss_one (ds_ret (de_tup (da_cons (dv 0) (da_cons (de_tup (da_cons (de_ix (de_lst (da_cons de_str (da_cons de_str da_nil))) (de_bin od_sub (dv 2) de_int)) (da_cons (dv 3) da_nil))) da_nil))))))))))))
noncomputable def L__law_part_1 : Stm :=
  (sSeq (sAsg (eApp F__law_digit_row (aCons (eVar 0) aNil)) (gTp [0, 6]))
  (sSeq (sSet 7 (eOp2 subD (eOp2 subD (eVar 1) (eApp lenD (aCons (eVar 2) aNil))) (eApp lenD (aCons (eVar 3) aNil))))
  (sIf (tAndD (tVal (eOp2 eqvD (eOp2 ixD (eVar 6) (eC (.int 0))) (eC (.str "if")))) (tAndD (tVal (eOp2 ltD (eApp lenD (aCons (eVar 3) aNil)) (eC (.int 4)))) (tVal (eOp2 gtD (eVar 7) (eC (.int 1))))))
  (sSeq (sExpr (eMt "list" appendD (eVar 3) (aCons (eC (.bl true)) aNil)))
  (sExpr (eMt "list" appendD (eVar 2) (aCons (eVar 6) aNil))))
  (sIf (tAndD (tVal (eOp2 eqvD (eOp2 ixD (eVar 6) (eC (.int 0))) (eC (.str "else")))) (tAndD (tVal (eOp2 nevD (eVar 3) (eLst aNil))) (tAndD (tTruth (eOp2 ixD (eVar 3) (eOp1 negD (eC (.int 1))))) (tVal (eOp2 gtD (eVar 7) (eC (.int 0)))))))
  (sSeq (sAsg (eC (.bl false)) (gSubD (eVar 3) (eOp1 negD (eC (.int 1))) setLD))
  (sExpr (eMt "list" appendD (eVar 2) (aCons (eVar 6) aNil))))
  (sIf (tAndD (tVal (eOp2 eqvD (eOp2 ixD (eVar 6) (eC (.int 0))) (eC (.str "end")))) (tVal (eOp2 nevD (eVar 3) (eLst aNil))))
  (sSeq (sExpr (eMt "list" popD (eVar 3) aNil))
  (sExpr (eMt "list" appendD (eVar 2) (aCons (eVar 6) aNil))))
  (sIf (tAndD (tVal (eOp2 ninD (eOp2 ixD (eVar 6) (eC (.int 0))) (eTup (aCons (eC (.str "if")) (aCons (eC (.str "else")) (aCons (eC (.str "end")) aNil)))))) (tVal (eOp2 gtD (eVar 7) (eC (.int 0)))))
  (sExpr (eMt "list" appendD (eVar 2) (aCons (eVar 6) aNil)))
  sNil))))))
noncomputable def A__law_part : Stm :=
  (sSeq (sSet 2 (eLstM aNil))
  (sSeq (sSet 3 (eLstM aNil))
  (sSeq (sAsg (eApp divmodD (aCons (eVar 0) (aCons (eOp2 addD (eVar 1) (eC (.int 1))) aNil))) (gTp [0, 4]))
  (sSeq (sFor (iR1 (aCons (eVar 4) aNil)) (gNm 5)
  L__law_part_1)
  (sRet (eApp tupleD (aCons (eOp2 addD (eVar 2) (eOp2 mulD (eLst (aCons (eTup (aCons (eC (.str "end")) aNil)) aNil)) (eApp lenD (aCons (eVar 3) aNil)))) aNil)))))))
noncomputable def F__law_part : List D → Sto → Res D := runF 2 8 .fr A__law_part
theorem sc__law_part : FnScope ["number", "most", "found", "opened", "many", "k", "row", "room"] ["number", "most"] (defScope (top 12)) := ⟨rfl, rfl, rfl, by decide +kernel, rfl, by decide +kernel, by decide +kernel⟩
theorem ok__law_part {f : Addr} {fd : FuncData} (Fd : FunD K "_law_part" "_law_part" (defArgs (top 12)) (defBody (top 12)) (defScope (top 12)) [] [] f fd) (g_divmod : mg "divmod" = none) (g_range : mg "range" = none) (c__law_digit_row : Cal P w K mg base cl 1 "_law_digit_row" F__law_digit_row) (g_len : mg "len" = none) (g_tuple : mg "tuple" = none) :
    FnOk P w K mg base (L2.CX P w) 2 f fd ["number", "most"] (spF ⟨P, w, K, cl⟩ 2 F__law_part) :=
  fn_rule Fd sc__law_part fun cdv A outer s H E hr => by
  unfold A__law_part L__law_part_1
  exact (dss_cons (ds_set (i := 2) (de_lstM da_nil) sc__law_part.nd)
  (dss_cons (ds_set (i := 3) (de_lstM da_nil) sc__law_part.nd)
  (dss_cons (ds_asg (de_callB cd_divmod rfl g_divmod rfl (da_cons (dv 0) (da_cons (de_bin od_add (dv 1) de_int) da_nil))) (dg_tup rfl (dgs_cons (i := 0) (dgs_cons (i := 4) dgs_nil sc__law_part.nd) sc__law_part.nd)))
  (dss_cons (ds_for ownsF rfl (di_r1 rfl g_range (da_cons (dv 4) da_nil)) (dg_name (i := 5) sc__law_part.nd)
  (dss_cons (ds_asg (de_call (c__law_digit_row.up (by decide)) hr takesF rfl (da_cons (dv 0) da_nil)) (dg_tup rfl (dgs_cons (i := 0) (dgs_cons (i := 6) dgs_nil sc__law_part.nd) sc__law_part.nd)))
  (dss_cons (ds_set (i := 7) (de_bin od_sub (de_bin od_sub (dv 1) (de_callB cd_len rfl g_len rfl (da_cons (dv 2) da_nil))) (de_callB cd_len rfl g_len rfl (da_cons (dv 3) da_nil))) sc__law_part.nd)
  (dss_one (ds_if (dt_w (dw_and (dt_cmp (od_eq hr.units) (de_ix (dv 6) de_int) de_str) (dw_and (dt_cmp od_lt (de_callB cd_len rfl g_len rfl (da_cons (dv 3) da_nil)) de_int) (dw_and1 (dt_cmp od_gt (dv 7) de_int)))))
  (dss_cons (ds_expr (de_mt PySem.F.plainAttrs_list PySem.F.slot_list_append PySem.F.type_list_append md_append (by decide) (dv 3) (da_cons de_bl da_nil)))
  (dss_one (ds_expr (de_mt PySem.F.plainAttrs_list PySem.F.slot_list_append PySem.F.type_list_append md_append (by decide) (dv 2) (da_cons (dv 6) da_nil)))))
  (dss_one (ds_if (dt_w (dw_and (dt_cmp (od_eq hr.units) (de_ix (dv 6) de_int) de_str) (dw_and (dt_cmp (od_ne hr.units) (dv 3) (de_lst da_nil)) (dw_and (dt_truth (de_ix (dv 3) (de_neg de_int))) (dw_and1 (dt_cmp od_gt (dv 7) de_int))))))
  (dss_cons (ds_asg de_bl (dg_sub (dv 3) (de_neg de_int) sd_list))
  (dss_one (ds_expr (de_mt PySem.F.plainAttrs_list PySem.F.slot_list_append PySem.F.type_list_append md_append (by decide) (dv 2) (da_cons (dv 6) da_nil)))))
  (dss_one (ds_if (dt_w (dw_and (dt_cmp (od_eq hr.units) (de_ix (dv 6) de_int) de_str) (dw_and1 (dt_cmp (od_ne hr.units) (dv 3) (de_lst da_nil)))))
  (dss_cons (ds_expr (de_mt0 PySem.F.plainAttrs_list PySem.F.slot_list_pop PySem.F.type_list_pop md_pop0 (by decide) (dv 3)))
  (dss_one (ds_expr (de_mt PySem.F.plainAttrs_list PySem.F.slot_list_append PySem.F.type_list_append md_append (by decide) (dv 2) (da_cons (dv 6) da_nil)))))
  (dss_one (ds_if (dt_w (dw_and (dt_cmp (od_nin hr.units) (de_ix (dv 6) de_int) (de_tup (da_cons de_str (da_cons de_str (da_cons de_str da_nil))))) (dw_and1 (dt_cmp od_gt (dv 7) de_int))))
  (dss_one (ds_expr (de_mt PySem.F.plainAttrs_list PySem.F.slot_list_append PySem.F.type_list_append md_append (by decide) (dv 2) (da_cons (dv 6) da_nil))))
  dss_nil)))))))))))
  (dss_one (ds_ret (de_callTy cd_tuple rfl g_tuple rfl (da_cons (de_bin od_add (dv 2) (de_bin od_mul (de_lst (da_cons (de_tup (da_cons de_str da_nil)) da_nil)) (de_callB cd_len rfl g_len rfl (da_cons (dv 3) da_nil)))) da_nil))))))))
noncomputable def L__law_keys_1 : Stm :=
  (sSeq (sAsg (eApp divmodD (aCons (eVar 3) (aCons (eOp2 subD (eOp2 mulD (eC (.int 2)) (eOp2 powD (eC (.int 10)) (eC (.int 50)))) (eC (.int 1))) aNil))) (gTp [3, 6]))
  (sExpr (eMt "list" appendD (eVar 2) (aCons (eOp2 addD (eOp2 subD (eVar 6) (eOp2 powD (eC (.int 10)) (eC (.int 50)))) (eC (.int 1))) aNil))))
noncomputable def L__law_keys_2 : Stm :=
  (sSeq (sSet 3 (eOp2 modD (eOp2 addD (eOp2 mulD (eVar 3) (eC (.int 48271))) (eC (.int 7))) (eC (.int 2147483647))))
  (sExpr (eMt "list" appendD (eVar 2) (aCons (eOp2 subD (eOp2 modD (eOp2 fdivD (eVar 3) (eC (.int 3))) (eC (.int 9))) (eC (.int 3))) aNil))))
noncomputable def A__law_keys : Stm :=
  (sSeq (sSet 2 (eLstM aNil))
  (sSeq (sIf (tTruth (eVar 1))
  (sSeq (sAsg (eApp divmodD (aCons (eVar 0) (aCons (eC (.int 11)) aNil))) (gTp [3, 4]))
  (sSeq (sFor (iR1 (aCons (eVar 4) aNil)) (gNm 5)
  L__law_keys_1)
  (sRet (eApp tupleD (aCons (eVar 2) aNil)))))
  sNil)
  (sSeq (sSet 3 (eApp F__law_mixed (aCons (eVar 0) aNil)))
  (sSeq (sFor (iR1 (aCons (eOp2 modD (eVar 3) (eC (.int 7))) aNil)) (gNm 5)
  L__law_keys_2)
  (sRet (eApp tupleD (aCons (eVar 2) aNil)))))))
noncomputable def F__law_keys : List D → Sto → Res D := runF 2 7 .fr A__law_keys
theorem sc__law_keys : FnScope ["cell", "digits", "found", "number", "many", "k", "given"] ["cell", "digits"] (defScope (top 10)) := ⟨rfl, rfl, rfl, by decide +kernel, rfl, by decide +kernel, by decide +kernel⟩
theorem ok__law_keys {f : Addr} {fd : FuncData} (Fd : FunD K "_law_keys" "_law_keys" (defArgs (top 10)) (defBody (top 10)) (defScope (top 10)) [] [] f fd) (g_divmod : mg "divmod" = none) (g_range : mg "range" = none) (g_tuple : mg "tuple" = none) (c__law_mixed : Cal P w K mg base cl 1 "_law_mixed" F__law_mixed) :
    FnOk P w K mg base (L2.CX P w) 2 f fd ["cell", "digits"] (spF ⟨P, w, K, cl⟩ 2 F__law_keys) :=
  fn_rule Fd sc__law_keys fun cdv A outer s H E hr => by
  unfold A__law_keys L__law_keys_1 L__law_keys_2
  exact (dss_cons (ds_set (i := 2) (de_lstM da_nil) sc__law_keys.nd)
  (dss_cons (ds_if (dt_truth (dv 1))
  (dss_cons (ds_asg (de_callB cd_divmod rfl g_divmod rfl (da_cons (dv 0) (da_cons de_int da_nil))) (dg_tup rfl (dgs_cons (i := 3) (dgs_cons (i := 4) dgs_nil sc__law_keys.nd) sc__law_keys.nd)))
  (dss_cons (ds_for ownsF rfl (di_r1 rfl g_range (da_cons (dv 4) da_nil)) (dg_name (i := 5) sc__law_keys.nd)
  (dss_cons (ds_asg (de_callB cd_divmod rfl g_divmod rfl (da_cons (dv 3) (da_cons (de_bin od_sub (de_bin od_mul de_int (de_bin od_pow de_int de_int)) de_int) da_nil))) (dg_tup rfl (dgs_cons (i := 3) (dgs_cons (i := 6) dgs_nil sc__law_keys.nd) sc__law_keys.nd)))
  (dss_one (ds_expr (de_mt PySem.F.plainAttrs_list PySem.F.slot_list_append PySem.F.type_list_append md_append (by decide) (dv 2) (da_cons (de_bin od_add (de_bin od_sub (dv 6) (de_bin od_pow de_int de_int)) de_int) da_nil))))))
  (dss_one (ds_ret (de_callTy cd_tuple rfl g_tuple rfl (da_cons (dv 2) da_nil))))))
  dss_nil)
  (dss_cons (ds_set (i := 3) (de_call (c__law_mixed.up (by decide)) hr takesF rfl (da_cons (dv 0) da_nil)) sc__law_keys.nd)
  (dss_cons (ds_for ownsF rfl (di_r1 rfl g_range (da_cons (de_bin od_mod (dv 3) de_int) da_nil)) (dg_name (i := 5) sc__law_keys.nd)
  (dss_cons (ds_set (i := 3) (de_bin od_mod (de_bin od_add (de_bin od_mul (dv 3) de_int) de_int) de_int) sc__law_keys.nd)
  (dss_one (ds_expr (de_mt PySem.F.plainAttrs_list PySem.F.slot_list_append PySem.F.type_list_append md_append (by decide) (dv 2) (da_cons (de_bin od_sub (de_bin od_mod (de_bin od_fdiv (dv 3) de_int) de_int) de_int) da_nil))))))
  (dss_one (ds_ret (de_callTy cd_tuple rfl g_tuple rfl (da_cons (dv 2) da_nil))))))))
noncomputable def L__law_facts_1 : Stm :=
  (sSeq (sAsg (eApp divmodD (aCons (eVar 3) (aCons (eOp2 ixD (eVar 2) (eVar 5)) aNil))) (gTp [3, 6]))
  (sExpr (eMt "list" appendD (eVar 4) (aCons (eVar 6) aNil))))
noncomputable def L__law_facts_2 : Stm :=
  (sSeq (sAsg (eApp divmodD (aCons (eVar 3) (aCons (eOp2 ixD (eVar 2) (eC (.int 5))) aNil))) (gTp [3, 6]))
  (sExpr (eMt "list" appendD (eVar 7) (aCons (eVar 6) aNil))))
noncomputable def A__law_facts : Stm :=
  (sSeq (sSet 2 (eLst (aCons (eC (.int 20)) (aCons (eC (.int 20)) (aCons (eC (.int 50)) (aCons (eC (.int 4)) (aCons (eC (.int 4)) (aCons (eC (.int 30)) aNil))))))))
  (sSeq (sSet 3 (eOp2 addD (eOp2 mulD (eApp F__law_mixed (aCons (eVar 0) aNil)) (eOp2 powD (eC (.int 10)) (eC (.int 9)))) (eApp F__law_mixed (aCons (eOp2 addD (eVar 0) (eC (.int 1))) aNil))))
  (sSeq (sIf (tTruth (eVar 1))
  (sSeq (sSet 2 (eLst (aCons (eOp2 addD (eOp2 powD (eC (.int 10)) (eC (.int 30))) (eC (.int 1))) (aCons (eOp2 addD (eOp2 powD (eC (.int 10)) (eC (.int 30))) (eC (.int 1))) (aCons (eOp2 powD (eC (.int 10)) (eC (.int 61))) (aCons (eC (.int 9)) (aCons (eC (.int 9)) (aCons (eOp2 addD (eOp2 powD (eC (.int 10)) (eC (.int 40))) (eC (.int 1))) aNil))))))))
  (sSet 3 (eVar 0)))
  sNil)
  (sSeq (sSet 4 (eLstM aNil))
  (sSeq (sFor (iR1 (aCons (eC (.int 5)) aNil)) (gNm 5)
  L__law_facts_1)
  (sSeq (sSet 7 (eLstM aNil))
  (sSeq (sAsg (eApp divmodD (aCons (eVar 3) (aCons (eC (.int 9)) aNil))) (gTp [3, 8]))
  (sSeq (sFor (iR1 (aCons (eVar 8) aNil)) (gNm 5)
  L__law_facts_2)
  (sRet (eApp tupleD (aCons (eOp2 addD (eVar 4) (eLst (aCons (eApp tupleD (aCons (eVar 7) aNil)) aNil))) aNil)))))))))))
noncomputable def F__law_facts : List D → Sto → Res D := runF 2 9 .fr A__law_facts
theorem sc__law_facts : FnScope ["cell", "digits", "wide", "number", "found", "k", "given", "paid", "many"] ["cell", "digits"] (defScope (top 11)) := ⟨rfl, rfl, rfl, by decide +kernel, rfl, by decide +kernel, by decide +kernel⟩
theorem ok__law_facts {f : Addr} {fd : FuncData} (Fd : FunD K "_law_facts" "_law_facts" (defArgs (top 11)) (defBody (top 11)) (defScope (top 11)) [] [] f fd) (c__law_mixed : Cal P w K mg base cl 1 "_law_mixed" F__law_mixed) (g_range : mg "range" = none) (g_divmod : mg "divmod" = none) (g_tuple : mg "tuple" = none) :
    FnOk P w K mg base (L2.CX P w) 2 f fd ["cell", "digits"] (spF ⟨P, w, K, cl⟩ 2 F__law_facts) :=
  fn_rule Fd sc__law_facts fun cdv A outer s H E hr => by
  unfold A__law_facts L__law_facts_1 L__law_facts_2
  exact (dss_cons (ds_set (i := 2) (de_lst (da_cons de_int (da_cons de_int (da_cons de_int (da_cons de_int (da_cons de_int (da_cons de_int da_nil))))))) sc__law_facts.nd)
  (dss_cons (ds_set (i := 3) (de_bin od_add (de_bin od_mul (de_call (c__law_mixed.up (by decide)) hr takesF rfl (da_cons (dv 0) da_nil)) (de_bin od_pow de_int de_int)) (de_call (c__law_mixed.up (by decide)) hr takesF rfl (da_cons (de_bin od_add (dv 0) de_int) da_nil))) sc__law_facts.nd)
  (dss_cons (ds_if (dt_truth (dv 1))
  (dss_cons (ds_set (i := 2) (de_lst (da_cons (de_bin od_add (de_bin od_pow de_int de_int) de_int) (da_cons (de_bin od_add (de_bin od_pow de_int de_int) de_int) (da_cons (de_bin od_pow de_int de_int) (da_cons de_int (da_cons de_int (da_cons (de_bin od_add (de_bin od_pow de_int de_int) de_int) da_nil))))))) sc__law_facts.nd)
  (dss_one (ds_set (i := 3) (dv 0) sc__law_facts.nd)))
  dss_nil)
  (dss_cons (ds_set (i := 4) (de_lstM da_nil) sc__law_facts.nd)
  (dss_cons (ds_for ownsF rfl (di_r1 rfl g_range (da_cons de_int da_nil)) (dg_name (i := 5) sc__law_facts.nd)
  (dss_cons (ds_asg (de_callB cd_divmod rfl g_divmod rfl (da_cons (dv 3) (da_cons (de_ix (dv 2) (dv 5)) da_nil))) (dg_tup rfl (dgs_cons (i := 3) (dgs_cons (i := 6) dgs_nil sc__law_facts.nd) sc__law_facts.nd)))
  (dss_one (ds_expr (de_mt PySem.F.plainAttrs_list PySem.F.slot_list_append PySem.F.type_list_append md_append (by decide) (dv 4) (da_cons (dv 6) da_nil))))))
  (dss_cons (ds_set (i := 7) (de_lstM da_nil) sc__law_facts.nd)
  (dss_cons (ds_asg (de_callB cd_divmod rfl g_divmod rfl (da_cons (dv 3) (da_cons de_int da_nil))) (dg_tup rfl (dgs_cons (i := 3) (dgs_cons (i := 8) dgs_nil sc__law_facts.nd) sc__law_facts.nd)))
  (dss_cons (ds_for ownsF rfl (di_r1 rfl g_range (da_cons (dv 8) da_nil)) (dg_name (i := 5) sc__law_facts.nd)
  (dss_cons (ds_asg (de_callB cd_divmod rfl g_divmod rfl (da_cons (dv 3) (da_cons (de_ix (dv 2) de_int) da_nil))) (dg_tup rfl (dgs_cons (i := 3) (dgs_cons (i := 6) dgs_nil sc__law_facts.nd) sc__law_facts.nd)))
  (dss_one (ds_expr (de_mt PySem.F.plainAttrs_list PySem.F.slot_list_append PySem.F.type_list_append md_append (by decide) (dv 7) (da_cons (dv 6) da_nil))))))
  (dss_one (ds_ret (de_callTy cd_tuple rfl g_tuple rfl (da_cons (de_bin od_add (dv 4) (de_lst (da_cons (de_callTy cd_tuple rfl g_tuple rfl (da_cons (dv 7) da_nil)) da_nil))) da_nil))))))))))))
noncomputable def A_Trial___init__ : Stm :=
  (sSeq (sAttr 0 "pile" (eVar 0) (eApp listDM (aCons (eVar 1) aNil)))
  (sSeq (sAttr 0 "facts" (eVar 0) (eVar 2))
  (sAttr 0 "shut" (eVar 0) (eC (.bl false)))))
noncomputable def F_Trial___init__ : List D → Sto → Res D := runF 3 3 .rw A_Trial___init__
theorem sc_Trial___init__ : FnScope ["self", "keys", "facts"] ["self", "keys", "facts"] (defScope (inClass (top 4) 0)) := ⟨rfl, rfl, rfl, by decide +kernel, rfl, by decide +kernel, by decide +kernel⟩
theorem ok_Trial___init__ {f : Addr} {fd : FuncData} (Fd : FunD K "__init__" "Trial.__init__" (defArgs (inClass (top 4) 0)) (defBody (inClass (top 4) 0)) (defScope (inClass (top 4) 0)) [] [] f fd) (kc_Trial : Cls K (cl 0)) (kn_Trial_pile : NoAttr K (cl 0) "pile") (g_list : mg "list" = none) (kn_Trial_facts : NoAttr K (cl 0) "facts") (kn_Trial_shut : NoAttr K (cl 0) "shut") :
    FnOk P w K mg base (L2.CX P w) 1 f fd ["self", "keys", "facts"] (spF ⟨P, w, K, cl⟩ 3 F_Trial___init__) :=
  fn_rule Fd sc_Trial___init__ fun cdv A outer s H E hr => by
  unfold A_Trial___init__
  exact (dss_cons (ds_attr 0 kc_Trial kn_Trial_pile (dv 0) (de_callTy cd_listM rfl g_list rfl (da_cons (dv 1) da_nil)))
  (dss_cons (ds_attr 0 kc_Trial kn_Trial_facts (dv 0) (dv 2))
  (dss_one (ds_attr 0 kc_Trial kn_Trial_shut (dv 0) de_bl))))
noncomputable def A_Trial_has : Stm :=
  (sSeq (sIf (tVal (eOp2 ltD (eApp lenD (aCons (eOp1 (attrD 0 "pile") (eVar 0)) aNil)) (eVar 1)))
  (sAttr 0 "shut" (eVar 0) (eC (.bl true)))
  sNil)
  (sRet (eNot (eOp1 (attrD 0 "shut") (eVar 0)))))
noncomputable def F_Trial_has : List D → Sto → Res D := runF 2 2 .fr A_Trial_has
theorem sc_Trial_has : FnScope ["self", "many"] ["self", "many"] (defScope (inClass (top 4) 1)) := ⟨rfl, rfl, rfl, by decide +kernel, rfl, by decide +kernel, by decide +kernel⟩
theorem ok_Trial_has {f : Addr} {fd : FuncData} (Fd : FunD K "has" "Trial.has" (defArgs (inClass (top 4) 1)) (defBody (inClass (top 4) 1)) (defScope (inClass (top 4) 1)) [] [] f fd) (kc_Trial : Cls K (cl 0)) (kn_Trial_pile : NoAttr K (cl 0) "pile") (g_len : mg "len" = none) (kn_Trial_shut : NoAttr K (cl 0) "shut") :
    FnOk P w K mg base (L2.CX P w) 1 f fd ["self", "many"] (spF ⟨P, w, K, cl⟩ 2 F_Trial_has) :=
  fn_rule Fd sc_Trial_has fun cdv A outer s H E hr => by
  unfold A_Trial_has
  exact (dss_cons (ds_if (dt_cmp od_lt (de_callB cd_len rfl g_len rfl (da_cons (de_attr 0 kc_Trial kn_Trial_pile (dv 0)) da_nil)) (dv 1))
  (dss_one (ds_attr 0 kc_Trial kn_Trial_shut (dv 0) de_bl))
  dss_nil)
  (dss_one (ds_ret (de_not (de_attr 0 kc_Trial kn_Trial_shut (dv 0))))))
noncomputable def A_Trial_asked : Stm :=
  (sRet (eAnd (eMeth 0 "has" F_Trial_has (eVar 0) (aCons (eC (.int 1)) aNil)) (eOp2 nevD (eMt "list" popD (eOp1 (attrD 0 "pile") (eVar 0)) aNil) (eC (.int 0)))))
noncomputable def F_Trial_asked : List D → Sto → Res D := runF 1 1 .fr A_Trial_asked
theorem sc_Trial_asked : FnScope ["self"] ["self"] (defScope (inClass (top 4) 7)) := ⟨rfl, rfl, rfl, by decide +kernel, rfl, by decide +kernel, by decide +kernel⟩
theorem ok_Trial_asked {f : Addr} {fd : FuncData} (Fd : FunD K "asked" "Trial.asked" (defArgs (inClass (top 4) 7)) (defBody (inClass (top 4) 7)) (defScope (inClass (top 4) 7)) [] [] f fd) (kc_Trial : Cls K (cl 0)) (m_Trial_has : CalM P w K mg base cl 1 0 "has" F_Trial_has) (kn_Trial_pile : NoAttr K (cl 0) "pile") :
    FnOk P w K mg base (L2.CX P w) 2 f fd ["self"] (spF ⟨P, w, K, cl⟩ 1 F_Trial_asked) :=
  fn_rule Fd sc_Trial_asked fun cdv A outer s H E hr => by
  unfold A_Trial_asked
  exact (dss_one (ds_ret (de_and (de_meth 0 kc_Trial (m_Trial_has.up (by decide)) hr takesF (dv 0) (da_cons de_int da_nil)) (de_one (de_cmp (od_ne hr.units) (de_mt0 PySem.F.plainAttrs_list PySem.F.slot_list_pop PySem.F.type_list_pop md_pop0 (by decide) (de_attr 0 kc_Trial kn_Trial_pile (dv 0))) de_int)))))
noncomputable def A_Trial_lay : Stm :=
  (sIf (tOrD (tVal (eOp2 geD (eApp absD (aCons (eVar 1) aNil)) (eC (.int 1000000000000000000000000000000000000000000000000000000000000)))) (tVal (eOp2 eqvD (eApp lenD (aCons (eOp1 (attrD 0 "pile") (eVar 0)) aNil)) (eC (.int 20)))))
  (sAttr 0 "shut" (eVar 0) (eC (.bl true)))
  (sExpr (eMt "list" appendD (eOp1 (attrD 0 "pile") (eVar 0)) (aCons (eVar 1) aNil))))
noncomputable def F_Trial_lay : List D → Sto → Res D := runF 2 2 .fr A_Trial_lay
theorem sc_Trial_lay : FnScope ["self", "number"] ["self", "number"] (defScope (inClass (top 4) 2)) := ⟨rfl, rfl, rfl, by decide +kernel, rfl, by decide +kernel, by decide +kernel⟩
theorem ok_Trial_lay {f : Addr} {fd : FuncData} (Fd : FunD K "lay" "Trial.lay" (defArgs (inClass (top 4) 2)) (defBody (inClass (top 4) 2)) (defScope (inClass (top 4) 2)) [] [] f fd) (g_abs : mg "abs" = none) (v_OVER : ∃ t, mg "OVER" = some (.int 1000000000000000000000000000000000000000000000000000000000000 t)) (kc_Trial : Cls K (cl 0)) (kn_Trial_pile : NoAttr K (cl 0) "pile") (g_len : mg "len" = none) (v_MOST_LYING : ∃ t, mg "MOST_LYING" = some (.int 20 t)) (kn_Trial_shut : NoAttr K (cl 0) "shut") :
    FnOk P w K mg base (L2.CX P w) 1 f fd ["self", "number"] (spF ⟨P, w, K, cl⟩ 2 F_Trial_lay) :=
  fn_rule Fd sc_Trial_lay fun cdv A outer s H E hr => by
  unfold A_Trial_lay
  exact (dss_one (ds_if (dt_w (dw_or (dt_cmp od_ge (de_callB cd_abs rfl g_abs rfl (da_cons (dv 1) da_nil)) (de_gint v_OVER rfl)) (dw_or1 (dt_cmp (od_eq hr.units) (de_callB cd_len rfl g_len rfl (da_cons (de_attr 0 kc_Trial kn_Trial_pile (dv 0)) da_nil)) (de_gint v_MOST_LYING rfl)))))
  (dss_one (ds_attr 0 kc_Trial kn_Trial_shut (dv 0) de_bl))
  (dss_one (ds_expr (de_mt PySem.F.plainAttrs_list PySem.F.slot_list_append PySem.F.type_list_append md_append (by decide) (de_attr 0 kc_Trial kn_Trial_pile (dv 0)) (da_cons (dv 1) da_nil))))))
noncomputable def A_Trial_turn : Stm :=
  (sIf (tVal (eOp2 eqvD (eVar 1) (eC (.str "swap"))))
  (sIf (tTruth (eMeth 0 "has" F_Trial_has (eVar 0) (aCons (eC (.int 2)) aNil)))
  (sSeq (sSet 2 (eMt "list" popD (eOp1 (attrD 0 "pile") (eVar 0)) aNil))
  (sExpr (eMt "list" insertD (eOp1 (attrD 0 "pile") (eVar 0)) (aCons (eOp2 subD (eApp lenD (aCons (eOp1 (attrD 0 "pile") (eVar 0)) aNil)) (eC (.int 1))) (aCons (eVar 2) aNil)))))
  sNil)
  (sIf (tTruth (eMeth 0 "has" F_Trial_has (eVar 0) (aCons (eC (.int 1)) aNil)))
  (sSeq (sSet 3 (eMt "list" popD (eOp1 (attrD 0 "pile") (eVar 0)) aNil))
  (sSeq (sIf (tVal (eOp2 eqvD (eVar 1) (eC (.str "not"))))
  (sExpr (eMeth 0 "lay" F_Trial_lay (eVar 0) (aCons (eApp intD (aCons (eOp2 eqvD (eVar 3) (eC (.int 0))) aNil)) aNil)))
  sNil)
  (sIf (tAndD (tVal (eOp2 eqvD (eVar 1) (eC (.str "need")))) (tVal (eOp2 eqvD (eVar 3) (eC (.int 0)))))
  (sAttr 0 "shut" (eVar 0) (eC (.bl true)))
  sNil)))
  sNil))
noncomputable def F_Trial_turn : List D → Sto → Res D := runF 2 4 .fr A_Trial_turn
theorem sc_Trial_turn : FnScope ["self", "word", "upper", "top"] ["self", "word"] (defScope (inClass (top 4) 4)) := ⟨rfl, rfl, rfl, by decide +kernel, rfl, by decide +kernel, by decide +kernel⟩
theorem ok_Trial_turn {f : Addr} {fd : FuncData} (Fd : FunD K "turn" "Trial.turn" (defArgs (inClass (top 4) 4)) (defBody (inClass (top 4) 4)) (defScope (inClass (top 4) 4)) [] [] f fd) (kc_Trial : Cls K (cl 0)) (m_Trial_has : CalM P w K mg base cl 1 0 "has" F_Trial_has) (kn_Trial_pile : NoAttr K (cl 0) "pile") (g_len : mg "len" = none) (m_Trial_lay : CalM P w K mg base cl 1 0 "lay" F_Trial_lay) (g_int : mg "int" = none) (kn_Trial_shut : NoAttr K (cl 0) "shut") :
    FnOk P w K mg base (L2.CX P w) 2 f fd ["self", "word"] (spF ⟨P, w, K, cl⟩ 2 F_Trial_turn) :=
  fn_rule Fd sc_Trial_turn fun cdv A outer s H E hr => by
  unfold A_Trial_turn
  exact (dss_one (ds_if (dt_cmp (od_eq hr.units) (dv 1) de_str)
  (dss_one (ds_if (dt_truth (de_meth 0 kc_Trial (m_Trial_has.up (by decide)) hr takesF (dv 0) (da_cons de_int da_nil)))
  (dss_cons (ds_set (i := 2) (de_mt0 PySem.F.plainAttrs_list PySem.F.slot_list_pop PySem.F.type_list_pop md_pop0 (by decide) (de_attr 0 kc_Trial kn_Trial_pile (dv 0))) sc_Trial_turn.nd)
  (dss_one (ds_expr (de_mt PySem.F.plainAttrs_list PySem.F.slot_list_insert PySem.F.type_list_insert md_insert (by decide) (de_attr 0 kc_Trial kn_Trial_pile (dv 0)) (da_cons (de_bin od_sub (de_callB cd_len rfl g_len rfl (da_cons (de_attr 0 kc_Trial kn_Trial_pile (dv 0)) da_nil)) de_int) (da_cons (dv 2) da_nil))))))
  dss_nil))
  (dss_one (ds_if (dt_truth (de_meth 0 kc_Trial (m_Trial_has.up (by decide)) hr takesF (dv 0) (da_cons de_int da_nil)))
  (dss_cons (ds_set (i := 3) (de_mt0 PySem.F.plainAttrs_list PySem.F.slot_list_pop PySem.F.type_list_pop md_pop0 (by decide) (de_attr 0 kc_Trial kn_Trial_pile (dv 0))) sc_Trial_turn.nd)
  (dss_cons (ds_if (dt_cmp (od_eq hr.units) (dv 1) de_str)
  (dss_one (ds_expr (de_meth 0 kc_Trial (m_Trial_lay.up (by decide)) hr takesF (dv 0) (da_cons (de_callTy cd_int rfl g_int rfl (da_cons (de_cmp (od_eq hr.units) (dv 3) de_int) da_nil)) da_nil))))
  dss_nil)
  (dss_one (ds_if (dt_w (dw_and (dt_cmp (od_eq hr.units) (dv 1) de_str) (dw_and1 (dt_cmp (od_eq hr.units) (dv 3) de_int))))
  (dss_one (ds_attr 0 kc_Trial kn_Trial_shut (dv 0) de_bl))
  dss_nil))))
  dss_nil))))
noncomputable def A_Trial_reckon : Stm :=
  (sIf (tTruth (eMeth 0 "has" F_Trial_has (eVar 0) (aCons (eC (.int 2)) aNil)))
  (sSeq (sSet 2 (eMt "list" popD (eOp1 (attrD 0 "pile") (eVar 0)) aNil))
  (sSeq (sSet 3 (eMt "list" popD (eOp1 (attrD 0 "pile") (eVar 0)) aNil))
  (sIf (tVal (eOp2 eqvD (eVar 1) (eC (.str "add"))))
  (sExpr (eMeth 0 "lay" F_Trial_lay (eVar 0) (aCons (eOp2 addD (eVar 3) (eVar 2)) aNil)))
  (sIf (tVal (eOp2 eqvD (eVar 1) (eC (.str "sub"))))
  (sExpr (eMeth 0 "lay" F_Trial_lay (eVar 0) (aCons (eOp2 subD (eVar 3) (eVar 2)) aNil)))
  (sIf (tVal (eOp2 eqvD (eVar 1) (eC (.str "mul"))))
  (sExpr (eMeth 0 "lay" F_Trial_lay (eVar 0) (aCons (eOp2 mulD (eVar 3) (eVar 2)) aNil)))
  (sIf (tVal (eOp2 eqvD (eVar 1) (eC (.str "less"))))
  (sExpr (eMeth 0 "lay" F_Trial_lay (eVar 0) (aCons (eApp intD (aCons (eOp2 ltD (eVar 3) (eVar 2)) aNil)) aNil)))
  (sExpr (eMeth 0 "lay" F_Trial_lay (eVar 0) (aCons (eApp intD (aCons (eOp2 eqvD (eVar 3) (eVar 2)) aNil)) aNil)))))))))
  sNil)
noncomputable def F_Trial_reckon : List D → Sto → Res D := runF 2 4 .fr A_Trial_reckon
theorem sc_Trial_reckon : FnScope ["self", "word", "upper", "lower"] ["self", "word"] (defScope (inClass (top 4) 5)) := ⟨rfl, rfl, rfl, by decide +kernel, rfl, by decide +kernel, by decide +kernel⟩
theorem ok_Trial_reckon {f : Addr} {fd : FuncData} (Fd : FunD K "reckon" "Trial.reckon" (defArgs (inClass (top 4) 5)) (defBody (inClass (top 4) 5)) (defScope (inClass (top 4) 5)) [] [] f fd) (kc_Trial : Cls K (cl 0)) (m_Trial_has : CalM P w K mg base cl 1 0 "has" F_Trial_has) (kn_Trial_pile : NoAttr K (cl 0) "pile") (m_Trial_lay : CalM P w K mg base cl 1 0 "lay" F_Trial_lay) (g_int : mg "int" = none) :
    FnOk P w K mg base (L2.CX P w) 2 f fd ["self", "word"] (spF ⟨P, w, K, cl⟩ 2 F_Trial_reckon) :=
  fn_rule Fd sc_Trial_reckon fun cdv A outer s H E hr => by
  unfold A_Trial_reckon
  exact (dss_one (ds_if (dt_truth (de_meth 0 kc_Trial (m_Trial_has.up (by decide)) hr takesF (dv 0) (da_cons de_int da_nil)))
  (dss_cons (ds_set (i := 2) (de_mt0 PySem.F.plainAttrs_list PySem.F.slot_list_pop PySem.F.type_list_pop md_pop0 (by decide) (de_attr 0 kc_Trial kn_Trial_pile (dv 0))) sc_Trial_reckon.nd)
  (dss_cons (ds_set (i := 3) (de_mt0 PySem.F.plainAttrs_list PySem.F.slot_list_pop PySem.F.type_list_pop md_pop0 (by decide) (de_attr 0 kc_Trial kn_Trial_pile (dv 0))) sc_Trial_reckon.nd)
  (dss_one (ds_if (dt_cmp (od_eq hr.units) (dv 1) de_str)
  (dss_one (ds_expr (de_meth 0 kc_Trial (m_Trial_lay.up (by decide)) hr takesF (dv 0) (da_cons (de_bin od_add (dv 3) (dv 2)) da_nil))))
  (dss_one (ds_if (dt_cmp (od_eq hr.units) (dv 1) de_str)
  (dss_one (ds_expr (de_meth 0 kc_Trial (m_Trial_lay.up (by decide)) hr takesF (dv 0) (da_cons (de_bin od_sub (dv 3) (dv 2)) da_nil))))
  (dss_one (ds_if (dt_cmp (od_eq hr.units) (dv 1) de_str)
  (dss_one (ds_expr (de_meth 0 kc_Trial (m_Trial_lay.up (by decide)) hr takesF (dv 0) (da_cons (de_bin od_mul (dv 3) (dv 2)) da_nil))))
  (dss_one (ds_if (dt_cmp (od_eq hr.units) (dv 1) de_str)
  (dss_one (ds_expr (de_meth 0 kc_Trial (m_Trial_lay.up (by decide)) hr takesF (dv 0) (da_cons (de_callTy cd_int rfl g_int rfl (da_cons (de_cmp od_lt (dv 3) (dv 2)) da_nil)) da_nil))))
  (dss_one (ds_expr (de_meth 0 kc_Trial (m_Trial_lay.up (by decide)) hr takesF (dv 0) (da_cons (de_callTy cd_int rfl g_int rfl (da_cons (de_cmp (od_eq hr.units) (dv 3) (dv 2)) da_nil)) da_nil))))))))))))))
  dss_nil))
noncomputable def A_Trial_lay_fact : Stm :=
  (sIf (tVal (eOp2 eqvD (eOp2 ixD (eVar 1) (eC (.int 0))) (eC (.str "paid"))))
  (sSeq (sSet 2 (eOp2 ixD (eOp1 (attrD 0 "facts") (eVar 0)) (eC (.int 5))))
  (sIf (tVal (eOp2 ltD (eOp2 ixD (eVar 1) (eC (.int 1))) (eApp lenD (aCons (eVar 2) aNil))))
  (sExpr (eMeth 0 "lay" F_Trial_lay (eVar 0) (aCons (eOp2 ixD (eVar 2) (eOp2 ixD (eVar 1) (eC (.int 1)))) aNil)))
  (sExpr (eMeth 0 "lay" F_Trial_lay (eVar 0) (aCons (eC (.int 0)) aNil)))))
  (sExpr (eMeth 0 "lay" F_Trial_lay (eVar 0) (aCons (eOp2 ixD (eOp1 (attrD 0 "facts") (eVar 0)) (eOp1 (tixD ["height", "age", "worth", "ins", "outs"]) (eOp2 ixD (eVar 1) (eC (.int 0))))) aNil))))
noncomputable def F_Trial_lay_fact : List D → Sto → Res D := runF 2 3 .fr A_Trial_lay_fact
theorem sc_Trial_lay_fact : FnScope ["self", "row", "paid"] ["self", "row"] (defScope (inClass (top 4) 3)) := ⟨rfl, rfl, rfl, by decide +kernel, rfl, by decide +kernel, by decide +kernel⟩
theorem ok_Trial_lay_fact {f : Addr} {fd : FuncData} (Fd : FunD K "lay_fact" "Trial.lay_fact" (defArgs (inClass (top 4) 3)) (defBody (inClass (top 4) 3)) (defScope (inClass (top 4) 3)) [] [] f fd) (kc_Trial : Cls K (cl 0)) (kn_Trial_facts : NoAttr K (cl 0) "facts") (g_len : mg "len" = none) (m_Trial_lay : CalM P w K mg base cl 1 0 "lay" F_Trial_lay) (w_FACTS : GTupS K mg "FACTS" ["height", "age", "worth", "ins", "outs"]) (v_FACTS : GTup K mg "FACTS" C_FACTS) :
    FnOk P w K mg base (L2.CX P w) 2 f fd ["self", "row"] (spF ⟨P, w, K, cl⟩ 2 F_Trial_lay_fact) :=
  fn_rule Fd sc_Trial_lay_fact fun cdv A outer s H E hr => by
  unfold A_Trial_lay_fact
  exact (dss_one (ds_if (dt_cmp (od_eq hr.units) (de_ix (dv 1) de_int) de_str)
  (dss_cons (ds_set (i := 2) (de_ix (de_attr 0 kc_Trial kn_Trial_facts (dv 0)) de_int) sc_Trial_lay_fact.nd)
  (dss_one (ds_if (dt_cmp od_lt (de_ix (dv 1) de_int) (de_callB cd_len rfl g_len rfl (da_cons (dv 2) da_nil)))
  (dss_one (ds_expr (de_meth 0 kc_Trial (m_Trial_lay.up (by decide)) hr takesF (dv 0) (da_cons (de_ix (dv 2) (de_ix (dv 1) de_int)) da_nil))))
  (dss_one (ds_expr (de_meth 0 kc_Trial (m_Trial_lay.up (by decide)) hr takesF (dv 0) (da_cons de_int da_nil)))))))
  (dss_one (ds_expr (de_meth 0 kc_Trial (m_Trial_lay.up (by decide)) hr takesF (dv 0) (da_cons (de_ix (de_attr 0 kc_Trial kn_Trial_facts (dv 0)) (de_tix w_FACTS rfl (de_ix (dv 1) de_int))) da_nil))))))
noncomputable def A_Trial_do : Stm :=
  (sSeq (sSet 2 (eOp2 ixD (eVar 1) (eC (.int 0))))
  (sIf (tVal (eOp2 eqvD (eVar 2) (eC (.str "push"))))
  (sExpr (eMeth 0 "lay" F_Trial_lay (eVar 0) (aCons (eOp2 ixD (eVar 1) (eC (.int 1))) aNil)))
  (sIf (tVal (eOp2 eqvD (eVar 2) (eC (.str "copy"))))
  (sIf (tTruth (eMeth 0 "has" F_Trial_has (eVar 0) (aCons (eOp2 addD (eOp2 ixD (eVar 1) (eC (.int 1))) (eC (.int 1))) aNil)))
  (sExpr (eMeth 0 "lay" F_Trial_lay (eVar 0) (aCons (eOp2 ixD (eOp1 (attrD 0 "pile") (eVar 0)) (eOp2 subD (eOp1 negD (eC (.int 1))) (eOp2 ixD (eVar 1) (eC (.int 1))))) aNil)))
  sNil)
  (sIf (tVal (eOp2 inD (eVar 2) (eTup (aCons (eC (.str "drop")) (aCons (eC (.str "swap")) (aCons (eC (.str "not")) (aCons (eC (.str "need")) aNil)))))))
  (sExpr (eMeth 0 "turn" F_Trial_turn (eVar 0) (aCons (eVar 2) aNil)))
  (sIf (tVal (eOp2 inD (eVar 2) (eTup (aCons (eC (.str "add")) (aCons (eC (.str "sub")) (aCons (eC (.str "mul")) (aCons (eC (.str "less")) (aCons (eC (.str "same")) aNil))))))))
  (sExpr (eMeth 0 "reckon" F_Trial_reckon (eVar 0) (aCons (eVar 2) aNil)))
  (sExpr (eMeth 0 "lay_fact" F_Trial_lay_fact (eVar 0) (aCons (eVar 1) aNil))))))))
noncomputable def F_Trial_do : List D → Sto → Res D := runF 2 3 .fr A_Trial_do
theorem sc_Trial_do : FnScope ["self", "row", "word"] ["self", "row"] (defScope (inClass (top 4) 6)) := ⟨rfl, rfl, rfl, by decide +kernel, rfl, by decide +kernel, by decide +kernel⟩
theorem ok_Trial_do {f : Addr} {fd : FuncData} (Fd : FunD K "do" "Trial.do" (defArgs (inClass (top 4) 6)) (defBody (inClass (top 4) 6)) (defScope (inClass (top 4) 6)) [] [] f fd) (kc_Trial : Cls K (cl 0)) (m_Trial_lay : CalM P w K mg base cl 1 0 "lay" F_Trial_lay) (m_Trial_has : CalM P w K mg base cl 1 0 "has" F_Trial_has) (kn_Trial_pile : NoAttr K (cl 0) "pile") (m_Trial_turn : CalM P w K mg base cl 2 0 "turn" F_Trial_turn) (m_Trial_reckon : CalM P w K mg base cl 2 0 "reckon" F_Trial_reckon) (m_Trial_lay_fact : CalM P w K mg base cl 2 0 "lay_fact" F_Trial_lay_fact) :
    FnOk P w K mg base (L2.CX P w) 3 f fd ["self", "row"] (spF ⟨P, w, K, cl⟩ 2 F_Trial_do) :=
  fn_rule Fd sc_Trial_do fun cdv A outer s H E hr => by
  unfold A_Trial_do
  exact (dss_cons (ds_set (i := 2) (de_ix (dv 1) de_int) sc_Trial_do.nd)
  (dss_one (ds_if (dt_cmp (od_eq hr.units) (dv 2) de_str)
  (dss_one (ds_expr (de_meth 0 kc_Trial (m_Trial_lay.up (by decide)) hr takesF (dv 0) (da_cons (de_ix (dv 1) de_int) da_nil))))
  (dss_one (ds_if (dt_cmp (od_eq hr.units) (dv 2) de_str)
  (dss_one (ds_if (dt_truth (de_meth 0 kc_Trial (m_Trial_has.up (by decide)) hr takesF (dv 0) (da_cons (de_bin od_add (de_ix (dv 1) de_int) de_int) da_nil)))
  (dss_one (ds_expr (de_meth 0 kc_Trial (m_Trial_lay.up (by decide)) hr takesF (dv 0) (da_cons (de_ix (de_attr 0 kc_Trial kn_Trial_pile (dv 0)) (de_bin od_sub (de_neg de_int) (de_ix (dv 1) de_int))) da_nil))))
  dss_nil))
  (dss_one (ds_if (dt_cmp (od_in hr.units) (dv 2) (de_tup (da_cons de_str (da_cons de_str (da_cons de_str (da_cons de_str da_nil))))))
  (dss_one (ds_expr (de_meth 0 kc_Trial (m_Trial_turn.up (by decide)) hr takesF (dv 0) (da_cons (dv 2) da_nil))))
  (dss_one (ds_if (dt_cmp (od_in hr.units) (dv 2) (de_tup (da_cons de_str (da_cons de_str (da_cons de_str (da_cons de_str (da_cons de_str da_nil)))))))
  (dss_one (ds_expr (de_meth 0 kc_Trial (m_Trial_reckon.up (by decide)) hr takesF (dv 0) (da_cons (dv 2) da_nil))))
  (dss_one (ds_expr (de_meth 0 kc_Trial (m_Trial_lay_fact.up (by decide)) hr takesF (dv 0) (da_cons (dv 1) da_nil)))))))))))))
noncomputable def L_opens_1 : Stm :=
  (sSeq (sIf (tVal (eOp2 eqvD (eOp2 ixD (eVar 5) (eC (.int 0))) (eC (.str "if"))))
  (sSeq (sSet 6 (eOp2 ixD (eOp2 ixD (eVar 4) (eOp1 negD (eC (.int 1)))) (eC (.int 1))))
  (sExpr (eMt "list" appendD (eVar 4) (aCons (eTup (aCons (eVar 6) (aCons (eAnd (eVar 6) (eMeth 0 "asked" F_Trial_asked (eVar 3) aNil)) aNil))) aNil))))
  (sIf (tVal (eOp2 eqvD (eOp2 ixD (eVar 5) (eC (.int 0))) (eC (.str "else"))))
  (sSeq (sAsg (eMt "list" popD (eVar 4) aNil) (gTp [7, 8]))
  (sExpr (eMt "list" appendD (eVar 4) (aCons (eTup (aCons (eVar 7) (aCons (eAnd (eVar 7) (eNot (eVar 8))) aNil))) aNil))))
  (sIf (tVal (eOp2 eqvD (eOp2 ixD (eVar 5) (eC (.int 0))) (eC (.str "end"))))
  (sExpr (eMt "list" popD (eVar 4) aNil))
  (sIf (tTruth (eOp2 ixD (eOp2 ixD (eVar 4) (eOp1 negD (eC (.int 1)))) (eC (.int 1))))
  (sExpr (eMeth 0 "do" F_Trial_do (eVar 3) (aCons (eVar 5) aNil)))
  sNil))))
  (sIf (tTruth (eOp1 (attrD 0 "shut") (eVar 3)))
  (sRet (eC (.bl false)))
  sNil))
noncomputable def A_opens : Stm :=
  (sSeq (sSet 3 (eNew 0 F_Trial___init__ (aCons (eVar 1) (aCons (eVar 2) aNil))))
  (sSeq (sSet 4 (eLstM (aCons (eTup (aCons (eC (.bl true)) (aCons (eC (.bl true)) aNil))) aNil)))
  (sSeq (sFor (iSeq (eVar 0)) (gNm 5)
  L_opens_1)
  (sRet (eAnd (eOp2 nevD (eOp1 (attrD 0 "pile") (eVar 3)) (eLst aNil)) (eOp2 nevD (eOp2 ixD (eOp1 (attrD 0 "pile") (eVar 3)) (eOp1 negD (eC (.int 1)))) (eC (.int 0))))))))
noncomputable def F_opens : List D → Sto → Res D := runF 3 9 .fr A_opens
theorem sc_opens : FnScope ["lock", "keys", "facts", "trial", "ways", "row", "active", "around", "taken"] ["lock", "keys", "facts"] (defScope (top 5)) := ⟨rfl, rfl, rfl, by decide +kernel, rfl, by decide +kernel, by decide +kernel⟩
theorem ok_opens {f : Addr} {fd : FuncData} (Fd : FunD K "opens" "opens" (defArgs (top 5)) (defBody (top 5)) (defScope (top 5)) [] [] f fd) (n_Trial : CalN P w K mg base cl 1 0 "Trial" F_Trial___init__) (kc_Trial : Cls K (cl 0)) (m_Trial_asked : CalM P w K mg base cl 2 0 "asked" F_Trial_asked) (m_Trial_do : CalM P w K mg base cl 3 0 "do" F_Trial_do) (kn_Trial_shut : NoAttr K (cl 0) "shut") (kn_Trial_pile : NoAttr K (cl 0) "pile") :
    FnOk P w K mg base (L2.CX P w) 4 f fd ["lock", "keys", "facts"] (spF ⟨P, w, K, cl⟩ 3 F_opens) :=
  fn_rule Fd sc_opens fun cdv A outer s H E hr => by
  unfold A_opens L_opens_1
  exact (dss_cons (ds_set (i := 3) (de_new 0 (n_Trial.up (k' := 1) (by decide)) (hr.mono (by decide)) rfl (da_cons (dv 1) (da_cons (dv 2) da_nil))) sc_opens.nd)
  (dss_cons (ds_set (i := 4) (de_lstM (da_cons (de_tup (da_cons de_bl (da_cons de_bl da_nil))) da_nil)) sc_opens.nd)
  (dss_cons (ds_for ownsF rfl (di_seq (dv 0)) (dg_name (i := 5) sc_opens.nd)
  (dss_cons (ds_if (dt_cmp (od_eq hr.units) (de_ix (dv 5) de_int) de_str)
  (dss_cons (ds_set (i := 6) (de_ix (de_ix (dv 4) (de_neg de_int)) de_int) sc_opens.nd)
  (dss_one (ds_expr (de_mt PySem.F.plainAttrs_list PySem.F.slot_list_append PySem.F.type_list_append md_append (by decide) (dv 4) (da_cons (de_tup (da_cons (dv 6) (da_cons (de_and (dv 6) (de_one (de_meth0 0 kc_Trial (m_Trial_asked.up (by decide)) hr takesF (dv 3)))) da_nil))) da_nil)))))
  (dss_one (ds_if (dt_cmp (od_eq hr.units) (de_ix (dv 5) de_int) de_str)
  (dss_cons (ds_asg (de_mt0 PySem.F.plainAttrs_list PySem.F.slot_list_pop PySem.F.type_list_pop md_pop0 (by decide) (dv 4)) (dg_tup rfl (dgs_cons (i := 7) (dgs_cons (i := 8) dgs_nil sc_opens.nd) sc_opens.nd)))
  (dss_one (ds_expr (de_mt PySem.F.plainAttrs_list PySem.F.slot_list_append PySem.F.type_list_append md_append (by decide) (dv 4) (da_cons (de_tup (da_cons (dv 7) (da_cons (de_and (dv 7) (de_one (de_not (dv 8)))) da_nil))) da_nil)))))
  (dss_one (ds_if (dt_cmp (od_eq hr.units) (de_ix (dv 5) de_int) de_str)
  (dss_one (ds_expr (de_mt0 PySem.F.plainAttrs_list PySem.F.slot_list_pop PySem.F.type_list_pop md_pop0 (by decide) (dv 4))))
  (dss_one (ds_if (dt_truth (de_ix (de_ix (dv 4) (de_neg de_int)) de_int))
  (dss_one (ds_expr (de_meth 0 kc_Trial (m_Trial_do.up (by decide)) hr takesF (dv 3) (da_cons (dv 5) da_nil))))
  dss_nil)))))))
  (dss_one (ds_if (dt_truth (de_attr 0 kc_Trial kn_Trial_shut (dv 3)))
  (dss_one (ds_ret de_bl))
  dss_nil))))
  (dss_one (ds_ret (de_and (de_cmp (od_ne hr.units) (de_attr 0 kc_Trial kn_Trial_pile (dv 3)) (de_lst da_nil)) (de_one (de_cmp (od_ne hr.units) (de_ix (de_attr 0 kc_Trial kn_Trial_pile (dv 3)) (de_neg de_int)) de_int))))))))
noncomputable def L_law_1 : E :=
  (eApp F__law_part (aCons (eVar 13) (aCons (eC (.int 9)) aNil)))
noncomputable def L_law_3 : Stm :=
  (sIf (tVal (eOp2 eqvD (eVar 8) (eC (.int 0))))
  (sExpr (eMt "list" appendD (eVar 10) (aCons (eOp2 addD (eOp2 addD (eOp2 addD (eOp2 addD (eOp2 addD (eVar 9) (eVar 11)) (eTup (aCons (eTup (aCons (eC (.str "else")) aNil)) aNil))) (eOp2 ixD (eVar 5) (eC (.int 1)))) (eTup (aCons (eTup (aCons (eC (.str "end")) aNil)) aNil))) (eVar 4)) aNil)))
  (sExpr (eMt "list" appendD (eVar 10) (aCons (eOp2 addD (eOp2 addD (eOp2 addD (eOp2 addD (eOp2 addD (eVar 9) (eOp2 ixD (eVar 5) (eC (.int 0)))) (eTup (aCons (eTup (aCons (eC (.str "else")) aNil)) aNil))) (eVar 11)) (eTup (aCons (eTup (aCons (eC (.str "end")) aNil)) aNil))) (eVar 4)) aNil))))
noncomputable def L_law_4 : E :=
  (eApp F_opens (aCons (eVar 14) (aCons (eVar 6) (aCons (eVar 7) aNil))))
noncomputable def L_law_2 : Stm :=
  (sSeq (sSet 9 (eOp2 addD (eVar 3) (eTup (aCons (eTup (aCons (eC (.str "push")) (aCons (eVar 8) aNil))) (aCons (eTup (aCons (eC (.str "if")) aNil)) aNil)))))
  (sSeq (sSet 10 (eLstM (aCons (eOp2 addD (eOp2 addD (eOp2 addD (eVar 3) (eTup (aCons (eTup (aCons (eC (.str "push")) (aCons (eC (.int 0)) aNil))) (aCons (eTup (aCons (eC (.str "drop")) aNil)) aNil)))) (eOp2 ixD (eVar 5) (eApp intD (aCons (eOp2 eqvD (eVar 8) (eC (.int 0))) aNil)))) (eVar 4)) aNil)))
  (sSeq (sExpr (eMt "list" appendD (eVar 10) (aCons (eOp2 addD (eOp2 addD (eOp2 addD (eOp2 addD (eOp2 addD (eVar 9) (eOp2 ixD (eVar 5) (eC (.int 0)))) (eTup (aCons (eTup (aCons (eC (.str "else")) aNil)) aNil))) (eOp2 ixD (eVar 5) (eC (.int 1)))) (eTup (aCons (eTup (aCons (eC (.str "end")) aNil)) aNil))) (eVar 4)) aNil)))
  (sSeq (sFor (iSeq (eSl (eVar 5) (pAt (eC (.int 2))) pNo)) (gNm 11)
  L_law_3)
  (sSeq (sSet 12 (eLc (iSeq (eVar 10)) (gNm 14) tTrue L_law_4 [14]))
  (sIf (tOrD (tNotD (tTruth (eOp1 (isiD "bool") (eOp2 ixD (eVar 12) (eC (.int 0)))))) (tVal (eOp2 nevD (eVar 12) (eOp2 mulD (eLst (aCons (eOp2 ixD (eVar 12) (eC (.int 0))) aNil)) (eApp lenD (aCons (eVar 10) aNil))))))
  (sRet (eC (.bl false)))
  sNil))))))
noncomputable def A_law : Stm :=
  (sSeq (sSet 1 (eOp2 eqvD (eOp2 modD (eApp F__law_cell (aCons (eVar 0) (aCons (eC (.int 0)) aNil))) (eC (.int 2))) (eC (.int 0))))
  (sSeq (sSet 2 (eApp F__law_numbers (aCons (eVar 0) aNil)))
  (sSeq (sSet 3 (eApp F__law_part (aCons (eOp2 ixD (eVar 2) (eC (.int 0))) (aCons (eC (.int 3)) aNil))))
  (sSeq (sSet 4 (eApp F__law_part (aCons (eOp2 ixD (eVar 2) (eC (.int 1))) (aCons (eC (.int 3)) aNil))))
  (sSeq (sSet 5 (eLc (iSeq (eSl (eVar 2) (pAt (eC (.int 2))) pNo)) (gNm 13) tTrue L_law_1 [13]))
  (sSeq (sSet 6 (eApp F__law_keys (aCons (eApp F__law_cell (aCons (eVar 0) (aCons (eC (.int 2)) aNil))) (aCons (eVar 1) aNil))))
  (sSeq (sSet 7 (eApp F__law_facts (aCons (eApp F__law_cell (aCons (eVar 0) (aCons (eC (.int 3)) aNil))) (aCons (eVar 1) aNil))))
  (sSeq (sFor (iSeq (eLst (aCons (eOp2 subD (eOp2 modD (eApp F__law_cell (aCons (eVar 0) (aCons (eC (.int 1)) aNil))) (eC (.int 3))) (eC (.int 1))) (aCons (eC (.int 0)) (aCons (eC (.int 7)) aNil))))) (gNm 8)
  L_law_2)
  (sRet (eC (.bl true)))))))))))
noncomputable def F_law : List D → Sto → Res D := runF 1 15 .fr A_law
theorem sc_law : FnScope ["script", "digits", "numbers", "ahead", "behind", "parts", "keys", "facts", "given", "start", "locks", "other", "found", "number", "lock"] ["script"] (defScope (top 14)) := ⟨rfl, rfl, rfl, by decide +kernel, rfl, by decide +kernel, by decide +kernel⟩
theorem ok_law {f : Addr} {fd : FuncData} (Fd : FunD K "law" "law" (defArgs (top 14)) (defBody (top 14)) (defScope (top 14)) [] [] f fd) (c__law_cell : Cal P w K mg base cl 1 "_law_cell" F__law_cell) (c__law_numbers : Cal P w K mg base cl 2 "_law_numbers" F__law_numbers) (c__law_part : Cal P w K mg base cl 2 "_law_part" F__law_part) (c__law_keys : Cal P w K mg base cl 2 "_law_keys" F__law_keys) (c__law_facts : Cal P w K mg base cl 2 "_law_facts" F__law_facts) (g_int : mg "int" = none) (c_opens : Cal P w K mg base cl 4 "opens" F_opens) (g_isinstance : mg "isinstance" = none) (g_bool : mg "bool" = none) (g_len : mg "len" = none) :
    FnOk P w K mg base (L2.CX P w) 5 f fd ["script"] (spF ⟨P, w, K, cl⟩ 1 F_law) :=
  fn_rule Fd sc_law fun cdv A outer s H E hr => by
  unfold A_law L_law_1 L_law_2 L_law_3 L_law_4
  exact (dss_cons (ds_set (i := 1) (de_cmp (od_eq hr.units) (de_bin od_mod (de_call (c__law_cell.up (by decide)) hr takesF rfl (da_cons (dv 0) (da_cons de_int da_nil))) de_int) de_int) sc_law.nd)
  (dss_cons (ds_set (i := 2) (de_call (c__law_numbers.up (by decide)) hr takesF rfl (da_cons (dv 0) da_nil)) sc_law.nd)
  (dss_cons (ds_set (i := 3) (de_call (c__law_part.up (by decide)) hr takesF rfl (da_cons (de_ix (dv 2) de_int) (da_cons de_int da_nil))) sc_law.nd)
  (dss_cons (ds_set (i := 4) (de_call (c__law_part.up (by decide)) hr takesF rfl (da_cons (de_ix (dv 2) de_int) (da_cons de_int da_nil))) sc_law.nd)
  (dss_cons (by first | exact ds_setLc (i := 5) .fr (ix := [13]) (own := [("number", 13)]) rfl sc_law.nd rfl rfl rfl (di_seq (de_sl (dv 2) (dp_at de_int) dp_no)) (blkOk_by (by kernel_rfl)) (by decide) (fun _ _ _ _ _ => (dg_name (i := 13) sc_law.nd)) (fun _ _ _ _ _ => dts_nil) (fun _ _ _ _ _ => (de_call (c__law_part.up (by decide)) hr tkNo rfl (da_cons (dv 13) (da_cons de_int da_nil)))) | exact ds_set (i := 5) (de_lc .fr (ix := [13]) (own := [("number", 13)]) rfl sc_law.nd  (di_seq (de_sl (dv 2) (dp_at de_int) dp_no)) (blkOk_by (by kernel_rfl)) (by decide) (fun _ _ _ _ _ => (dg_name (i := 13) sc_law.nd)) (fun _ _ _ _ _ => dts_nil) (fun _ _ _ _ _ => (de_call (c__law_part.up (by decide)) hr tkNo rfl (da_cons (dv 13) (da_cons de_int da_nil))))) sc_law.nd)
  (dss_cons (ds_set (i := 6) (de_call (c__law_keys.up (by decide)) hr takesF rfl (da_cons (de_call (c__law_cell.up (by decide)) hr takesF rfl (da_cons (dv 0) (da_cons de_int da_nil))) (da_cons (dv 1) da_nil))) sc_law.nd)
  (dss_cons (ds_set (i := 7) (de_call (c__law_facts.up (by decide)) hr takesF rfl (da_cons (de_call (c__law_cell.up (by decide)) hr takesF rfl (da_cons (dv 0) (da_cons de_int da_nil))) (da_cons (dv 1) da_nil))) sc_law.nd)
  (dss_cons (ds_for ownsF rfl (di_seq (de_lst (da_cons (de_bin od_sub (de_bin od_mod (de_call (c__law_cell.up (by decide)) hr takesF rfl (da_cons (dv 0) (da_cons de_int da_nil))) de_int) de_int) (da_cons de_int (da_cons de_int da_nil))))) (dg_name (i := 8) sc_law.nd)
  (dss_cons (ds_set (i := 9) (de_bin od_add (dv 3) (de_tup (da_cons (de_tup (da_cons de_str (da_cons (dv 8) da_nil))) (da_cons (de_tup (da_cons de_str da_nil)) da_nil)))) sc_law.nd)
  (dss_cons (ds_set (i := 10) (de_lstM (da_cons (de_bin od_add (de_bin od_add (de_bin od_add (dv 3) (de_tup (da_cons (de_tup (da_cons de_str (da_cons de_int da_nil))) (da_cons (de_tup (da_cons de_str da_nil)) da_nil)))) (de_ix (dv 5) (de_callTy cd_int rfl g_int rfl (da_cons (de_cmp (od_eq hr.units) (dv 8) de_int) da_nil)))) (dv 4)) da_nil)) sc_law.nd)
  (dss_cons (ds_expr (de_mt PySem.F.plainAttrs_list PySem.F.slot_list_append PySem.F.type_list_append md_append (by decide) (dv 10) (da_cons (de_bin od_add (de_bin od_add (de_bin od_add (de_bin od_add (de_bin od_add (dv 9) (de_ix (dv 5) de_int)) (de_tup (da_cons (de_tup (da_cons de_str da_nil)) da_nil))) (de_ix (dv 5) de_int)) (de_tup (da_cons (de_tup (da_cons de_str da_nil)) da_nil))) (dv 4)) da_nil)))
  (dss_cons (ds_for ownsF rfl (di_seq (de_sl (dv 5) (dp_at de_int) dp_no)) (dg_name (i := 11) sc_law.nd)
  (dss_one (ds_if (dt_cmp (od_eq hr.units) (dv 8) de_int)
  (dss_one (ds_expr (de_mt PySem.F.plainAttrs_list PySem.F.slot_list_append PySem.F.type_list_append md_append (by decide) (dv 10) (da_cons (de_bin od_add (de_bin od_add (de_bin od_add (de_bin od_add (de_bin od_add (dv 9) (dv 11)) (de_tup (da_cons (de_tup (da_cons de_str da_nil)) da_nil))) (de_ix (dv 5) de_int)) (de_tup (da_cons (de_tup (da_cons de_str da_nil)) da_nil))) (dv 4)) da_nil))))
  (dss_one (ds_expr (de_mt PySem.F.plainAttrs_list PySem.F.slot_list_append PySem.F.type_list_append md_append (by decide) (dv 10) (da_cons (de_bin od_add (de_bin od_add (de_bin od_add (de_bin od_add (de_bin od_add (dv 9) (de_ix (dv 5) de_int)) (de_tup (da_cons (de_tup (da_cons de_str da_nil)) da_nil))) (dv 11)) (de_tup (da_cons (de_tup (da_cons de_str da_nil)) da_nil))) (dv 4)) da_nil)))))))
  (dss_cons (by first | exact ds_setLc (i := 12) .fr (ix := [14]) (own := [("lock", 14)]) rfl sc_law.nd rfl rfl rfl (di_seq (dv 10)) (blkOk_by (by kernel_rfl)) (by decide) (fun _ _ _ _ _ => (dg_name (i := 14) sc_law.nd)) (fun _ _ _ _ _ => dts_nil) (fun _ _ _ _ _ => (de_call (c_opens.up (by decide)) hr tkNo rfl (da_cons (dv 14) (da_cons (dv 6) (da_cons (dv 7) da_nil))))) | exact ds_set (i := 12) (de_lc .fr (ix := [14]) (own := [("lock", 14)]) rfl sc_law.nd  (di_seq (dv 10)) (blkOk_by (by kernel_rfl)) (by decide) (fun _ _ _ _ _ => (dg_name (i := 14) sc_law.nd)) (fun _ _ _ _ _ => dts_nil) (fun _ _ _ _ _ => (de_call (c_opens.up (by decide)) hr tkNo rfl (da_cons (dv 14) (da_cons (dv 6) (da_cons (dv 7) da_nil)))))) sc_law.nd)
  (dss_one (ds_if (dt_w (dw_or (dt_not (dt_truth (de_isi (de_ix (dv 12) de_int) (by exact rfl) g_isinstance "bool" (by exact rfl) g_bool))) (dw_or1 (dt_cmp (od_ne hr.units) (dv 12) (de_bin od_mul (de_lst (da_cons (de_ix (dv 12) de_int) da_nil)) (de_callB cd_len rfl g_len rfl (da_cons (dv 10) da_nil)))))))
  (dss_one (ds_ret de_bl))
  dss_nil))))))))
  (dss_one (ds_ret de_bl))))))))))
end
end LW

namespace LW
open PySem PySem.Spec PyProof.Rows L2 DL
/-! ### a trial's cells: the instance, its pile (r: the top first), what lies behind -/
abbrev Tr := Bool × List Int
def fsT (n : Nat) (fx : D) (b : Bool) : List (Str × D) := [("pile", .ref (n + 1)), ("facts", fx), ("shut", .bl b)]
def insT (n : Nat) (fx : D) (b : Bool) : Cell := .ins 0 (fsT n fx b)
def St (S : Sto) (fx : D) (t : Tr) (E : Sto) : Sto := S ++ (insT S.length fx t.1 :: .lst (t.2.reverse.map D.int) :: E)
section
variable {S E : Sto} {fx : D} {t : Tr} {b : Bool} {r : List Int}
theorem st_len : (St S fx t E).length = S.length + 2 + E.length := by unfold St; simp; omega
theorem st_i : (St S fx t E)[S.length]? = some (insT S.length fx t.1) := by
  unfold St; rw [List.getElem?_append_right (Nat.le_refl _), Nat.sub_self]; rfl
theorem st_p : (St S fx t E)[S.length + 1]? = some (.lst (t.2.reverse.map D.int)) := by
  unfold St; rw [List.getElem?_append_right (by omega), show S.length + 1 - S.length = 1 by omega]; rfl
theorem st_e {k : Nat} : (St S fx t E)[S.length + 2 + k]? = E[k]? := by
  unfold St; rw [List.getElem?_append_right (by omega), show S.length + 2 + k - S.length = k + 2 by omega]; rfl
theorem st_setp {r' : List Int} : (St S fx t E).set (S.length + 1) (.lst (r'.reverse.map D.int)) = St S fx (t.1, r') E := by
  unfold St; rw [List.set_append_right _ _ (by omega), show S.length + 1 - S.length = 1 by omega]; rfl
theorem st_seti : (St S fx t E).set S.length (insT S.length fx b) = St S fx (b, t.2) E := by
  unfold St; rw [List.set_append_right _ _ (Nat.le_refl _), Nat.sub_self]; rfl
theorem st_ins : insOf (St S fx t E) 0 (.ref S.length) = some (S.length, fsT S.length fx t.1) := by
  show (match (St S fx t E)[S.length]? with
    | some (.ins c' fs) => if c' = 0 then some (S.length, fs) else none
    | _ => none) = _
  rw [st_i]; rfl
theorem at_pile : attrD 0 "pile" (.ref S.length) (St S fx t E) = .ok (.ref (S.length + 1)) (St S fx t E) := by
  unfold attrD; rw [st_ins]; rfl
theorem at_facts : attrD 0 "facts" (.ref S.length) (St S fx t E) = .ok fx (St S fx t E) := by
  unfold attrD; rw [st_ins]; rfl
theorem at_shut : attrD 0 "shut" (.ref S.length) (St S fx t E) = .ok (.bl t.1) (St S fx t E) := by
  unfold attrD; rw [st_ins]; rfl
theorem nl_has {n : Nat} : List.lookup ("has" : Str) (fsT n fx b) = none := rfl
theorem nl_lay {n : Nat} : List.lookup ("lay" : Str) (fsT n fx b) = none := rfl
theorem nl_turn {n : Nat} : List.lookup ("turn" : Str) (fsT n fx b) = none := rfl
theorem nl_reckon {n : Nat} : List.lookup ("reckon" : Str) (fsT n fx b) = none := rfl
theorem nl_lay_fact {n : Nat} : List.lookup ("lay_fact" : Str) (fsT n fx b) = none := rfl
theorem nl_asked {n : Nat} : List.lookup ("asked" : Str) (fsT n fx b) = none := rfl
theorem nl_do {n : Nat} : List.lookup ("do" : Str) (fsT n fx b) = none := rfl
theorem seq_ss {S : Sto} {i j : Str} : eqvD (.str i) (.str j) S = .ok (.bl (decide (i = j))) S := by
  rw [eqv_ss]
  congr 2
theorem set_shut {l : DL.Loc} {i : Nat} {b : Bool} (h : l[i]? = some (some (.ref S.length))) : sAttr 0 "shut" (eVar i) (eC (.bl b)) l (St S fx t E) = .next l (St S fx (b, t.2) E) := by
  unfold sAttr
  simp only [ap_c, toS_ok, ap_var, h, st_ins]
  rw [if_pos (show (fsT S.length fx t.1).length < 1000 by show 3 < 1000; decide)]
  have : putD "shut" (.bl b) (fsT S.length fx t.1) = fsT S.length fx b := by rfl
  rw [this]
  exact congrArg (Out.next l) st_seti
theorem len_pile : lenD [.ref (S.length + 1)] (St S fx t E) = .ok (.int t.2.length) (St S fx t E) := by
  rw [len_ref, st_p]; simp
theorem app_pile {x : Int} (h : t.2.length < 16777216) : appendD (.ref (S.length + 1)) [.int x] (St S fx t E) = .ok .non (St S fx (t.1, x :: t.2) E) := by
  unfold appendD
  simp only
  rw [cellL_ref st_p]
  simp only
  rw [if_pos (by rw [sizeLine_eq]; simpa using h)]
  have := @st_setp S E fx t (x :: t.2)
  simp only [List.reverse_cons, List.map_append, List.map_cons, List.map_nil] at this
  rw [this]
theorem pop_pile {x : Int} (h : t.2 = x :: r) : popD (.ref (S.length + 1)) [] (St S fx t E) = .ok (.int x) (St S fx (t.1, r) E) := by
  unfold popD
  simp only
  rw [cellL_ref st_p, h]
  simp only [List.reverse_cons, List.map_append, List.map_cons, List.map_nil]
  rw [show (r.reverse.map D.int ++ [D.int x])[(r.reverse.map D.int ++ [D.int x]).length - 1]? = some (D.int x) by simp]
  simp only [List.dropLast_concat]
  rw [st_setp]
theorem ty_pile : tyD (St S fx t E) (.ref (S.length + 1)) = some "list" := by rw [ty_ref, st_p]
/-- leaving a method: the trial's cells may have changed -/
theorem exit_St {t' : Tr} {d : D} (hf : pureD fx) (hd : pureD d) : exitD (St S fx t E) d (St S fx t' E) = .ok d (St S fx t' E) := by
  unfold exitD
  have hl : (St S fx t' E).length = (St S fx t E).length := by rw [st_len, st_len]
  rw [if_pos]
  · rw [show fzD 4 (St S fx t E).length (St S fx t' E) d = some d from fz_rlt _ _ _ _ (hd _)]
    simp only
    rw [List.take_of_length_le (by omega)]
  · refine ⟨by omega, fun i hi => ?_⟩
    by_cases h1 : i < S.length
    · left
      unfold St
      rw [List.getElem?_append_left h1, List.getElem?_append_left h1]
    · by_cases h2 : i = S.length
      · subst h2
        right
        refine ⟨_, st_i, ?_⟩
        rw [st_len]
        unfold insT fsT cellRlt
        simp only [List.map_cons, List.map_nil]
        rw [rlts_cons, rlts_cons, rlts_cons, rlts_nil, hf _]
        unfold rlt
        simp
        omega
      · by_cases h3 : i = S.length + 1
        · subst h3
          right
          exact ⟨_, st_p, pures (by simp; intro a _; exact pure_int a) _⟩
        · left
          obtain ⟨k, rfl⟩ : ∃ k, i = S.length + 2 + k := ⟨i - (S.length + 2), by omega⟩
          rw [st_e, st_e]
end
/-! ### what the trial does -/
def lay (x : Int) (t : Tr) : Tr := if 10 ^ 60 ≤ x.natAbs ∨ t.2.length = 20 then (true, t.2) else (t.1, x :: t.2)
def has (m : Int) (t : Tr) : Tr := (t.1 || decide ((t.2.length : Int) < m), t.2)
section
variable {S E : Sto} {fx : D} {t : Tr} {b : Bool} {r : List Int} {x : Int}
theorem f_has (hf : pureD fx) (m : Int) : F_Trial_has [.ref S.length, .int m] (St S fx t E) = .ok (.bl (!(has m t).1)) (St S fx (has m t) E) := by
  refine run_ret rfl (S' := St S fx (has m t) E) (d := .bl (!(has m t).1)) ?_ (exit_St hf (pure_bl _))
  unfold A_Trial_has has
  by_cases h : (t.2.length : Int) < m
  · simp (config := { decide := true }) only [bind_ok, bind_exc, toS_ok, toS_exc, ap_var, ap_c, ap_op2, ap_op1, ap_and, ap_or, ap_not, ap_if, ap_tval, ap_ttruth, ap_tand, ap_tor, ap_tnot, ap_ttrue, 
    ap_nil, ap_cons, ap_tup, ap_lst, ap_lstM, ap_app, ap_sl, ap_pno, ap_pat, toI_int, ap_mt, ap_chain, isBl_bl, truD_bl, truD_int, ap_snil, ap_sbrk, 
    ap_scont, ap_sexpr, ap_sret, ap_sretn, ap_sif, ap_sset, ap_sasg, ap_spar, ap_saug, ap_seq, seqK_next, seqK_ret, seqK_brk, seqK_cont, seqK_exc, ap_for, 
    ap_iseq, ap_ir1, ap_gnm, ap_gtp, gnms_nil, gnms_cons, ap_gsub, Option.map_some, Option.bind_some, loopN_next, loopN_cont, ty_int, ty_bl, ty_str, 
    ty_non, ty_tup, ty_lst, ty_ref, isi_ap, len_ref, get_last, append_last, tuple_last, list_last, add_ii, sub_ii, mul_ii, mulOk_l, mulOk_r, fdiv_ii, 
    divmod_ii, mod_ii, pow_ii, neg_i, ord_ii, is_non, isnt_non, is_bl, isnt_bl, abs_i, int_i, int_b, max_ii, min_ii, len_tup, len_lst, tuple_lst, 
    tuple_tup, list_lst, list_tup, List.getElem?_cons_zero, List.getElem?_cons_succ, List.set_cons_zero, List.set_cons_succ, List.map_cons, List.map_nil, 
    List.cons_append, List.nil_append, List.reduceReplicate, Nat.reduceSub, List.length_cons, List.length_nil, if_true, if_false, reduceIte, reduceCtorEq, 
    Bool.false_eq_true, Bool.true_eq_false, sizeLine_eq, Int.reduceToNat, newCell, ix_tupm, ix_lstm, atI_0, atI_1, atI_2, atI_3, atI_4, atI_5, seq_ss, 
    decide_true, decide_false, ap_meth, st_ins, nl_has, nl_lay, nl_turn, nl_reckon, nl_lay_fact, nl_asked, nl_do, beq_iff_eq, at_pile, at_facts, at_shut, 
    len_pile, st_p, ty_pile, List.length_map, List.length_reverse, Bool.or_true, Bool.or_false, Bool.not_true, Bool.not_false, eqv_ii, nev_ii, 
    decide_eq_true h, set_shut]
  · simp (config := { decide := true }) only [bind_ok, bind_exc, toS_ok, toS_exc, ap_var, ap_c, ap_op2, ap_op1, ap_and, ap_or, ap_not, ap_if, ap_tval, ap_ttruth, ap_tand, ap_tor, ap_tnot, ap_ttrue, 
    ap_nil, ap_cons, ap_tup, ap_lst, ap_lstM, ap_app, ap_sl, ap_pno, ap_pat, toI_int, ap_mt, ap_chain, isBl_bl, truD_bl, truD_int, ap_snil, ap_sbrk, 
    ap_scont, ap_sexpr, ap_sret, ap_sretn, ap_sif, ap_sset, ap_sasg, ap_spar, ap_saug, ap_seq, seqK_next, seqK_ret, seqK_brk, seqK_cont, seqK_exc, ap_for, 
    ap_iseq, ap_ir1, ap_gnm, ap_gtp, gnms_nil, gnms_cons, ap_gsub, Option.map_some, Option.bind_some, loopN_next, loopN_cont, ty_int, ty_bl, ty_str, 
    ty_non, ty_tup, ty_lst, ty_ref, isi_ap, len_ref, get_last, append_last, tuple_last, list_last, add_ii, sub_ii, mul_ii, mulOk_l, mulOk_r, fdiv_ii, 
    divmod_ii, mod_ii, pow_ii, neg_i, ord_ii, is_non, isnt_non, is_bl, isnt_bl, abs_i, int_i, int_b, max_ii, min_ii, len_tup, len_lst, tuple_lst, 
    tuple_tup, list_lst, list_tup, List.getElem?_cons_zero, List.getElem?_cons_succ, List.set_cons_zero, List.set_cons_succ, List.map_cons, List.map_nil, 
    List.cons_append, List.nil_append, List.reduceReplicate, Nat.reduceSub, List.length_cons, List.length_nil, if_true, if_false, reduceIte, reduceCtorEq, 
    Bool.false_eq_true, Bool.true_eq_false, sizeLine_eq, Int.reduceToNat, newCell, ix_tupm, ix_lstm, atI_0, atI_1, atI_2, atI_3, atI_4, atI_5, seq_ss, 
    decide_true, decide_false, ap_meth, st_ins, nl_has, nl_lay, nl_turn, nl_reckon, nl_lay_fact, nl_asked, nl_do, beq_iff_eq, at_pile, at_facts, at_shut, 
    len_pile, st_p, ty_pile, List.length_map, List.length_reverse, Bool.or_true, Bool.or_false, Bool.not_true, Bool.not_false, eqv_ii, nev_ii, 
    decide_eq_false h]
theorem f_lay (hf : pureD fx) (hl : t.2.length ≤ 100) : F_Trial_lay [.ref S.length, .int x] (St S fx t E) = .ok .non (St S fx (lay x t) E) := by
  by_cases h : 10 ^ 60 ≤ x.natAbs
  · refine run_none rfl (l' := [some (.ref S.length), some (.int x)]) (S' := St S fx (lay x t) E) ?_ (exit_St hf pure_non)
    unfold A_Trial_lay lay
    have h1 : (1000000000000000000000000000000000000000000000000000000000000 : Int) ≤ (if x < 0 then -x else x) := by split <;> omega
    simp (config := { decide := true }) only [bind_ok, bind_exc, toS_ok, toS_exc, ap_var, ap_c, ap_op2, ap_op1, ap_and, ap_or, ap_not, ap_if, ap_tval, ap_ttruth, ap_tand, ap_tor, ap_tnot, ap_ttrue, 
    ap_nil, ap_cons, ap_tup, ap_lst, ap_lstM, ap_app, ap_sl, ap_pno, ap_pat, toI_int, ap_mt, ap_chain, isBl_bl, truD_bl, truD_int, ap_snil, ap_sbrk, 
    ap_scont, ap_sexpr, ap_sret, ap_sretn, ap_sif, ap_sset, ap_sasg, ap_spar, ap_saug, ap_seq, seqK_next, seqK_ret, seqK_brk, seqK_cont, seqK_exc, ap_for, 
    ap_iseq, ap_ir1, ap_gnm, ap_gtp, gnms_nil, gnms_cons, ap_gsub, Option.map_some, Option.bind_some, loopN_next, loopN_cont, ty_int, ty_bl, ty_str, 
    ty_non, ty_tup, ty_lst, ty_ref, isi_ap, len_ref, get_last, append_last, tuple_last, list_last, add_ii, sub_ii, mul_ii, mulOk_l, mulOk_r, fdiv_ii, 
    divmod_ii, mod_ii, pow_ii, neg_i, ord_ii, is_non, isnt_non, is_bl, isnt_bl, abs_i, int_i, int_b, max_ii, min_ii, len_tup, len_lst, tuple_lst, 
    tuple_tup, list_lst, list_tup, List.getElem?_cons_zero, List.getElem?_cons_succ, List.set_cons_zero, List.set_cons_succ, List.map_cons, List.map_nil, 
    List.cons_append, List.nil_append, List.reduceReplicate, Nat.reduceSub, List.length_cons, List.length_nil, if_true, if_false, reduceIte, reduceCtorEq, 
    Bool.false_eq_true, Bool.true_eq_false, sizeLine_eq, Int.reduceToNat, newCell, ix_tupm, ix_lstm, atI_0, atI_1, atI_2, atI_3, atI_4, atI_5, seq_ss, 
    decide_true, decide_false, ap_meth, st_ins, nl_has, nl_lay, nl_turn, nl_reckon, nl_lay_fact, nl_asked, nl_do, beq_iff_eq, at_pile, at_facts, at_shut, 
    len_pile, st_p, ty_pile, List.length_map, List.length_reverse, Bool.or_true, Bool.or_false, Bool.not_true, Bool.not_false, eqv_ii, nev_ii, 
    decide_eq_true h1, set_shut, h, true_or]
  · have h1 : ¬ (1000000000000000000000000000000000000000000000000000000000000 : Int) ≤ (if x < 0 then -x else x) := by split <;> omega
    by_cases h2 : t.2.length = 20
    · refine run_none rfl (l' := [some (.ref S.length), some (.int x)]) (S' := St S fx (lay x t) E) ?_ (exit_St hf pure_non)
      unfold A_Trial_lay lay
      simp (config := { decide := true }) only [bind_ok, bind_exc, toS_ok, toS_exc, ap_var, ap_c, ap_op2, ap_op1, ap_and, ap_or, ap_not, ap_if, ap_tval, ap_ttruth, ap_tand, ap_tor, ap_tnot, ap_ttrue, 
    ap_nil, ap_cons, ap_tup, ap_lst, ap_lstM, ap_app, ap_sl, ap_pno, ap_pat, toI_int, ap_mt, ap_chain, isBl_bl, truD_bl, truD_int, ap_snil, ap_sbrk, 
    ap_scont, ap_sexpr, ap_sret, ap_sretn, ap_sif, ap_sset, ap_sasg, ap_spar, ap_saug, ap_seq, seqK_next, seqK_ret, seqK_brk, seqK_cont, seqK_exc, ap_for, 
    ap_iseq, ap_ir1, ap_gnm, ap_gtp, gnms_nil, gnms_cons, ap_gsub, Option.map_some, Option.bind_some, loopN_next, loopN_cont, ty_int, ty_bl, ty_str, 
    ty_non, ty_tup, ty_lst, ty_ref, isi_ap, len_ref, get_last, append_last, tuple_last, list_last, add_ii, sub_ii, mul_ii, mulOk_l, mulOk_r, fdiv_ii, 
    divmod_ii, mod_ii, pow_ii, neg_i, ord_ii, is_non, isnt_non, is_bl, isnt_bl, abs_i, int_i, int_b, max_ii, min_ii, len_tup, len_lst, tuple_lst, 
    tuple_tup, list_lst, list_tup, List.getElem?_cons_zero, List.getElem?_cons_succ, List.set_cons_zero, List.set_cons_succ, List.map_cons, List.map_nil, 
    List.cons_append, List.nil_append, List.reduceReplicate, Nat.reduceSub, List.length_cons, List.length_nil, if_true, if_false, reduceIte, reduceCtorEq, 
    Bool.false_eq_true, Bool.true_eq_false, sizeLine_eq, Int.reduceToNat, newCell, ix_tupm, ix_lstm, atI_0, atI_1, atI_2, atI_3, atI_4, atI_5, seq_ss, 
    decide_true, decide_false, ap_meth, st_ins, nl_has, nl_lay, nl_turn, nl_reckon, nl_lay_fact, nl_asked, nl_do, beq_iff_eq, at_pile, at_facts, at_shut, 
    len_pile, st_p, ty_pile, List.length_map, List.length_reverse, Bool.or_true, Bool.or_false, Bool.not_true, Bool.not_false, eqv_ii, nev_ii, 
    decide_eq_false h1, set_shut, h2, or_true]
    · refine run_none rfl (l' := [some (.ref S.length), some (.int x)]) (S' := St S fx (lay x t) E) ?_ (exit_St hf pure_non)
      unfold A_Trial_lay lay
      have h3 : ((t.2.length : Int) == 20) = false := beq_false_of_ne (by omega)
      simp (config := { decide := true }) only [bind_ok, bind_exc, toS_ok, toS_exc, ap_var, ap_c, ap_op2, ap_op1, ap_and, ap_or, ap_not, ap_if, ap_tval, ap_ttruth, ap_tand, ap_tor, ap_tnot, ap_ttrue, 
    ap_nil, ap_cons, ap_tup, ap_lst, ap_lstM, ap_app, ap_sl, ap_pno, ap_pat, toI_int, ap_mt, ap_chain, isBl_bl, truD_bl, truD_int, ap_snil, ap_sbrk, 
    ap_scont, ap_sexpr, ap_sret, ap_sretn, ap_sif, ap_sset, ap_sasg, ap_spar, ap_saug, ap_seq, seqK_next, seqK_ret, seqK_brk, seqK_cont, seqK_exc, ap_for, 
    ap_iseq, ap_ir1, ap_gnm, ap_gtp, gnms_nil, gnms_cons, ap_gsub, Option.map_some, Option.bind_some, loopN_next, loopN_cont, ty_int, ty_bl, ty_str, 
    ty_non, ty_tup, ty_lst, ty_ref, isi_ap, len_ref, get_last, append_last, tuple_last, list_last, add_ii, sub_ii, mul_ii, mulOk_l, mulOk_r, fdiv_ii, 
    divmod_ii, mod_ii, pow_ii, neg_i, ord_ii, is_non, isnt_non, is_bl, isnt_bl, abs_i, int_i, int_b, max_ii, min_ii, len_tup, len_lst, tuple_lst, 
    tuple_tup, list_lst, list_tup, List.getElem?_cons_zero, List.getElem?_cons_succ, List.set_cons_zero, List.set_cons_succ, List.map_cons, List.map_nil, 
    List.cons_append, List.nil_append, List.reduceReplicate, Nat.reduceSub, List.length_cons, List.length_nil, if_true, if_false, reduceIte, reduceCtorEq, 
    Bool.false_eq_true, Bool.true_eq_false, sizeLine_eq, Int.reduceToNat, newCell, ix_tupm, ix_lstm, atI_0, atI_1, atI_2, atI_3, atI_4, atI_5, seq_ss, 
    decide_true, decide_false, ap_meth, st_ins, nl_has, nl_lay, nl_turn, nl_reckon, nl_lay_fact, nl_asked, nl_do, beq_iff_eq, at_pile, at_facts, at_shut, 
    len_pile, st_p, ty_pile, List.length_map, List.length_reverse, Bool.or_true, Bool.or_false, Bool.not_true, Bool.not_false, eqv_ii, nev_ii, 
    decide_eq_false h1, set_shut, h, h2, h3, or_false]
      simp (config := { decide := true }) only [bind_ok, bind_exc, toS_ok, toS_exc, ap_var, ap_c, ap_op2, ap_op1, ap_and, ap_or, ap_not, ap_if, ap_tval, ap_ttruth, ap_tand, ap_tor, ap_tnot, ap_ttrue, 
    ap_nil, ap_cons, ap_tup, ap_lst, ap_lstM, ap_app, ap_sl, ap_pno, ap_pat, toI_int, ap_mt, ap_chain, isBl_bl, truD_bl, truD_int, ap_snil, ap_sbrk, 
    ap_scont, ap_sexpr, ap_sret, ap_sretn, ap_sif, ap_sset, ap_sasg, ap_spar, ap_saug, ap_seq, seqK_next, seqK_ret, seqK_brk, seqK_cont, seqK_exc, ap_for, 
    ap_iseq, ap_ir1, ap_gnm, ap_gtp, gnms_nil, gnms_cons, ap_gsub, Option.map_some, Option.bind_some, loopN_next, loopN_cont, ty_int, ty_bl, ty_str, 
    ty_non, ty_tup, ty_lst, ty_ref, isi_ap, len_ref, get_last, append_last, tuple_last, list_last, add_ii, sub_ii, mul_ii, mulOk_l, mulOk_r, fdiv_ii, 
    divmod_ii, mod_ii, pow_ii, neg_i, ord_ii, is_non, isnt_non, is_bl, isnt_bl, abs_i, int_i, int_b, max_ii, min_ii, len_tup, len_lst, tuple_lst, 
    tuple_tup, list_lst, list_tup, List.getElem?_cons_zero, List.getElem?_cons_succ, List.set_cons_zero, List.set_cons_succ, List.map_cons, List.map_nil, 
    List.cons_append, List.nil_append, List.reduceReplicate, Nat.reduceSub, List.length_cons, List.length_nil, if_true, if_false, reduceIte, reduceCtorEq, 
    Bool.false_eq_true, Bool.true_eq_false, sizeLine_eq, Int.reduceToNat, newCell, ix_tupm, ix_lstm, atI_0, atI_1, atI_2, atI_3, atI_4, atI_5, seq_ss, 
    decide_true, decide_false, ap_meth, st_ins, nl_has, nl_lay, nl_turn, nl_reckon, nl_lay_fact, nl_asked, nl_do, beq_iff_eq, at_pile, at_facts, at_shut, 
    len_pile, st_p, ty_pile, List.length_map, List.length_reverse, Bool.or_true, Bool.or_false, Bool.not_true, Bool.not_false, eqv_ii, nev_ii, 
    app_pile (show t.2.length < 16777216 by omega)]
/-- the words -/
inductive Row where
  | drop | swap | not | need | add | sub | mul | less | same | fact (k : Fin 5) | paid (k : Nat) | push (n : Int) | copy (k : Nat) | iff | els | fin
def factW (k : Fin 5) : Str := match k with
  | 0 => "height" | 1 => "age" | 2 => "worth" | 3 => "ins" | 4 => "outs"
def Row.d : Row → D
  | .drop => .tup [.str "drop"] | .swap => .tup [.str "swap"] | .not => .tup [.str "not"] | .need => .tup [.str "need"]
  | .add => .tup [.str "add"] | .sub => .tup [.str "sub"] | .mul => .tup [.str "mul"] | .less => .tup [.str "less"] | .same => .tup [.str "same"]
  | .fact k => .tup [.str (factW k)] | .paid k => .tup [.str "paid", .int k] | .push n => .tup [.str "push", .int n] | .copy k => .tup [.str "copy", .int k]
  | .iff => .tup [.str "if"] | .els => .tup [.str "else"] | .fin => .tup [.str "end"]
/-- the facts: five numbers, what is paid -/
structure Fx where
  five : Fin 5 → Int
  paid : List Int
def Fx.d (f : Fx) : D := .tup [.int (f.five 0), .int (f.five 1), .int (f.five 2), .int (f.five 3), .int (f.five 4), .tup (f.paid.map .int)]
theorem fd_0 (f : Fx) (S : Sto) : ixD f.d (.int 0) S = .ok (.int (f.five 0)) S := by unfold Fx.d; simp (config := { decide := true }) only [bind_ok, bind_exc, toS_ok, toS_exc, ap_var, ap_c, ap_op2, ap_op1, ap_and, ap_or, ap_not, ap_if, ap_tval, ap_ttruth, ap_tand, ap_tor, ap_tnot, ap_ttrue, 
    ap_nil, ap_cons, ap_tup, ap_lst, ap_lstM, ap_app, ap_sl, ap_pno, ap_pat, toI_int, ap_mt, ap_chain, isBl_bl, truD_bl, truD_int, ap_snil, ap_sbrk, 
    ap_scont, ap_sexpr, ap_sret, ap_sretn, ap_sif, ap_sset, ap_sasg, ap_spar, ap_saug, ap_seq, seqK_next, seqK_ret, seqK_brk, seqK_cont, seqK_exc, ap_for, 
    ap_iseq, ap_ir1, ap_gnm, ap_gtp, gnms_nil, gnms_cons, ap_gsub, Option.map_some, Option.bind_some, loopN_next, loopN_cont, ty_int, ty_bl, ty_str, 
    ty_non, ty_tup, ty_lst, ty_ref, isi_ap, len_ref, get_last, append_last, tuple_last, list_last, add_ii, sub_ii, mul_ii, mulOk_l, mulOk_r, fdiv_ii, 
    divmod_ii, mod_ii, pow_ii, neg_i, ord_ii, is_non, isnt_non, is_bl, isnt_bl, abs_i, int_i, int_b, max_ii, min_ii, len_tup, len_lst, tuple_lst, 
    tuple_tup, list_lst, list_tup, List.getElem?_cons_zero, List.getElem?_cons_succ, List.set_cons_zero, List.set_cons_succ, List.map_cons, List.map_nil, 
    List.cons_append, List.nil_append, List.reduceReplicate, Nat.reduceSub, List.length_cons, List.length_nil, if_true, if_false, reduceIte, reduceCtorEq, 
    Bool.false_eq_true, Bool.true_eq_false, sizeLine_eq, Int.reduceToNat, newCell, ix_tupm, ix_lstm, atI_0, atI_1, atI_2, atI_3, atI_4, atI_5]
theorem fd_1 (f : Fx) (S : Sto) : ixD f.d (.int 1) S = .ok (.int (f.five 1)) S := by unfold Fx.d; simp (config := { decide := true }) only [bind_ok, bind_exc, toS_ok, toS_exc, ap_var, ap_c, ap_op2, ap_op1, ap_and, ap_or, ap_not, ap_if, ap_tval, ap_ttruth, ap_tand, ap_tor, ap_tnot, ap_ttrue, 
    ap_nil, ap_cons, ap_tup, ap_lst, ap_lstM, ap_app, ap_sl, ap_pno, ap_pat, toI_int, ap_mt, ap_chain, isBl_bl, truD_bl, truD_int, ap_snil, ap_sbrk, 
    ap_scont, ap_sexpr, ap_sret, ap_sretn, ap_sif, ap_sset, ap_sasg, ap_spar, ap_saug, ap_seq, seqK_next, seqK_ret, seqK_brk, seqK_cont, seqK_exc, ap_for, 
    ap_iseq, ap_ir1, ap_gnm, ap_gtp, gnms_nil, gnms_cons, ap_gsub, Option.map_some, Option.bind_some, loopN_next, loopN_cont, ty_int, ty_bl, ty_str, 
    ty_non, ty_tup, ty_lst, ty_ref, isi_ap, len_ref, get_last, append_last, tuple_last, list_last, add_ii, sub_ii, mul_ii, mulOk_l, mulOk_r, fdiv_ii, 
    divmod_ii, mod_ii, pow_ii, neg_i, ord_ii, is_non, isnt_non, is_bl, isnt_bl, abs_i, int_i, int_b, max_ii, min_ii, len_tup, len_lst, tuple_lst, 
    tuple_tup, list_lst, list_tup, List.getElem?_cons_zero, List.getElem?_cons_succ, List.set_cons_zero, List.set_cons_succ, List.map_cons, List.map_nil, 
    List.cons_append, List.nil_append, List.reduceReplicate, Nat.reduceSub, List.length_cons, List.length_nil, if_true, if_false, reduceIte, reduceCtorEq, 
    Bool.false_eq_true, Bool.true_eq_false, sizeLine_eq, Int.reduceToNat, newCell, ix_tupm, ix_lstm, atI_0, atI_1, atI_2, atI_3, atI_4, atI_5]
theorem fd_2 (f : Fx) (S : Sto) : ixD f.d (.int 2) S = .ok (.int (f.five 2)) S := by unfold Fx.d; simp (config := { decide := true }) only [bind_ok, bind_exc, toS_ok, toS_exc, ap_var, ap_c, ap_op2, ap_op1, ap_and, ap_or, ap_not, ap_if, ap_tval, ap_ttruth, ap_tand, ap_tor, ap_tnot, ap_ttrue, 
    ap_nil, ap_cons, ap_tup, ap_lst, ap_lstM, ap_app, ap_sl, ap_pno, ap_pat, toI_int, ap_mt, ap_chain, isBl_bl, truD_bl, truD_int, ap_snil, ap_sbrk, 
    ap_scont, ap_sexpr, ap_sret, ap_sretn, ap_sif, ap_sset, ap_sasg, ap_spar, ap_saug, ap_seq, seqK_next, seqK_ret, seqK_brk, seqK_cont, seqK_exc, ap_for, 
    ap_iseq, ap_ir1, ap_gnm, ap_gtp, gnms_nil, gnms_cons, ap_gsub, Option.map_some, Option.bind_some, loopN_next, loopN_cont, ty_int, ty_bl, ty_str, 
    ty_non, ty_tup, ty_lst, ty_ref, isi_ap, len_ref, get_last, append_last, tuple_last, list_last, add_ii, sub_ii, mul_ii, mulOk_l, mulOk_r, fdiv_ii, 
    divmod_ii, mod_ii, pow_ii, neg_i, ord_ii, is_non, isnt_non, is_bl, isnt_bl, abs_i, int_i, int_b, max_ii, min_ii, len_tup, len_lst, tuple_lst, 
    tuple_tup, list_lst, list_tup, List.getElem?_cons_zero, List.getElem?_cons_succ, List.set_cons_zero, List.set_cons_succ, List.map_cons, List.map_nil, 
    List.cons_append, List.nil_append, List.reduceReplicate, Nat.reduceSub, List.length_cons, List.length_nil, if_true, if_false, reduceIte, reduceCtorEq, 
    Bool.false_eq_true, Bool.true_eq_false, sizeLine_eq, Int.reduceToNat, newCell, ix_tupm, ix_lstm, atI_0, atI_1, atI_2, atI_3, atI_4, atI_5]
theorem fd_3 (f : Fx) (S : Sto) : ixD f.d (.int 3) S = .ok (.int (f.five 3)) S := by unfold Fx.d; simp (config := { decide := true }) only [bind_ok, bind_exc, toS_ok, toS_exc, ap_var, ap_c, ap_op2, ap_op1, ap_and, ap_or, ap_not, ap_if, ap_tval, ap_ttruth, ap_tand, ap_tor, ap_tnot, ap_ttrue, 
    ap_nil, ap_cons, ap_tup, ap_lst, ap_lstM, ap_app, ap_sl, ap_pno, ap_pat, toI_int, ap_mt, ap_chain, isBl_bl, truD_bl, truD_int, ap_snil, ap_sbrk, 
    ap_scont, ap_sexpr, ap_sret, ap_sretn, ap_sif, ap_sset, ap_sasg, ap_spar, ap_saug, ap_seq, seqK_next, seqK_ret, seqK_brk, seqK_cont, seqK_exc, ap_for, 
    ap_iseq, ap_ir1, ap_gnm, ap_gtp, gnms_nil, gnms_cons, ap_gsub, Option.map_some, Option.bind_some, loopN_next, loopN_cont, ty_int, ty_bl, ty_str, 
    ty_non, ty_tup, ty_lst, ty_ref, isi_ap, len_ref, get_last, append_last, tuple_last, list_last, add_ii, sub_ii, mul_ii, mulOk_l, mulOk_r, fdiv_ii, 
    divmod_ii, mod_ii, pow_ii, neg_i, ord_ii, is_non, isnt_non, is_bl, isnt_bl, abs_i, int_i, int_b, max_ii, min_ii, len_tup, len_lst, tuple_lst, 
    tuple_tup, list_lst, list_tup, List.getElem?_cons_zero, List.getElem?_cons_succ, List.set_cons_zero, List.set_cons_succ, List.map_cons, List.map_nil, 
    List.cons_append, List.nil_append, List.reduceReplicate, Nat.reduceSub, List.length_cons, List.length_nil, if_true, if_false, reduceIte, reduceCtorEq, 
    Bool.false_eq_true, Bool.true_eq_false, sizeLine_eq, Int.reduceToNat, newCell, ix_tupm, ix_lstm, atI_0, atI_1, atI_2, atI_3, atI_4, atI_5]
theorem fd_4 (f : Fx) (S : Sto) : ixD f.d (.int 4) S = .ok (.int (f.five 4)) S := by unfold Fx.d; simp (config := { decide := true }) only [bind_ok, bind_exc, toS_ok, toS_exc, ap_var, ap_c, ap_op2, ap_op1, ap_and, ap_or, ap_not, ap_if, ap_tval, ap_ttruth, ap_tand, ap_tor, ap_tnot, ap_ttrue, 
    ap_nil, ap_cons, ap_tup, ap_lst, ap_lstM, ap_app, ap_sl, ap_pno, ap_pat, toI_int, ap_mt, ap_chain, isBl_bl, truD_bl, truD_int, ap_snil, ap_sbrk, 
    ap_scont, ap_sexpr, ap_sret, ap_sretn, ap_sif, ap_sset, ap_sasg, ap_spar, ap_saug, ap_seq, seqK_next, seqK_ret, seqK_brk, seqK_cont, seqK_exc, ap_for, 
    ap_iseq, ap_ir1, ap_gnm, ap_gtp, gnms_nil, gnms_cons, ap_gsub, Option.map_some, Option.bind_some, loopN_next, loopN_cont, ty_int, ty_bl, ty_str, 
    ty_non, ty_tup, ty_lst, ty_ref, isi_ap, len_ref, get_last, append_last, tuple_last, list_last, add_ii, sub_ii, mul_ii, mulOk_l, mulOk_r, fdiv_ii, 
    divmod_ii, mod_ii, pow_ii, neg_i, ord_ii, is_non, isnt_non, is_bl, isnt_bl, abs_i, int_i, int_b, max_ii, min_ii, len_tup, len_lst, tuple_lst, 
    tuple_tup, list_lst, list_tup, List.getElem?_cons_zero, List.getElem?_cons_succ, List.set_cons_zero, List.set_cons_succ, List.map_cons, List.map_nil, 
    List.cons_append, List.nil_append, List.reduceReplicate, Nat.reduceSub, List.length_cons, List.length_nil, if_true, if_false, reduceIte, reduceCtorEq, 
    Bool.false_eq_true, Bool.true_eq_false, sizeLine_eq, Int.reduceToNat, newCell, ix_tupm, ix_lstm, atI_0, atI_1, atI_2, atI_3, atI_4, atI_5]
theorem fd_5 (f : Fx) (S : Sto) : ixD f.d (.int 5) S = .ok (.tup (f.paid.map .int)) S := by unfold Fx.d; simp (config := { decide := true }) only [bind_ok, bind_exc, toS_ok, toS_exc, ap_var, ap_c, ap_op2, ap_op1, ap_and, ap_or, ap_not, ap_if, ap_tval, ap_ttruth, ap_tand, ap_tor, ap_tnot, ap_ttrue, 
    ap_nil, ap_cons, ap_tup, ap_lst, ap_lstM, ap_app, ap_sl, ap_pno, ap_pat, toI_int, ap_mt, ap_chain, isBl_bl, truD_bl, truD_int, ap_snil, ap_sbrk, 
    ap_scont, ap_sexpr, ap_sret, ap_sretn, ap_sif, ap_sset, ap_sasg, ap_spar, ap_saug, ap_seq, seqK_next, seqK_ret, seqK_brk, seqK_cont, seqK_exc, ap_for, 
    ap_iseq, ap_ir1, ap_gnm, ap_gtp, gnms_nil, gnms_cons, ap_gsub, Option.map_some, Option.bind_some, loopN_next, loopN_cont, ty_int, ty_bl, ty_str, 
    ty_non, ty_tup, ty_lst, ty_ref, isi_ap, len_ref, get_last, append_last, tuple_last, list_last, add_ii, sub_ii, mul_ii, mulOk_l, mulOk_r, fdiv_ii, 
    divmod_ii, mod_ii, pow_ii, neg_i, ord_ii, is_non, isnt_non, is_bl, isnt_bl, abs_i, int_i, int_b, max_ii, min_ii, len_tup, len_lst, tuple_lst, 
    tuple_tup, list_lst, list_tup, List.getElem?_cons_zero, List.getElem?_cons_succ, List.set_cons_zero, List.set_cons_succ, List.map_cons, List.map_nil, 
    List.cons_append, List.nil_append, List.reduceReplicate, Nat.reduceSub, List.length_cons, List.length_nil, if_true, if_false, reduceIte, reduceCtorEq, 
    Bool.false_eq_true, Bool.true_eq_false, sizeLine_eq, Int.reduceToNat, newCell, ix_tupm, ix_lstm, atI_0, atI_1, atI_2, atI_3, atI_4, atI_5]
theorem Fx.pure (f : Fx) : pureD f.d := pure_tup (by simp [pure_int]; exact pure_tup (by simp; intro a _; exact pure_int a))
def step (f : Fx) : Row → List Int → Tr
  | .drop, _ :: r => (false, r)
  | .swap, x :: y :: r => (false, y :: x :: r)
  | .not, x :: r => lay (if x = 0 then 1 else 0) (false, r)
  | .need, x :: r => (decide (x = 0), r)
  | .add, u :: l :: r => lay (l + u) (false, r)
  | .sub, u :: l :: r => lay (l - u) (false, r)
  | .mul, u :: l :: r => lay (l * u) (false, r)
  | .less, u :: l :: r => lay (if l < u then 1 else 0) (false, r)
  | .same, u :: l :: r => lay (if l = u then 1 else 0) (false, r)
  | .fact k, r => lay (f.five k) (false, r)
  | .paid k, r => lay (f.paid.getD k 0) (false, r)
  | .push n, r => lay n (false, r)
  | .copy k, r => (match r[k]? with
    | some x => lay x (false, r)
    | none => (true, r))
  | _, r => (true, r)
theorem has_no {m : Int} {r : List Int} (h : m ≤ r.length) : has m (false, r) = (false, r) := by unfold has; rw [decide_eq_false (by simp; omega)]; rfl
theorem has_yes {m : Int} {r : List Int} (h : (r.length : Int) < m) : has m (false, r) = (true, r) := by unfold has; rw [decide_eq_true (by simpa using h)]; rfl
theorem one_le {x : Int} {r : List Int} : (1 : Int) ≤ ((x :: r).length : Int) := by simp; omega
theorem two_le {x y : Int} {r : List Int} : (2 : Int) ≤ ((x :: y :: r).length : Int) := by simp; omega
theorem none_lt : ((([] : List Int)).length : Int) < 1 := by decide
theorem none_lt2 : ((([] : List Int)).length : Int) < 2 := by decide
theorem one_lt2 {x : Int} : ((([x] : List Int)).length : Int) < 2 := by simp
abbrev f0 : Fx := ⟨fun _ => 0, []⟩
theorem pop1 {x : Int} : popD (.ref (S.length + 1)) [] (St S fx (b, x :: r) E) = .ok (.int x) (St S fx (b, r) E) := pop_pile rfl
theorem t_drop (hf : pureD fx) : F_Trial_turn [.ref S.length, .str "drop"] (St S fx (false, r) E) = .ok .non (St S fx (step f0 .drop r) E) := by
  cases r with
  | nil =>
    refine run_none rfl (S' := St S fx (true, []) E) (l' := [some (.ref S.length), some (.str "drop"), none, none]) ?_ (exit_St hf pure_non)
    unfold A_Trial_turn
    simp (config := { decide := true }) only [bind_ok, bind_exc, toS_ok, toS_exc, ap_var, ap_c, ap_op2, ap_op1, ap_and, ap_or, ap_not, ap_if, ap_tval, ap_ttruth, ap_tand, ap_tor, ap_tnot, ap_ttrue, 
    ap_nil, ap_cons, ap_tup, ap_lst, ap_lstM, ap_app, ap_sl, ap_pno, ap_pat, toI_int, ap_mt, ap_chain, isBl_bl, truD_bl, truD_int, ap_snil, ap_sbrk, 
    ap_scont, ap_sexpr, ap_sret, ap_sretn, ap_sif, ap_sset, ap_sasg, ap_spar, ap_saug, ap_seq, seqK_next, seqK_ret, seqK_brk, seqK_cont, seqK_exc, ap_for, 
    ap_iseq, ap_ir1, ap_gnm, ap_gtp, gnms_nil, gnms_cons, ap_gsub, Option.map_some, Option.bind_some, loopN_next, loopN_cont, ty_int, ty_bl, ty_str, 
    ty_non, ty_tup, ty_lst, ty_ref, isi_ap, len_ref, get_last, append_last, tuple_last, list_last, add_ii, sub_ii, mul_ii, mulOk_l, mulOk_r, fdiv_ii, 
    divmod_ii, mod_ii, pow_ii, neg_i, ord_ii, is_non, isnt_non, is_bl, isnt_bl, abs_i, int_i, int_b, max_ii, min_ii, len_tup, len_lst, tuple_lst, 
    tuple_tup, list_lst, list_tup, List.getElem?_cons_zero, List.getElem?_cons_succ, List.set_cons_zero, List.set_cons_succ, List.map_cons, List.map_nil, 
    List.cons_append, List.nil_append, List.reduceReplicate, Nat.reduceSub, List.length_cons, List.length_nil, if_true, if_false, reduceIte, reduceCtorEq, 
    Bool.false_eq_true, Bool.true_eq_false, sizeLine_eq, Int.reduceToNat, newCell, ix_tupm, ix_lstm, atI_0, atI_1, atI_2, atI_3, atI_4, atI_5, seq_ss, 
    decide_true, decide_false, ap_meth, st_ins, nl_has, nl_lay, nl_turn, nl_reckon, nl_lay_fact, nl_asked, nl_do, beq_iff_eq, at_pile, at_facts, at_shut, 
    len_pile, st_p, ty_pile, List.length_map, List.length_reverse, Bool.or_true, Bool.or_false, Bool.not_true, Bool.not_false, eqv_ii, nev_ii, f_has hf, 
    has_yes none_lt]
  | cons x r =>
    refine run_none rfl (S' := St S fx (false, r) E) (l' := [some (.ref S.length), some (.str "drop"), none, some (.int x)]) ?_ (exit_St hf pure_non)
    unfold A_Trial_turn
    simp (config := { decide := true }) only [bind_ok, bind_exc, toS_ok, toS_exc, ap_var, ap_c, ap_op2, ap_op1, ap_and, ap_or, ap_not, ap_if, ap_tval, ap_ttruth, ap_tand, ap_tor, ap_tnot, ap_ttrue, 
    ap_nil, ap_cons, ap_tup, ap_lst, ap_lstM, ap_app, ap_sl, ap_pno, ap_pat, toI_int, ap_mt, ap_chain, isBl_bl, truD_bl, truD_int, ap_snil, ap_sbrk, 
    ap_scont, ap_sexpr, ap_sret, ap_sretn, ap_sif, ap_sset, ap_sasg, ap_spar, ap_saug, ap_seq, seqK_next, seqK_ret, seqK_brk, seqK_cont, seqK_exc, ap_for, 
    ap_iseq, ap_ir1, ap_gnm, ap_gtp, gnms_nil, gnms_cons, ap_gsub, Option.map_some, Option.bind_some, loopN_next, loopN_cont, ty_int, ty_bl, ty_str, 
    ty_non, ty_tup, ty_lst, ty_ref, isi_ap, len_ref, get_last, append_last, tuple_last, list_last, add_ii, sub_ii, mul_ii, mulOk_l, mulOk_r, fdiv_ii, 
    divmod_ii, mod_ii, pow_ii, neg_i, ord_ii, is_non, isnt_non, is_bl, isnt_bl, abs_i, int_i, int_b, max_ii, min_ii, len_tup, len_lst, tuple_lst, 
    tuple_tup, list_lst, list_tup, List.getElem?_cons_zero, List.getElem?_cons_succ, List.set_cons_zero, List.set_cons_succ, List.map_cons, List.map_nil, 
    List.cons_append, List.nil_append, List.reduceReplicate, Nat.reduceSub, List.length_cons, List.length_nil, if_true, if_false, reduceIte, reduceCtorEq, 
    Bool.false_eq_true, Bool.true_eq_false, sizeLine_eq, Int.reduceToNat, newCell, ix_tupm, ix_lstm, atI_0, atI_1, atI_2, atI_3, atI_4, atI_5, seq_ss, 
    decide_true, decide_false, ap_meth, st_ins, nl_has, nl_lay, nl_turn, nl_reckon, nl_lay_fact, nl_asked, nl_do, beq_iff_eq, at_pile, at_facts, at_shut, 
    len_pile, st_p, ty_pile, List.length_map, List.length_reverse, Bool.or_true, Bool.or_false, Bool.not_true, Bool.not_false, eqv_ii, nev_ii, f_has hf, 
    has_no one_le, pop1]
theorem t_not (hf : pureD fx) (hl : r.length ≤ 100) : F_Trial_turn [.ref S.length, .str "not"] (St S fx (false, r) E) = .ok .non (St S fx (step f0 .not r) E) := by
  cases r with
  | nil =>
    refine run_none rfl (S' := St S fx (true, []) E) (l' := [some (.ref S.length), some (.str "not"), none, none]) ?_ (exit_St hf pure_non)
    unfold A_Trial_turn
    simp (config := { decide := true }) only [bind_ok, bind_exc, toS_ok, toS_exc, ap_var, ap_c, ap_op2, ap_op1, ap_and, ap_or, ap_not, ap_if, ap_tval, ap_ttruth, ap_tand, ap_tor, ap_tnot, ap_ttrue, 
    ap_nil, ap_cons, ap_tup, ap_lst, ap_lstM, ap_app, ap_sl, ap_pno, ap_pat, toI_int, ap_mt, ap_chain, isBl_bl, truD_bl, truD_int, ap_snil, ap_sbrk, 
    ap_scont, ap_sexpr, ap_sret, ap_sretn, ap_sif, ap_sset, ap_sasg, ap_spar, ap_saug, ap_seq, seqK_next, seqK_ret, seqK_brk, seqK_cont, seqK_exc, ap_for, 
    ap_iseq, ap_ir1, ap_gnm, ap_gtp, gnms_nil, gnms_cons, ap_gsub, Option.map_some, Option.bind_some, loopN_next, loopN_cont, ty_int, ty_bl, ty_str, 
    ty_non, ty_tup, ty_lst, ty_ref, isi_ap, len_ref, get_last, append_last, tuple_last, list_last, add_ii, sub_ii, mul_ii, mulOk_l, mulOk_r, fdiv_ii, 
    divmod_ii, mod_ii, pow_ii, neg_i, ord_ii, is_non, isnt_non, is_bl, isnt_bl, abs_i, int_i, int_b, max_ii, min_ii, len_tup, len_lst, tuple_lst, 
    tuple_tup, list_lst, list_tup, List.getElem?_cons_zero, List.getElem?_cons_succ, List.set_cons_zero, List.set_cons_succ, List.map_cons, List.map_nil, 
    List.cons_append, List.nil_append, List.reduceReplicate, Nat.reduceSub, List.length_cons, List.length_nil, if_true, if_false, reduceIte, reduceCtorEq, 
    Bool.false_eq_true, Bool.true_eq_false, sizeLine_eq, Int.reduceToNat, newCell, ix_tupm, ix_lstm, atI_0, atI_1, atI_2, atI_3, atI_4, atI_5, seq_ss, 
    decide_true, decide_false, ap_meth, st_ins, nl_has, nl_lay, nl_turn, nl_reckon, nl_lay_fact, nl_asked, nl_do, beq_iff_eq, at_pile, at_facts, at_shut, 
    len_pile, st_p, ty_pile, List.length_map, List.length_reverse, Bool.or_true, Bool.or_false, Bool.not_true, Bool.not_false, eqv_ii, nev_ii, f_has hf, 
    has_yes none_lt]
  | cons x r =>
    refine run_none rfl (S' := St S fx (step f0 .not (x :: r)) E) (l' := [some (.ref S.length), some (.str "not"), none, some (.int x)]) ?_ (exit_St hf pure_non)
    unfold A_Trial_turn step
    have hl' : ∀ b : Bool, ((b, r) : Tr).2.length ≤ 100 := fun b => by simp at hl ⊢; omega
    simp (config := { decide := true }) only [bind_ok, bind_exc, toS_ok, toS_exc, ap_var, ap_c, ap_op2, ap_op1, ap_and, ap_or, ap_not, ap_if, ap_tval, ap_ttruth, ap_tand, ap_tor, ap_tnot, ap_ttrue, 
    ap_nil, ap_cons, ap_tup, ap_lst, ap_lstM, ap_app, ap_sl, ap_pno, ap_pat, toI_int, ap_mt, ap_chain, isBl_bl, truD_bl, truD_int, ap_snil, ap_sbrk, 
    ap_scont, ap_sexpr, ap_sret, ap_sretn, ap_sif, ap_sset, ap_sasg, ap_spar, ap_saug, ap_seq, seqK_next, seqK_ret, seqK_brk, seqK_cont, seqK_exc, ap_for, 
    ap_iseq, ap_ir1, ap_gnm, ap_gtp, gnms_nil, gnms_cons, ap_gsub, Option.map_some, Option.bind_some, loopN_next, loopN_cont, ty_int, ty_bl, ty_str, 
    ty_non, ty_tup, ty_lst, ty_ref, isi_ap, len_ref, get_last, append_last, tuple_last, list_last, add_ii, sub_ii, mul_ii, mulOk_l, mulOk_r, fdiv_ii, 
    divmod_ii, mod_ii, pow_ii, neg_i, ord_ii, is_non, isnt_non, is_bl, isnt_bl, abs_i, int_i, int_b, max_ii, min_ii, len_tup, len_lst, tuple_lst, 
    tuple_tup, list_lst, list_tup, List.getElem?_cons_zero, List.getElem?_cons_succ, List.set_cons_zero, List.set_cons_succ, List.map_cons, List.map_nil, 
    List.cons_append, List.nil_append, List.reduceReplicate, Nat.reduceSub, List.length_cons, List.length_nil, if_true, if_false, reduceIte, reduceCtorEq, 
    Bool.false_eq_true, Bool.true_eq_false, sizeLine_eq, Int.reduceToNat, newCell, ix_tupm, ix_lstm, atI_0, atI_1, atI_2, atI_3, atI_4, atI_5, seq_ss, 
    decide_true, decide_false, ap_meth, st_ins, nl_has, nl_lay, nl_turn, nl_reckon, nl_lay_fact, nl_asked, nl_do, beq_iff_eq, at_pile, at_facts, at_shut, 
    len_pile, st_p, ty_pile, List.length_map, List.length_reverse, Bool.or_true, Bool.or_false, Bool.not_true, Bool.not_false, eqv_ii, nev_ii, f_has hf, 
    has_no one_le, pop1, f_lay hf (hl' false)]
theorem t_need (hf : pureD fx) : F_Trial_turn [.ref S.length, .str "need"] (St S fx (false, r) E) = .ok .non (St S fx (step f0 .need r) E) := by
  cases r with
  | nil =>
    refine run_none rfl (S' := St S fx (true, []) E) (l' := [some (.ref S.length), some (.str "need"), none, none]) ?_ (exit_St hf pure_non)
    unfold A_Trial_turn
    simp (config := { decide := true }) only [bind_ok, bind_exc, toS_ok, toS_exc, ap_var, ap_c, ap_op2, ap_op1, ap_and, ap_or, ap_not, ap_if, ap_tval, ap_ttruth, ap_tand, ap_tor, ap_tnot, ap_ttrue, 
    ap_nil, ap_cons, ap_tup, ap_lst, ap_lstM, ap_app, ap_sl, ap_pno, ap_pat, toI_int, ap_mt, ap_chain, isBl_bl, truD_bl, truD_int, ap_snil, ap_sbrk, 
    ap_scont, ap_sexpr, ap_sret, ap_sretn, ap_sif, ap_sset, ap_sasg, ap_spar, ap_saug, ap_seq, seqK_next, seqK_ret, seqK_brk, seqK_cont, seqK_exc, ap_for, 
    ap_iseq, ap_ir1, ap_gnm, ap_gtp, gnms_nil, gnms_cons, ap_gsub, Option.map_some, Option.bind_some, loopN_next, loopN_cont, ty_int, ty_bl, ty_str, 
    ty_non, ty_tup, ty_lst, ty_ref, isi_ap, len_ref, get_last, append_last, tuple_last, list_last, add_ii, sub_ii, mul_ii, mulOk_l, mulOk_r, fdiv_ii, 
    divmod_ii, mod_ii, pow_ii, neg_i, ord_ii, is_non, isnt_non, is_bl, isnt_bl, abs_i, int_i, int_b, max_ii, min_ii, len_tup, len_lst, tuple_lst, 
    tuple_tup, list_lst, list_tup, List.getElem?_cons_zero, List.getElem?_cons_succ, List.set_cons_zero, List.set_cons_succ, List.map_cons, List.map_nil, 
    List.cons_append, List.nil_append, List.reduceReplicate, Nat.reduceSub, List.length_cons, List.length_nil, if_true, if_false, reduceIte, reduceCtorEq, 
    Bool.false_eq_true, Bool.true_eq_false, sizeLine_eq, Int.reduceToNat, newCell, ix_tupm, ix_lstm, atI_0, atI_1, atI_2, atI_3, atI_4, atI_5, seq_ss, 
    decide_true, decide_false, ap_meth, st_ins, nl_has, nl_lay, nl_turn, nl_reckon, nl_lay_fact, nl_asked, nl_do, beq_iff_eq, at_pile, at_facts, at_shut, 
    len_pile, st_p, ty_pile, List.length_map, List.length_reverse, Bool.or_true, Bool.or_false, Bool.not_true, Bool.not_false, eqv_ii, nev_ii, f_has hf, 
    has_yes none_lt]
  | cons x r =>
    refine run_none rfl (S' := St S fx (step f0 .need (x :: r)) E) (l' := [some (.ref S.length), some (.str "need"), none, some (.int x)]) ?_ (exit_St hf pure_non)
    unfold A_Trial_turn step
    by_cases h : x = 0
    · simp (config := { decide := true }) only [bind_ok, bind_exc, toS_ok, toS_exc, ap_var, ap_c, ap_op2, ap_op1, ap_and, ap_or, ap_not, ap_if, ap_tval, ap_ttruth, ap_tand, ap_tor, ap_tnot, ap_ttrue, 
    ap_nil, ap_cons, ap_tup, ap_lst, ap_lstM, ap_app, ap_sl, ap_pno, ap_pat, toI_int, ap_mt, ap_chain, isBl_bl, truD_bl, truD_int, ap_snil, ap_sbrk, 
    ap_scont, ap_sexpr, ap_sret, ap_sretn, ap_sif, ap_sset, ap_sasg, ap_spar, ap_saug, ap_seq, seqK_next, seqK_ret, seqK_brk, seqK_cont, seqK_exc, ap_for, 
    ap_iseq, ap_ir1, ap_gnm, ap_gtp, gnms_nil, gnms_cons, ap_gsub, Option.map_some, Option.bind_some, loopN_next, loopN_cont, ty_int, ty_bl, ty_str, 
    ty_non, ty_tup, ty_lst, ty_ref, isi_ap, len_ref, get_last, append_last, tuple_last, list_last, add_ii, sub_ii, mul_ii, mulOk_l, mulOk_r, fdiv_ii, 
    divmod_ii, mod_ii, pow_ii, neg_i, ord_ii, is_non, isnt_non, is_bl, isnt_bl, abs_i, int_i, int_b, max_ii, min_ii, len_tup, len_lst, tuple_lst, 
    tuple_tup, list_lst, list_tup, List.getElem?_cons_zero, List.getElem?_cons_succ, List.set_cons_zero, List.set_cons_succ, List.map_cons, List.map_nil, 
    List.cons_append, List.nil_append, List.reduceReplicate, Nat.reduceSub, List.length_cons, List.length_nil, if_true, if_false, reduceIte, reduceCtorEq, 
    Bool.false_eq_true, Bool.true_eq_false, sizeLine_eq, Int.reduceToNat, newCell, ix_tupm, ix_lstm, atI_0, atI_1, atI_2, atI_3, atI_4, atI_5, seq_ss, 
    decide_true, decide_false, ap_meth, st_ins, nl_has, nl_lay, nl_turn, nl_reckon, nl_lay_fact, nl_asked, nl_do, beq_iff_eq, at_pile, at_facts, at_shut, 
    len_pile, st_p, ty_pile, List.length_map, List.length_reverse, Bool.or_true, Bool.or_false, Bool.not_true, Bool.not_false, eqv_ii, nev_ii, f_has hf, 
    has_no one_le, pop1, h, set_shut, beq_self_eq_true]
    · simp (config := { decide := true }) only [bind_ok, bind_exc, toS_ok, toS_exc, ap_var, ap_c, ap_op2, ap_op1, ap_and, ap_or, ap_not, ap_if, ap_tval, ap_ttruth, ap_tand, ap_tor, ap_tnot, ap_ttrue, 
    ap_nil, ap_cons, ap_tup, ap_lst, ap_lstM, ap_app, ap_sl, ap_pno, ap_pat, toI_int, ap_mt, ap_chain, isBl_bl, truD_bl, truD_int, ap_snil, ap_sbrk, 
    ap_scont, ap_sexpr, ap_sret, ap_sretn, ap_sif, ap_sset, ap_sasg, ap_spar, ap_saug, ap_seq, seqK_next, seqK_ret, seqK_brk, seqK_cont, seqK_exc, ap_for, 
    ap_iseq, ap_ir1, ap_gnm, ap_gtp, gnms_nil, gnms_cons, ap_gsub, Option.map_some, Option.bind_some, loopN_next, loopN_cont, ty_int, ty_bl, ty_str, 
    ty_non, ty_tup, ty_lst, ty_ref, isi_ap, len_ref, get_last, append_last, tuple_last, list_last, add_ii, sub_ii, mul_ii, mulOk_l, mulOk_r, fdiv_ii, 
    divmod_ii, mod_ii, pow_ii, neg_i, ord_ii, is_non, isnt_non, is_bl, isnt_bl, abs_i, int_i, int_b, max_ii, min_ii, len_tup, len_lst, tuple_lst, 
    tuple_tup, list_lst, list_tup, List.getElem?_cons_zero, List.getElem?_cons_succ, List.set_cons_zero, List.set_cons_succ, List.map_cons, List.map_nil, 
    List.cons_append, List.nil_append, List.reduceReplicate, Nat.reduceSub, List.length_cons, List.length_nil, if_true, if_false, reduceIte, reduceCtorEq, 
    Bool.false_eq_true, Bool.true_eq_false, sizeLine_eq, Int.reduceToNat, newCell, ix_tupm, ix_lstm, atI_0, atI_1, atI_2, atI_3, atI_4, atI_5, seq_ss, 
    decide_true, decide_false, ap_meth, st_ins, nl_has, nl_lay, nl_turn, nl_reckon, nl_lay_fact, nl_asked, nl_do, beq_iff_eq, at_pile, at_facts, at_shut, 
    len_pile, st_p, ty_pile, List.length_map, List.length_reverse, Bool.or_true, Bool.or_false, Bool.not_true, Bool.not_false, eqv_ii, nev_ii, f_has hf, 
    has_no one_le, pop1, h, beq_false_of_ne h, decide_eq_false h]
theorem ins_pile {x y : Int} (h : r.length < 1000) : insertD (.ref (S.length + 1)) [.int (((r.length + 1 : Nat) : Int) - 1), .int x] (St S fx (b, y :: r) E) = .ok .non (St S fx (b, y :: x :: r) E) := by
  unfold insertD
  simp only
  rw [cellL_ref st_p]
  simp only
  have e : (((r.length + 1 : Nat) : Int) - 1).toNat = r.length := by omega
  rw [if_pos ⟨by rw [sizeLine_eq]; simp; omega, by omega, by omega⟩, e]
  have e2 : ((y :: r).reverse.map D.int).take r.length ++ [D.int x] ++ ((y :: r).reverse.map D.int).drop r.length = (y :: x :: r).reverse.map D.int := by
    simp only [List.reverse_cons, List.map_append, List.map_cons, List.map_nil]
    rw [List.take_append_of_le_length (by simp), List.drop_append_of_le_length (by simp), List.take_of_length_le (by simp), List.drop_of_length_le (by simp)]
    simp
  rw [e2, st_setp]
theorem t_swap (hf : pureD fx) (hl : r.length ≤ 100) : F_Trial_turn [.ref S.length, .str "swap"] (St S fx (false, r) E) = .ok .non (St S fx (step f0 .swap r) E) := by
  match r, hl with
  | [], _ =>
    refine run_none rfl (S' := St S fx (true, []) E) (l' := [some (.ref S.length), some (.str "swap"), none, none]) ?_ (exit_St hf pure_non)
    unfold A_Trial_turn
    simp (config := { decide := true }) only [bind_ok, bind_exc, toS_ok, toS_exc, ap_var, ap_c, ap_op2, ap_op1, ap_and, ap_or, ap_not, ap_if, ap_tval, ap_ttruth, ap_tand, ap_tor, ap_tnot, ap_ttrue, 
    ap_nil, ap_cons, ap_tup, ap_lst, ap_lstM, ap_app, ap_sl, ap_pno, ap_pat, toI_int, ap_mt, ap_chain, isBl_bl, truD_bl, truD_int, ap_snil, ap_sbrk, 
    ap_scont, ap_sexpr, ap_sret, ap_sretn, ap_sif, ap_sset, ap_sasg, ap_spar, ap_saug, ap_seq, seqK_next, seqK_ret, seqK_brk, seqK_cont, seqK_exc, ap_for, 
    ap_iseq, ap_ir1, ap_gnm, ap_gtp, gnms_nil, gnms_cons, ap_gsub, Option.map_some, Option.bind_some, loopN_next, loopN_cont, ty_int, ty_bl, ty_str, 
    ty_non, ty_tup, ty_lst, ty_ref, isi_ap, len_ref, get_last, append_last, tuple_last, list_last, add_ii, sub_ii, mul_ii, mulOk_l, mulOk_r, fdiv_ii, 
    divmod_ii, mod_ii, pow_ii, neg_i, ord_ii, is_non, isnt_non, is_bl, isnt_bl, abs_i, int_i, int_b, max_ii, min_ii, len_tup, len_lst, tuple_lst, 
    tuple_tup, list_lst, list_tup, List.getElem?_cons_zero, List.getElem?_cons_succ, List.set_cons_zero, List.set_cons_succ, List.map_cons, List.map_nil, 
    List.cons_append, List.nil_append, List.reduceReplicate, Nat.reduceSub, List.length_cons, List.length_nil, if_true, if_false, reduceIte, reduceCtorEq, 
    Bool.false_eq_true, Bool.true_eq_false, sizeLine_eq, Int.reduceToNat, newCell, ix_tupm, ix_lstm, atI_0, atI_1, atI_2, atI_3, atI_4, atI_5, seq_ss, 
    decide_true, decide_false, ap_meth, st_ins, nl_has, nl_lay, nl_turn, nl_reckon, nl_lay_fact, nl_asked, nl_do, beq_iff_eq, at_pile, at_facts, at_shut, 
    len_pile, st_p, ty_pile, List.length_map, List.length_reverse, Bool.or_true, Bool.or_false, Bool.not_true, Bool.not_false, eqv_ii, nev_ii, f_has hf, 
    has_yes none_lt2]
  | [x], _ =>
    refine run_none rfl (S' := St S fx (true, [x]) E) (l' := [some (.ref S.length), some (.str "swap"), none, none]) ?_ (exit_St hf pure_non)
    unfold A_Trial_turn
    simp (config := { decide := true }) only [bind_ok, bind_exc, toS_ok, toS_exc, ap_var, ap_c, ap_op2, ap_op1, ap_and, ap_or, ap_not, ap_if, ap_tval, ap_ttruth, ap_tand, ap_tor, ap_tnot, ap_ttrue, 
    ap_nil, ap_cons, ap_tup, ap_lst, ap_lstM, ap_app, ap_sl, ap_pno, ap_pat, toI_int, ap_mt, ap_chain, isBl_bl, truD_bl, truD_int, ap_snil, ap_sbrk, 
    ap_scont, ap_sexpr, ap_sret, ap_sretn, ap_sif, ap_sset, ap_sasg, ap_spar, ap_saug, ap_seq, seqK_next, seqK_ret, seqK_brk, seqK_cont, seqK_exc, ap_for, 
    ap_iseq, ap_ir1, ap_gnm, ap_gtp, gnms_nil, gnms_cons, ap_gsub, Option.map_some, Option.bind_some, loopN_next, loopN_cont, ty_int, ty_bl, ty_str, 
    ty_non, ty_tup, ty_lst, ty_ref, isi_ap, len_ref, get_last, append_last, tuple_last, list_last, add_ii, sub_ii, mul_ii, mulOk_l, mulOk_r, fdiv_ii, 
    divmod_ii, mod_ii, pow_ii, neg_i, ord_ii, is_non, isnt_non, is_bl, isnt_bl, abs_i, int_i, int_b, max_ii, min_ii, len_tup, len_lst, tuple_lst, 
    tuple_tup, list_lst, list_tup, List.getElem?_cons_zero, List.getElem?_cons_succ, List.set_cons_zero, List.set_cons_succ, List.map_cons, List.map_nil, 
    List.cons_append, List.nil_append, List.reduceReplicate, Nat.reduceSub, List.length_cons, List.length_nil, if_true, if_false, reduceIte, reduceCtorEq, 
    Bool.false_eq_true, Bool.true_eq_false, sizeLine_eq, Int.reduceToNat, newCell, ix_tupm, ix_lstm, atI_0, atI_1, atI_2, atI_3, atI_4, atI_5, seq_ss, 
    decide_true, decide_false, ap_meth, st_ins, nl_has, nl_lay, nl_turn, nl_reckon, nl_lay_fact, nl_asked, nl_do, beq_iff_eq, at_pile, at_facts, at_shut, 
    len_pile, st_p, ty_pile, List.length_map, List.length_reverse, Bool.or_true, Bool.or_false, Bool.not_true, Bool.not_false, eqv_ii, nev_ii, f_has hf, 
    has_yes one_lt2]
  | x :: y :: r, hl =>
    refine run_none rfl (S' := St S fx (false, y :: x :: r) E) (l' := [some (.ref S.length), some (.str "swap"), some (.int x), none]) ?_ (exit_St hf pure_non)
    unfold A_Trial_turn
    simp (config := { decide := true }) only [bind_ok, bind_exc, toS_ok, toS_exc, ap_var, ap_c, ap_op2, ap_op1, ap_and, ap_or, ap_not, ap_if, ap_tval, ap_ttruth, ap_tand, ap_tor, ap_tnot, ap_ttrue, 
    ap_nil, ap_cons, ap_tup, ap_lst, ap_lstM, ap_app, ap_sl, ap_pno, ap_pat, toI_int, ap_mt, ap_chain, isBl_bl, truD_bl, truD_int, ap_snil, ap_sbrk, 
    ap_scont, ap_sexpr, ap_sret, ap_sretn, ap_sif, ap_sset, ap_sasg, ap_spar, ap_saug, ap_seq, seqK_next, seqK_ret, seqK_brk, seqK_cont, seqK_exc, ap_for, 
    ap_iseq, ap_ir1, ap_gnm, ap_gtp, gnms_nil, gnms_cons, ap_gsub, Option.map_some, Option.bind_some, loopN_next, loopN_cont, ty_int, ty_bl, ty_str, 
    ty_non, ty_tup, ty_lst, ty_ref, isi_ap, len_ref, get_last, append_last, tuple_last, list_last, add_ii, sub_ii, mul_ii, mulOk_l, mulOk_r, fdiv_ii, 
    divmod_ii, mod_ii, pow_ii, neg_i, ord_ii, is_non, isnt_non, is_bl, isnt_bl, abs_i, int_i, int_b, max_ii, min_ii, len_tup, len_lst, tuple_lst, 
    tuple_tup, list_lst, list_tup, List.getElem?_cons_zero, List.getElem?_cons_succ, List.set_cons_zero, List.set_cons_succ, List.map_cons, List.map_nil, 
    List.cons_append, List.nil_append, List.reduceReplicate, Nat.reduceSub, List.length_cons, List.length_nil, if_true, if_false, reduceIte, reduceCtorEq, 
    Bool.false_eq_true, Bool.true_eq_false, sizeLine_eq, Int.reduceToNat, newCell, ix_tupm, ix_lstm, atI_0, atI_1, atI_2, atI_3, atI_4, atI_5, seq_ss, 
    decide_true, decide_false, ap_meth, st_ins, nl_has, nl_lay, nl_turn, nl_reckon, nl_lay_fact, nl_asked, nl_do, beq_iff_eq, at_pile, at_facts, at_shut, 
    len_pile, st_p, ty_pile, List.length_map, List.length_reverse, Bool.or_true, Bool.or_false, Bool.not_true, Bool.not_false, eqv_ii, nev_ii, f_has hf, 
    has_no two_le, pop1, ins_pile (show r.length < 1000 by simp at hl; omega)]
theorem mulOk_of {i j : Int} (hi : i.natAbs < 10 ^ 60) (hj : j.natAbs < 10 ^ 60) : mulOk i j = true := by
  have h : ∀ k : Int, k.natAbs < 10 ^ 60 → k.natAbs.log2 < 200 := fun k hk => by
    by_cases h0 : k.natAbs = 0
    · rw [h0]; decide
    · exact (Nat.log2_lt h0).mpr (Nat.lt_trans hk (by decide))
  have h1 := h i hi
  have h2 := h j hj
  unfold mulOk
  rw [Bool.or_eq_true]
  exact .inr (decide_eq_true (by omega))
/-- all numbers of a pile have at most sixty figures -/
def Fit (r : List Int) : Prop := r.length ≤ 20 ∧ ∀ x ∈ r, x.natAbs < 10 ^ 60
theorem Fit.tail {x : Int} (h : Fit (x :: r)) : Fit r := ⟨by have := h.1; simp at this; omega, fun y hy => h.2 y (List.mem_cons_of_mem _ hy)⟩
theorem r_nil (hf : pureD fx) (w : Str) : F_Trial_reckon [.ref S.length, .str w] (St S fx (false, []) E) = .ok .non (St S fx (true, []) E) := by
  refine run_none rfl (S' := St S fx (true, []) E) (l' := [some (.ref S.length), some (.str w), none, none]) ?_ (exit_St hf pure_non)
  unfold A_Trial_reckon
  simp (config := { decide := true }) only [bind_ok, bind_exc, toS_ok, toS_exc, ap_var, ap_c, ap_op2, ap_op1, ap_and, ap_or, ap_not, ap_if, ap_tval, ap_ttruth, ap_tand, ap_tor, ap_tnot, ap_ttrue, 
    ap_nil, ap_cons, ap_tup, ap_lst, ap_lstM, ap_app, ap_sl, ap_pno, ap_pat, toI_int, ap_mt, ap_chain, isBl_bl, truD_bl, truD_int, ap_snil, ap_sbrk, 
    ap_scont, ap_sexpr, ap_sret, ap_sretn, ap_sif, ap_sset, ap_sasg, ap_spar, ap_saug, ap_seq, seqK_next, seqK_ret, seqK_brk, seqK_cont, seqK_exc, ap_for, 
    ap_iseq, ap_ir1, ap_gnm, ap_gtp, gnms_nil, gnms_cons, ap_gsub, Option.map_some, Option.bind_some, loopN_next, loopN_cont, ty_int, ty_bl, ty_str, 
    ty_non, ty_tup, ty_lst, ty_ref, isi_ap, len_ref, get_last, append_last, tuple_last, list_last, add_ii, sub_ii, mul_ii, mulOk_l, mulOk_r, fdiv_ii, 
    divmod_ii, mod_ii, pow_ii, neg_i, ord_ii, is_non, isnt_non, is_bl, isnt_bl, abs_i, int_i, int_b, max_ii, min_ii, len_tup, len_lst, tuple_lst, 
    tuple_tup, list_lst, list_tup, List.getElem?_cons_zero, List.getElem?_cons_succ, List.set_cons_zero, List.set_cons_succ, List.map_cons, List.map_nil, 
    List.cons_append, List.nil_append, List.reduceReplicate, Nat.reduceSub, List.length_cons, List.length_nil, if_true, if_false, reduceIte, reduceCtorEq, 
    Bool.false_eq_true, Bool.true_eq_false, sizeLine_eq, Int.reduceToNat, newCell, ix_tupm, ix_lstm, atI_0, atI_1, atI_2, atI_3, atI_4, atI_5, seq_ss, 
    decide_true, decide_false, ap_meth, st_ins, nl_has, nl_lay, nl_turn, nl_reckon, nl_lay_fact, nl_asked, nl_do, beq_iff_eq, at_pile, at_facts, at_shut, 
    len_pile, st_p, ty_pile, List.length_map, List.length_reverse, Bool.or_true, Bool.or_false, Bool.not_true, Bool.not_false, eqv_ii, nev_ii, f_has hf, 
    has_yes none_lt2]
theorem r_one (hf : pureD fx) (w : Str) (x : Int) : F_Trial_reckon [.ref S.length, .str w] (St S fx (false, [x]) E) = .ok .non (St S fx (true, [x]) E) := by
  refine run_none rfl (S' := St S fx (true, [x]) E) (l' := [some (.ref S.length), some (.str w), none, none]) ?_ (exit_St hf pure_non)
  unfold A_Trial_reckon
  simp (config := { decide := true }) only [bind_ok, bind_exc, toS_ok, toS_exc, ap_var, ap_c, ap_op2, ap_op1, ap_and, ap_or, ap_not, ap_if, ap_tval, ap_ttruth, ap_tand, ap_tor, ap_tnot, ap_ttrue, 
    ap_nil, ap_cons, ap_tup, ap_lst, ap_lstM, ap_app, ap_sl, ap_pno, ap_pat, toI_int, ap_mt, ap_chain, isBl_bl, truD_bl, truD_int, ap_snil, ap_sbrk, 
    ap_scont, ap_sexpr, ap_sret, ap_sretn, ap_sif, ap_sset, ap_sasg, ap_spar, ap_saug, ap_seq, seqK_next, seqK_ret, seqK_brk, seqK_cont, seqK_exc, ap_for, 
    ap_iseq, ap_ir1, ap_gnm, ap_gtp, gnms_nil, gnms_cons, ap_gsub, Option.map_some, Option.bind_some, loopN_next, loopN_cont, ty_int, ty_bl, ty_str, 
    ty_non, ty_tup, ty_lst, ty_ref, isi_ap, len_ref, get_last, append_last, tuple_last, list_last, add_ii, sub_ii, mul_ii, mulOk_l, mulOk_r, fdiv_ii, 
    divmod_ii, mod_ii, pow_ii, neg_i, ord_ii, is_non, isnt_non, is_bl, isnt_bl, abs_i, int_i, int_b, max_ii, min_ii, len_tup, len_lst, tuple_lst, 
    tuple_tup, list_lst, list_tup, List.getElem?_cons_zero, List.getElem?_cons_succ, List.set_cons_zero, List.set_cons_succ, List.map_cons, List.map_nil, 
    List.cons_append, List.nil_append, List.reduceReplicate, Nat.reduceSub, List.length_cons, List.length_nil, if_true, if_false, reduceIte, reduceCtorEq, 
    Bool.false_eq_true, Bool.true_eq_false, sizeLine_eq, Int.reduceToNat, newCell, ix_tupm, ix_lstm, atI_0, atI_1, atI_2, atI_3, atI_4, atI_5, seq_ss, 
    decide_true, decide_false, ap_meth, st_ins, nl_has, nl_lay, nl_turn, nl_reckon, nl_lay_fact, nl_asked, nl_do, beq_iff_eq, at_pile, at_facts, at_shut, 
    len_pile, st_p, ty_pile, List.length_map, List.length_reverse, Bool.or_true, Bool.or_false, Bool.not_true, Bool.not_false, eqv_ii, nev_ii, f_has hf, 
    has_yes one_lt2]
theorem r_two (hf : pureD fx) {u l : Int} (hl : Fit (u :: l :: r)) :
    F_Trial_reckon [.ref S.length, .str "add"] (St S fx (false, u :: l :: r) E) = .ok .non (St S fx (lay (l + u) (false, r)) E) ∧
    F_Trial_reckon [.ref S.length, .str "sub"] (St S fx (false, u :: l :: r) E) = .ok .non (St S fx (lay (l - u) (false, r)) E) ∧
    F_Trial_reckon [.ref S.length, .str "mul"] (St S fx (false, u :: l :: r) E) = .ok .non (St S fx (lay (l * u) (false, r)) E) ∧
    F_Trial_reckon [.ref S.length, .str "less"] (St S fx (false, u :: l :: r) E) = .ok .non (St S fx (lay (if l < u then 1 else 0) (false, r)) E) ∧
    F_Trial_reckon [.ref S.length, .str "same"] (St S fx (false, u :: l :: r) E) = .ok .non (St S fx (lay (if l = u then 1 else 0) (false, r)) E) := by
  have hr : ((false, r) : Tr).2.length ≤ 100 := by have := hl.1; simp at this ⊢; omega
  have hm : mulOk l u = true := mulOk_of (hl.2 l (by simp)) (hl.2 u (by simp))
  refine ⟨?_, ?_, ?_, ?_, ?_⟩
  · refine run_none rfl (S' := St S fx (lay (l + u) (false, r)) E) (l' := [some (.ref S.length), some (.str "add"), some (.int u), some (.int l)]) ?_ (exit_St hf pure_non)
    unfold A_Trial_reckon
    simp (config := { decide := true }) only [bind_ok, bind_exc, toS_ok, toS_exc, ap_var, ap_c, ap_op2, ap_op1, ap_and, ap_or, ap_not, ap_if, ap_tval, ap_ttruth, ap_tand, ap_tor, ap_tnot, ap_ttrue, 
    ap_nil, ap_cons, ap_tup, ap_lst, ap_lstM, ap_app, ap_sl, ap_pno, ap_pat, toI_int, ap_mt, ap_chain, isBl_bl, truD_bl, truD_int, ap_snil, ap_sbrk, 
    ap_scont, ap_sexpr, ap_sret, ap_sretn, ap_sif, ap_sset, ap_sasg, ap_spar, ap_saug, ap_seq, seqK_next, seqK_ret, seqK_brk, seqK_cont, seqK_exc, ap_for, 
    ap_iseq, ap_ir1, ap_gnm, ap_gtp, gnms_nil, gnms_cons, ap_gsub, Option.map_some, Option.bind_some, loopN_next, loopN_cont, ty_int, ty_bl, ty_str, 
    ty_non, ty_tup, ty_lst, ty_ref, isi_ap, len_ref, get_last, append_last, tuple_last, list_last, add_ii, sub_ii, mul_ii, mulOk_l, mulOk_r, fdiv_ii, 
    divmod_ii, mod_ii, pow_ii, neg_i, ord_ii, is_non, isnt_non, is_bl, isnt_bl, abs_i, int_i, int_b, max_ii, min_ii, len_tup, len_lst, tuple_lst, 
    tuple_tup, list_lst, list_tup, List.getElem?_cons_zero, List.getElem?_cons_succ, List.set_cons_zero, List.set_cons_succ, List.map_cons, List.map_nil, 
    List.cons_append, List.nil_append, List.reduceReplicate, Nat.reduceSub, List.length_cons, List.length_nil, if_true, if_false, reduceIte, reduceCtorEq, 
    Bool.false_eq_true, Bool.true_eq_false, sizeLine_eq, Int.reduceToNat, newCell, ix_tupm, ix_lstm, atI_0, atI_1, atI_2, atI_3, atI_4, atI_5, seq_ss, 
    decide_true, decide_false, ap_meth, st_ins, nl_has, nl_lay, nl_turn, nl_reckon, nl_lay_fact, nl_asked, nl_do, beq_iff_eq, at_pile, at_facts, at_shut, 
    len_pile, st_p, ty_pile, List.length_map, List.length_reverse, Bool.or_true, Bool.or_false, Bool.not_true, Bool.not_false, eqv_ii, nev_ii, f_has hf, 
    has_no two_le, pop1, f_lay hf hr]
  · refine run_none rfl (S' := St S fx (lay (l - u) (false, r)) E) (l' := [some (.ref S.length), some (.str "sub"), some (.int u), some (.int l)]) ?_ (exit_St hf pure_non)
    unfold A_Trial_reckon
    simp (config := { decide := true }) only [bind_ok, bind_exc, toS_ok, toS_exc, ap_var, ap_c, ap_op2, ap_op1, ap_and, ap_or, ap_not, ap_if, ap_tval, ap_ttruth, ap_tand, ap_tor, ap_tnot, ap_ttrue, 
    ap_nil, ap_cons, ap_tup, ap_lst, ap_lstM, ap_app, ap_sl, ap_pno, ap_pat, toI_int, ap_mt, ap_chain, isBl_bl, truD_bl, truD_int, ap_snil, ap_sbrk, 
    ap_scont, ap_sexpr, ap_sret, ap_sretn, ap_sif, ap_sset, ap_sasg, ap_spar, ap_saug, ap_seq, seqK_next, seqK_ret, seqK_brk, seqK_cont, seqK_exc, ap_for, 
    ap_iseq, ap_ir1, ap_gnm, ap_gtp, gnms_nil, gnms_cons, ap_gsub, Option.map_some, Option.bind_some, loopN_next, loopN_cont, ty_int, ty_bl, ty_str, 
    ty_non, ty_tup, ty_lst, ty_ref, isi_ap, len_ref, get_last, append_last, tuple_last, list_last, add_ii, sub_ii, mul_ii, mulOk_l, mulOk_r, fdiv_ii, 
    divmod_ii, mod_ii, pow_ii, neg_i, ord_ii, is_non, isnt_non, is_bl, isnt_bl, abs_i, int_i, int_b, max_ii, min_ii, len_tup, len_lst, tuple_lst, 
    tuple_tup, list_lst, list_tup, List.getElem?_cons_zero, List.getElem?_cons_succ, List.set_cons_zero, List.set_cons_succ, List.map_cons, List.map_nil, 
    List.cons_append, List.nil_append, List.reduceReplicate, Nat.reduceSub, List.length_cons, List.length_nil, if_true, if_false, reduceIte, reduceCtorEq, 
    Bool.false_eq_true, Bool.true_eq_false, sizeLine_eq, Int.reduceToNat, newCell, ix_tupm, ix_lstm, atI_0, atI_1, atI_2, atI_3, atI_4, atI_5, seq_ss, 
    decide_true, decide_false, ap_meth, st_ins, nl_has, nl_lay, nl_turn, nl_reckon, nl_lay_fact, nl_asked, nl_do, beq_iff_eq, at_pile, at_facts, at_shut, 
    len_pile, st_p, ty_pile, List.length_map, List.length_reverse, Bool.or_true, Bool.or_false, Bool.not_true, Bool.not_false, eqv_ii, nev_ii, f_has hf, 
    has_no two_le, pop1, f_lay hf hr]
  · refine run_none rfl (S' := St S fx (lay (l * u) (false, r)) E) (l' := [some (.ref S.length), some (.str "mul"), some (.int u), some (.int l)]) ?_ (exit_St hf pure_non)
    unfold A_Trial_reckon
    simp (config := { decide := true }) only [bind_ok, bind_exc, toS_ok, toS_exc, ap_var, ap_c, ap_op2, ap_op1, ap_and, ap_or, ap_not, ap_if, ap_tval, ap_ttruth, ap_tand, ap_tor, ap_tnot, ap_ttrue, 
    ap_nil, ap_cons, ap_tup, ap_lst, ap_lstM, ap_app, ap_sl, ap_pno, ap_pat, toI_int, ap_mt, ap_chain, isBl_bl, truD_bl, truD_int, ap_snil, ap_sbrk, 
    ap_scont, ap_sexpr, ap_sret, ap_sretn, ap_sif, ap_sset, ap_sasg, ap_spar, ap_saug, ap_seq, seqK_next, seqK_ret, seqK_brk, seqK_cont, seqK_exc, ap_for, 
    ap_iseq, ap_ir1, ap_gnm, ap_gtp, gnms_nil, gnms_cons, ap_gsub, Option.map_some, Option.bind_some, loopN_next, loopN_cont, ty_int, ty_bl, ty_str, 
    ty_non, ty_tup, ty_lst, ty_ref, isi_ap, len_ref, get_last, append_last, tuple_last, list_last, add_ii, sub_ii, mul_ii, mulOk_l, mulOk_r, fdiv_ii, 
    divmod_ii, mod_ii, pow_ii, neg_i, ord_ii, is_non, isnt_non, is_bl, isnt_bl, abs_i, int_i, int_b, max_ii, min_ii, len_tup, len_lst, tuple_lst, 
    tuple_tup, list_lst, list_tup, List.getElem?_cons_zero, List.getElem?_cons_succ, List.set_cons_zero, List.set_cons_succ, List.map_cons, List.map_nil, 
    List.cons_append, List.nil_append, List.reduceReplicate, Nat.reduceSub, List.length_cons, List.length_nil, if_true, if_false, reduceIte, reduceCtorEq, 
    Bool.false_eq_true, Bool.true_eq_false, sizeLine_eq, Int.reduceToNat, newCell, ix_tupm, ix_lstm, atI_0, atI_1, atI_2, atI_3, atI_4, atI_5, seq_ss, 
    decide_true, decide_false, ap_meth, st_ins, nl_has, nl_lay, nl_turn, nl_reckon, nl_lay_fact, nl_asked, nl_do, beq_iff_eq, at_pile, at_facts, at_shut, 
    len_pile, st_p, ty_pile, List.length_map, List.length_reverse, Bool.or_true, Bool.or_false, Bool.not_true, Bool.not_false, eqv_ii, nev_ii, f_has hf, 
    has_no two_le, pop1, f_lay hf hr, mul_ii hm]
  · refine run_none rfl (S' := St S fx (lay (if l < u then 1 else 0) (false, r)) E) (l' := [some (.ref S.length), some (.str "less"), some (.int u), some (.int l)]) ?_ (exit_St hf pure_non)
    unfold A_Trial_reckon
    by_cases h : l < u
    · simp (config := { decide := true }) only [bind_ok, bind_exc, toS_ok, toS_exc, ap_var, ap_c, ap_op2, ap_op1, ap_and, ap_or, ap_not, ap_if, ap_tval, ap_ttruth, ap_tand, ap_tor, ap_tnot, ap_ttrue, 
    ap_nil, ap_cons, ap_tup, ap_lst, ap_lstM, ap_app, ap_sl, ap_pno, ap_pat, toI_int, ap_mt, ap_chain, isBl_bl, truD_bl, truD_int, ap_snil, ap_sbrk, 
    ap_scont, ap_sexpr, ap_sret, ap_sretn, ap_sif, ap_sset, ap_sasg, ap_spar, ap_saug, ap_seq, seqK_next, seqK_ret, seqK_brk, seqK_cont, seqK_exc, ap_for, 
    ap_iseq, ap_ir1, ap_gnm, ap_gtp, gnms_nil, gnms_cons, ap_gsub, Option.map_some, Option.bind_some, loopN_next, loopN_cont, ty_int, ty_bl, ty_str, 
    ty_non, ty_tup, ty_lst, ty_ref, isi_ap, len_ref, get_last, append_last, tuple_last, list_last, add_ii, sub_ii, mul_ii, mulOk_l, mulOk_r, fdiv_ii, 
    divmod_ii, mod_ii, pow_ii, neg_i, ord_ii, is_non, isnt_non, is_bl, isnt_bl, abs_i, int_i, int_b, max_ii, min_ii, len_tup, len_lst, tuple_lst, 
    tuple_tup, list_lst, list_tup, List.getElem?_cons_zero, List.getElem?_cons_succ, List.set_cons_zero, List.set_cons_succ, List.map_cons, List.map_nil, 
    List.cons_append, List.nil_append, List.reduceReplicate, Nat.reduceSub, List.length_cons, List.length_nil, if_true, if_false, reduceIte, reduceCtorEq, 
    Bool.false_eq_true, Bool.true_eq_false, sizeLine_eq, Int.reduceToNat, newCell, ix_tupm, ix_lstm, atI_0, atI_1, atI_2, atI_3, atI_4, atI_5, seq_ss, 
    decide_true, decide_false, ap_meth, st_ins, nl_has, nl_lay, nl_turn, nl_reckon, nl_lay_fact, nl_asked, nl_do, beq_iff_eq, at_pile, at_facts, at_shut, 
    len_pile, st_p, ty_pile, List.length_map, List.length_reverse, Bool.or_true, Bool.or_false, Bool.not_true, Bool.not_false, eqv_ii, nev_ii, f_has hf, 
    has_no two_le, pop1, f_lay hf hr, decide_eq_true h, h]
    · simp (config := { decide := true }) only [bind_ok, bind_exc, toS_ok, toS_exc, ap_var, ap_c, ap_op2, ap_op1, ap_and, ap_or, ap_not, ap_if, ap_tval, ap_ttruth, ap_tand, ap_tor, ap_tnot, ap_ttrue, 
    ap_nil, ap_cons, ap_tup, ap_lst, ap_lstM, ap_app, ap_sl, ap_pno, ap_pat, toI_int, ap_mt, ap_chain, isBl_bl, truD_bl, truD_int, ap_snil, ap_sbrk, 
    ap_scont, ap_sexpr, ap_sret, ap_sretn, ap_sif, ap_sset, ap_sasg, ap_spar, ap_saug, ap_seq, seqK_next, seqK_ret, seqK_brk, seqK_cont, seqK_exc, ap_for, 
    ap_iseq, ap_ir1, ap_gnm, ap_gtp, gnms_nil, gnms_cons, ap_gsub, Option.map_some, Option.bind_some, loopN_next, loopN_cont, ty_int, ty_bl, ty_str, 
    ty_non, ty_tup, ty_lst, ty_ref, isi_ap, len_ref, get_last, append_last, tuple_last, list_last, add_ii, sub_ii, mul_ii, mulOk_l, mulOk_r, fdiv_ii, 
    divmod_ii, mod_ii, pow_ii, neg_i, ord_ii, is_non, isnt_non, is_bl, isnt_bl, abs_i, int_i, int_b, max_ii, min_ii, len_tup, len_lst, tuple_lst, 
    tuple_tup, list_lst, list_tup, List.getElem?_cons_zero, List.getElem?_cons_succ, List.set_cons_zero, List.set_cons_succ, List.map_cons, List.map_nil, 
    List.cons_append, List.nil_append, List.reduceReplicate, Nat.reduceSub, List.length_cons, List.length_nil, if_true, if_false, reduceIte, reduceCtorEq, 
    Bool.false_eq_true, Bool.true_eq_false, sizeLine_eq, Int.reduceToNat, newCell, ix_tupm, ix_lstm, atI_0, atI_1, atI_2, atI_3, atI_4, atI_5, seq_ss, 
    decide_true, decide_false, ap_meth, st_ins, nl_has, nl_lay, nl_turn, nl_reckon, nl_lay_fact, nl_asked, nl_do, beq_iff_eq, at_pile, at_facts, at_shut, 
    len_pile, st_p, ty_pile, List.length_map, List.length_reverse, Bool.or_true, Bool.or_false, Bool.not_true, Bool.not_false, eqv_ii, nev_ii, f_has hf, 
    has_no two_le, pop1, f_lay hf hr, decide_eq_false h, h]
  · refine run_none rfl (S' := St S fx (lay (if l = u then 1 else 0) (false, r)) E) (l' := [some (.ref S.length), some (.str "same"), some (.int u), some (.int l)]) ?_ (exit_St hf pure_non)
    unfold A_Trial_reckon
    simp (config := { decide := true }) only [bind_ok, bind_exc, toS_ok, toS_exc, ap_var, ap_c, ap_op2, ap_op1, ap_and, ap_or, ap_not, ap_if, ap_tval, ap_ttruth, ap_tand, ap_tor, ap_tnot, ap_ttrue, 
    ap_nil, ap_cons, ap_tup, ap_lst, ap_lstM, ap_app, ap_sl, ap_pno, ap_pat, toI_int, ap_mt, ap_chain, isBl_bl, truD_bl, truD_int, ap_snil, ap_sbrk, 
    ap_scont, ap_sexpr, ap_sret, ap_sretn, ap_sif, ap_sset, ap_sasg, ap_spar, ap_saug, ap_seq, seqK_next, seqK_ret, seqK_brk, seqK_cont, seqK_exc, ap_for, 
    ap_iseq, ap_ir1, ap_gnm, ap_gtp, gnms_nil, gnms_cons, ap_gsub, Option.map_some, Option.bind_some, loopN_next, loopN_cont, ty_int, ty_bl, ty_str, 
    ty_non, ty_tup, ty_lst, ty_ref, isi_ap, len_ref, get_last, append_last, tuple_last, list_last, add_ii, sub_ii, mul_ii, mulOk_l, mulOk_r, fdiv_ii, 
    divmod_ii, mod_ii, pow_ii, neg_i, ord_ii, is_non, isnt_non, is_bl, isnt_bl, abs_i, int_i, int_b, max_ii, min_ii, len_tup, len_lst, tuple_lst, 
    tuple_tup, list_lst, list_tup, List.getElem?_cons_zero, List.getElem?_cons_succ, List.set_cons_zero, List.set_cons_succ, List.map_cons, List.map_nil, 
    List.cons_append, List.nil_append, List.reduceReplicate, Nat.reduceSub, List.length_cons, List.length_nil, if_true, if_false, reduceIte, reduceCtorEq, 
    Bool.false_eq_true, Bool.true_eq_false, sizeLine_eq, Int.reduceToNat, newCell, ix_tupm, ix_lstm, atI_0, atI_1, atI_2, atI_3, atI_4, atI_5, seq_ss, 
    decide_true, decide_false, ap_meth, st_ins, nl_has, nl_lay, nl_turn, nl_reckon, nl_lay_fact, nl_asked, nl_do, beq_iff_eq, at_pile, at_facts, at_shut, 
    len_pile, st_p, ty_pile, List.length_map, List.length_reverse, Bool.or_true, Bool.or_false, Bool.not_true, Bool.not_false, eqv_ii, nev_ii, f_has hf, 
    has_no two_le, pop1, f_lay hf hr]
/-- a fact laid -/
theorem l_fact (f : Fx) (k : Fin 5) (hl : r.length ≤ 20) : F_Trial_lay_fact [.ref S.length, (Row.fact k).d] (St S f.d (false, r) E) = .ok .non (St S f.d (lay (f.five k) (false, r)) E) := by
  have hr : ((false, r) : Tr).2.length ≤ 100 := by simp; omega
  refine run_none rfl (S' := St S f.d (lay (f.five k) (false, r)) E) (l' := [some (.ref S.length), some (Row.fact k).d, none]) ?_ (exit_St f.pure pure_non)
  unfold A_Trial_lay_fact Row.d
  have tx : ∀ (z : Str) (j : Nat) (jz : Int) (S : Sto), (["height", "age", "worth", "ins", "outs"] : List Str).findIdx (· == z) = j → j < 5 → (j : Int) = jz → tixD ["height", "age", "worth", "ins", "outs"] (.str z) S = .ok (.int jz) S := fun z j jz S h hj hz => by
    unfold tixD
    simp only
    rw [h, ← hz]
    exact if_pos hj
  have t0 := fun S => tx "height" 0 0 S (by decide) (by decide) rfl
  have t1 := fun S => tx "age" 1 1 S (by decide) (by decide) rfl
  have t2 := fun S => tx "worth" 2 2 S (by decide) (by decide) rfl
  have t3 := fun S => tx "ins" 3 3 S (by decide) (by decide) rfl
  have t4 := fun S => tx "outs" 4 4 S (by decide) (by decide) rfl
  have fl : ∀ x : Int, F_Trial_lay [.ref S.length, .int x] (St S f.d (false, r) E) = .ok .non (St S f.d (lay x (false, r)) E) := fun x => f_lay f.pure hr
  match k with
  | 0 => simp (config := { decide := true }) only [bind_ok, bind_exc, toS_ok, toS_exc, ap_var, ap_c, ap_op2, ap_op1, ap_and, ap_or, ap_not, ap_if, ap_tval, ap_ttruth, ap_tand, ap_tor, ap_tnot, ap_ttrue, 
    ap_nil, ap_cons, ap_tup, ap_lst, ap_lstM, ap_app, ap_sl, ap_pno, ap_pat, toI_int, ap_mt, ap_chain, isBl_bl, truD_bl, truD_int, ap_snil, ap_sbrk, 
    ap_scont, ap_sexpr, ap_sret, ap_sretn, ap_sif, ap_sset, ap_sasg, ap_spar, ap_saug, ap_seq, seqK_next, seqK_ret, seqK_brk, seqK_cont, seqK_exc, ap_for, 
    ap_iseq, ap_ir1, ap_gnm, ap_gtp, gnms_nil, gnms_cons, ap_gsub, Option.map_some, Option.bind_some, loopN_next, loopN_cont, ty_int, ty_bl, ty_str, 
    ty_non, ty_tup, ty_lst, ty_ref, isi_ap, len_ref, get_last, append_last, tuple_last, list_last, add_ii, sub_ii, mul_ii, mulOk_l, mulOk_r, fdiv_ii, 
    divmod_ii, mod_ii, pow_ii, neg_i, ord_ii, is_non, isnt_non, is_bl, isnt_bl, abs_i, int_i, int_b, max_ii, min_ii, len_tup, len_lst, tuple_lst, 
    tuple_tup, list_lst, list_tup, List.getElem?_cons_zero, List.getElem?_cons_succ, List.set_cons_zero, List.set_cons_succ, List.map_cons, List.map_nil, 
    List.cons_append, List.nil_append, List.reduceReplicate, Nat.reduceSub, List.length_cons, List.length_nil, if_true, if_false, reduceIte, reduceCtorEq, 
    Bool.false_eq_true, Bool.true_eq_false, sizeLine_eq, Int.reduceToNat, newCell, ix_tupm, ix_lstm, atI_0, atI_1, atI_2, atI_3, atI_4, atI_5, seq_ss, 
    decide_true, decide_false, ap_meth, st_ins, nl_has, nl_lay, nl_turn, nl_reckon, nl_lay_fact, nl_asked, nl_do, beq_iff_eq, at_pile, at_facts, at_shut, 
    len_pile, st_p, ty_pile, List.length_map, List.length_reverse, Bool.or_true, Bool.or_false, Bool.not_true, Bool.not_false, eqv_ii, nev_ii, factW, t0, 
    fl, fd_0]
  | 1 => simp (config := { decide := true }) only [bind_ok, bind_exc, toS_ok, toS_exc, ap_var, ap_c, ap_op2, ap_op1, ap_and, ap_or, ap_not, ap_if, ap_tval, ap_ttruth, ap_tand, ap_tor, ap_tnot, ap_ttrue, 
    ap_nil, ap_cons, ap_tup, ap_lst, ap_lstM, ap_app, ap_sl, ap_pno, ap_pat, toI_int, ap_mt, ap_chain, isBl_bl, truD_bl, truD_int, ap_snil, ap_sbrk, 
    ap_scont, ap_sexpr, ap_sret, ap_sretn, ap_sif, ap_sset, ap_sasg, ap_spar, ap_saug, ap_seq, seqK_next, seqK_ret, seqK_brk, seqK_cont, seqK_exc, ap_for, 
    ap_iseq, ap_ir1, ap_gnm, ap_gtp, gnms_nil, gnms_cons, ap_gsub, Option.map_some, Option.bind_some, loopN_next, loopN_cont, ty_int, ty_bl, ty_str, 
    ty_non, ty_tup, ty_lst, ty_ref, isi_ap, len_ref, get_last, append_last, tuple_last, list_last, add_ii, sub_ii, mul_ii, mulOk_l, mulOk_r, fdiv_ii, 
    divmod_ii, mod_ii, pow_ii, neg_i, ord_ii, is_non, isnt_non, is_bl, isnt_bl, abs_i, int_i, int_b, max_ii, min_ii, len_tup, len_lst, tuple_lst, 
    tuple_tup, list_lst, list_tup, List.getElem?_cons_zero, List.getElem?_cons_succ, List.set_cons_zero, List.set_cons_succ, List.map_cons, List.map_nil, 
    List.cons_append, List.nil_append, List.reduceReplicate, Nat.reduceSub, List.length_cons, List.length_nil, if_true, if_false, reduceIte, reduceCtorEq, 
    Bool.false_eq_true, Bool.true_eq_false, sizeLine_eq, Int.reduceToNat, newCell, ix_tupm, ix_lstm, atI_0, atI_1, atI_2, atI_3, atI_4, atI_5, seq_ss, 
    decide_true, decide_false, ap_meth, st_ins, nl_has, nl_lay, nl_turn, nl_reckon, nl_lay_fact, nl_asked, nl_do, beq_iff_eq, at_pile, at_facts, at_shut, 
    len_pile, st_p, ty_pile, List.length_map, List.length_reverse, Bool.or_true, Bool.or_false, Bool.not_true, Bool.not_false, eqv_ii, nev_ii, factW, t1, 
    fl, fd_1]
  | 2 => simp (config := { decide := true }) only [bind_ok, bind_exc, toS_ok, toS_exc, ap_var, ap_c, ap_op2, ap_op1, ap_and, ap_or, ap_not, ap_if, ap_tval, ap_ttruth, ap_tand, ap_tor, ap_tnot, ap_ttrue, 
    ap_nil, ap_cons, ap_tup, ap_lst, ap_lstM, ap_app, ap_sl, ap_pno, ap_pat, toI_int, ap_mt, ap_chain, isBl_bl, truD_bl, truD_int, ap_snil, ap_sbrk, 
    ap_scont, ap_sexpr, ap_sret, ap_sretn, ap_sif, ap_sset, ap_sasg, ap_spar, ap_saug, ap_seq, seqK_next, seqK_ret, seqK_brk, seqK_cont, seqK_exc, ap_for, 
    ap_iseq, ap_ir1, ap_gnm, ap_gtp, gnms_nil, gnms_cons, ap_gsub, Option.map_some, Option.bind_some, loopN_next, loopN_cont, ty_int, ty_bl, ty_str, 
    ty_non, ty_tup, ty_lst, ty_ref, isi_ap, len_ref, get_last, append_last, tuple_last, list_last, add_ii, sub_ii, mul_ii, mulOk_l, mulOk_r, fdiv_ii, 
    divmod_ii, mod_ii, pow_ii, neg_i, ord_ii, is_non, isnt_non, is_bl, isnt_bl, abs_i, int_i, int_b, max_ii, min_ii, len_tup, len_lst, tuple_lst, 
    tuple_tup, list_lst, list_tup, List.getElem?_cons_zero, List.getElem?_cons_succ, List.set_cons_zero, List.set_cons_succ, List.map_cons, List.map_nil, 
    List.cons_append, List.nil_append, List.reduceReplicate, Nat.reduceSub, List.length_cons, List.length_nil, if_true, if_false, reduceIte, reduceCtorEq, 
    Bool.false_eq_true, Bool.true_eq_false, sizeLine_eq, Int.reduceToNat, newCell, ix_tupm, ix_lstm, atI_0, atI_1, atI_2, atI_3, atI_4, atI_5, seq_ss, 
    decide_true, decide_false, ap_meth, st_ins, nl_has, nl_lay, nl_turn, nl_reckon, nl_lay_fact, nl_asked, nl_do, beq_iff_eq, at_pile, at_facts, at_shut, 
    len_pile, st_p, ty_pile, List.length_map, List.length_reverse, Bool.or_true, Bool.or_false, Bool.not_true, Bool.not_false, eqv_ii, nev_ii, factW, t2, 
    fl, fd_2]
  | 3 => simp (config := { decide := true }) only [bind_ok, bind_exc, toS_ok, toS_exc, ap_var, ap_c, ap_op2, ap_op1, ap_and, ap_or, ap_not, ap_if, ap_tval, ap_ttruth, ap_tand, ap_tor, ap_tnot, ap_ttrue, 
    ap_nil, ap_cons, ap_tup, ap_lst, ap_lstM, ap_app, ap_sl, ap_pno, ap_pat, toI_int, ap_mt, ap_chain, isBl_bl, truD_bl, truD_int, ap_snil, ap_sbrk, 
    ap_scont, ap_sexpr, ap_sret, ap_sretn, ap_sif, ap_sset, ap_sasg, ap_spar, ap_saug, ap_seq, seqK_next, seqK_ret, seqK_brk, seqK_cont, seqK_exc, ap_for, 
    ap_iseq, ap_ir1, ap_gnm, ap_gtp, gnms_nil, gnms_cons, ap_gsub, Option.map_some, Option.bind_some, loopN_next, loopN_cont, ty_int, ty_bl, ty_str, 
    ty_non, ty_tup, ty_lst, ty_ref, isi_ap, len_ref, get_last, append_last, tuple_last, list_last, add_ii, sub_ii, mul_ii, mulOk_l, mulOk_r, fdiv_ii, 
    divmod_ii, mod_ii, pow_ii, neg_i, ord_ii, is_non, isnt_non, is_bl, isnt_bl, abs_i, int_i, int_b, max_ii, min_ii, len_tup, len_lst, tuple_lst, 
    tuple_tup, list_lst, list_tup, List.getElem?_cons_zero, List.getElem?_cons_succ, List.set_cons_zero, List.set_cons_succ, List.map_cons, List.map_nil, 
    List.cons_append, List.nil_append, List.reduceReplicate, Nat.reduceSub, List.length_cons, List.length_nil, if_true, if_false, reduceIte, reduceCtorEq, 
    Bool.false_eq_true, Bool.true_eq_false, sizeLine_eq, Int.reduceToNat, newCell, ix_tupm, ix_lstm, atI_0, atI_1, atI_2, atI_3, atI_4, atI_5, seq_ss, 
    decide_true, decide_false, ap_meth, st_ins, nl_has, nl_lay, nl_turn, nl_reckon, nl_lay_fact, nl_asked, nl_do, beq_iff_eq, at_pile, at_facts, at_shut, 
    len_pile, st_p, ty_pile, List.length_map, List.length_reverse, Bool.or_true, Bool.or_false, Bool.not_true, Bool.not_false, eqv_ii, nev_ii, factW, t3, 
    fl, fd_3]
  | 4 => simp (config := { decide := true }) only [bind_ok, bind_exc, toS_ok, toS_exc, ap_var, ap_c, ap_op2, ap_op1, ap_and, ap_or, ap_not, ap_if, ap_tval, ap_ttruth, ap_tand, ap_tor, ap_tnot, ap_ttrue, 
    ap_nil, ap_cons, ap_tup, ap_lst, ap_lstM, ap_app, ap_sl, ap_pno, ap_pat, toI_int, ap_mt, ap_chain, isBl_bl, truD_bl, truD_int, ap_snil, ap_sbrk, 
    ap_scont, ap_sexpr, ap_sret, ap_sretn, ap_sif, ap_sset, ap_sasg, ap_spar, ap_saug, ap_seq, seqK_next, seqK_ret, seqK_brk, seqK_cont, seqK_exc, ap_for, 
    ap_iseq, ap_ir1, ap_gnm, ap_gtp, gnms_nil, gnms_cons, ap_gsub, Option.map_some, Option.bind_some, loopN_next, loopN_cont, ty_int, ty_bl, ty_str, 
    ty_non, ty_tup, ty_lst, ty_ref, isi_ap, len_ref, get_last, append_last, tuple_last, list_last, add_ii, sub_ii, mul_ii, mulOk_l, mulOk_r, fdiv_ii, 
    divmod_ii, mod_ii, pow_ii, neg_i, ord_ii, is_non, isnt_non, is_bl, isnt_bl, abs_i, int_i, int_b, max_ii, min_ii, len_tup, len_lst, tuple_lst, 
    tuple_tup, list_lst, list_tup, List.getElem?_cons_zero, List.getElem?_cons_succ, List.set_cons_zero, List.set_cons_succ, List.map_cons, List.map_nil, 
    List.cons_append, List.nil_append, List.reduceReplicate, Nat.reduceSub, List.length_cons, List.length_nil, if_true, if_false, reduceIte, reduceCtorEq, 
    Bool.false_eq_true, Bool.true_eq_false, sizeLine_eq, Int.reduceToNat, newCell, ix_tupm, ix_lstm, atI_0, atI_1, atI_2, atI_3, atI_4, atI_5, seq_ss, 
    decide_true, decide_false, ap_meth, st_ins, nl_has, nl_lay, nl_turn, nl_reckon, nl_lay_fact, nl_asked, nl_do, beq_iff_eq, at_pile, at_facts, at_shut, 
    len_pile, st_p, ty_pile, List.length_map, List.length_reverse, Bool.or_true, Bool.or_false, Bool.not_true, Bool.not_false, eqv_ii, nev_ii, factW, t4, 
    fl, fd_4]
theorem atI_map {l : List Int} {k : Nat} {x : Int} (h : l[k]? = some x) : atI (l.map D.int) (k : Int) = some (.int x) := atI_nat (by rw [List.getElem?_map, h]; rfl)
theorem l_paid (f : Fx) (k : Nat) (hl : r.length ≤ 20) : F_Trial_lay_fact [.ref S.length, (Row.paid k).d] (St S f.d (false, r) E) = .ok .non (St S f.d (lay (f.paid.getD k 0) (false, r)) E) := by
  have hr : ((false, r) : Tr).2.length ≤ 100 := by simp; omega
  have fl : ∀ x : Int, F_Trial_lay [.ref S.length, .int x] (St S f.d (false, r) E) = .ok .non (St S f.d (lay x (false, r)) E) := fun x => f_lay f.pure hr
  refine run_none rfl (S' := St S f.d (lay (f.paid.getD k 0) (false, r)) E) (l' := [some (.ref S.length), some (Row.paid k).d, some (.tup (f.paid.map .int))]) ?_ (exit_St f.pure pure_non)
  unfold A_Trial_lay_fact Row.d
  by_cases h : k < f.paid.length
  · have h1 : ((k : Int) < (f.paid.length : Int)) := by omega
    have h2 : f.paid[k]? = some (f.paid.getD k 0) := by rw [List.getD_eq_getElem?_getD, List.getElem?_eq_getElem h]; rfl
    simp (config := { decide := true }) only [bind_ok, bind_exc, toS_ok, toS_exc, ap_var, ap_c, ap_op2, ap_op1, ap_and, ap_or, ap_not, ap_if, ap_tval, ap_ttruth, ap_tand, ap_tor, ap_tnot, ap_ttrue, 
    ap_nil, ap_cons, ap_tup, ap_lst, ap_lstM, ap_app, ap_sl, ap_pno, ap_pat, toI_int, ap_mt, ap_chain, isBl_bl, truD_bl, truD_int, ap_snil, ap_sbrk, 
    ap_scont, ap_sexpr, ap_sret, ap_sretn, ap_sif, ap_sset, ap_sasg, ap_spar, ap_saug, ap_seq, seqK_next, seqK_ret, seqK_brk, seqK_cont, seqK_exc, ap_for, 
    ap_iseq, ap_ir1, ap_gnm, ap_gtp, gnms_nil, gnms_cons, ap_gsub, Option.map_some, Option.bind_some, loopN_next, loopN_cont, ty_int, ty_bl, ty_str, 
    ty_non, ty_tup, ty_lst, ty_ref, isi_ap, len_ref, get_last, append_last, tuple_last, list_last, add_ii, sub_ii, mul_ii, mulOk_l, mulOk_r, fdiv_ii, 
    divmod_ii, mod_ii, pow_ii, neg_i, ord_ii, is_non, isnt_non, is_bl, isnt_bl, abs_i, int_i, int_b, max_ii, min_ii, len_tup, len_lst, tuple_lst, 
    tuple_tup, list_lst, list_tup, List.getElem?_cons_zero, List.getElem?_cons_succ, List.set_cons_zero, List.set_cons_succ, List.map_cons, List.map_nil, 
    List.cons_append, List.nil_append, List.reduceReplicate, Nat.reduceSub, List.length_cons, List.length_nil, if_true, if_false, reduceIte, reduceCtorEq, 
    Bool.false_eq_true, Bool.true_eq_false, sizeLine_eq, Int.reduceToNat, newCell, ix_tupm, ix_lstm, atI_0, atI_1, atI_2, atI_3, atI_4, atI_5, seq_ss, 
    decide_true, decide_false, ap_meth, st_ins, nl_has, nl_lay, nl_turn, nl_reckon, nl_lay_fact, nl_asked, nl_do, beq_iff_eq, at_pile, at_facts, at_shut, 
    len_pile, st_p, ty_pile, List.length_map, List.length_reverse, Bool.or_true, Bool.or_false, Bool.not_true, Bool.not_false, eqv_ii, nev_ii, fd_5, 
    decide_eq_true h1, atI_map h2, fl]
  · have h1 : ¬ ((k : Int) < (f.paid.length : Int)) := by omega
    have h2 : f.paid.getD k 0 = 0 := by rw [List.getD_eq_getElem?_getD, List.getElem?_eq_none (by omega)]; rfl
    simp (config := { decide := true }) only [bind_ok, bind_exc, toS_ok, toS_exc, ap_var, ap_c, ap_op2, ap_op1, ap_and, ap_or, ap_not, ap_if, ap_tval, ap_ttruth, ap_tand, ap_tor, ap_tnot, ap_ttrue, 
    ap_nil, ap_cons, ap_tup, ap_lst, ap_lstM, ap_app, ap_sl, ap_pno, ap_pat, toI_int, ap_mt, ap_chain, isBl_bl, truD_bl, truD_int, ap_snil, ap_sbrk, 
    ap_scont, ap_sexpr, ap_sret, ap_sretn, ap_sif, ap_sset, ap_sasg, ap_spar, ap_saug, ap_seq, seqK_next, seqK_ret, seqK_brk, seqK_cont, seqK_exc, ap_for, 
    ap_iseq, ap_ir1, ap_gnm, ap_gtp, gnms_nil, gnms_cons, ap_gsub, Option.map_some, Option.bind_some, loopN_next, loopN_cont, ty_int, ty_bl, ty_str, 
    ty_non, ty_tup, ty_lst, ty_ref, isi_ap, len_ref, get_last, append_last, tuple_last, list_last, add_ii, sub_ii, mul_ii, mulOk_l, mulOk_r, fdiv_ii, 
    divmod_ii, mod_ii, pow_ii, neg_i, ord_ii, is_non, isnt_non, is_bl, isnt_bl, abs_i, int_i, int_b, max_ii, min_ii, len_tup, len_lst, tuple_lst, 
    tuple_tup, list_lst, list_tup, List.getElem?_cons_zero, List.getElem?_cons_succ, List.set_cons_zero, List.set_cons_succ, List.map_cons, List.map_nil, 
    List.cons_append, List.nil_append, List.reduceReplicate, Nat.reduceSub, List.length_cons, List.length_nil, if_true, if_false, reduceIte, reduceCtorEq, 
    Bool.false_eq_true, Bool.true_eq_false, sizeLine_eq, Int.reduceToNat, newCell, ix_tupm, ix_lstm, atI_0, atI_1, atI_2, atI_3, atI_4, atI_5, seq_ss, 
    decide_true, decide_false, ap_meth, st_ins, nl_has, nl_lay, nl_turn, nl_reckon, nl_lay_fact, nl_asked, nl_do, beq_iff_eq, at_pile, at_facts, at_shut, 
    len_pile, st_p, ty_pile, List.length_map, List.length_reverse, Bool.or_true, Bool.or_false, Bool.not_true, Bool.not_false, eqv_ii, nev_ii, fd_5, 
    decide_eq_false h1, fl, h2]
theorem dr_strs {S : Sto} : ∀ ws : List Str, drs S (ws.map D.str) = ws.map D.str
  | [] => by unfold drs; rfl
  | w :: ws => by
    rw [List.map_cons]
    unfold drs
    rw [dr_strs ws]
    unfold dr; rfl
theorem dps_strs : ∀ ws : List Str, dps (ws.map D.str) = 0
  | [] => by unfold dps; rfl
  | w :: ws => by
    rw [List.map_cons]
    unfold dps
    rw [dps_strs ws]
    unfold dp; rfl
theorem any_strs {z : Str} : ∀ ws : List Str, ((ws.map D.str).any fun y => eqD y (.str z)) = decide (z ∈ ws)
  | [] => by simp
  | w :: ws => by
    rw [List.map_cons, List.any_cons, any_strs ws]
    have : eqD (.str w) (.str z) = decide (z = w) := by
      unfold eqD
      by_cases h : z = w
      · subst h; simp
      · rw [decide_eq_false h]; exact beq_false_of_ne fun e => h e.symm
    rw [this]
    by_cases h : z = w <;> by_cases h2 : z ∈ ws <;> simp [h, h2]
theorem in_words {S : Sto} {z : Str} (ws : List Str) : inD (.str z) (.tup (ws.map D.str)) S = .ok (.bl (decide (z ∈ ws))) S := by
  show (match seqOf S (.tup (ws.map D.str)) with
    | some ys => if (flatOk S (.str z) && decide (dps (drs S ys) ≤ 60)) = true then Res.ok (D.bl (inL S (.str z) ys)) S else Res.bad
    | none => Res.bad) = _
  rw [seqOf_tup]
  simp only
  have h1 : flatOk S (.str z) = true := by unfold flatOk dr; unfold dp; rfl
  have h2 : dr S (.str z) = .str z := by unfold dr; rfl
  rw [h1, dr_strs, dps_strs, if_pos (by decide)]
  unfold inL
  rw [dr_strs, h2, any_strs]
theorem atI_back {r : List Int} {k : Nat} {x : Int} (h : r[k]? = some x) : atI (r.reverse.map D.int) (-1 - (k : Int)) = some (.int x) := by
  obtain ⟨hk, rfl⟩ := List.getElem?_eq_some_iff.mp h
  unfold atI ixN
  rw [if_neg (by omega), if_pos (by simp; omega)]
  simp only [Option.bind]
  have e : (-1 - (k : Int) + ((r.reverse.map D.int).length : Int)).toNat = r.length - 1 - k := by simp; omega
  rw [e, List.getElem?_map, List.getElem?_reverse (by omega), show r.length - 1 - (r.length - 1 - k) = k by omega, List.getElem?_eq_getElem hk]
  rfl
/-- a row that is no if, else or end -/
def Row.plain : Row → Bool
  | .iff => false | .els => false | .fin => false | _ => true
theorem ix_pile {i : Int} : ixD (.ref (S.length + 1)) (.int i) (St S fx t E) = match atI (t.2.reverse.map D.int) i with | some d => .ok d (St S fx t E) | none => .bad := by
  show (match seqOf (St S fx t E) (.ref (S.length + 1)) with | some xs => (match atI xs i with | some d => Res.ok d (St S fx t E) | none => Res.bad) | none => Res.bad) = _
  rw [seqOf_ref st_p]
theorem i_turn (z : Str) (S : Sto) : inD (.str z) (.tup [.str "drop", .str "swap", .str "not", .str "need"]) S = .ok (.bl (decide (z ∈ (["drop", "swap", "not", "need"] : List Str)))) S := in_words ["drop", "swap", "not", "need"]
theorem i_reck (z : Str) (S : Sto) : inD (.str z) (.tup [.str "add", .str "sub", .str "mul", .str "less", .str "same"]) S = .ok (.bl (decide (z ∈ (["add", "sub", "mul", "less", "same"] : List Str)))) S := in_words ["add", "sub", "mul", "less", "same"]
def rekW : Row → Option Str
  | .add => some "add" | .sub => some "sub" | .mul => some "mul" | .less => some "less" | .same => some "same" | _ => none
theorem f_reck (f : Fx) (w : Row) (z : Str) (hz : rekW w = some z) (hl : Fit r) : F_Trial_reckon [.ref S.length, .str z] (St S f.d (false, r) E) = .ok .non (St S f.d (step f w r) E) := by
  match r, hl with
  | [], _ => cases w <;> first | (cases hz; done) | exact r_nil f.pure z
  | [x], _ => cases w <;> first | (cases hz; done) | exact r_one f.pure z x
  | u :: l :: r, hl =>
    obtain ⟨h1, h2, h3, h4, h5⟩ := r_two (S := S) (E := E) f.pure hl
    cases w <;> first
      | (cases hz; done)
      | (cases hz; first | exact h1 | exact h2 | exact h3 | exact h4 | exact h5)
theorem f_do (f : Fx) (w : Row) (hw : w.plain = true) (hl : Fit r) : F_Trial_do [.ref S.length, w.d] (St S f.d (false, r) E) = .ok .non (St S f.d (step f w r) E) := by
  have hr : ((false, r) : Tr).2.length ≤ 100 := by have := hl.1; simp at this ⊢; omega
  have fl : ∀ x : Int, F_Trial_lay [.ref S.length, .int x] (St S f.d (false, r) E) = .ok .non (St S f.d (lay x (false, r)) E) := fun x => f_lay f.pure hr
  have go : ∀ z : Str, A_Trial_do [some (.ref S.length), some w.d, none] (St S f.d (false, r) E) = .next [some (.ref S.length), some w.d, some (.str z)] (St S f.d (step f w r) E) → F_Trial_do [.ref S.length, w.d] (St S f.d (false, r) E) = .ok .non (St S f.d (step f w r) E) := fun z h => run_none rfl h (exit_St f.pure pure_non)
  cases w with
  | drop => refine go "drop" ?_; unfold A_Trial_do Row.d; simp (config := { decide := true }) only [bind_ok, bind_exc, toS_ok, toS_exc, ap_var, ap_c, ap_op2, ap_op1, ap_and, ap_or, ap_not, ap_if, ap_tval, ap_ttruth, ap_tand, ap_tor, ap_tnot, ap_ttrue, 
    ap_nil, ap_cons, ap_tup, ap_lst, ap_lstM, ap_app, ap_sl, ap_pno, ap_pat, toI_int, ap_mt, ap_chain, isBl_bl, truD_bl, truD_int, ap_snil, ap_sbrk, 
    ap_scont, ap_sexpr, ap_sret, ap_sretn, ap_sif, ap_sset, ap_sasg, ap_spar, ap_saug, ap_seq, seqK_next, seqK_ret, seqK_brk, seqK_cont, seqK_exc, ap_for, 
    ap_iseq, ap_ir1, ap_gnm, ap_gtp, gnms_nil, gnms_cons, ap_gsub, Option.map_some, Option.bind_some, loopN_next, loopN_cont, ty_int, ty_bl, ty_str, 
    ty_non, ty_tup, ty_lst, ty_ref, isi_ap, len_ref, get_last, append_last, tuple_last, list_last, add_ii, sub_ii, mul_ii, mulOk_l, mulOk_r, fdiv_ii, 
    divmod_ii, mod_ii, pow_ii, neg_i, ord_ii, is_non, isnt_non, is_bl, isnt_bl, abs_i, int_i, int_b, max_ii, min_ii, len_tup, len_lst, tuple_lst, 
    tuple_tup, list_lst, list_tup, List.getElem?_cons_zero, List.getElem?_cons_succ, List.set_cons_zero, List.set_cons_succ, List.map_cons, List.map_nil, 
    List.cons_append, List.nil_append, List.reduceReplicate, Nat.reduceSub, List.length_cons, List.length_nil, if_true, if_false, reduceIte, reduceCtorEq, 
    Bool.false_eq_true, Bool.true_eq_false, sizeLine_eq, Int.reduceToNat, newCell, ix_tupm, ix_lstm, atI_0, atI_1, atI_2, atI_3, atI_4, atI_5, seq_ss, 
    decide_true, decide_false, ap_meth, st_ins, nl_has, nl_lay, nl_turn, nl_reckon, nl_lay_fact, nl_asked, nl_do, beq_iff_eq, at_pile, at_facts, at_shut, 
    len_pile, st_p, ty_pile, List.length_map, List.length_reverse, Bool.or_true, Bool.or_false, Bool.not_true, Bool.not_false, eqv_ii, nev_ii, i_turn, 
    i_reck, t_drop f.pure, (show step f0 .drop r = step f .drop r by match r with | [] => rfl | [_] => rfl | _ :: _ :: _ => rfl)]
  | swap => refine go "swap" ?_; unfold A_Trial_do Row.d; simp (config := { decide := true }) only [bind_ok, bind_exc, toS_ok, toS_exc, ap_var, ap_c, ap_op2, ap_op1, ap_and, ap_or, ap_not, ap_if, ap_tval, ap_ttruth, ap_tand, ap_tor, ap_tnot, ap_ttrue, 
    ap_nil, ap_cons, ap_tup, ap_lst, ap_lstM, ap_app, ap_sl, ap_pno, ap_pat, toI_int, ap_mt, ap_chain, isBl_bl, truD_bl, truD_int, ap_snil, ap_sbrk, 
    ap_scont, ap_sexpr, ap_sret, ap_sretn, ap_sif, ap_sset, ap_sasg, ap_spar, ap_saug, ap_seq, seqK_next, seqK_ret, seqK_brk, seqK_cont, seqK_exc, ap_for, 
    ap_iseq, ap_ir1, ap_gnm, ap_gtp, gnms_nil, gnms_cons, ap_gsub, Option.map_some, Option.bind_some, loopN_next, loopN_cont, ty_int, ty_bl, ty_str, 
    ty_non, ty_tup, ty_lst, ty_ref, isi_ap, len_ref, get_last, append_last, tuple_last, list_last, add_ii, sub_ii, mul_ii, mulOk_l, mulOk_r, fdiv_ii, 
    divmod_ii, mod_ii, pow_ii, neg_i, ord_ii, is_non, isnt_non, is_bl, isnt_bl, abs_i, int_i, int_b, max_ii, min_ii, len_tup, len_lst, tuple_lst, 
    tuple_tup, list_lst, list_tup, List.getElem?_cons_zero, List.getElem?_cons_succ, List.set_cons_zero, List.set_cons_succ, List.map_cons, List.map_nil, 
    List.cons_append, List.nil_append, List.reduceReplicate, Nat.reduceSub, List.length_cons, List.length_nil, if_true, if_false, reduceIte, reduceCtorEq, 
    Bool.false_eq_true, Bool.true_eq_false, sizeLine_eq, Int.reduceToNat, newCell, ix_tupm, ix_lstm, atI_0, atI_1, atI_2, atI_3, atI_4, atI_5, seq_ss, 
    decide_true, decide_false, ap_meth, st_ins, nl_has, nl_lay, nl_turn, nl_reckon, nl_lay_fact, nl_asked, nl_do, beq_iff_eq, at_pile, at_facts, at_shut, 
    len_pile, st_p, ty_pile, List.length_map, List.length_reverse, Bool.or_true, Bool.or_false, Bool.not_true, Bool.not_false, eqv_ii, nev_ii, i_turn, 
    i_reck, t_swap f.pure hr, (show step f0 .swap r = step f .swap r by match r with | [] => rfl | [_] => rfl | _ :: _ :: _ => rfl)]
  | not => refine go "not" ?_; unfold A_Trial_do Row.d; simp (config := { decide := true }) only [bind_ok, bind_exc, toS_ok, toS_exc, ap_var, ap_c, ap_op2, ap_op1, ap_and, ap_or, ap_not, ap_if, ap_tval, ap_ttruth, ap_tand, ap_tor, ap_tnot, ap_ttrue, 
    ap_nil, ap_cons, ap_tup, ap_lst, ap_lstM, ap_app, ap_sl, ap_pno, ap_pat, toI_int, ap_mt, ap_chain, isBl_bl, truD_bl, truD_int, ap_snil, ap_sbrk, 
    ap_scont, ap_sexpr, ap_sret, ap_sretn, ap_sif, ap_sset, ap_sasg, ap_spar, ap_saug, ap_seq, seqK_next, seqK_ret, seqK_brk, seqK_cont, seqK_exc, ap_for, 
    ap_iseq, ap_ir1, ap_gnm, ap_gtp, gnms_nil, gnms_cons, ap_gsub, Option.map_some, Option.bind_some, loopN_next, loopN_cont, ty_int, ty_bl, ty_str, 
    ty_non, ty_tup, ty_lst, ty_ref, isi_ap, len_ref, get_last, append_last, tuple_last, list_last, add_ii, sub_ii, mul_ii, mulOk_l, mulOk_r, fdiv_ii, 
    divmod_ii, mod_ii, pow_ii, neg_i, ord_ii, is_non, isnt_non, is_bl, isnt_bl, abs_i, int_i, int_b, max_ii, min_ii, len_tup, len_lst, tuple_lst, 
    tuple_tup, list_lst, list_tup, List.getElem?_cons_zero, List.getElem?_cons_succ, List.set_cons_zero, List.set_cons_succ, List.map_cons, List.map_nil, 
    List.cons_append, List.nil_append, List.reduceReplicate, Nat.reduceSub, List.length_cons, List.length_nil, if_true, if_false, reduceIte, reduceCtorEq, 
    Bool.false_eq_true, Bool.true_eq_false, sizeLine_eq, Int.reduceToNat, newCell, ix_tupm, ix_lstm, atI_0, atI_1, atI_2, atI_3, atI_4, atI_5, seq_ss, 
    decide_true, decide_false, ap_meth, st_ins, nl_has, nl_lay, nl_turn, nl_reckon, nl_lay_fact, nl_asked, nl_do, beq_iff_eq, at_pile, at_facts, at_shut, 
    len_pile, st_p, ty_pile, List.length_map, List.length_reverse, Bool.or_true, Bool.or_false, Bool.not_true, Bool.not_false, eqv_ii, nev_ii, i_turn, 
    i_reck, t_not f.pure hr, (show step f0 .not r = step f .not r by match r with | [] => rfl | [_] => rfl | _ :: _ :: _ => rfl)]
  | need => refine go "need" ?_; unfold A_Trial_do Row.d; simp (config := { decide := true }) only [bind_ok, bind_exc, toS_ok, toS_exc, ap_var, ap_c, ap_op2, ap_op1, ap_and, ap_or, ap_not, ap_if, ap_tval, ap_ttruth, ap_tand, ap_tor, ap_tnot, ap_ttrue, 
    ap_nil, ap_cons, ap_tup, ap_lst, ap_lstM, ap_app, ap_sl, ap_pno, ap_pat, toI_int, ap_mt, ap_chain, isBl_bl, truD_bl, truD_int, ap_snil, ap_sbrk, 
    ap_scont, ap_sexpr, ap_sret, ap_sretn, ap_sif, ap_sset, ap_sasg, ap_spar, ap_saug, ap_seq, seqK_next, seqK_ret, seqK_brk, seqK_cont, seqK_exc, ap_for, 
    ap_iseq, ap_ir1, ap_gnm, ap_gtp, gnms_nil, gnms_cons, ap_gsub, Option.map_some, Option.bind_some, loopN_next, loopN_cont, ty_int, ty_bl, ty_str, 
    ty_non, ty_tup, ty_lst, ty_ref, isi_ap, len_ref, get_last, append_last, tuple_last, list_last, add_ii, sub_ii, mul_ii, mulOk_l, mulOk_r, fdiv_ii, 
    divmod_ii, mod_ii, pow_ii, neg_i, ord_ii, is_non, isnt_non, is_bl, isnt_bl, abs_i, int_i, int_b, max_ii, min_ii, len_tup, len_lst, tuple_lst, 
    tuple_tup, list_lst, list_tup, List.getElem?_cons_zero, List.getElem?_cons_succ, List.set_cons_zero, List.set_cons_succ, List.map_cons, List.map_nil, 
    List.cons_append, List.nil_append, List.reduceReplicate, Nat.reduceSub, List.length_cons, List.length_nil, if_true, if_false, reduceIte, reduceCtorEq, 
    Bool.false_eq_true, Bool.true_eq_false, sizeLine_eq, Int.reduceToNat, newCell, ix_tupm, ix_lstm, atI_0, atI_1, atI_2, atI_3, atI_4, atI_5, seq_ss, 
    decide_true, decide_false, ap_meth, st_ins, nl_has, nl_lay, nl_turn, nl_reckon, nl_lay_fact, nl_asked, nl_do, beq_iff_eq, at_pile, at_facts, at_shut, 
    len_pile, st_p, ty_pile, List.length_map, List.length_reverse, Bool.or_true, Bool.or_false, Bool.not_true, Bool.not_false, eqv_ii, nev_ii, i_turn, 
    i_reck, t_need f.pure, (show step f0 .need r = step f .need r by match r with | [] => rfl | [_] => rfl | _ :: _ :: _ => rfl)]
  | add => refine go "add" ?_; unfold A_Trial_do Row.d; simp (config := { decide := true }) only [bind_ok, bind_exc, toS_ok, toS_exc, ap_var, ap_c, ap_op2, ap_op1, ap_and, ap_or, ap_not, ap_if, ap_tval, ap_ttruth, ap_tand, ap_tor, ap_tnot, ap_ttrue, 
    ap_nil, ap_cons, ap_tup, ap_lst, ap_lstM, ap_app, ap_sl, ap_pno, ap_pat, toI_int, ap_mt, ap_chain, isBl_bl, truD_bl, truD_int, ap_snil, ap_sbrk, 
    ap_scont, ap_sexpr, ap_sret, ap_sretn, ap_sif, ap_sset, ap_sasg, ap_spar, ap_saug, ap_seq, seqK_next, seqK_ret, seqK_brk, seqK_cont, seqK_exc, ap_for, 
    ap_iseq, ap_ir1, ap_gnm, ap_gtp, gnms_nil, gnms_cons, ap_gsub, Option.map_some, Option.bind_some, loopN_next, loopN_cont, ty_int, ty_bl, ty_str, 
    ty_non, ty_tup, ty_lst, ty_ref, isi_ap, len_ref, get_last, append_last, tuple_last, list_last, add_ii, sub_ii, mul_ii, mulOk_l, mulOk_r, fdiv_ii, 
    divmod_ii, mod_ii, pow_ii, neg_i, ord_ii, is_non, isnt_non, is_bl, isnt_bl, abs_i, int_i, int_b, max_ii, min_ii, len_tup, len_lst, tuple_lst, 
    tuple_tup, list_lst, list_tup, List.getElem?_cons_zero, List.getElem?_cons_succ, List.set_cons_zero, List.set_cons_succ, List.map_cons, List.map_nil, 
    List.cons_append, List.nil_append, List.reduceReplicate, Nat.reduceSub, List.length_cons, List.length_nil, if_true, if_false, reduceIte, reduceCtorEq, 
    Bool.false_eq_true, Bool.true_eq_false, sizeLine_eq, Int.reduceToNat, newCell, ix_tupm, ix_lstm, atI_0, atI_1, atI_2, atI_3, atI_4, atI_5, seq_ss, 
    decide_true, decide_false, ap_meth, st_ins, nl_has, nl_lay, nl_turn, nl_reckon, nl_lay_fact, nl_asked, nl_do, beq_iff_eq, at_pile, at_facts, at_shut, 
    len_pile, st_p, ty_pile, List.length_map, List.length_reverse, Bool.or_true, Bool.or_false, Bool.not_true, Bool.not_false, eqv_ii, nev_ii, i_turn, 
    i_reck, f_reck f .add "add" rfl hl]
  | sub => refine go "sub" ?_; unfold A_Trial_do Row.d; simp (config := { decide := true }) only [bind_ok, bind_exc, toS_ok, toS_exc, ap_var, ap_c, ap_op2, ap_op1, ap_and, ap_or, ap_not, ap_if, ap_tval, ap_ttruth, ap_tand, ap_tor, ap_tnot, ap_ttrue, 
    ap_nil, ap_cons, ap_tup, ap_lst, ap_lstM, ap_app, ap_sl, ap_pno, ap_pat, toI_int, ap_mt, ap_chain, isBl_bl, truD_bl, truD_int, ap_snil, ap_sbrk, 
    ap_scont, ap_sexpr, ap_sret, ap_sretn, ap_sif, ap_sset, ap_sasg, ap_spar, ap_saug, ap_seq, seqK_next, seqK_ret, seqK_brk, seqK_cont, seqK_exc, ap_for, 
    ap_iseq, ap_ir1, ap_gnm, ap_gtp, gnms_nil, gnms_cons, ap_gsub, Option.map_some, Option.bind_some, loopN_next, loopN_cont, ty_int, ty_bl, ty_str, 
    ty_non, ty_tup, ty_lst, ty_ref, isi_ap, len_ref, get_last, append_last, tuple_last, list_last, add_ii, sub_ii, mul_ii, mulOk_l, mulOk_r, fdiv_ii, 
    divmod_ii, mod_ii, pow_ii, neg_i, ord_ii, is_non, isnt_non, is_bl, isnt_bl, abs_i, int_i, int_b, max_ii, min_ii, len_tup, len_lst, tuple_lst, 
    tuple_tup, list_lst, list_tup, List.getElem?_cons_zero, List.getElem?_cons_succ, List.set_cons_zero, List.set_cons_succ, List.map_cons, List.map_nil, 
    List.cons_append, List.nil_append, List.reduceReplicate, Nat.reduceSub, List.length_cons, List.length_nil, if_true, if_false, reduceIte, reduceCtorEq, 
    Bool.false_eq_true, Bool.true_eq_false, sizeLine_eq, Int.reduceToNat, newCell, ix_tupm, ix_lstm, atI_0, atI_1, atI_2, atI_3, atI_4, atI_5, seq_ss, 
    decide_true, decide_false, ap_meth, st_ins, nl_has, nl_lay, nl_turn, nl_reckon, nl_lay_fact, nl_asked, nl_do, beq_iff_eq, at_pile, at_facts, at_shut, 
    len_pile, st_p, ty_pile, List.length_map, List.length_reverse, Bool.or_true, Bool.or_false, Bool.not_true, Bool.not_false, eqv_ii, nev_ii, i_turn, 
    i_reck, f_reck f .sub "sub" rfl hl]
  | mul => refine go "mul" ?_; unfold A_Trial_do Row.d; simp (config := { decide := true }) only [bind_ok, bind_exc, toS_ok, toS_exc, ap_var, ap_c, ap_op2, ap_op1, ap_and, ap_or, ap_not, ap_if, ap_tval, ap_ttruth, ap_tand, ap_tor, ap_tnot, ap_ttrue, 
    ap_nil, ap_cons, ap_tup, ap_lst, ap_lstM, ap_app, ap_sl, ap_pno, ap_pat, toI_int, ap_mt, ap_chain, isBl_bl, truD_bl, truD_int, ap_snil, ap_sbrk, 
    ap_scont, ap_sexpr, ap_sret, ap_sretn, ap_sif, ap_sset, ap_sasg, ap_spar, ap_saug, ap_seq, seqK_next, seqK_ret, seqK_brk, seqK_cont, seqK_exc, ap_for, 
    ap_iseq, ap_ir1, ap_gnm, ap_gtp, gnms_nil, gnms_cons, ap_gsub, Option.map_some, Option.bind_some, loopN_next, loopN_cont, ty_int, ty_bl, ty_str, 
    ty_non, ty_tup, ty_lst, ty_ref, isi_ap, len_ref, get_last, append_last, tuple_last, list_last, add_ii, sub_ii, mul_ii, mulOk_l, mulOk_r, fdiv_ii, 
    divmod_ii, mod_ii, pow_ii, neg_i, ord_ii, is_non, isnt_non, is_bl, isnt_bl, abs_i, int_i, int_b, max_ii, min_ii, len_tup, len_lst, tuple_lst, 
    tuple_tup, list_lst, list_tup, List.getElem?_cons_zero, List.getElem?_cons_succ, List.set_cons_zero, List.set_cons_succ, List.map_cons, List.map_nil, 
    List.cons_append, List.nil_append, List.reduceReplicate, Nat.reduceSub, List.length_cons, List.length_nil, if_true, if_false, reduceIte, reduceCtorEq, 
    Bool.false_eq_true, Bool.true_eq_false, sizeLine_eq, Int.reduceToNat, newCell, ix_tupm, ix_lstm, atI_0, atI_1, atI_2, atI_3, atI_4, atI_5, seq_ss, 
    decide_true, decide_false, ap_meth, st_ins, nl_has, nl_lay, nl_turn, nl_reckon, nl_lay_fact, nl_asked, nl_do, beq_iff_eq, at_pile, at_facts, at_shut, 
    len_pile, st_p, ty_pile, List.length_map, List.length_reverse, Bool.or_true, Bool.or_false, Bool.not_true, Bool.not_false, eqv_ii, nev_ii, i_turn, 
    i_reck, f_reck f .mul "mul" rfl hl]
  | less => refine go "less" ?_; unfold A_Trial_do Row.d; simp (config := { decide := true }) only [bind_ok, bind_exc, toS_ok, toS_exc, ap_var, ap_c, ap_op2, ap_op1, ap_and, ap_or, ap_not, ap_if, ap_tval, ap_ttruth, ap_tand, ap_tor, ap_tnot, ap_ttrue, 
    ap_nil, ap_cons, ap_tup, ap_lst, ap_lstM, ap_app, ap_sl, ap_pno, ap_pat, toI_int, ap_mt, ap_chain, isBl_bl, truD_bl, truD_int, ap_snil, ap_sbrk, 
    ap_scont, ap_sexpr, ap_sret, ap_sretn, ap_sif, ap_sset, ap_sasg, ap_spar, ap_saug, ap_seq, seqK_next, seqK_ret, seqK_brk, seqK_cont, seqK_exc, ap_for, 
    ap_iseq, ap_ir1, ap_gnm, ap_gtp, gnms_nil, gnms_cons, ap_gsub, Option.map_some, Option.bind_some, loopN_next, loopN_cont, ty_int, ty_bl, ty_str, 
    ty_non, ty_tup, ty_lst, ty_ref, isi_ap, len_ref, get_last, append_last, tuple_last, list_last, add_ii, sub_ii, mul_ii, mulOk_l, mulOk_r, fdiv_ii, 
    divmod_ii, mod_ii, pow_ii, neg_i, ord_ii, is_non, isnt_non, is_bl, isnt_bl, abs_i, int_i, int_b, max_ii, min_ii, len_tup, len_lst, tuple_lst, 
    tuple_tup, list_lst, list_tup, List.getElem?_cons_zero, List.getElem?_cons_succ, List.set_cons_zero, List.set_cons_succ, List.map_cons, List.map_nil, 
    List.cons_append, List.nil_append, List.reduceReplicate, Nat.reduceSub, List.length_cons, List.length_nil, if_true, if_false, reduceIte, reduceCtorEq, 
    Bool.false_eq_true, Bool.true_eq_false, sizeLine_eq, Int.reduceToNat, newCell, ix_tupm, ix_lstm, atI_0, atI_1, atI_2, atI_3, atI_4, atI_5, seq_ss, 
    decide_true, decide_false, ap_meth, st_ins, nl_has, nl_lay, nl_turn, nl_reckon, nl_lay_fact, nl_asked, nl_do, beq_iff_eq, at_pile, at_facts, at_shut, 
    len_pile, st_p, ty_pile, List.length_map, List.length_reverse, Bool.or_true, Bool.or_false, Bool.not_true, Bool.not_false, eqv_ii, nev_ii, i_turn, 
    i_reck, f_reck f .less "less" rfl hl]
  | same => refine go "same" ?_; unfold A_Trial_do Row.d; simp (config := { decide := true }) only [bind_ok, bind_exc, toS_ok, toS_exc, ap_var, ap_c, ap_op2, ap_op1, ap_and, ap_or, ap_not, ap_if, ap_tval, ap_ttruth, ap_tand, ap_tor, ap_tnot, ap_ttrue, 
    ap_nil, ap_cons, ap_tup, ap_lst, ap_lstM, ap_app, ap_sl, ap_pno, ap_pat, toI_int, ap_mt, ap_chain, isBl_bl, truD_bl, truD_int, ap_snil, ap_sbrk, 
    ap_scont, ap_sexpr, ap_sret, ap_sretn, ap_sif, ap_sset, ap_sasg, ap_spar, ap_saug, ap_seq, seqK_next, seqK_ret, seqK_brk, seqK_cont, seqK_exc, ap_for, 
    ap_iseq, ap_ir1, ap_gnm, ap_gtp, gnms_nil, gnms_cons, ap_gsub, Option.map_some, Option.bind_some, loopN_next, loopN_cont, ty_int, ty_bl, ty_str, 
    ty_non, ty_tup, ty_lst, ty_ref, isi_ap, len_ref, get_last, append_last, tuple_last, list_last, add_ii, sub_ii, mul_ii, mulOk_l, mulOk_r, fdiv_ii, 
    divmod_ii, mod_ii, pow_ii, neg_i, ord_ii, is_non, isnt_non, is_bl, isnt_bl, abs_i, int_i, int_b, max_ii, min_ii, len_tup, len_lst, tuple_lst, 
    tuple_tup, list_lst, list_tup, List.getElem?_cons_zero, List.getElem?_cons_succ, List.set_cons_zero, List.set_cons_succ, List.map_cons, List.map_nil, 
    List.cons_append, List.nil_append, List.reduceReplicate, Nat.reduceSub, List.length_cons, List.length_nil, if_true, if_false, reduceIte, reduceCtorEq, 
    Bool.false_eq_true, Bool.true_eq_false, sizeLine_eq, Int.reduceToNat, newCell, ix_tupm, ix_lstm, atI_0, atI_1, atI_2, atI_3, atI_4, atI_5, seq_ss, 
    decide_true, decide_false, ap_meth, st_ins, nl_has, nl_lay, nl_turn, nl_reckon, nl_lay_fact, nl_asked, nl_do, beq_iff_eq, at_pile, at_facts, at_shut, 
    len_pile, st_p, ty_pile, List.length_map, List.length_reverse, Bool.or_true, Bool.or_false, Bool.not_true, Bool.not_false, eqv_ii, nev_ii, i_turn, 
    i_reck, f_reck f .same "same" rfl hl]
  | fact k =>
    have lf := l_fact (S := S) (E := E) f k hl.1
    match k, lf with
    | 0, lf => refine go "height" ?_; unfold Row.d at lf ⊢; unfold A_Trial_do; simp (config := { decide := true }) only [bind_ok, bind_exc, toS_ok, toS_exc, ap_var, ap_c, ap_op2, ap_op1, ap_and, ap_or, ap_not, ap_if, ap_tval, ap_ttruth, ap_tand, ap_tor, ap_tnot, ap_ttrue, 
    ap_nil, ap_cons, ap_tup, ap_lst, ap_lstM, ap_app, ap_sl, ap_pno, ap_pat, toI_int, ap_mt, ap_chain, isBl_bl, truD_bl, truD_int, ap_snil, ap_sbrk, 
    ap_scont, ap_sexpr, ap_sret, ap_sretn, ap_sif, ap_sset, ap_sasg, ap_spar, ap_saug, ap_seq, seqK_next, seqK_ret, seqK_brk, seqK_cont, seqK_exc, ap_for, 
    ap_iseq, ap_ir1, ap_gnm, ap_gtp, gnms_nil, gnms_cons, ap_gsub, Option.map_some, Option.bind_some, loopN_next, loopN_cont, ty_int, ty_bl, ty_str, 
    ty_non, ty_tup, ty_lst, ty_ref, isi_ap, len_ref, get_last, append_last, tuple_last, list_last, add_ii, sub_ii, mul_ii, mulOk_l, mulOk_r, fdiv_ii, 
    divmod_ii, mod_ii, pow_ii, neg_i, ord_ii, is_non, isnt_non, is_bl, isnt_bl, abs_i, int_i, int_b, max_ii, min_ii, len_tup, len_lst, tuple_lst, 
    tuple_tup, list_lst, list_tup, List.getElem?_cons_zero, List.getElem?_cons_succ, List.set_cons_zero, List.set_cons_succ, List.map_cons, List.map_nil, 
    List.cons_append, List.nil_append, List.reduceReplicate, Nat.reduceSub, List.length_cons, List.length_nil, if_true, if_false, reduceIte, reduceCtorEq, 
    Bool.false_eq_true, Bool.true_eq_false, sizeLine_eq, Int.reduceToNat, newCell, ix_tupm, ix_lstm, atI_0, atI_1, atI_2, atI_3, atI_4, atI_5, seq_ss, 
    decide_true, decide_false, ap_meth, st_ins, nl_has, nl_lay, nl_turn, nl_reckon, nl_lay_fact, nl_asked, nl_do, beq_iff_eq, at_pile, at_facts, at_shut, 
    len_pile, st_p, ty_pile, List.length_map, List.length_reverse, Bool.or_true, Bool.or_false, Bool.not_true, Bool.not_false, eqv_ii, nev_ii, i_turn, 
    i_reck, factW]; simp only [factW] at lf; simp (config := { decide := true }) only [bind_ok, bind_exc, toS_ok, toS_exc, ap_var, ap_c, ap_op2, ap_op1, ap_and, ap_or, ap_not, ap_if, ap_tval, ap_ttruth, ap_tand, ap_tor, ap_tnot, ap_ttrue, 
    ap_nil, ap_cons, ap_tup, ap_lst, ap_lstM, ap_app, ap_sl, ap_pno, ap_pat, toI_int, ap_mt, ap_chain, isBl_bl, truD_bl, truD_int, ap_snil, ap_sbrk, 
    ap_scont, ap_sexpr, ap_sret, ap_sretn, ap_sif, ap_sset, ap_sasg, ap_spar, ap_saug, ap_seq, seqK_next, seqK_ret, seqK_brk, seqK_cont, seqK_exc, ap_for, 
    ap_iseq, ap_ir1, ap_gnm, ap_gtp, gnms_nil, gnms_cons, ap_gsub, Option.map_some, Option.bind_some, loopN_next, loopN_cont, ty_int, ty_bl, ty_str, 
    ty_non, ty_tup, ty_lst, ty_ref, isi_ap, len_ref, get_last, append_last, tuple_last, list_last, add_ii, sub_ii, mul_ii, mulOk_l, mulOk_r, fdiv_ii, 
    divmod_ii, mod_ii, pow_ii, neg_i, ord_ii, is_non, isnt_non, is_bl, isnt_bl, abs_i, int_i, int_b, max_ii, min_ii, len_tup, len_lst, tuple_lst, 
    tuple_tup, list_lst, list_tup, List.getElem?_cons_zero, List.getElem?_cons_succ, List.set_cons_zero, List.set_cons_succ, List.map_cons, List.map_nil, 
    List.cons_append, List.nil_append, List.reduceReplicate, Nat.reduceSub, List.length_cons, List.length_nil, if_true, if_false, reduceIte, reduceCtorEq, 
    Bool.false_eq_true, Bool.true_eq_false, sizeLine_eq, Int.reduceToNat, newCell, ix_tupm, ix_lstm, atI_0, atI_1, atI_2, atI_3, atI_4, atI_5, seq_ss, 
    decide_true, decide_false, ap_meth, st_ins, nl_has, nl_lay, nl_turn, nl_reckon, nl_lay_fact, nl_asked, nl_do, beq_iff_eq, at_pile, at_facts, at_shut, 
    len_pile, st_p, ty_pile, List.length_map, List.length_reverse, Bool.or_true, Bool.or_false, Bool.not_true, Bool.not_false, eqv_ii, nev_ii, lf, step]
    | 1, lf => refine go "age" ?_; unfold Row.d at lf ⊢; unfold A_Trial_do; simp (config := { decide := true }) only [bind_ok, bind_exc, toS_ok, toS_exc, ap_var, ap_c, ap_op2, ap_op1, ap_and, ap_or, ap_not, ap_if, ap_tval, ap_ttruth, ap_tand, ap_tor, ap_tnot, ap_ttrue, 
    ap_nil, ap_cons, ap_tup, ap_lst, ap_lstM, ap_app, ap_sl, ap_pno, ap_pat, toI_int, ap_mt, ap_chain, isBl_bl, truD_bl, truD_int, ap_snil, ap_sbrk, 
    ap_scont, ap_sexpr, ap_sret, ap_sretn, ap_sif, ap_sset, ap_sasg, ap_spar, ap_saug, ap_seq, seqK_next, seqK_ret, seqK_brk, seqK_cont, seqK_exc, ap_for, 
    ap_iseq, ap_ir1, ap_gnm, ap_gtp, gnms_nil, gnms_cons, ap_gsub, Option.map_some, Option.bind_some, loopN_next, loopN_cont, ty_int, ty_bl, ty_str, 
    ty_non, ty_tup, ty_lst, ty_ref, isi_ap, len_ref, get_last, append_last, tuple_last, list_last, add_ii, sub_ii, mul_ii, mulOk_l, mulOk_r, fdiv_ii, 
    divmod_ii, mod_ii, pow_ii, neg_i, ord_ii, is_non, isnt_non, is_bl, isnt_bl, abs_i, int_i, int_b, max_ii, min_ii, len_tup, len_lst, tuple_lst, 
    tuple_tup, list_lst, list_tup, List.getElem?_cons_zero, List.getElem?_cons_succ, List.set_cons_zero, List.set_cons_succ, List.map_cons, List.map_nil, 
    List.cons_append, List.nil_append, List.reduceReplicate, Nat.reduceSub, List.length_cons, List.length_nil, if_true, if_false, reduceIte, reduceCtorEq, 
    Bool.false_eq_true, Bool.true_eq_false, sizeLine_eq, Int.reduceToNat, newCell, ix_tupm, ix_lstm, atI_0, atI_1, atI_2, atI_3, atI_4, atI_5, seq_ss, 
    decide_true, decide_false, ap_meth, st_ins, nl_has, nl_lay, nl_turn, nl_reckon, nl_lay_fact, nl_asked, nl_do, beq_iff_eq, at_pile, at_facts, at_shut, 
    len_pile, st_p, ty_pile, List.length_map, List.length_reverse, Bool.or_true, Bool.or_false, Bool.not_true, Bool.not_false, eqv_ii, nev_ii, i_turn, 
    i_reck, factW]; simp only [factW] at lf; simp (config := { decide := true }) only [bind_ok, bind_exc, toS_ok, toS_exc, ap_var, ap_c, ap_op2, ap_op1, ap_and, ap_or, ap_not, ap_if, ap_tval, ap_ttruth, ap_tand, ap_tor, ap_tnot, ap_ttrue, 
    ap_nil, ap_cons, ap_tup, ap_lst, ap_lstM, ap_app, ap_sl, ap_pno, ap_pat, toI_int, ap_mt, ap_chain, isBl_bl, truD_bl, truD_int, ap_snil, ap_sbrk, 
    ap_scont, ap_sexpr, ap_sret, ap_sretn, ap_sif, ap_sset, ap_sasg, ap_spar, ap_saug, ap_seq, seqK_next, seqK_ret, seqK_brk, seqK_cont, seqK_exc, ap_for, 
    ap_iseq, ap_ir1, ap_gnm, ap_gtp, gnms_nil, gnms_cons, ap_gsub, Option.map_some, Option.bind_some, loopN_next, loopN_cont, ty_int, ty_bl, ty_str, 
    ty_non, ty_tup, ty_lst, ty_ref, isi_ap, len_ref, get_last, append_last, tuple_last, list_last, add_ii, sub_ii, mul_ii, mulOk_l, mulOk_r, fdiv_ii, 
    divmod_ii, mod_ii, pow_ii, neg_i, ord_ii, is_non, isnt_non, is_bl, isnt_bl, abs_i, int_i, int_b, max_ii, min_ii, len_tup, len_lst, tuple_lst, 
    tuple_tup, list_lst, list_tup, List.getElem?_cons_zero, List.getElem?_cons_succ, List.set_cons_zero, List.set_cons_succ, List.map_cons, List.map_nil, 
    List.cons_append, List.nil_append, List.reduceReplicate, Nat.reduceSub, List.length_cons, List.length_nil, if_true, if_false, reduceIte, reduceCtorEq, 
    Bool.false_eq_true, Bool.true_eq_false, sizeLine_eq, Int.reduceToNat, newCell, ix_tupm, ix_lstm, atI_0, atI_1, atI_2, atI_3, atI_4, atI_5, seq_ss, 
    decide_true, decide_false, ap_meth, st_ins, nl_has, nl_lay, nl_turn, nl_reckon, nl_lay_fact, nl_asked, nl_do, beq_iff_eq, at_pile, at_facts, at_shut, 
    len_pile, st_p, ty_pile, List.length_map, List.length_reverse, Bool.or_true, Bool.or_false, Bool.not_true, Bool.not_false, eqv_ii, nev_ii, lf, step]
    | 2, lf => refine go "worth" ?_; unfold Row.d at lf ⊢; unfold A_Trial_do; simp (config := { decide := true }) only [bind_ok, bind_exc, toS_ok, toS_exc, ap_var, ap_c, ap_op2, ap_op1, ap_and, ap_or, ap_not, ap_if, ap_tval, ap_ttruth, ap_tand, ap_tor, ap_tnot, ap_ttrue, 
    ap_nil, ap_cons, ap_tup, ap_lst, ap_lstM, ap_app, ap_sl, ap_pno, ap_pat, toI_int, ap_mt, ap_chain, isBl_bl, truD_bl, truD_int, ap_snil, ap_sbrk, 
    ap_scont, ap_sexpr, ap_sret, ap_sretn, ap_sif, ap_sset, ap_sasg, ap_spar, ap_saug, ap_seq, seqK_next, seqK_ret, seqK_brk, seqK_cont, seqK_exc, ap_for, 
    ap_iseq, ap_ir1, ap_gnm, ap_gtp, gnms_nil, gnms_cons, ap_gsub, Option.map_some, Option.bind_some, loopN_next, loopN_cont, ty_int, ty_bl, ty_str, 
    ty_non, ty_tup, ty_lst, ty_ref, isi_ap, len_ref, get_last, append_last, tuple_last, list_last, add_ii, sub_ii, mul_ii, mulOk_l, mulOk_r, fdiv_ii, 
    divmod_ii, mod_ii, pow_ii, neg_i, ord_ii, is_non, isnt_non, is_bl, isnt_bl, abs_i, int_i, int_b, max_ii, min_ii, len_tup, len_lst, tuple_lst, 
    tuple_tup, list_lst, list_tup, List.getElem?_cons_zero, List.getElem?_cons_succ, List.set_cons_zero, List.set_cons_succ, List.map_cons, List.map_nil, 
    List.cons_append, List.nil_append, List.reduceReplicate, Nat.reduceSub, List.length_cons, List.length_nil, if_true, if_false, reduceIte, reduceCtorEq, 
    Bool.false_eq_true, Bool.true_eq_false, sizeLine_eq, Int.reduceToNat, newCell, ix_tupm, ix_lstm, atI_0, atI_1, atI_2, atI_3, atI_4, atI_5, seq_ss, 
    decide_true, decide_false, ap_meth, st_ins, nl_has, nl_lay, nl_turn, nl_reckon, nl_lay_fact, nl_asked, nl_do, beq_iff_eq, at_pile, at_facts, at_shut, 
    len_pile, st_p, ty_pile, List.length_map, List.length_reverse, Bool.or_true, Bool.or_false, Bool.not_true, Bool.not_false, eqv_ii, nev_ii, i_turn, 
    i_reck, factW]; simp only [factW] at lf; simp (config := { decide := true }) only [bind_ok, bind_exc, toS_ok, toS_exc, ap_var, ap_c, ap_op2, ap_op1, ap_and, ap_or, ap_not, ap_if, ap_tval, ap_ttruth, ap_tand, ap_tor, ap_tnot, ap_ttrue, 
    ap_nil, ap_cons, ap_tup, ap_lst, ap_lstM, ap_app, ap_sl, ap_pno, ap_pat, toI_int, ap_mt, ap_chain, isBl_bl, truD_bl, truD_int, ap_snil, ap_sbrk, 
    ap_scont, ap_sexpr, ap_sret, ap_sretn, ap_sif, ap_sset, ap_sasg, ap_spar, ap_saug, ap_seq, seqK_next, seqK_ret, seqK_brk, seqK_cont, seqK_exc, ap_for, 
    ap_iseq, ap_ir1, ap_gnm, ap_gtp, gnms_nil, gnms_cons, ap_gsub, Option.map_some, Option.bind_some, loopN_next, loopN_cont, ty_int, ty_bl, ty_str, 
    ty_non, ty_tup, ty_lst, ty_ref, isi_ap, len_ref, get_last, append_last, tuple_last, list_last, add_ii, sub_ii, mul_ii, mulOk_l, mulOk_r, fdiv_ii, 
    divmod_ii, mod_ii, pow_ii, neg_i, ord_ii, is_non, isnt_non, is_bl, isnt_bl, abs_i, int_i, int_b, max_ii, min_ii, len_tup, len_lst, tuple_lst, 
    tuple_tup, list_lst, list_tup, List.getElem?_cons_zero, List.getElem?_cons_succ, List.set_cons_zero, List.set_cons_succ, List.map_cons, List.map_nil, 
    List.cons_append, List.nil_append, List.reduceReplicate, Nat.reduceSub, List.length_cons, List.length_nil, if_true, if_false, reduceIte, reduceCtorEq, 
    Bool.false_eq_true, Bool.true_eq_false, sizeLine_eq, Int.reduceToNat, newCell, ix_tupm, ix_lstm, atI_0, atI_1, atI_2, atI_3, atI_4, atI_5, seq_ss, 
    decide_true, decide_false, ap_meth, st_ins, nl_has, nl_lay, nl_turn, nl_reckon, nl_lay_fact, nl_asked, nl_do, beq_iff_eq, at_pile, at_facts, at_shut, 
    len_pile, st_p, ty_pile, List.length_map, List.length_reverse, Bool.or_true, Bool.or_false, Bool.not_true, Bool.not_false, eqv_ii, nev_ii, lf, step]
    | 3, lf => refine go "ins" ?_; unfold Row.d at lf ⊢; unfold A_Trial_do; simp (config := { decide := true }) only [bind_ok, bind_exc, toS_ok, toS_exc, ap_var, ap_c, ap_op2, ap_op1, ap_and, ap_or, ap_not, ap_if, ap_tval, ap_ttruth, ap_tand, ap_tor, ap_tnot, ap_ttrue, 
    ap_nil, ap_cons, ap_tup, ap_lst, ap_lstM, ap_app, ap_sl, ap_pno, ap_pat, toI_int, ap_mt, ap_chain, isBl_bl, truD_bl, truD_int, ap_snil, ap_sbrk, 
    ap_scont, ap_sexpr, ap_sret, ap_sretn, ap_sif, ap_sset, ap_sasg, ap_spar, ap_saug, ap_seq, seqK_next, seqK_ret, seqK_brk, seqK_cont, seqK_exc, ap_for, 
    ap_iseq, ap_ir1, ap_gnm, ap_gtp, gnms_nil, gnms_cons, ap_gsub, Option.map_some, Option.bind_some, loopN_next, loopN_cont, ty_int, ty_bl, ty_str, 
    ty_non, ty_tup, ty_lst, ty_ref, isi_ap, len_ref, get_last, append_last, tuple_last, list_last, add_ii, sub_ii, mul_ii, mulOk_l, mulOk_r, fdiv_ii, 
    divmod_ii, mod_ii, pow_ii, neg_i, ord_ii, is_non, isnt_non, is_bl, isnt_bl, abs_i, int_i, int_b, max_ii, min_ii, len_tup, len_lst, tuple_lst, 
    tuple_tup, list_lst, list_tup, List.getElem?_cons_zero, List.getElem?_cons_succ, List.set_cons_zero, List.set_cons_succ, List.map_cons, List.map_nil, 
    List.cons_append, List.nil_append, List.reduceReplicate, Nat.reduceSub, List.length_cons, List.length_nil, if_true, if_false, reduceIte, reduceCtorEq, 
    Bool.false_eq_true, Bool.true_eq_false, sizeLine_eq, Int.reduceToNat, newCell, ix_tupm, ix_lstm, atI_0, atI_1, atI_2, atI_3, atI_4, atI_5, seq_ss, 
    decide_true, decide_false, ap_meth, st_ins, nl_has, nl_lay, nl_turn, nl_reckon, nl_lay_fact, nl_asked, nl_do, beq_iff_eq, at_pile, at_facts, at_shut, 
    len_pile, st_p, ty_pile, List.length_map, List.length_reverse, Bool.or_true, Bool.or_false, Bool.not_true, Bool.not_false, eqv_ii, nev_ii, i_turn, 
    i_reck, factW]; simp only [factW] at lf; simp (config := { decide := true }) only [bind_ok, bind_exc, toS_ok, toS_exc, ap_var, ap_c, ap_op2, ap_op1, ap_and, ap_or, ap_not, ap_if, ap_tval, ap_ttruth, ap_tand, ap_tor, ap_tnot, ap_ttrue, 
    ap_nil, ap_cons, ap_tup, ap_lst, ap_lstM, ap_app, ap_sl, ap_pno, ap_pat, toI_int, ap_mt, ap_chain, isBl_bl, truD_bl, truD_int, ap_snil, ap_sbrk, 
    ap_scont, ap_sexpr, ap_sret, ap_sretn, ap_sif, ap_sset, ap_sasg, ap_spar, ap_saug, ap_seq, seqK_next, seqK_ret, seqK_brk, seqK_cont, seqK_exc, ap_for, 
    ap_iseq, ap_ir1, ap_gnm, ap_gtp, gnms_nil, gnms_cons, ap_gsub, Option.map_some, Option.bind_some, loopN_next, loopN_cont, ty_int, ty_bl, ty_str, 
    ty_non, ty_tup, ty_lst, ty_ref, isi_ap, len_ref, get_last, append_last, tuple_last, list_last, add_ii, sub_ii, mul_ii, mulOk_l, mulOk_r, fdiv_ii, 
    divmod_ii, mod_ii, pow_ii, neg_i, ord_ii, is_non, isnt_non, is_bl, isnt_bl, abs_i, int_i, int_b, max_ii, min_ii, len_tup, len_lst, tuple_lst, 
    tuple_tup, list_lst, list_tup, List.getElem?_cons_zero, List.getElem?_cons_succ, List.set_cons_zero, List.set_cons_succ, List.map_cons, List.map_nil, 
    List.cons_append, List.nil_append, List.reduceReplicate, Nat.reduceSub, List.length_cons, List.length_nil, if_true, if_false, reduceIte, reduceCtorEq, 
    Bool.false_eq_true, Bool.true_eq_false, sizeLine_eq, Int.reduceToNat, newCell, ix_tupm, ix_lstm, atI_0, atI_1, atI_2, atI_3, atI_4, atI_5, seq_ss, 
    decide_true, decide_false, ap_meth, st_ins, nl_has, nl_lay, nl_turn, nl_reckon, nl_lay_fact, nl_asked, nl_do, beq_iff_eq, at_pile, at_facts, at_shut, 
    len_pile, st_p, ty_pile, List.length_map, List.length_reverse, Bool.or_true, Bool.or_false, Bool.not_true, Bool.not_false, eqv_ii, nev_ii, lf, step]
    | 4, lf => refine go "outs" ?_; unfold Row.d at lf ⊢; unfold A_Trial_do; simp (config := { decide := true }) only [bind_ok, bind_exc, toS_ok, toS_exc, ap_var, ap_c, ap_op2, ap_op1, ap_and, ap_or, ap_not, ap_if, ap_tval, ap_ttruth, ap_tand, ap_tor, ap_tnot, ap_ttrue, 
    ap_nil, ap_cons, ap_tup, ap_lst, ap_lstM, ap_app, ap_sl, ap_pno, ap_pat, toI_int, ap_mt, ap_chain, isBl_bl, truD_bl, truD_int, ap_snil, ap_sbrk, 
    ap_scont, ap_sexpr, ap_sret, ap_sretn, ap_sif, ap_sset, ap_sasg, ap_spar, ap_saug, ap_seq, seqK_next, seqK_ret, seqK_brk, seqK_cont, seqK_exc, ap_for, 
    ap_iseq, ap_ir1, ap_gnm, ap_gtp, gnms_nil, gnms_cons, ap_gsub, Option.map_some, Option.bind_some, loopN_next, loopN_cont, ty_int, ty_bl, ty_str, 
    ty_non, ty_tup, ty_lst, ty_ref, isi_ap, len_ref, get_last, append_last, tuple_last, list_last, add_ii, sub_ii, mul_ii, mulOk_l, mulOk_r, fdiv_ii, 
    divmod_ii, mod_ii, pow_ii, neg_i, ord_ii, is_non, isnt_non, is_bl, isnt_bl, abs_i, int_i, int_b, max_ii, min_ii, len_tup, len_lst, tuple_lst, 
    tuple_tup, list_lst, list_tup, List.getElem?_cons_zero, List.getElem?_cons_succ, List.set_cons_zero, List.set_cons_succ, List.map_cons, List.map_nil, 
    List.cons_append, List.nil_append, List.reduceReplicate, Nat.reduceSub, List.length_cons, List.length_nil, if_true, if_false, reduceIte, reduceCtorEq, 
    Bool.false_eq_true, Bool.true_eq_false, sizeLine_eq, Int.reduceToNat, newCell, ix_tupm, ix_lstm, atI_0, atI_1, atI_2, atI_3, atI_4, atI_5, seq_ss, 
    decide_true, decide_false, ap_meth, st_ins, nl_has, nl_lay, nl_turn, nl_reckon, nl_lay_fact, nl_asked, nl_do, beq_iff_eq, at_pile, at_facts, at_shut, 
    len_pile, st_p, ty_pile, List.length_map, List.length_reverse, Bool.or_true, Bool.or_false, Bool.not_true, Bool.not_false, eqv_ii, nev_ii, i_turn, 
    i_reck, factW]; simp only [factW] at lf; simp (config := { decide := true }) only [bind_ok, bind_exc, toS_ok, toS_exc, ap_var, ap_c, ap_op2, ap_op1, ap_and, ap_or, ap_not, ap_if, ap_tval, ap_ttruth, ap_tand, ap_tor, ap_tnot, ap_ttrue, 
    ap_nil, ap_cons, ap_tup, ap_lst, ap_lstM, ap_app, ap_sl, ap_pno, ap_pat, toI_int, ap_mt, ap_chain, isBl_bl, truD_bl, truD_int, ap_snil, ap_sbrk, 
    ap_scont, ap_sexpr, ap_sret, ap_sretn, ap_sif, ap_sset, ap_sasg, ap_spar, ap_saug, ap_seq, seqK_next, seqK_ret, seqK_brk, seqK_cont, seqK_exc, ap_for, 
    ap_iseq, ap_ir1, ap_gnm, ap_gtp, gnms_nil, gnms_cons, ap_gsub, Option.map_some, Option.bind_some, loopN_next, loopN_cont, ty_int, ty_bl, ty_str, 
    ty_non, ty_tup, ty_lst, ty_ref, isi_ap, len_ref, get_last, append_last, tuple_last, list_last, add_ii, sub_ii, mul_ii, mulOk_l, mulOk_r, fdiv_ii, 
    divmod_ii, mod_ii, pow_ii, neg_i, ord_ii, is_non, isnt_non, is_bl, isnt_bl, abs_i, int_i, int_b, max_ii, min_ii, len_tup, len_lst, tuple_lst, 
    tuple_tup, list_lst, list_tup, List.getElem?_cons_zero, List.getElem?_cons_succ, List.set_cons_zero, List.set_cons_succ, List.map_cons, List.map_nil, 
    List.cons_append, List.nil_append, List.reduceReplicate, Nat.reduceSub, List.length_cons, List.length_nil, if_true, if_false, reduceIte, reduceCtorEq, 
    Bool.false_eq_true, Bool.true_eq_false, sizeLine_eq, Int.reduceToNat, newCell, ix_tupm, ix_lstm, atI_0, atI_1, atI_2, atI_3, atI_4, atI_5, seq_ss, 
    decide_true, decide_false, ap_meth, st_ins, nl_has, nl_lay, nl_turn, nl_reckon, nl_lay_fact, nl_asked, nl_do, beq_iff_eq, at_pile, at_facts, at_shut, 
    len_pile, st_p, ty_pile, List.length_map, List.length_reverse, Bool.or_true, Bool.or_false, Bool.not_true, Bool.not_false, eqv_ii, nev_ii, lf, step]
  | paid k =>
    have lp := l_paid (S := S) (E := E) f k hl.1
    refine go "paid" ?_; unfold Row.d at lp ⊢; unfold A_Trial_do; simp (config := { decide := true }) only [bind_ok, bind_exc, toS_ok, toS_exc, ap_var, ap_c, ap_op2, ap_op1, ap_and, ap_or, ap_not, ap_if, ap_tval, ap_ttruth, ap_tand, ap_tor, ap_tnot, ap_ttrue, 
    ap_nil, ap_cons, ap_tup, ap_lst, ap_lstM, ap_app, ap_sl, ap_pno, ap_pat, toI_int, ap_mt, ap_chain, isBl_bl, truD_bl, truD_int, ap_snil, ap_sbrk, 
    ap_scont, ap_sexpr, ap_sret, ap_sretn, ap_sif, ap_sset, ap_sasg, ap_spar, ap_saug, ap_seq, seqK_next, seqK_ret, seqK_brk, seqK_cont, seqK_exc, ap_for, 
    ap_iseq, ap_ir1, ap_gnm, ap_gtp, gnms_nil, gnms_cons, ap_gsub, Option.map_some, Option.bind_some, loopN_next, loopN_cont, ty_int, ty_bl, ty_str, 
    ty_non, ty_tup, ty_lst, ty_ref, isi_ap, len_ref, get_last, append_last, tuple_last, list_last, add_ii, sub_ii, mul_ii, mulOk_l, mulOk_r, fdiv_ii, 
    divmod_ii, mod_ii, pow_ii, neg_i, ord_ii, is_non, isnt_non, is_bl, isnt_bl, abs_i, int_i, int_b, max_ii, min_ii, len_tup, len_lst, tuple_lst, 
    tuple_tup, list_lst, list_tup, List.getElem?_cons_zero, List.getElem?_cons_succ, List.set_cons_zero, List.set_cons_succ, List.map_cons, List.map_nil, 
    List.cons_append, List.nil_append, List.reduceReplicate, Nat.reduceSub, List.length_cons, List.length_nil, if_true, if_false, reduceIte, reduceCtorEq, 
    Bool.false_eq_true, Bool.true_eq_false, sizeLine_eq, Int.reduceToNat, newCell, ix_tupm, ix_lstm, atI_0, atI_1, atI_2, atI_3, atI_4, atI_5, seq_ss, 
    decide_true, decide_false, ap_meth, st_ins, nl_has, nl_lay, nl_turn, nl_reckon, nl_lay_fact, nl_asked, nl_do, beq_iff_eq, at_pile, at_facts, at_shut, 
    len_pile, st_p, ty_pile, List.length_map, List.length_reverse, Bool.or_true, Bool.or_false, Bool.not_true, Bool.not_false, eqv_ii, nev_ii, i_turn, 
    i_reck, lp, step]
  | push n => refine go "push" ?_; unfold A_Trial_do Row.d; simp (config := { decide := true }) only [bind_ok, bind_exc, toS_ok, toS_exc, ap_var, ap_c, ap_op2, ap_op1, ap_and, ap_or, ap_not, ap_if, ap_tval, ap_ttruth, ap_tand, ap_tor, ap_tnot, ap_ttrue, 
    ap_nil, ap_cons, ap_tup, ap_lst, ap_lstM, ap_app, ap_sl, ap_pno, ap_pat, toI_int, ap_mt, ap_chain, isBl_bl, truD_bl, truD_int, ap_snil, ap_sbrk, 
    ap_scont, ap_sexpr, ap_sret, ap_sretn, ap_sif, ap_sset, ap_sasg, ap_spar, ap_saug, ap_seq, seqK_next, seqK_ret, seqK_brk, seqK_cont, seqK_exc, ap_for, 
    ap_iseq, ap_ir1, ap_gnm, ap_gtp, gnms_nil, gnms_cons, ap_gsub, Option.map_some, Option.bind_some, loopN_next, loopN_cont, ty_int, ty_bl, ty_str, 
    ty_non, ty_tup, ty_lst, ty_ref, isi_ap, len_ref, get_last, append_last, tuple_last, list_last, add_ii, sub_ii, mul_ii, mulOk_l, mulOk_r, fdiv_ii, 
    divmod_ii, mod_ii, pow_ii, neg_i, ord_ii, is_non, isnt_non, is_bl, isnt_bl, abs_i, int_i, int_b, max_ii, min_ii, len_tup, len_lst, tuple_lst, 
    tuple_tup, list_lst, list_tup, List.getElem?_cons_zero, List.getElem?_cons_succ, List.set_cons_zero, List.set_cons_succ, List.map_cons, List.map_nil, 
    List.cons_append, List.nil_append, List.reduceReplicate, Nat.reduceSub, List.length_cons, List.length_nil, if_true, if_false, reduceIte, reduceCtorEq, 
    Bool.false_eq_true, Bool.true_eq_false, sizeLine_eq, Int.reduceToNat, newCell, ix_tupm, ix_lstm, atI_0, atI_1, atI_2, atI_3, atI_4, atI_5, seq_ss, 
    decide_true, decide_false, ap_meth, st_ins, nl_has, nl_lay, nl_turn, nl_reckon, nl_lay_fact, nl_asked, nl_do, beq_iff_eq, at_pile, at_facts, at_shut, 
    len_pile, st_p, ty_pile, List.length_map, List.length_reverse, Bool.or_true, Bool.or_false, Bool.not_true, Bool.not_false, eqv_ii, nev_ii, fl, step]
  | copy k =>
    refine go "copy" ?_
    unfold A_Trial_do Row.d step
    cases e : r[k]? with
    | none =>
      have h : (r.length : Int) < (k : Int) + 1 := by have := List.getElem?_eq_none_iff.mp e; omega
      simp (config := { decide := true }) only [bind_ok, bind_exc, toS_ok, toS_exc, ap_var, ap_c, ap_op2, ap_op1, ap_and, ap_or, ap_not, ap_if, ap_tval, ap_ttruth, ap_tand, ap_tor, ap_tnot, ap_ttrue, 
    ap_nil, ap_cons, ap_tup, ap_lst, ap_lstM, ap_app, ap_sl, ap_pno, ap_pat, toI_int, ap_mt, ap_chain, isBl_bl, truD_bl, truD_int, ap_snil, ap_sbrk, 
    ap_scont, ap_sexpr, ap_sret, ap_sretn, ap_sif, ap_sset, ap_sasg, ap_spar, ap_saug, ap_seq, seqK_next, seqK_ret, seqK_brk, seqK_cont, seqK_exc, ap_for, 
    ap_iseq, ap_ir1, ap_gnm, ap_gtp, gnms_nil, gnms_cons, ap_gsub, Option.map_some, Option.bind_some, loopN_next, loopN_cont, ty_int, ty_bl, ty_str, 
    ty_non, ty_tup, ty_lst, ty_ref, isi_ap, len_ref, get_last, append_last, tuple_last, list_last, add_ii, sub_ii, mul_ii, mulOk_l, mulOk_r, fdiv_ii, 
    divmod_ii, mod_ii, pow_ii, neg_i, ord_ii, is_non, isnt_non, is_bl, isnt_bl, abs_i, int_i, int_b, max_ii, min_ii, len_tup, len_lst, tuple_lst, 
    tuple_tup, list_lst, list_tup, List.getElem?_cons_zero, List.getElem?_cons_succ, List.set_cons_zero, List.set_cons_succ, List.map_cons, List.map_nil, 
    List.cons_append, List.nil_append, List.reduceReplicate, Nat.reduceSub, List.length_cons, List.length_nil, if_true, if_false, reduceIte, reduceCtorEq, 
    Bool.false_eq_true, Bool.true_eq_false, sizeLine_eq, Int.reduceToNat, newCell, ix_tupm, ix_lstm, atI_0, atI_1, atI_2, atI_3, atI_4, atI_5, seq_ss, 
    decide_true, decide_false, ap_meth, st_ins, nl_has, nl_lay, nl_turn, nl_reckon, nl_lay_fact, nl_asked, nl_do, beq_iff_eq, at_pile, at_facts, at_shut, 
    len_pile, st_p, ty_pile, List.length_map, List.length_reverse, Bool.or_true, Bool.or_false, Bool.not_true, Bool.not_false, eqv_ii, nev_ii, 
    f_has f.pure, has_yes h, e]
    | some x =>
      have h : (k : Int) + 1 ≤ (r.length : Int) := by have := (List.getElem?_eq_some_iff.mp e).1; omega
      simp (config := { decide := true }) only [bind_ok, bind_exc, toS_ok, toS_exc, ap_var, ap_c, ap_op2, ap_op1, ap_and, ap_or, ap_not, ap_if, ap_tval, ap_ttruth, ap_tand, ap_tor, ap_tnot, ap_ttrue, 
    ap_nil, ap_cons, ap_tup, ap_lst, ap_lstM, ap_app, ap_sl, ap_pno, ap_pat, toI_int, ap_mt, ap_chain, isBl_bl, truD_bl, truD_int, ap_snil, ap_sbrk, 
    ap_scont, ap_sexpr, ap_sret, ap_sretn, ap_sif, ap_sset, ap_sasg, ap_spar, ap_saug, ap_seq, seqK_next, seqK_ret, seqK_brk, seqK_cont, seqK_exc, ap_for, 
    ap_iseq, ap_ir1, ap_gnm, ap_gtp, gnms_nil, gnms_cons, ap_gsub, Option.map_some, Option.bind_some, loopN_next, loopN_cont, ty_int, ty_bl, ty_str, 
    ty_non, ty_tup, ty_lst, ty_ref, isi_ap, len_ref, get_last, append_last, tuple_last, list_last, add_ii, sub_ii, mul_ii, mulOk_l, mulOk_r, fdiv_ii, 
    divmod_ii, mod_ii, pow_ii, neg_i, ord_ii, is_non, isnt_non, is_bl, isnt_bl, abs_i, int_i, int_b, max_ii, min_ii, len_tup, len_lst, tuple_lst, 
    tuple_tup, list_lst, list_tup, List.getElem?_cons_zero, List.getElem?_cons_succ, List.set_cons_zero, List.set_cons_succ, List.map_cons, List.map_nil, 
    List.cons_append, List.nil_append, List.reduceReplicate, Nat.reduceSub, List.length_cons, List.length_nil, if_true, if_false, reduceIte, reduceCtorEq, 
    Bool.false_eq_true, Bool.true_eq_false, sizeLine_eq, Int.reduceToNat, newCell, ix_tupm, ix_lstm, atI_0, atI_1, atI_2, atI_3, atI_4, atI_5, seq_ss, 
    decide_true, decide_false, ap_meth, st_ins, nl_has, nl_lay, nl_turn, nl_reckon, nl_lay_fact, nl_asked, nl_do, beq_iff_eq, at_pile, at_facts, at_shut, 
    len_pile, st_p, ty_pile, List.length_map, List.length_reverse, Bool.or_true, Bool.or_false, Bool.not_true, Bool.not_false, eqv_ii, nev_ii, 
    f_has f.pure, has_no h, ix_pile, atI_back e, fl, e]
  | iff => cases hw
  | els => cases hw
  | fin => cases hw
theorem f_asked0 (hf : pureD fx) : F_Trial_asked [.ref S.length] (St S fx (false, []) E) = .ok (.bl false) (St S fx (true, []) E) := by
  refine run_ret rfl (S' := St S fx (true, []) E) (d := .bl false) ?_ (exit_St hf (pure_bl _))
  unfold A_Trial_asked
  simp (config := { decide := true }) only [bind_ok, bind_exc, toS_ok, toS_exc, ap_var, ap_c, ap_op2, ap_op1, ap_and, ap_or, ap_not, ap_if, ap_tval, ap_ttruth, ap_tand, ap_tor, ap_tnot, ap_ttrue, 
    ap_nil, ap_cons, ap_tup, ap_lst, ap_lstM, ap_app, ap_sl, ap_pno, ap_pat, toI_int, ap_mt, ap_chain, isBl_bl, truD_bl, truD_int, ap_snil, ap_sbrk, 
    ap_scont, ap_sexpr, ap_sret, ap_sretn, ap_sif, ap_sset, ap_sasg, ap_spar, ap_saug, ap_seq, seqK_next, seqK_ret, seqK_brk, seqK_cont, seqK_exc, ap_for, 
    ap_iseq, ap_ir1, ap_gnm, ap_gtp, gnms_nil, gnms_cons, ap_gsub, Option.map_some, Option.bind_some, loopN_next, loopN_cont, ty_int, ty_bl, ty_str, 
    ty_non, ty_tup, ty_lst, ty_ref, isi_ap, len_ref, get_last, append_last, tuple_last, list_last, add_ii, sub_ii, mul_ii, mulOk_l, mulOk_r, fdiv_ii, 
    divmod_ii, mod_ii, pow_ii, neg_i, ord_ii, is_non, isnt_non, is_bl, isnt_bl, abs_i, int_i, int_b, max_ii, min_ii, len_tup, len_lst, tuple_lst, 
    tuple_tup, list_lst, list_tup, List.getElem?_cons_zero, List.getElem?_cons_succ, List.set_cons_zero, List.set_cons_succ, List.map_cons, List.map_nil, 
    List.cons_append, List.nil_append, List.reduceReplicate, Nat.reduceSub, List.length_cons, List.length_nil, if_true, if_false, reduceIte, reduceCtorEq, 
    Bool.false_eq_true, Bool.true_eq_false, sizeLine_eq, Int.reduceToNat, newCell, ix_tupm, ix_lstm, atI_0, atI_1, atI_2, atI_3, atI_4, atI_5, seq_ss, 
    decide_true, decide_false, ap_meth, st_ins, nl_has, nl_lay, nl_turn, nl_reckon, nl_lay_fact, nl_asked, nl_do, beq_iff_eq, at_pile, at_facts, at_shut, 
    len_pile, st_p, ty_pile, List.length_map, List.length_reverse, Bool.or_true, Bool.or_false, Bool.not_true, Bool.not_false, eqv_ii, nev_ii, f_has hf, 
    has_yes none_lt]
theorem f_asked1 (hf : pureD fx) {x : Int} : F_Trial_asked [.ref S.length] (St S fx (false, x :: r) E) = .ok (.bl (!(x == 0))) (St S fx (false, r) E) := by
  refine run_ret rfl (S' := St S fx (false, r) E) (d := .bl (!(x == 0))) ?_ (exit_St hf (pure_bl _))
  unfold A_Trial_asked
  simp (config := { decide := true }) only [bind_ok, bind_exc, toS_ok, toS_exc, ap_var, ap_c, ap_op2, ap_op1, ap_and, ap_or, ap_not, ap_if, ap_tval, ap_ttruth, ap_tand, ap_tor, ap_tnot, ap_ttrue, 
    ap_nil, ap_cons, ap_tup, ap_lst, ap_lstM, ap_app, ap_sl, ap_pno, ap_pat, toI_int, ap_mt, ap_chain, isBl_bl, truD_bl, truD_int, ap_snil, ap_sbrk, 
    ap_scont, ap_sexpr, ap_sret, ap_sretn, ap_sif, ap_sset, ap_sasg, ap_spar, ap_saug, ap_seq, seqK_next, seqK_ret, seqK_brk, seqK_cont, seqK_exc, ap_for, 
    ap_iseq, ap_ir1, ap_gnm, ap_gtp, gnms_nil, gnms_cons, ap_gsub, Option.map_some, Option.bind_some, loopN_next, loopN_cont, ty_int, ty_bl, ty_str, 
    ty_non, ty_tup, ty_lst, ty_ref, isi_ap, len_ref, get_last, append_last, tuple_last, list_last, add_ii, sub_ii, mul_ii, mulOk_l, mulOk_r, fdiv_ii, 
    divmod_ii, mod_ii, pow_ii, neg_i, ord_ii, is_non, isnt_non, is_bl, isnt_bl, abs_i, int_i, int_b, max_ii, min_ii, len_tup, len_lst, tuple_lst, 
    tuple_tup, list_lst, list_tup, List.getElem?_cons_zero, List.getElem?_cons_succ, List.set_cons_zero, List.set_cons_succ, List.map_cons, List.map_nil, 
    List.cons_append, List.nil_append, List.reduceReplicate, Nat.reduceSub, List.length_cons, List.length_nil, if_true, if_false, reduceIte, reduceCtorEq, 
    Bool.false_eq_true, Bool.true_eq_false, sizeLine_eq, Int.reduceToNat, newCell, ix_tupm, ix_lstm, atI_0, atI_1, atI_2, atI_3, atI_4, atI_5, seq_ss, 
    decide_true, decide_false, ap_meth, st_ins, nl_has, nl_lay, nl_turn, nl_reckon, nl_lay_fact, nl_asked, nl_do, beq_iff_eq, at_pile, at_facts, at_shut, 
    len_pile, st_p, ty_pile, List.length_map, List.length_reverse, Bool.or_true, Bool.or_false, Bool.not_true, Bool.not_false, eqv_ii, nev_ii, f_has hf, 
    has_no one_le, pop1]
end
end LW

namespace LW
open PySem PySem.Spec PyProof.Rows L2 DL
section
variable {S E : Sto} {fx : D} {t : Tr} {b : Bool} {r : List Int} {x : Int}
/-! ### the ways -/
abbrev Ways := List (Bool × Bool)
def wayD (p : Bool × Bool) : D := .tup [.bl p.1, .bl p.2]
def wc (ws : Ways) : Cell := .lst (ws.reverse.map wayD)
theorem st_w {c : Cell} : (St S fx t [c])[S.length + 2]? = some c := st_e (k := 0)
theorem st_setw {c c' : Cell} : (St S fx t [c]).set (S.length + 2) c' = St S fx t [c'] := by
  unfold St; rw [List.set_append_right _ _ (by omega), show S.length + 2 - S.length = 2 by omega]; rfl
theorem st_wl {ws : Ways} : (St S fx t [wc ws])[S.length + 2]? = some (.lst (ws.reverse.map wayD)) := st_w
theorem ty_w {ws : Ways} : tyD (St S fx t [wc ws]) (.ref (S.length + 2)) = some "list" := by rw [ty_ref, st_w]; rfl
theorem app_w {ws : Ways} {a b : Bool} (h : ws.length < 1000) : appendD (.ref (S.length + 2)) [.tup [.bl a, .bl b]] (St S fx t [wc ws]) = .ok .non (St S fx t [wc ((a, b) :: ws)]) := by
  unfold appendD
  simp only
  rw [show cellL (St S fx t [wc ws]) (.ref (S.length + 2)) = some (S.length + 2, ws.reverse.map wayD) from cellL_ref st_w]
  simp only
  rw [if_pos (by rw [sizeLine_eq]; simp; omega), st_setw]
  unfold wc
  simp only [List.reverse_cons, List.map_append, List.map_cons, List.map_nil]
  rfl
theorem pop_w {ws : Ways} {p : Bool × Bool} : popD (.ref (S.length + 2)) [] (St S fx t [wc (p :: ws)]) = .ok (wayD p) (St S fx t [wc ws]) := by
  unfold popD
  simp only
  rw [show cellL (St S fx t [wc (p :: ws)]) (.ref (S.length + 2)) = some (S.length + 2, (p :: ws).reverse.map wayD) from cellL_ref st_w]
  simp only [List.reverse_cons, List.map_append, List.map_cons, List.map_nil]
  rw [show (ws.reverse.map wayD ++ [wayD p])[(ws.reverse.map wayD ++ [wayD p]).length - 1]? = some (wayD p) by simp]
  simp only [List.dropLast_concat]
  rw [st_setw]
  rfl
theorem ix_w {ws : Ways} {p : Bool × Bool} : ixD (.ref (S.length + 2)) (.int (-1)) (St S fx t [wc (p :: ws)]) = .ok (wayD p) (St S fx t [wc (p :: ws)]) := by
  show (match seqOf (St S fx t [wc (p :: ws)]) (.ref (S.length + 2)) with | some xs => (match atI xs (-1) with | some d => Res.ok d (St S fx t [wc (p :: ws)]) | none => Res.bad) | none => Res.bad) = _
  rw [show seqOf (St S fx t [wc (p :: ws)]) (.ref (S.length + 2)) = some ((p :: ws).reverse.map wayD) from seqOf_ref st_w]
  simp only [List.reverse_cons, List.map_append, List.map_cons, List.map_nil]
  rw [atI_last]
def ifT (p : Bool × Bool) (ws : Ways) : List Int → Ways × Tr
  | [] => ((true, false) :: p :: ws, (true, []))
  | x :: r' => ((true, !(x == 0)) :: p :: ws, (false, r'))
/-- one row; none: a row out of its ifs -/
def turn1 (f : Fx) : Row → Ways → List Int → Option (Ways × Tr)
  | _, [], _ => none
  | .iff, p :: ws, r => some (if p.2 then ifT p ws r else ((false, false) :: p :: ws, (false, r)))
  | .els, p :: ws, r => some ((p.1, p.1 && !p.2) :: ws, (false, r))
  | .fin, _ :: ws, r => some (ws, (false, r))
  | w, p :: ws, r => some (p :: ws, if p.2 then step f w r else (false, r))
def oloc (lk ks fx : D) (n : Nat) (w : D) (a b c : Option D) : DL.Loc := [some lk, some ks, some fx, some (.ref n), some (.ref (n + 2)), some w, a, b, c]
theorem o_end {f : Fx} {ws : Ways} {l : DL.Loc} {lk ks : D} {w : D} {a b c : Option D} (h : l = oloc lk ks f.d S.length w a b c) : (sIf (tTruth (eOp1 (attrD 0 "shut") (eVar 3))) (sRet (eC (.bl false))) sNil) l (St S f.d t [wc ws]) = if t.1 = true then .ret (.bl false) (St S f.d t [wc ws]) else .next l (St S f.d t [wc ws]) := by
  subst h
  unfold oloc
  simp (config := { decide := true }) only [bind_ok, bind_exc, toS_ok, toS_exc, ap_var, ap_c, ap_op2, ap_op1, ap_and, ap_or, ap_not, ap_if, ap_tval, ap_ttruth, ap_tand, ap_tor, ap_tnot, ap_ttrue, 
    ap_nil, ap_cons, ap_tup, ap_lst, ap_lstM, ap_app, ap_sl, ap_pno, ap_pat, toI_int, ap_mt, ap_chain, isBl_bl, truD_bl, truD_int, ap_snil, ap_sbrk, 
    ap_scont, ap_sexpr, ap_sret, ap_sretn, ap_sif, ap_sset, ap_sasg, ap_spar, ap_saug, ap_seq, seqK_next, seqK_ret, seqK_brk, seqK_cont, seqK_exc, ap_for, 
    ap_iseq, ap_ir1, ap_gnm, ap_gtp, gnms_nil, gnms_cons, ap_gsub, Option.map_some, Option.bind_some, loopN_next, loopN_cont, ty_int, ty_bl, ty_str, 
    ty_non, ty_tup, ty_lst, ty_ref, isi_ap, len_ref, get_last, append_last, tuple_last, list_last, add_ii, sub_ii, mul_ii, mulOk_l, mulOk_r, fdiv_ii, 
    divmod_ii, mod_ii, pow_ii, neg_i, ord_ii, is_non, isnt_non, is_bl, isnt_bl, abs_i, int_i, int_b, max_ii, min_ii, len_tup, len_lst, tuple_lst, 
    tuple_tup, list_lst, list_tup, List.getElem?_cons_zero, List.getElem?_cons_succ, List.set_cons_zero, List.set_cons_succ, List.map_cons, List.map_nil, 
    List.cons_append, List.nil_append, List.reduceReplicate, Nat.reduceSub, List.length_cons, List.length_nil, if_true, if_false, reduceIte, reduceCtorEq, 
    Bool.false_eq_true, Bool.true_eq_false, sizeLine_eq, Int.reduceToNat, newCell, ix_tupm, ix_lstm, atI_0, atI_1, atI_2, atI_3, atI_4, atI_5, seq_ss, 
    decide_true, decide_false, ap_meth, st_ins, nl_has, nl_lay, nl_turn, nl_reckon, nl_lay_fact, nl_asked, nl_do, beq_iff_eq, at_pile, at_facts, at_shut, 
    len_pile, st_p, ty_pile, List.length_map, List.length_reverse, Bool.or_true, Bool.or_false, Bool.not_true, Bool.not_false, eqv_ii, nev_ii]
theorem o_step (f : Fx) (w : Row) (ws ws' : Ways) (t' : Tr) (hl : Fit r) (hw : ws.length < 900) (h : turn1 f w ws r = some (ws', t')) (lk ks : D) (a b c : Option D) :
    ∃ a' b' c', L_opens_1 (oloc lk ks f.d S.length w.d a b c) (St S f.d (false, r) [wc ws]) = if t'.1 = true then .ret (.bl false) (St S f.d t' [wc ws']) else .next (oloc lk ks f.d S.length w.d a' b' c') (St S f.d t' [wc ws']) := by
  cases ws with
  | nil => cases w <;> cases h
  | cons p ws =>
    obtain ⟨p1, p2⟩ := p
    have hw' : (((p1, p2) :: ws) : Ways).length < 1000 := by omega
    have hw2 : (ws : Ways).length < 1000 := by simp at hw; omega
    by_cases hp : w.plain = true
    · have e : turn1 f w ((p1, p2) :: ws) r = some ((p1, p2) :: ws, if p2 then step f w r else (false, r)) := by cases w <;> first | rfl | cases hp
      rw [e] at h
      obtain ⟨rfl, rfl⟩ := Prod.mk.inj (Option.some.inj h)
      refine ⟨a, b, c, ?_⟩
      have hd := f_do (S := S) (E := [wc ((p1, p2) :: ws)]) f w hp hl
      have hx : ∃ z rest, w.d = .tup (.str z :: rest) ∧ z ≠ "if" ∧ z ≠ "else" ∧ z ≠ "end" := by
        cases w with
        | fact k => match k with
          | 0 => exact ⟨"height", [], rfl, by decide, by decide, by decide⟩
          | 1 => exact ⟨"age", [], rfl, by decide, by decide, by decide⟩
          | 2 => exact ⟨"worth", [], rfl, by decide, by decide, by decide⟩
          | 3 => exact ⟨"ins", [], rfl, by decide, by decide, by decide⟩
          | 4 => exact ⟨"outs", [], rfl, by decide, by decide, by decide⟩
        | iff => cases hp
        | els => cases hp
        | fin => cases hp
        | _ => exact ⟨_, _, rfl, by decide, by decide, by decide⟩
      obtain ⟨z, rest, hz, n1, n2, n3⟩ := hx
      unfold L_opens_1 oloc
      rw [hz] at hd ⊢
      cases p2 with
      | false =>
        simp (config := { decide := true }) only [bind_ok, bind_exc, toS_ok, toS_exc, ap_var, ap_c, ap_op2, ap_op1, ap_and, ap_or, ap_not, ap_if, ap_tval, ap_ttruth, ap_tand, ap_tor, ap_tnot, ap_ttrue, 
    ap_nil, ap_cons, ap_tup, ap_lst, ap_lstM, ap_app, ap_sl, ap_pno, ap_pat, toI_int, ap_mt, ap_chain, isBl_bl, truD_bl, truD_int, ap_snil, ap_sbrk, 
    ap_scont, ap_sexpr, ap_sret, ap_sretn, ap_sif, ap_sset, ap_sasg, ap_spar, ap_saug, ap_seq, seqK_next, seqK_ret, seqK_brk, seqK_cont, seqK_exc, ap_for, 
    ap_iseq, ap_ir1, ap_gnm, ap_gtp, gnms_nil, gnms_cons, ap_gsub, Option.map_some, Option.bind_some, loopN_next, loopN_cont, ty_int, ty_bl, ty_str, 
    ty_non, ty_tup, ty_lst, ty_ref, isi_ap, len_ref, get_last, append_last, tuple_last, list_last, add_ii, sub_ii, mul_ii, mulOk_l, mulOk_r, fdiv_ii, 
    divmod_ii, mod_ii, pow_ii, neg_i, ord_ii, is_non, isnt_non, is_bl, isnt_bl, abs_i, int_i, int_b, max_ii, min_ii, len_tup, len_lst, tuple_lst, 
    tuple_tup, list_lst, list_tup, List.getElem?_cons_zero, List.getElem?_cons_succ, List.set_cons_zero, List.set_cons_succ, List.map_cons, List.map_nil, 
    List.cons_append, List.nil_append, List.reduceReplicate, Nat.reduceSub, List.length_cons, List.length_nil, if_true, if_false, reduceIte, reduceCtorEq, 
    Bool.false_eq_true, Bool.true_eq_false, sizeLine_eq, Int.reduceToNat, newCell, ix_tupm, ix_lstm, atI_0, atI_1, atI_2, atI_3, atI_4, atI_5, seq_ss, 
    decide_true, decide_false, ap_meth, st_ins, nl_has, nl_lay, nl_turn, nl_reckon, nl_lay_fact, nl_asked, nl_do, beq_iff_eq, at_pile, at_facts, at_shut, 
    len_pile, st_p, ty_pile, List.length_map, List.length_reverse, Bool.or_true, Bool.or_false, Bool.not_true, Bool.not_false, eqv_ii, nev_ii, 
    decide_eq_false n1, decide_eq_false n2, decide_eq_false n3, ix_w, wayD]
      | true =>
        simp (config := { decide := true }) only [bind_ok, bind_exc, toS_ok, toS_exc, ap_var, ap_c, ap_op2, ap_op1, ap_and, ap_or, ap_not, ap_if, ap_tval, ap_ttruth, ap_tand, ap_tor, ap_tnot, ap_ttrue, 
    ap_nil, ap_cons, ap_tup, ap_lst, ap_lstM, ap_app, ap_sl, ap_pno, ap_pat, toI_int, ap_mt, ap_chain, isBl_bl, truD_bl, truD_int, ap_snil, ap_sbrk, 
    ap_scont, ap_sexpr, ap_sret, ap_sretn, ap_sif, ap_sset, ap_sasg, ap_spar, ap_saug, ap_seq, seqK_next, seqK_ret, seqK_brk, seqK_cont, seqK_exc, ap_for, 
    ap_iseq, ap_ir1, ap_gnm, ap_gtp, gnms_nil, gnms_cons, ap_gsub, Option.map_some, Option.bind_some, loopN_next, loopN_cont, ty_int, ty_bl, ty_str, 
    ty_non, ty_tup, ty_lst, ty_ref, isi_ap, len_ref, get_last, append_last, tuple_last, list_last, add_ii, sub_ii, mul_ii, mulOk_l, mulOk_r, fdiv_ii, 
    divmod_ii, mod_ii, pow_ii, neg_i, ord_ii, is_non, isnt_non, is_bl, isnt_bl, abs_i, int_i, int_b, max_ii, min_ii, len_tup, len_lst, tuple_lst, 
    tuple_tup, list_lst, list_tup, List.getElem?_cons_zero, List.getElem?_cons_succ, List.set_cons_zero, List.set_cons_succ, List.map_cons, List.map_nil, 
    List.cons_append, List.nil_append, List.reduceReplicate, Nat.reduceSub, List.length_cons, List.length_nil, if_true, if_false, reduceIte, reduceCtorEq, 
    Bool.false_eq_true, Bool.true_eq_false, sizeLine_eq, Int.reduceToNat, newCell, ix_tupm, ix_lstm, atI_0, atI_1, atI_2, atI_3, atI_4, atI_5, seq_ss, 
    decide_true, decide_false, ap_meth, st_ins, nl_has, nl_lay, nl_turn, nl_reckon, nl_lay_fact, nl_asked, nl_do, beq_iff_eq, at_pile, at_facts, at_shut, 
    len_pile, st_p, ty_pile, List.length_map, List.length_reverse, Bool.or_true, Bool.or_false, Bool.not_true, Bool.not_false, eqv_ii, nev_ii, 
    decide_eq_false n1, decide_eq_false n2, decide_eq_false n3, ix_w, wayD, hd]
    · cases w with
      | iff =>
        have e : turn1 f .iff ((p1, p2) :: ws) r = some (if p2 then ifT (p1, p2) ws r else ((false, false) :: (p1, p2) :: ws, (false, r))) := rfl
        rw [e] at h
        have h := Option.some.inj h
        cases p2 with
        | false =>
          simp only [Bool.false_eq_true, if_false] at h
          obtain ⟨rfl, rfl⟩ := Prod.mk.inj h
          refine ⟨some (.bl false), b, c, ?_⟩
          unfold L_opens_1 oloc Row.d
          simp (config := { decide := true }) only [bind_ok, bind_exc, toS_ok, toS_exc, ap_var, ap_c, ap_op2, ap_op1, ap_and, ap_or, ap_not, ap_if, ap_tval, ap_ttruth, ap_tand, ap_tor, ap_tnot, ap_ttrue, 
    ap_nil, ap_cons, ap_tup, ap_lst, ap_lstM, ap_app, ap_sl, ap_pno, ap_pat, toI_int, ap_mt, ap_chain, isBl_bl, truD_bl, truD_int, ap_snil, ap_sbrk, 
    ap_scont, ap_sexpr, ap_sret, ap_sretn, ap_sif, ap_sset, ap_sasg, ap_spar, ap_saug, ap_seq, seqK_next, seqK_ret, seqK_brk, seqK_cont, seqK_exc, ap_for, 
    ap_iseq, ap_ir1, ap_gnm, ap_gtp, gnms_nil, gnms_cons, ap_gsub, Option.map_some, Option.bind_some, loopN_next, loopN_cont, ty_int, ty_bl, ty_str, 
    ty_non, ty_tup, ty_lst, ty_ref, isi_ap, len_ref, get_last, append_last, tuple_last, list_last, add_ii, sub_ii, mul_ii, mulOk_l, mulOk_r, fdiv_ii, 
    divmod_ii, mod_ii, pow_ii, neg_i, ord_ii, is_non, isnt_non, is_bl, isnt_bl, abs_i, int_i, int_b, max_ii, min_ii, len_tup, len_lst, tuple_lst, 
    tuple_tup, list_lst, list_tup, List.getElem?_cons_zero, List.getElem?_cons_succ, List.set_cons_zero, List.set_cons_succ, List.map_cons, List.map_nil, 
    List.cons_append, List.nil_append, List.reduceReplicate, Nat.reduceSub, List.length_cons, List.length_nil, if_true, if_false, reduceIte, reduceCtorEq, 
    Bool.false_eq_true, Bool.true_eq_false, sizeLine_eq, Int.reduceToNat, newCell, ix_tupm, ix_lstm, atI_0, atI_1, atI_2, atI_3, atI_4, atI_5, seq_ss, 
    decide_true, decide_false, ap_meth, st_ins, nl_has, nl_lay, nl_turn, nl_reckon, nl_lay_fact, nl_asked, nl_do, beq_iff_eq, at_pile, at_facts, at_shut, 
    len_pile, st_p, ty_pile, List.length_map, List.length_reverse, Bool.or_true, Bool.or_false, Bool.not_true, Bool.not_false, eqv_ii, nev_ii, ix_w, wayD, 
    st_wl, app_w hw']
        | true =>
          simp only [if_true] at h
          cases r with
          | nil =>
            obtain ⟨rfl, rfl⟩ := Prod.mk.inj h
            refine ⟨a, b, c, ?_⟩
            unfold L_opens_1 oloc Row.d
            simp (config := { decide := true }) only [bind_ok, bind_exc, toS_ok, toS_exc, ap_var, ap_c, ap_op2, ap_op1, ap_and, ap_or, ap_not, ap_if, ap_tval, ap_ttruth, ap_tand, ap_tor, ap_tnot, ap_ttrue, 
    ap_nil, ap_cons, ap_tup, ap_lst, ap_lstM, ap_app, ap_sl, ap_pno, ap_pat, toI_int, ap_mt, ap_chain, isBl_bl, truD_bl, truD_int, ap_snil, ap_sbrk, 
    ap_scont, ap_sexpr, ap_sret, ap_sretn, ap_sif, ap_sset, ap_sasg, ap_spar, ap_saug, ap_seq, seqK_next, seqK_ret, seqK_brk, seqK_cont, seqK_exc, ap_for, 
    ap_iseq, ap_ir1, ap_gnm, ap_gtp, gnms_nil, gnms_cons, ap_gsub, Option.map_some, Option.bind_some, loopN_next, loopN_cont, ty_int, ty_bl, ty_str, 
    ty_non, ty_tup, ty_lst, ty_ref, isi_ap, len_ref, get_last, append_last, tuple_last, list_last, add_ii, sub_ii, mul_ii, mulOk_l, mulOk_r, fdiv_ii, 
    divmod_ii, mod_ii, pow_ii, neg_i, ord_ii, is_non, isnt_non, is_bl, isnt_bl, abs_i, int_i, int_b, max_ii, min_ii, len_tup, len_lst, tuple_lst, 
    tuple_tup, list_lst, list_tup, List.getElem?_cons_zero, List.getElem?_cons_succ, List.set_cons_zero, List.set_cons_succ, List.map_cons, List.map_nil, 
    List.cons_append, List.nil_append, List.reduceReplicate, Nat.reduceSub, List.length_cons, List.length_nil, if_true, if_false, reduceIte, reduceCtorEq, 
    Bool.false_eq_true, Bool.true_eq_false, sizeLine_eq, Int.reduceToNat, newCell, ix_tupm, ix_lstm, atI_0, atI_1, atI_2, atI_3, atI_4, atI_5, seq_ss, 
    decide_true, decide_false, ap_meth, st_ins, nl_has, nl_lay, nl_turn, nl_reckon, nl_lay_fact, nl_asked, nl_do, beq_iff_eq, at_pile, at_facts, at_shut, 
    len_pile, st_p, ty_pile, List.length_map, List.length_reverse, Bool.or_true, Bool.or_false, Bool.not_true, Bool.not_false, eqv_ii, nev_ii, ix_w, wayD, 
    st_wl, app_w hw', f_asked0 f.pure]
          | cons x r =>
            obtain ⟨rfl, rfl⟩ := Prod.mk.inj h
            refine ⟨some (.bl true), b, c, ?_⟩
            unfold L_opens_1 oloc Row.d
            simp (config := { decide := true }) only [bind_ok, bind_exc, toS_ok, toS_exc, ap_var, ap_c, ap_op2, ap_op1, ap_and, ap_or, ap_not, ap_if, ap_tval, ap_ttruth, ap_tand, ap_tor, ap_tnot, ap_ttrue, 
    ap_nil, ap_cons, ap_tup, ap_lst, ap_lstM, ap_app, ap_sl, ap_pno, ap_pat, toI_int, ap_mt, ap_chain, isBl_bl, truD_bl, truD_int, ap_snil, ap_sbrk, 
    ap_scont, ap_sexpr, ap_sret, ap_sretn, ap_sif, ap_sset, ap_sasg, ap_spar, ap_saug, ap_seq, seqK_next, seqK_ret, seqK_brk, seqK_cont, seqK_exc, ap_for, 
    ap_iseq, ap_ir1, ap_gnm, ap_gtp, gnms_nil, gnms_cons, ap_gsub, Option.map_some, Option.bind_some, loopN_next, loopN_cont, ty_int, ty_bl, ty_str, 
    ty_non, ty_tup, ty_lst, ty_ref, isi_ap, len_ref, get_last, append_last, tuple_last, list_last, add_ii, sub_ii, mul_ii, mulOk_l, mulOk_r, fdiv_ii, 
    divmod_ii, mod_ii, pow_ii, neg_i, ord_ii, is_non, isnt_non, is_bl, isnt_bl, abs_i, int_i, int_b, max_ii, min_ii, len_tup, len_lst, tuple_lst, 
    tuple_tup, list_lst, list_tup, List.getElem?_cons_zero, List.getElem?_cons_succ, List.set_cons_zero, List.set_cons_succ, List.map_cons, List.map_nil, 
    List.cons_append, List.nil_append, List.reduceReplicate, Nat.reduceSub, List.length_cons, List.length_nil, if_true, if_false, reduceIte, reduceCtorEq, 
    Bool.false_eq_true, Bool.true_eq_false, sizeLine_eq, Int.reduceToNat, newCell, ix_tupm, ix_lstm, atI_0, atI_1, atI_2, atI_3, atI_4, atI_5, seq_ss, 
    decide_true, decide_false, ap_meth, st_ins, nl_has, nl_lay, nl_turn, nl_reckon, nl_lay_fact, nl_asked, nl_do, beq_iff_eq, at_pile, at_facts, at_shut, 
    len_pile, st_p, ty_pile, List.length_map, List.length_reverse, Bool.or_true, Bool.or_false, Bool.not_true, Bool.not_false, eqv_ii, nev_ii, ix_w, wayD, 
    st_wl, app_w hw', f_asked1 f.pure]
      | els =>
        have e : turn1 f .els ((p1, p2) :: ws) r = some ((p1, p1 && !p2) :: ws, (false, r)) := rfl
        rw [e] at h
        obtain ⟨rfl, rfl⟩ := Prod.mk.inj (Option.some.inj h)
        refine ⟨a, some (.bl p1), some (.bl p2), ?_⟩
        unfold L_opens_1 oloc Row.d
        cases p1 with
        | true => simp (config := { decide := true }) only [bind_ok, bind_exc, toS_ok, toS_exc, ap_var, ap_c, ap_op2, ap_op1, ap_and, ap_or, ap_not, ap_if, ap_tval, ap_ttruth, ap_tand, ap_tor, ap_tnot, ap_ttrue, 
    ap_nil, ap_cons, ap_tup, ap_lst, ap_lstM, ap_app, ap_sl, ap_pno, ap_pat, toI_int, ap_mt, ap_chain, isBl_bl, truD_bl, truD_int, ap_snil, ap_sbrk, 
    ap_scont, ap_sexpr, ap_sret, ap_sretn, ap_sif, ap_sset, ap_sasg, ap_spar, ap_saug, ap_seq, seqK_next, seqK_ret, seqK_brk, seqK_cont, seqK_exc, ap_for, 
    ap_iseq, ap_ir1, ap_gnm, ap_gtp, gnms_nil, gnms_cons, ap_gsub, Option.map_some, Option.bind_some, loopN_next, loopN_cont, ty_int, ty_bl, ty_str, 
    ty_non, ty_tup, ty_lst, ty_ref, isi_ap, len_ref, get_last, append_last, tuple_last, list_last, add_ii, sub_ii, mul_ii, mulOk_l, mulOk_r, fdiv_ii, 
    divmod_ii, mod_ii, pow_ii, neg_i, ord_ii, is_non, isnt_non, is_bl, isnt_bl, abs_i, int_i, int_b, max_ii, min_ii, len_tup, len_lst, tuple_lst, 
    tuple_tup, list_lst, list_tup, List.getElem?_cons_zero, List.getElem?_cons_succ, List.set_cons_zero, List.set_cons_succ, List.map_cons, List.map_nil, 
    List.cons_append, List.nil_append, List.reduceReplicate, Nat.reduceSub, List.length_cons, List.length_nil, if_true, if_false, reduceIte, reduceCtorEq, 
    Bool.false_eq_true, Bool.true_eq_false, sizeLine_eq, Int.reduceToNat, newCell, ix_tupm, ix_lstm, atI_0, atI_1, atI_2, atI_3, atI_4, atI_5, seq_ss, 
    decide_true, decide_false, ap_meth, st_ins, nl_has, nl_lay, nl_turn, nl_reckon, nl_lay_fact, nl_asked, nl_do, beq_iff_eq, at_pile, at_facts, at_shut, 
    len_pile, st_p, ty_pile, List.length_map, List.length_reverse, Bool.or_true, Bool.or_false, Bool.not_true, Bool.not_false, eqv_ii, nev_ii, pop_w, wayD, 
    st_wl, app_w hw2, Bool.true_and]
        | false => simp (config := { decide := true }) only [bind_ok, bind_exc, toS_ok, toS_exc, ap_var, ap_c, ap_op2, ap_op1, ap_and, ap_or, ap_not, ap_if, ap_tval, ap_ttruth, ap_tand, ap_tor, ap_tnot, ap_ttrue, 
    ap_nil, ap_cons, ap_tup, ap_lst, ap_lstM, ap_app, ap_sl, ap_pno, ap_pat, toI_int, ap_mt, ap_chain, isBl_bl, truD_bl, truD_int, ap_snil, ap_sbrk, 
    ap_scont, ap_sexpr, ap_sret, ap_sretn, ap_sif, ap_sset, ap_sasg, ap_spar, ap_saug, ap_seq, seqK_next, seqK_ret, seqK_brk, seqK_cont, seqK_exc, ap_for, 
    ap_iseq, ap_ir1, ap_gnm, ap_gtp, gnms_nil, gnms_cons, ap_gsub, Option.map_some, Option.bind_some, loopN_next, loopN_cont, ty_int, ty_bl, ty_str, 
    ty_non, ty_tup, ty_lst, ty_ref, isi_ap, len_ref, get_last, append_last, tuple_last, list_last, add_ii, sub_ii, mul_ii, mulOk_l, mulOk_r, fdiv_ii, 
    divmod_ii, mod_ii, pow_ii, neg_i, ord_ii, is_non, isnt_non, is_bl, isnt_bl, abs_i, int_i, int_b, max_ii, min_ii, len_tup, len_lst, tuple_lst, 
    tuple_tup, list_lst, list_tup, List.getElem?_cons_zero, List.getElem?_cons_succ, List.set_cons_zero, List.set_cons_succ, List.map_cons, List.map_nil, 
    List.cons_append, List.nil_append, List.reduceReplicate, Nat.reduceSub, List.length_cons, List.length_nil, if_true, if_false, reduceIte, reduceCtorEq, 
    Bool.false_eq_true, Bool.true_eq_false, sizeLine_eq, Int.reduceToNat, newCell, ix_tupm, ix_lstm, atI_0, atI_1, atI_2, atI_3, atI_4, atI_5, seq_ss, 
    decide_true, decide_false, ap_meth, st_ins, nl_has, nl_lay, nl_turn, nl_reckon, nl_lay_fact, nl_asked, nl_do, beq_iff_eq, at_pile, at_facts, at_shut, 
    len_pile, st_p, ty_pile, List.length_map, List.length_reverse, Bool.or_true, Bool.or_false, Bool.not_true, Bool.not_false, eqv_ii, nev_ii, pop_w, wayD, 
    st_wl, app_w hw2, Bool.false_and]
      | fin =>
        have e : turn1 f .fin ((p1, p2) :: ws) r = some (ws, (false, r)) := rfl
        rw [e] at h
        obtain ⟨rfl, rfl⟩ := Prod.mk.inj (Option.some.inj h)
        refine ⟨a, b, c, ?_⟩
        unfold L_opens_1 oloc Row.d
        simp (config := { decide := true }) only [bind_ok, bind_exc, toS_ok, toS_exc, ap_var, ap_c, ap_op2, ap_op1, ap_and, ap_or, ap_not, ap_if, ap_tval, ap_ttruth, ap_tand, ap_tor, ap_tnot, ap_ttrue, 
    ap_nil, ap_cons, ap_tup, ap_lst, ap_lstM, ap_app, ap_sl, ap_pno, ap_pat, toI_int, ap_mt, ap_chain, isBl_bl, truD_bl, truD_int, ap_snil, ap_sbrk, 
    ap_scont, ap_sexpr, ap_sret, ap_sretn, ap_sif, ap_sset, ap_sasg, ap_spar, ap_saug, ap_seq, seqK_next, seqK_ret, seqK_brk, seqK_cont, seqK_exc, ap_for, 
    ap_iseq, ap_ir1, ap_gnm, ap_gtp, gnms_nil, gnms_cons, ap_gsub, Option.map_some, Option.bind_some, loopN_next, loopN_cont, ty_int, ty_bl, ty_str, 
    ty_non, ty_tup, ty_lst, ty_ref, isi_ap, len_ref, get_last, append_last, tuple_last, list_last, add_ii, sub_ii, mul_ii, mulOk_l, mulOk_r, fdiv_ii, 
    divmod_ii, mod_ii, pow_ii, neg_i, ord_ii, is_non, isnt_non, is_bl, isnt_bl, abs_i, int_i, int_b, max_ii, min_ii, len_tup, len_lst, tuple_lst, 
    tuple_tup, list_lst, list_tup, List.getElem?_cons_zero, List.getElem?_cons_succ, List.set_cons_zero, List.set_cons_succ, List.map_cons, List.map_nil, 
    List.cons_append, List.nil_append, List.reduceReplicate, Nat.reduceSub, List.length_cons, List.length_nil, if_true, if_false, reduceIte, reduceCtorEq, 
    Bool.false_eq_true, Bool.true_eq_false, sizeLine_eq, Int.reduceToNat, newCell, ix_tupm, ix_lstm, atI_0, atI_1, atI_2, atI_3, atI_4, atI_5, seq_ss, 
    decide_true, decide_false, ap_meth, st_ins, nl_has, nl_lay, nl_turn, nl_reckon, nl_lay_fact, nl_asked, nl_do, beq_iff_eq, at_pile, at_facts, at_shut, 
    len_pile, st_p, ty_pile, List.length_map, List.length_reverse, Bool.or_true, Bool.or_false, Bool.not_true, Bool.not_false, eqv_ii, nev_ii, pop_w, wayD, 
    st_wl]
      | _ => exact absurd rfl hp
/-! ### the lock, row by row -/
def orun (f : Fx) : List Row → Ways → List Int → Option (Option (List Int))
  | [], _, r => some (some r)
  | w :: rows, ws, r => match turn1 f w ws r with
    | none => none
    | some (ws', (sh, r')) => if sh then some none else orun f rows ws' r'
theorem lay_fit {t : Tr} (h : Fit t.2) : Fit (lay x t).2 := by
  unfold lay
  split
  · exact h
  · next hn =>
    rw [not_or] at hn
    have h2 := h.1
    refine ⟨by simp; omega, fun y hy => ?_⟩
    rcases List.mem_cons.mp hy with rfl | hy
    · omega
    · exact h.2 y hy
theorem step_fit (f : Fx) (w : Row) (h : Fit r) : Fit (step f w r).2 := by
  unfold step
  split <;> first
    | exact h.tail
    | exact lay_fit h.tail
    | exact lay_fit h.tail.tail
    | exact lay_fit h
    | exact h
    | skip
  · have h1 := h.2
    exact ⟨by have := h.1; simp at this ⊢; omega, fun y hy => h1 y (by simp at hy ⊢; rcases hy with rfl | rfl | hy <;> simp [*])⟩
  · split
    · exact lay_fit h
    · exact h
theorem turn1_fit (f : Fx) (w : Row) {ws ws' : Ways} {t' : Tr} (h : Fit r) (e : turn1 f w ws r = some (ws', t')) : Fit t'.2 ∧ ws'.length ≤ ws.length + 1 := by
  cases ws with
  | nil => cases w <;> cases e
  | cons p ws =>
    by_cases hp : w.plain = true
    · have e2 : turn1 f w (p :: ws) r = some (p :: ws, if p.2 then step f w r else (false, r)) := by cases w <;> first | rfl | cases hp
      rw [e2] at e
      obtain ⟨rfl, rfl⟩ := Prod.mk.inj (Option.some.inj e)
      refine ⟨?_, by omega⟩
      split
      · exact step_fit f w h
      · exact h
    · cases w with
      | iff =>
        have e2 : turn1 f .iff (p :: ws) r = some (if p.2 then ifT p ws r else ((false, false) :: p :: ws, (false, r))) := rfl
        rw [e2] at e
        have e := Option.some.inj e
        split at e
        · cases r with
          | nil => obtain ⟨rfl, rfl⟩ := Prod.mk.inj e; exact ⟨h, by simp⟩
          | cons x r => obtain ⟨rfl, rfl⟩ := Prod.mk.inj e; exact ⟨h.tail, by simp⟩
        · obtain ⟨rfl, rfl⟩ := Prod.mk.inj e; exact ⟨h, by simp⟩
      | els =>
        obtain ⟨rfl, rfl⟩ := Prod.mk.inj (Option.some.inj (show some ((p.1, p.1 && !p.2) :: ws, ((false, r) : Tr)) = some (ws', t') from e))
        exact ⟨h, by simp⟩
      | fin =>
        obtain ⟨rfl, rfl⟩ := Prod.mk.inj (Option.some.inj (show some (ws, ((false, r) : Tr)) = some (ws', t') from e))
        exact ⟨h, by simp; omega⟩
      | _ => exact absurd rfl hp
theorem o_loop (f : Fx) (gd : Sto → Prop) (hg : ∀ (t : Tr) (ws : Ways), gd (St S f.d t [wc ws])) (lk ks : D) : ∀ (rows : List Row) (ws : Ways) (r : List Int) (l : DL.Loc) (o : Option (List Int)), Fit r → ws.length + rows.length < 900 → orun f rows ws r = some o →
    (∃ w a b c, l = [some lk, some ks, some f.d, some (.ref S.length), some (.ref (S.length + 2)), w, a, b, c]) →
    (match o with
      | none => ∃ S', forL gd (gNm 5) L_opens_1 (rows.map Row.d) l (St S f.d (false, r) [wc ws]) = .ret (.bl false) S' ∧ ∃ t ws', S' = St S f.d t [wc ws']
      | some r' => ∃ l' ws', forL gd (gNm 5) L_opens_1 (rows.map Row.d) l (St S f.d (false, r) [wc ws]) = .next l' (St S f.d (false, r') [wc ws']) ∧ ∃ w a b c, l' = [some lk, some ks, some f.d, some (.ref S.length), some (.ref (S.length + 2)), w, a, b, c])
  | [], ws, r, l, o, hf, hw, h, hl => by
    obtain rfl := Option.some.inj h
    refine ⟨l, ws, ?_, hl⟩
    rw [List.map_nil]
    unfold forL
    rw [if_pos (hg _ _)]
  | w :: rows, ws, r, l, o, hf, hw, h, hl => by
    obtain ⟨w0, a, b, c, rfl⟩ := hl
    unfold orun at h
    cases e : turn1 f w ws r with
    | none => rw [e] at h; cases h
    | some q =>
      obtain ⟨ws', sh, r'⟩ := q
      rw [e] at h
      simp only at h
      obtain ⟨a', b', c', e2⟩ := o_step (S := S) f w ws ws' (sh, r') hf (by omega) e lk ks a b c
      obtain ⟨hf', hw'⟩ := turn1_fit f w hf e
      rw [List.map_cons]
      unfold forL
      rw [if_pos (hg _ _)]
      have eg : gNm 5 w.d [some lk, some ks, some f.d, some (.ref S.length), some (.ref (S.length + 2)), w0, a, b, c] (St S f.d (false, r) [wc ws]) = some (oloc lk ks f.d S.length w.d a b c, St S f.d (false, r) [wc ws]) := rfl
      rw [eg]
      simp only
      cases sh with
      | true =>
        simp only [if_true] at h e2
        obtain rfl := Option.some.inj h
        rw [e2]
        exact ⟨_, rfl, _, _, rfl⟩
      | false =>
        simp only [Bool.false_eq_true, if_false] at h e2
        rw [e2]
        exact o_loop f gd hg lk ks rows ws' r' _ o hf' (by simp at hw; omega) h ⟨_, _, _, _, rfl⟩
theorem f_init (keys : List Int) : F_Trial___init__ [.ref S.length, .tup (keys.map D.int), fx] (S ++ [.ins 0 []]) = .ok .non (St S fx (false, keys.reverse) []) := by
  refine run_none rfl (m := .rw) (l' := [some (.ref S.length), some (.tup (keys.map D.int)), some fx]) (S' := St S fx (false, keys.reverse) []) ?_ rfl
  unfold A_Trial___init__
  have i0 : ∀ (fs : List (Str × D)) (T : Sto), insOf (S ++ .ins 0 fs :: T) 0 (.ref S.length) = some (S.length, fs) := fun fs T => by
    show (match (S ++ .ins 0 fs :: T)[S.length]? with
      | some (.ins c' fs) => if c' = 0 then some (S.length, fs) else none
      | _ => none) = _
    rw [List.getElem?_append_right (Nat.le_refl _), Nat.sub_self]; rfl
  have s0 : ∀ (fs gs : List (Str × D)) (T : Sto), (S ++ .ins 0 fs :: T).set S.length (.ins 0 gs) = S ++ .ins 0 gs :: T := fun fs gs T => by
    rw [List.set_append_right _ _ (Nat.le_refl _), Nat.sub_self]; rfl
  have l0 : listDM [.tup (keys.map D.int)] (S ++ [.ins 0 []]) = .ok (.ref (S.length + 1)) (S ++ .ins 0 [] :: [.lst (keys.map D.int)]) := by
    show newCell _ _ = _
    unfold newCell
    simp
  have p1 : putD ("pile" : Str) (.ref (S.length + 1)) [] = ([(("pile" : Str), .ref (S.length + 1))] : List (Str × D)) := rfl
  have p2 : putD ("facts" : Str) fx [(("pile" : Str), .ref (S.length + 1))] = ([(("pile" : Str), .ref (S.length + 1)), (("facts" : Str), fx)] : List (Str × D)) := rfl
  have p3 : putD ("shut" : Str) (.bl false) [(("pile" : Str), .ref (S.length + 1)), (("facts" : Str), fx)] = fsT S.length fx false := rfl
  simp (config := { decide := true }) only [bind_ok, bind_exc, toS_ok, toS_exc, ap_var, ap_c, ap_op2, ap_op1, ap_and, ap_or, ap_not, ap_if, ap_tval, ap_ttruth, ap_tand, ap_tor, ap_tnot, ap_ttrue, 
    ap_nil, ap_cons, ap_tup, ap_lst, ap_lstM, ap_app, ap_sl, ap_pno, ap_pat, toI_int, ap_mt, ap_chain, isBl_bl, truD_bl, truD_int, ap_snil, ap_sbrk, 
    ap_scont, ap_sexpr, ap_sret, ap_sretn, ap_sif, ap_sset, ap_sasg, ap_spar, ap_saug, ap_seq, seqK_next, seqK_ret, seqK_brk, seqK_cont, seqK_exc, ap_for, 
    ap_iseq, ap_ir1, ap_gnm, ap_gtp, gnms_nil, gnms_cons, ap_gsub, Option.map_some, Option.bind_some, loopN_next, loopN_cont, ty_int, ty_bl, ty_str, 
    ty_non, ty_tup, ty_lst, ty_ref, isi_ap, len_ref, get_last, append_last, tuple_last, list_last, add_ii, sub_ii, mul_ii, mulOk_l, mulOk_r, fdiv_ii, 
    divmod_ii, mod_ii, pow_ii, neg_i, ord_ii, is_non, isnt_non, is_bl, isnt_bl, abs_i, int_i, int_b, max_ii, min_ii, len_tup, len_lst, tuple_lst, 
    tuple_tup, list_lst, list_tup, List.getElem?_cons_zero, List.getElem?_cons_succ, List.set_cons_zero, List.set_cons_succ, List.map_cons, List.map_nil, 
    List.cons_append, List.nil_append, List.reduceReplicate, Nat.reduceSub, List.length_cons, List.length_nil, if_true, if_false, reduceIte, reduceCtorEq, 
    Bool.false_eq_true, Bool.true_eq_false, sizeLine_eq, Int.reduceToNat, newCell, ix_tupm, ix_lstm, atI_0, atI_1, atI_2, atI_3, atI_4, atI_5, seq_ss, 
    decide_true, decide_false, ap_meth, st_ins, nl_has, nl_lay, nl_turn, nl_reckon, nl_lay_fact, nl_asked, nl_do, beq_iff_eq, at_pile, at_facts, at_shut, 
    len_pile, st_p, ty_pile, List.length_map, List.length_reverse, Bool.or_true, Bool.or_false, Bool.not_true, Bool.not_false, eqv_ii, nev_ii, ap_sattr, 
    l0, i0, s0, p1, p2, p3]
  unfold St insT
  simp
def oans : Option (List Int) → Bool
  | some (x :: _) => !(x == 0)
  | _ => false
theorem ix_top {x : Int} : atI ((x :: r).reverse.map D.int) (-1) = some (.int x) := by
  simp only [List.reverse_cons, List.map_append, List.map_cons, List.map_nil]
  exact atI_last _ _
theorem dps_ints : ∀ l : List Int, dps (l.map D.int) = 0
  | [] => by unfold dps; rfl
  | w :: ws => by
    rw [List.map_cons]
    unfold dps
    rw [dps_ints ws]
    unfold dp; rfl
/-- whether keys open a lock -/
theorem f_opens (f : Fx) (rows : List Row) (keys : List Int) (o : Option (List Int)) (hk : Fit keys.reverse) (hr : rows.length < 800) (h : orun f rows [(true, true)] keys.reverse = some o) (S : Sto) :
    F_opens [.tup (rows.map Row.d), .tup (keys.map D.int), f.d] S = .ok (.bl (oans o)) S := by
  have lp := o_loop (S := S) f (fun _ => True) (fun _ _ => trivial) (.tup (rows.map Row.d)) (.tup (keys.map D.int)) rows [(true, true)] keys.reverse
    [some (.tup (rows.map Row.d)), some (.tup (keys.map D.int)), some f.d, some (.ref S.length), some (.ref (S.length + 2)), none, none, none, none] o hk (by simp; omega) h ⟨_, _, _, _, rfl⟩
  have l1 : (St S f.d (false, keys.reverse) []).length = S.length + 2 := by rw [st_len]; rfl
  have l2 : St S f.d (false, keys.reverse) [] ++ [Cell.lst [D.tup [D.bl true, D.bl true]]] = St S f.d (false, keys.reverse) [wc [(true, true)]] := by
    unfold St wc wayD; simp
  have fin : ∀ {S' : Sto} {t : Tr} {ws : Ways} {b : Bool}, A_opens [some (.tup (rows.map Row.d)), some (.tup (keys.map D.int)), some f.d, none, none, none, none, none, none] S = .ret (.bl b) S' → S' = St S f.d t [wc ws] →
      F_opens [.tup (rows.map Row.d), .tup (keys.map D.int), f.d] S = .ok (.bl b) S := fun {S' t ws b} h1 h2 => run_ret rfl h1 (by subst h2; exact exit_ext (fz_rlt _ _ _ _ (pure_bl b _)))
  have i1 := @f_init S f.d keys
  cases o with
  | none =>
    obtain ⟨S', e, t, ws', hS⟩ := lp
    refine fin (S' := S') (b := false) ?_ hS
    unfold A_opens
    simp (config := { decide := true }) only [bind_ok, bind_exc, toS_ok, toS_exc, ap_var, ap_c, ap_op2, ap_op1, ap_and, ap_or, ap_not, ap_if, ap_tval, ap_ttruth, ap_tand, ap_tor, ap_tnot, ap_ttrue, 
    ap_nil, ap_cons, ap_tup, ap_lst, ap_lstM, ap_app, ap_sl, ap_pno, ap_pat, toI_int, ap_mt, ap_chain, isBl_bl, truD_bl, truD_int, ap_snil, ap_sbrk, 
    ap_scont, ap_sexpr, ap_sret, ap_sretn, ap_sif, ap_sset, ap_sasg, ap_spar, ap_saug, ap_seq, seqK_next, seqK_ret, seqK_brk, seqK_cont, seqK_exc, ap_for, 
    ap_iseq, ap_ir1, ap_gnm, ap_gtp, gnms_nil, gnms_cons, ap_gsub, Option.map_some, Option.bind_some, loopN_next, loopN_cont, ty_int, ty_bl, ty_str, 
    ty_non, ty_tup, ty_lst, ty_ref, isi_ap, len_ref, get_last, append_last, tuple_last, list_last, add_ii, sub_ii, mul_ii, mulOk_l, mulOk_r, fdiv_ii, 
    divmod_ii, mod_ii, pow_ii, neg_i, ord_ii, is_non, isnt_non, is_bl, isnt_bl, abs_i, int_i, int_b, max_ii, min_ii, len_tup, len_lst, tuple_lst, 
    tuple_tup, list_lst, list_tup, List.getElem?_cons_zero, List.getElem?_cons_succ, List.set_cons_zero, List.set_cons_succ, List.map_cons, List.map_nil, 
    List.cons_append, List.nil_append, List.reduceReplicate, Nat.reduceSub, List.length_cons, List.length_nil, if_true, if_false, reduceIte, reduceCtorEq, 
    Bool.false_eq_true, Bool.true_eq_false, sizeLine_eq, Int.reduceToNat, newCell, ix_tupm, ix_lstm, atI_0, atI_1, atI_2, atI_3, atI_4, atI_5, seq_ss, 
    decide_true, decide_false, ap_meth, st_ins, nl_has, nl_lay, nl_turn, nl_reckon, nl_lay_fact, nl_asked, nl_do, beq_iff_eq, at_pile, at_facts, at_shut, 
    len_pile, st_p, ty_pile, List.length_map, List.length_reverse, Bool.or_true, Bool.or_false, Bool.not_true, Bool.not_false, eqv_ii, nev_ii, ap_new, i1, 
    seqOf_tup, l1, l2, e]
  | some r' =>
    obtain ⟨l', ws', e, w, a, b, c, rfl⟩ := lp
    have ne : nevD (.ref (S.length + 1)) (.lst []) (St S f.d (false, r') [wc ws']) = .ok (.bl (!(r'.reverse.map D.int).isEmpty)) (St S f.d (false, r') [wc ws']) := nev_empty st_p (by rw [dps_ints]; omega)
    cases r' with
    | nil =>
      refine fin (S' := St S f.d (false, []) [wc ws']) (b := false) ?_ rfl
      unfold A_opens
      simp only [List.reverse_nil, List.map_nil, List.isEmpty_nil] at ne
      simp (config := { decide := true }) only [bind_ok, bind_exc, toS_ok, toS_exc, ap_var, ap_c, ap_op2, ap_op1, ap_and, ap_or, ap_not, ap_if, ap_tval, ap_ttruth, ap_tand, ap_tor, ap_tnot, ap_ttrue, 
    ap_nil, ap_cons, ap_tup, ap_lst, ap_lstM, ap_app, ap_sl, ap_pno, ap_pat, toI_int, ap_mt, ap_chain, isBl_bl, truD_bl, truD_int, ap_snil, ap_sbrk, 
    ap_scont, ap_sexpr, ap_sret, ap_sretn, ap_sif, ap_sset, ap_sasg, ap_spar, ap_saug, ap_seq, seqK_next, seqK_ret, seqK_brk, seqK_cont, seqK_exc, ap_for, 
    ap_iseq, ap_ir1, ap_gnm, ap_gtp, gnms_nil, gnms_cons, ap_gsub, Option.map_some, Option.bind_some, loopN_next, loopN_cont, ty_int, ty_bl, ty_str, 
    ty_non, ty_tup, ty_lst, ty_ref, isi_ap, len_ref, get_last, append_last, tuple_last, list_last, add_ii, sub_ii, mul_ii, mulOk_l, mulOk_r, fdiv_ii, 
    divmod_ii, mod_ii, pow_ii, neg_i, ord_ii, is_non, isnt_non, is_bl, isnt_bl, abs_i, int_i, int_b, max_ii, min_ii, len_tup, len_lst, tuple_lst, 
    tuple_tup, list_lst, list_tup, List.getElem?_cons_zero, List.getElem?_cons_succ, List.set_cons_zero, List.set_cons_succ, List.map_cons, List.map_nil, 
    List.cons_append, List.nil_append, List.reduceReplicate, Nat.reduceSub, List.length_cons, List.length_nil, if_true, if_false, reduceIte, reduceCtorEq, 
    Bool.false_eq_true, Bool.true_eq_false, sizeLine_eq, Int.reduceToNat, newCell, ix_tupm, ix_lstm, atI_0, atI_1, atI_2, atI_3, atI_4, atI_5, seq_ss, 
    decide_true, decide_false, ap_meth, st_ins, nl_has, nl_lay, nl_turn, nl_reckon, nl_lay_fact, nl_asked, nl_do, beq_iff_eq, at_pile, at_facts, at_shut, 
    len_pile, st_p, ty_pile, List.length_map, List.length_reverse, Bool.or_true, Bool.or_false, Bool.not_true, Bool.not_false, eqv_ii, nev_ii, ap_new, i1, 
    seqOf_tup, l1, l2, e, ne]
    | cons x r' =>
      refine fin (S' := St S f.d (false, x :: r') [wc ws']) (b := !(x == 0)) ?_ rfl
      unfold A_opens
      have hne : ((x :: r').reverse.map D.int).isEmpty = false := by simp
      rw [hne] at ne
      simp (config := { decide := true }) only [bind_ok, bind_exc, toS_ok, toS_exc, ap_var, ap_c, ap_op2, ap_op1, ap_and, ap_or, ap_not, ap_if, ap_tval, ap_ttruth, ap_tand, ap_tor, ap_tnot, ap_ttrue, 
    ap_nil, ap_cons, ap_tup, ap_lst, ap_lstM, ap_app, ap_sl, ap_pno, ap_pat, toI_int, ap_mt, ap_chain, isBl_bl, truD_bl, truD_int, ap_snil, ap_sbrk, 
    ap_scont, ap_sexpr, ap_sret, ap_sretn, ap_sif, ap_sset, ap_sasg, ap_spar, ap_saug, ap_seq, seqK_next, seqK_ret, seqK_brk, seqK_cont, seqK_exc, ap_for, 
    ap_iseq, ap_ir1, ap_gnm, ap_gtp, gnms_nil, gnms_cons, ap_gsub, Option.map_some, Option.bind_some, loopN_next, loopN_cont, ty_int, ty_bl, ty_str, 
    ty_non, ty_tup, ty_lst, ty_ref, isi_ap, len_ref, get_last, append_last, tuple_last, list_last, add_ii, sub_ii, mul_ii, mulOk_l, mulOk_r, fdiv_ii, 
    divmod_ii, mod_ii, pow_ii, neg_i, ord_ii, is_non, isnt_non, is_bl, isnt_bl, abs_i, int_i, int_b, max_ii, min_ii, len_tup, len_lst, tuple_lst, 
    tuple_tup, list_lst, list_tup, List.getElem?_cons_zero, List.getElem?_cons_succ, List.set_cons_zero, List.set_cons_succ, List.map_cons, List.map_nil, 
    List.cons_append, List.nil_append, List.reduceReplicate, Nat.reduceSub, List.length_cons, List.length_nil, if_true, if_false, reduceIte, reduceCtorEq, 
    Bool.false_eq_true, Bool.true_eq_false, sizeLine_eq, Int.reduceToNat, newCell, ix_tupm, ix_lstm, atI_0, atI_1, atI_2, atI_3, atI_4, atI_5, seq_ss, 
    decide_true, decide_false, ap_meth, st_ins, nl_has, nl_lay, nl_turn, nl_reckon, nl_lay_fact, nl_asked, nl_do, beq_iff_eq, at_pile, at_facts, at_shut, 
    len_pile, st_p, ty_pile, List.length_map, List.length_reverse, Bool.or_true, Bool.or_false, Bool.not_true, Bool.not_false, eqv_ii, nev_ii, ap_new, i1, 
    seqOf_tup, l1, l2, e, ne, ix_pile, ix_top]
end
end LW

namespace LW
open PySem PySem.Spec PyProof.Rows L2 DL
def mixed (c : Int) : Int := (c % 2147483647 + 11) * 48271 * 69621 % 2147483629
theorem f_mixed (c : Int) (S : Sto) : F__law_mixed [.int c] S = .ok (.int (mixed c)) S := by
  refine run_flat rfl ?_ (pure_int _ _)
  unfold A__law_mixed
  simp (config := { decide := true }) only [bind_ok, bind_exc, toS_ok, toS_exc, ap_var, ap_c, ap_op2, ap_op1, ap_and, ap_or, ap_not, ap_if, ap_tval, ap_ttruth, ap_tand, ap_tor, ap_tnot, ap_ttrue, 
    ap_nil, ap_cons, ap_tup, ap_lst, ap_lstM, ap_app, ap_sl, ap_pno, ap_pat, toI_int, ap_mt, ap_chain, isBl_bl, truD_bl, truD_int, ap_snil, ap_sbrk, 
    ap_scont, ap_sexpr, ap_sret, ap_sretn, ap_sif, ap_sset, ap_sasg, ap_spar, ap_saug, ap_seq, seqK_next, seqK_ret, seqK_brk, seqK_cont, seqK_exc, ap_for, 
    ap_iseq, ap_ir1, ap_gnm, ap_gtp, gnms_nil, gnms_cons, ap_gsub, Option.map_some, Option.bind_some, loopN_next, loopN_cont, ty_int, ty_bl, ty_str, 
    ty_non, ty_tup, ty_lst, ty_ref, isi_ap, len_ref, get_last, append_last, tuple_last, list_last, add_ii, sub_ii, mul_ii, mulOk_l, mulOk_r, fdiv_ii, 
    divmod_ii, mod_ii, pow_ii, neg_i, ord_ii, is_non, isnt_non, is_bl, isnt_bl, abs_i, int_i, int_b, max_ii, min_ii, len_tup, len_lst, tuple_lst, 
    tuple_tup, list_lst, list_tup, List.getElem?_cons_zero, List.getElem?_cons_succ, List.set_cons_zero, List.set_cons_succ, List.map_cons, List.map_nil, 
    List.cons_append, List.nil_append, List.reduceReplicate, Nat.reduceSub, List.length_cons, List.length_nil, if_true, if_false, reduceIte, reduceCtorEq, 
    Bool.false_eq_true, Bool.true_eq_false, sizeLine_eq, Int.reduceToNat, newCell, ix_tupm, ix_lstm, atI_0, atI_1, atI_2, atI_3, atI_4, atI_5]
  rfl
/-- facts as the law draws them -/
def FxOk (f : Fx) : Prop := (∀ k, 0 ≤ f.five k ∧ f.five k < 10 ^ 62) ∧ f.paid.length ≤ 8 ∧ ∀ p ∈ f.paid, 0 ≤ p ∧ p < 10 ^ 62
theorem add_rl {S : Sto} {n : Nat} {xs ys : List D} (h : S[n]? = some (.lst xs)) (hz : xs.length + ys.length ≤ sizeLine) : addD (.ref n) (.lst ys) S = .ok (.lst (xs ++ ys)) S := by
  show (match listOf S (.ref n), listOf S (.lst ys) with
    | some xs, some ys => if xs.length + ys.length ≤ sizeLine then Res.ok (D.lst (xs ++ ys)) S else Res.bad
    | _, _ => Res.bad) = _
  rw [listOf_ref h, show listOf S (.lst ys) = some ys from rfl]
  exact if_pos hz
theorem facts_loop1 (cd dd : D) (W : List Int) (hW : W.length = 6) (hW2 : ∀ w ∈ W, 1 ≤ w ∧ w ≤ 10 ^ 61) (num : Int) (S : Sto) :
    ∃ (num' : Int) (k g : Option D) (acc : List Int), forL (fun _ => True) (gNm 5) L__law_facts_1 (rangeI 0 5) [some cd, some dd, some (.lst (W.map .int)), some (.int num), some (.ref S.length), none, none, none, none] (S ++ [.lst []]) =
      .next [some cd, some dd, some (.lst (W.map .int)), some (.int num'), some (.ref S.length), k, g, none, none] (S ++ [.lst (acc.map .int)]) ∧ acc.length = 5 ∧ ∀ v ∈ acc, 0 ≤ v ∧ v < 10 ^ 62 := by
  obtain ⟨l', S', e, num', k, g, acc, hl, hS, ha, hv⟩ := forL_range (gd := fun _ => True) (G := gNm 5) (body := L__law_facts_1) (lo := 0) (n := 5)
    (l := [some cd, some dd, some (.lst (W.map .int)), some (.int num), some (.ref S.length), none, none, none, none]) (S := S ++ [.lst []])
    (fun i l S' => ∃ (num' : Int) (k g : Option D) (acc : List Int), l = [some cd, some dd, some (.lst (W.map .int)), some (.int num'), some (.ref S.length), k, g, none, none] ∧ S' = S ++ [.lst (acc.map .int)] ∧ acc.length = i ∧ ∀ v ∈ acc, 0 ≤ v ∧ v < 10 ^ 62)
    ⟨num, none, none, [], rfl, rfl, rfl, fun v hv => by cases hv⟩ (fun _ _ _ _ => trivial) (fun i l S1 hi ⟨num', k, g, acc, hl, hS, ha, hv⟩ => by
      subst hl hS
      refine ⟨_, _, rfl, ?_⟩
      have hi6 : i < W.length := by omega
      have hw := hW2 _ (List.getElem_mem hi6)
      have ix : atI (W.map D.int) (0 + (i : Int)) = some (.int W[i]) := by rw [Int.zero_add]; exact atI_map (List.getElem?_eq_getElem hi6)
      have hz : (acc.map D.int).length < 16777216 := by simp; omega
      refine ⟨[some cd, some dd, some (.lst (W.map .int)), some (.int (num' / W[i])), some (.ref S.length), some (.int (0 + i)), some (.int (num' % W[i])), none, none], S ++ [.lst ((acc ++ [num' % W[i]]).map .int)], ?_, _, _, _, acc ++ [num' % W[i]], rfl, rfl, by simp [ha], fun v hv' => ?_⟩
      · unfold L__law_facts_1
        simp (config := { decide := true }) only [bind_ok, bind_exc, toS_ok, toS_exc, ap_var, ap_c, ap_op2, ap_op1, ap_and, ap_or, ap_not, ap_if, ap_tval, ap_ttruth, ap_tand, ap_tor, ap_tnot, ap_ttrue, 
    ap_nil, ap_cons, ap_tup, ap_lst, ap_lstM, ap_app, ap_sl, ap_pno, ap_pat, toI_int, ap_mt, ap_chain, isBl_bl, truD_bl, truD_int, ap_snil, ap_sbrk, 
    ap_scont, ap_sexpr, ap_sret, ap_sretn, ap_sif, ap_sset, ap_sasg, ap_spar, ap_saug, ap_seq, seqK_next, seqK_ret, seqK_brk, seqK_cont, seqK_exc, ap_for, 
    ap_iseq, ap_ir1, ap_gnm, ap_gtp, gnms_nil, gnms_cons, ap_gsub, Option.map_some, Option.bind_some, loopN_next, loopN_cont, ty_int, ty_bl, ty_str, 
    ty_non, ty_tup, ty_lst, ty_ref, isi_ap, len_ref, get_last, append_last, tuple_last, list_last, add_ii, sub_ii, mul_ii, mulOk_l, mulOk_r, fdiv_ii, 
    divmod_ii, mod_ii, pow_ii, neg_i, ord_ii, is_non, isnt_non, is_bl, isnt_bl, abs_i, int_i, int_b, max_ii, min_ii, len_tup, len_lst, tuple_lst, 
    tuple_tup, list_lst, list_tup, List.getElem?_cons_zero, List.getElem?_cons_succ, List.set_cons_zero, List.set_cons_succ, List.map_cons, List.map_nil, 
    List.cons_append, List.nil_append, List.reduceReplicate, Nat.reduceSub, List.length_cons, List.length_nil, if_true, if_false, reduceIte, reduceCtorEq, 
    Bool.false_eq_true, Bool.true_eq_false, sizeLine_eq, Int.reduceToNat, newCell, ix_tupm, ix_lstm, atI_0, atI_1, atI_2, atI_3, atI_4, atI_5, ix, 
    divmod_ii (divOk_of (show 0 < W[i] by omega) (by omega)), hz, List.map_append]
      · rw [List.mem_append, List.mem_singleton] at hv'
        rcases hv' with hv' | rfl
        · exact hv v hv'
        · have h1 := Int.emod_nonneg num' (show W[i] ≠ 0 by omega)
          have h2 := Int.emod_lt_of_pos num' (show 0 < W[i] by omega)
          omega)
  subst hl hS
  exact ⟨num', k, g, acc, e, ha, hv⟩
theorem facts_loop2 (cd dd fd : D) (W : List Int) (hW : W.length = 6) (hW2 : ∀ w ∈ W, 1 ≤ w ∧ w ≤ 10 ^ 61) (num : Int) (m : Nat) (hm : m ≤ 8) (k0 g0 : Option D) (S : Sto) :
    ∃ (num' : Int) (k g : Option D) (acc : List Int), forL (fun _ => True) (gNm 5) L__law_facts_2 (rangeI 0 m) [some cd, some dd, some (.lst (W.map .int)), some (.int num), some fd, k0, g0, some (.ref S.length), some (.int m)] (S ++ [.lst []]) =
      .next [some cd, some dd, some (.lst (W.map .int)), some (.int num'), some fd, k, g, some (.ref S.length), some (.int m)] (S ++ [.lst (acc.map .int)]) ∧ acc.length = m ∧ ∀ v ∈ acc, 0 ≤ v ∧ v < 10 ^ 62 := by
  obtain ⟨l', S', e, num', k, g, acc, hl, hS, ha, hv⟩ := forL_range (gd := fun _ => True) (G := gNm 5) (body := L__law_facts_2) (lo := 0) (n := m)
    (l := [some cd, some dd, some (.lst (W.map .int)), some (.int num), some fd, k0, g0, some (.ref S.length), some (.int m)]) (S := S ++ [.lst []])
    (fun i l S' => ∃ (num' : Int) (k g : Option D) (acc : List Int), l = [some cd, some dd, some (.lst (W.map .int)), some (.int num'), some fd, k, g, some (.ref S.length), some (.int m)] ∧ S' = S ++ [.lst (acc.map .int)] ∧ acc.length = i ∧ ∀ v ∈ acc, 0 ≤ v ∧ v < 10 ^ 62)
    ⟨num, k0, g0, [], rfl, rfl, rfl, fun v hv => by cases hv⟩ (fun _ _ _ _ => trivial) (fun i l S1 hi ⟨num', k, g, acc, hl, hS, ha, hv⟩ => by
      subst hl hS
      refine ⟨_, _, rfl, ?_⟩
      have hi6 : 5 < W.length := by omega
      have hw := hW2 _ (List.getElem_mem hi6)
      have ix : atI (W.map D.int) 5 = some (.int W[5]) := atI_map (k := 5) (List.getElem?_eq_getElem hi6)
      have hz : (acc.map D.int).length < 16777216 := by simp; omega
      refine ⟨[some cd, some dd, some (.lst (W.map .int)), some (.int (num' / W[5])), some fd, some (.int (0 + i)), some (.int (num' % W[5])), some (.ref S.length), some (.int m)], S ++ [.lst ((acc ++ [num' % W[5]]).map .int)], ?_, _, _, _, acc ++ [num' % W[5]], rfl, rfl, by simp [ha], fun v hv' => ?_⟩
      · unfold L__law_facts_2
        simp (config := { decide := true }) only [bind_ok, bind_exc, toS_ok, toS_exc, ap_var, ap_c, ap_op2, ap_op1, ap_and, ap_or, ap_not, ap_if, ap_tval, ap_ttruth, ap_tand, ap_tor, ap_tnot, ap_ttrue, 
    ap_nil, ap_cons, ap_tup, ap_lst, ap_lstM, ap_app, ap_sl, ap_pno, ap_pat, toI_int, ap_mt, ap_chain, isBl_bl, truD_bl, truD_int, ap_snil, ap_sbrk, 
    ap_scont, ap_sexpr, ap_sret, ap_sretn, ap_sif, ap_sset, ap_sasg, ap_spar, ap_saug, ap_seq, seqK_next, seqK_ret, seqK_brk, seqK_cont, seqK_exc, ap_for, 
    ap_iseq, ap_ir1, ap_gnm, ap_gtp, gnms_nil, gnms_cons, ap_gsub, Option.map_some, Option.bind_some, loopN_next, loopN_cont, ty_int, ty_bl, ty_str, 
    ty_non, ty_tup, ty_lst, ty_ref, isi_ap, len_ref, get_last, append_last, tuple_last, list_last, add_ii, sub_ii, mul_ii, mulOk_l, mulOk_r, fdiv_ii, 
    divmod_ii, mod_ii, pow_ii, neg_i, ord_ii, is_non, isnt_non, is_bl, isnt_bl, abs_i, int_i, int_b, max_ii, min_ii, len_tup, len_lst, tuple_lst, 
    tuple_tup, list_lst, list_tup, List.getElem?_cons_zero, List.getElem?_cons_succ, List.set_cons_zero, List.set_cons_succ, List.map_cons, List.map_nil, 
    List.cons_append, List.nil_append, List.reduceReplicate, Nat.reduceSub, List.length_cons, List.length_nil, if_true, if_false, reduceIte, reduceCtorEq, 
    Bool.false_eq_true, Bool.true_eq_false, sizeLine_eq, Int.reduceToNat, newCell, ix_tupm, ix_lstm, atI_0, atI_1, atI_2, atI_3, atI_4, atI_5, ix, 
    divmod_ii (divOk_of (show 0 < W[5] by omega) (by omega)), hz, List.map_append]
      · rw [List.mem_append, List.mem_singleton] at hv'
        rcases hv' with hv' | rfl
        · exact hv v hv'
        · have h1 := Int.emod_nonneg num' (show W[5] ≠ 0 by omega)
          have h2 := Int.emod_lt_of_pos num' (show 0 < W[5] by omega)
          omega)
  subst hl hS
  exact ⟨num', k, g, acc, e, ha, hv⟩
theorem facts_false (c : Int) (S : Sto) (n1 n2 a0 a1 a2 a3 a4 : Int) (k1 g1 k2 g2 : Option D) (m : Nat) (ps : List Int) (hm : n1 % 9 = (m : Int)) (h8 : m ≤ 8)
    (e1 : forL (fun _ => True) (gNm 5) L__law_facts_1 (rangeI 0 5) [some (.int c), some (.bl false), some (.lst [.int 20, .int 20, .int 50, .int 4, .int 4, .int 30]), some (.int (mixed c * 10 ^ 9 + mixed (c + 1))), some (.ref S.length), none, none, none, none] (S ++ [.lst []]) =
      .next [some (.int c), some (.bl false), some (.lst [.int 20, .int 20, .int 50, .int 4, .int 4, .int 30]), some (.int n1), some (.ref S.length), k1, g1, none, none] (S ++ [.lst [.int a0, .int a1, .int a2, .int a3, .int a4]]))
    (e2 : forL (fun _ => True) (gNm 5) L__law_facts_2 (rangeI 0 m) [some (.int c), some (.bl false), some (.lst [.int 20, .int 20, .int 50, .int 4, .int 4, .int 30]), some (.int (n1 / 9)), some (.ref S.length), k1, g1, some (.ref (S ++ [Cell.lst [.int a0, .int a1, .int a2, .int a3, .int a4]]).length), some (.int m)] (S ++ [.lst [.int a0, .int a1, .int a2, .int a3, .int a4]] ++ [.lst []]) =
      .next [some (.int c), some (.bl false), some (.lst [.int 20, .int 20, .int 50, .int 4, .int 4, .int 30]), some (.int n2), some (.ref S.length), k2, g2, some (.ref (S ++ [Cell.lst [.int a0, .int a1, .int a2, .int a3, .int a4]]).length), some (.int m)] (S ++ [.lst [.int a0, .int a1, .int a2, .int a3, .int a4]] ++ [.lst (ps.map .int)])) :
    A__law_facts [some (.int c), some (.bl false), none, none, none, none, none, none, none] S = .ret (.tup [.int a0, .int a1, .int a2, .int a3, .int a4, .tup (ps.map .int)]) (S ++ [.lst [.int a0, .int a1, .int a2, .int a3, .int a4]] ++ [.lst (ps.map .int)]) := by
  have ga : (S ++ [Cell.lst [D.int a0, .int a1, .int a2, .int a3, .int a4]] ++ [Cell.lst (ps.map D.int)])[S.length]? = some (.lst [.int a0, .int a1, .int a2, .int a3, .int a4]) := by
    rw [List.getElem?_append_left (by simp)]; exact get_last
  have ad := add_rl (ys := [D.tup (ps.map D.int)]) ga (by rw [sizeLine_eq]; simp)
  have sm : small62 (m : Int) = true := small62_of (by omega) (by omega)
  have s5 : small62 5 = true := small62_of (by decide) (by decide)
  have t5 : Int.toNat 5 = 5 := rfl
  unfold A__law_facts
  simp (config := { decide := true }) only [bind_ok, bind_exc, toS_ok, toS_exc, ap_var, ap_c, ap_op2, ap_op1, ap_and, ap_or, ap_not, ap_if, ap_tval, ap_ttruth, ap_tand, ap_tor, ap_tnot, ap_ttrue, 
    ap_nil, ap_cons, ap_tup, ap_lst, ap_lstM, ap_app, ap_sl, ap_pno, ap_pat, toI_int, ap_mt, ap_chain, isBl_bl, truD_bl, truD_int, ap_snil, ap_sbrk, 
    ap_scont, ap_sexpr, ap_sret, ap_sretn, ap_sif, ap_sset, ap_sasg, ap_spar, ap_saug, ap_seq, seqK_next, seqK_ret, seqK_brk, seqK_cont, seqK_exc, ap_for, 
    ap_iseq, ap_ir1, ap_gnm, ap_gtp, gnms_nil, gnms_cons, ap_gsub, Option.map_some, Option.bind_some, loopN_next, loopN_cont, ty_int, ty_bl, ty_str, 
    ty_non, ty_tup, ty_lst, ty_ref, isi_ap, len_ref, get_last, append_last, tuple_last, list_last, add_ii, sub_ii, mul_ii, mulOk_l, mulOk_r, fdiv_ii, 
    divmod_ii, mod_ii, pow_ii, neg_i, ord_ii, is_non, isnt_non, is_bl, isnt_bl, abs_i, int_i, int_b, max_ii, min_ii, len_tup, len_lst, tuple_lst, 
    tuple_tup, list_lst, list_tup, List.getElem?_cons_zero, List.getElem?_cons_succ, List.set_cons_zero, List.set_cons_succ, List.map_cons, List.map_nil, 
    List.cons_append, List.nil_append, List.reduceReplicate, Nat.reduceSub, List.length_cons, List.length_nil, if_true, if_false, reduceIte, reduceCtorEq, 
    Bool.false_eq_true, Bool.true_eq_false, sizeLine_eq, Int.reduceToNat, newCell, ix_tupm, ix_lstm, atI_0, atI_1, atI_2, atI_3, atI_4, atI_5, f_mixed, s5, 
    t5, e1]
  rw [hm, if_pos sm, Int.toNat_natCast]
  simp (config := { decide := true }) only [bind_ok, bind_exc, toS_ok, toS_exc, ap_var, ap_c, ap_op2, ap_op1, ap_and, ap_or, ap_not, ap_if, ap_tval, ap_ttruth, ap_tand, ap_tor, ap_tnot, ap_ttrue, 
    ap_nil, ap_cons, ap_tup, ap_lst, ap_lstM, ap_app, ap_sl, ap_pno, ap_pat, toI_int, ap_mt, ap_chain, isBl_bl, truD_bl, truD_int, ap_snil, ap_sbrk, 
    ap_scont, ap_sexpr, ap_sret, ap_sretn, ap_sif, ap_sset, ap_sasg, ap_spar, ap_saug, ap_seq, seqK_next, seqK_ret, seqK_brk, seqK_cont, seqK_exc, ap_for, 
    ap_iseq, ap_ir1, ap_gnm, ap_gtp, gnms_nil, gnms_cons, ap_gsub, Option.map_some, Option.bind_some, loopN_next, loopN_cont, ty_int, ty_bl, ty_str, 
    ty_non, ty_tup, ty_lst, ty_ref, isi_ap, len_ref, get_last, append_last, tuple_last, list_last, add_ii, sub_ii, mul_ii, mulOk_l, mulOk_r, fdiv_ii, 
    divmod_ii, mod_ii, pow_ii, neg_i, ord_ii, is_non, isnt_non, is_bl, isnt_bl, abs_i, int_i, int_b, max_ii, min_ii, len_tup, len_lst, tuple_lst, 
    tuple_tup, list_lst, list_tup, List.getElem?_cons_zero, List.getElem?_cons_succ, List.set_cons_zero, List.set_cons_succ, List.map_cons, List.map_nil, 
    List.cons_append, List.nil_append, List.reduceReplicate, Nat.reduceSub, List.length_cons, List.length_nil, if_true, if_false, reduceIte, reduceCtorEq, 
    Bool.false_eq_true, Bool.true_eq_false, sizeLine_eq, Int.reduceToNat, newCell, ix_tupm, ix_lstm, atI_0, atI_1, atI_2, atI_3, atI_4, atI_5, e2, ad]
theorem facts_true (c : Int) (S : Sto) (n1 n2 a0 a1 a2 a3 a4 : Int) (k1 g1 k2 g2 : Option D) (m : Nat) (ps : List Int) (hm : n1 % 9 = (m : Int)) (h8 : m ≤ 8)
    (e1 : forL (fun _ => True) (gNm 5) L__law_facts_1 (rangeI 0 5) [some (.int c), some (.bl true), some (.lst [.int (10 ^ 30 + 1), .int (10 ^ 30 + 1), .int (10 ^ 61), .int 9, .int 9, .int (10 ^ 40 + 1)]), some (.int (c)), some (.ref S.length), none, none, none, none] (S ++ [.lst []]) =
      .next [some (.int c), some (.bl true), some (.lst [.int (10 ^ 30 + 1), .int (10 ^ 30 + 1), .int (10 ^ 61), .int 9, .int 9, .int (10 ^ 40 + 1)]), some (.int n1), some (.ref S.length), k1, g1, none, none] (S ++ [.lst [.int a0, .int a1, .int a2, .int a3, .int a4]]))
    (e2 : forL (fun _ => True) (gNm 5) L__law_facts_2 (rangeI 0 m) [some (.int c), some (.bl true), some (.lst [.int (10 ^ 30 + 1), .int (10 ^ 30 + 1), .int (10 ^ 61), .int 9, .int 9, .int (10 ^ 40 + 1)]), some (.int (n1 / 9)), some (.ref S.length), k1, g1, some (.ref (S ++ [Cell.lst [.int a0, .int a1, .int a2, .int a3, .int a4]]).length), some (.int m)] (S ++ [.lst [.int a0, .int a1, .int a2, .int a3, .int a4]] ++ [.lst []]) =
      .next [some (.int c), some (.bl true), some (.lst [.int (10 ^ 30 + 1), .int (10 ^ 30 + 1), .int (10 ^ 61), .int 9, .int 9, .int (10 ^ 40 + 1)]), some (.int n2), some (.ref S.length), k2, g2, some (.ref (S ++ [Cell.lst [.int a0, .int a1, .int a2, .int a3, .int a4]]).length), some (.int m)] (S ++ [.lst [.int a0, .int a1, .int a2, .int a3, .int a4]] ++ [.lst (ps.map .int)])) :
    A__law_facts [some (.int c), some (.bl true), none, none, none, none, none, none, none] S = .ret (.tup [.int a0, .int a1, .int a2, .int a3, .int a4, .tup (ps.map .int)]) (S ++ [.lst [.int a0, .int a1, .int a2, .int a3, .int a4]] ++ [.lst (ps.map .int)]) := by
  have ga : (S ++ [Cell.lst [D.int a0, .int a1, .int a2, .int a3, .int a4]] ++ [Cell.lst (ps.map D.int)])[S.length]? = some (.lst [.int a0, .int a1, .int a2, .int a3, .int a4]) := by
    rw [List.getElem?_append_left (by simp)]; exact get_last
  have ad := add_rl (ys := [D.tup (ps.map D.int)]) ga (by rw [sizeLine_eq]; simp)
  have sm : small62 (m : Int) = true := small62_of (by omega) (by omega)
  have s5 : small62 5 = true := small62_of (by decide) (by decide)
  have t5 : Int.toNat 5 = 5 := rfl
  unfold A__law_facts
  simp (config := { decide := true }) only [bind_ok, bind_exc, toS_ok, toS_exc, ap_var, ap_c, ap_op2, ap_op1, ap_and, ap_or, ap_not, ap_if, ap_tval, ap_ttruth, ap_tand, ap_tor, ap_tnot, ap_ttrue, 
    ap_nil, ap_cons, ap_tup, ap_lst, ap_lstM, ap_app, ap_sl, ap_pno, ap_pat, toI_int, ap_mt, ap_chain, isBl_bl, truD_bl, truD_int, ap_snil, ap_sbrk, 
    ap_scont, ap_sexpr, ap_sret, ap_sretn, ap_sif, ap_sset, ap_sasg, ap_spar, ap_saug, ap_seq, seqK_next, seqK_ret, seqK_brk, seqK_cont, seqK_exc, ap_for, 
    ap_iseq, ap_ir1, ap_gnm, ap_gtp, gnms_nil, gnms_cons, ap_gsub, Option.map_some, Option.bind_some, loopN_next, loopN_cont, ty_int, ty_bl, ty_str, 
    ty_non, ty_tup, ty_lst, ty_ref, isi_ap, len_ref, get_last, append_last, tuple_last, list_last, add_ii, sub_ii, mul_ii, mulOk_l, mulOk_r, fdiv_ii, 
    divmod_ii, mod_ii, pow_ii, neg_i, ord_ii, is_non, isnt_non, is_bl, isnt_bl, abs_i, int_i, int_b, max_ii, min_ii, len_tup, len_lst, tuple_lst, 
    tuple_tup, list_lst, list_tup, List.getElem?_cons_zero, List.getElem?_cons_succ, List.set_cons_zero, List.set_cons_succ, List.map_cons, List.map_nil, 
    List.cons_append, List.nil_append, List.reduceReplicate, Nat.reduceSub, List.length_cons, List.length_nil, if_true, if_false, reduceIte, reduceCtorEq, 
    Bool.false_eq_true, Bool.true_eq_false, sizeLine_eq, Int.reduceToNat, newCell, ix_tupm, ix_lstm, atI_0, atI_1, atI_2, atI_3, atI_4, atI_5, f_mixed, s5, 
    t5, e1]
  rw [hm, if_pos sm, Int.toNat_natCast]
  simp (config := { decide := true }) only [bind_ok, bind_exc, toS_ok, toS_exc, ap_var, ap_c, ap_op2, ap_op1, ap_and, ap_or, ap_not, ap_if, ap_tval, ap_ttruth, ap_tand, ap_tor, ap_tnot, ap_ttrue, 
    ap_nil, ap_cons, ap_tup, ap_lst, ap_lstM, ap_app, ap_sl, ap_pno, ap_pat, toI_int, ap_mt, ap_chain, isBl_bl, truD_bl, truD_int, ap_snil, ap_sbrk, 
    ap_scont, ap_sexpr, ap_sret, ap_sretn, ap_sif, ap_sset, ap_sasg, ap_spar, ap_saug, ap_seq, seqK_next, seqK_ret, seqK_brk, seqK_cont, seqK_exc, ap_for, 
    ap_iseq, ap_ir1, ap_gnm, ap_gtp, gnms_nil, gnms_cons, ap_gsub, Option.map_some, Option.bind_some, loopN_next, loopN_cont, ty_int, ty_bl, ty_str, 
    ty_non, ty_tup, ty_lst, ty_ref, isi_ap, len_ref, get_last, append_last, tuple_last, list_last, add_ii, sub_ii, mul_ii, mulOk_l, mulOk_r, fdiv_ii, 
    divmod_ii, mod_ii, pow_ii, neg_i, ord_ii, is_non, isnt_non, is_bl, isnt_bl, abs_i, int_i, int_b, max_ii, min_ii, len_tup, len_lst, tuple_lst, 
    tuple_tup, list_lst, list_tup, List.getElem?_cons_zero, List.getElem?_cons_succ, List.set_cons_zero, List.set_cons_succ, List.map_cons, List.map_nil, 
    List.cons_append, List.nil_append, List.reduceReplicate, Nat.reduceSub, List.length_cons, List.length_nil, if_true, if_false, reduceIte, reduceCtorEq, 
    Bool.false_eq_true, Bool.true_eq_false, sizeLine_eq, Int.reduceToNat, newCell, ix_tupm, ix_lstm, atI_0, atI_1, atI_2, atI_3, atI_4, atI_5, e2, ad]
theorem f_facts (c : Int) (dg : Bool) (S : Sto) : ∃ f : Fx, F__law_facts [.int c, .bl dg] S = .ok f.d S ∧ FxOk f := by
  let W : List Int := if dg then [10 ^ 30 + 1, 10 ^ 30 + 1, 10 ^ 61, 9, 9, 10 ^ 40 + 1] else [20, 20, 50, 4, 4, 30]
  have hW : W.length = 6 := by cases dg <;> rfl
  have hW2 : ∀ w ∈ W, 1 ≤ w ∧ w ≤ 10 ^ 61 := by
    cases dg
    · intro w hw; simp [W] at hw; omega
    · intro w hw; simp [W] at hw; omega
  let num : Int := if dg then c else mixed c * 10 ^ 9 + mixed (c + 1)
  obtain ⟨n1, k1, g1, acc, e1, ha, hv⟩ := facts_loop1 (.int c) (.bl dg) W hW hW2 num S
  have hm0 : 0 ≤ n1 % 9 := Int.emod_nonneg _ (by decide)
  have hm1 : n1 % 9 < 9 := Int.emod_lt_of_pos _ (by decide)
  obtain ⟨m, hm⟩ : ∃ m : Nat, n1 % 9 = m := ⟨(n1 % 9).toNat, by omega⟩
  obtain ⟨n2, k2, g2, ps, e2, hp, hpv⟩ := facts_loop2 (.int c) (.bl dg) (.ref S.length) W hW hW2 (n1 / 9) m (by omega) k1 g1 (S ++ [.lst (acc.map .int)])
  obtain ⟨a0, a1, a2, a3, a4, rfl⟩ : ∃ a0 a1 a2 a3 a4, acc = [a0, a1, a2, a3, a4] := by
    match acc, ha with
    | [a0, a1, a2, a3, a4], _ => exact ⟨_, _, _, _, _, rfl⟩
  let f : Fx := ⟨fun k => match k with | 0 => a0 | 1 => a1 | 2 => a2 | 3 => a3 | 4 => a4, ps⟩
  refine ⟨f, ?_, ⟨fun k => ?_, by show ps.length ≤ 8; omega, hpv⟩⟩
  · refine run_ret rfl (S' := S ++ [.lst ([a0, a1, a2, a3, a4].map .int)] ++ [.lst (ps.map .int)]) (d := f.d) ?_ ?_
    · cases dg with
      | false => exact facts_false c S n1 n2 a0 a1 a2 a3 a4 k1 g1 k2 g2 m ps hm (by omega) e1 e2
      | true => exact facts_true c S n1 n2 a0 a1 a2 a3 a4 k1 g1 k2 g2 m ps hm (by omega) e1 e2
    · rw [List.append_assoc]
      exact exit_ext (fz_rlt _ _ _ _ (f.pure _))
  · match k with
    | 0 => exact hv a0 (by simp)
    | 1 => exact hv a1 (by simp)
    | 2 => exact hv a2 (by simp)
    | 3 => exact hv a3 (by simp)
    | 4 => exact hv a4 (by simp)
end LW

namespace LW
open PySem PySem.Spec PyProof.Rows L2 DL
/-- a cell of the script, 0 behind its end -/
def cellOf (ns : List Int) (k : Nat) : Int := ns.getD k 0
theorem f_cell (ns : List Int) (k : Nat) (S : Sto) : F__law_cell [.lst (ns.map D.int), .int k] S = .ok (.int (cellOf ns k)) S := by
  refine run_flat rfl ?_ (pure_int _ _)
  unfold A__law_cell cellOf
  by_cases h : k < ns.length
  · have h1 : (k : Int) < (ns.length : Int) := by omega
    have h2 : ns[k]? = some (ns.getD k 0) := by rw [List.getD_eq_getElem?_getD, List.getElem?_eq_getElem h]; rfl
    simp (config := { decide := true }) only [bind_ok, bind_exc, toS_ok, toS_exc, ap_var, ap_c, ap_op2, ap_op1, ap_and, ap_or, ap_not, ap_if, ap_tval, ap_ttruth, ap_tand, ap_tor, ap_tnot, ap_ttrue, 
    ap_nil, ap_cons, ap_tup, ap_lst, ap_lstM, ap_app, ap_sl, ap_pno, ap_pat, toI_int, ap_mt, ap_chain, isBl_bl, truD_bl, truD_int, ap_snil, ap_sbrk, 
    ap_scont, ap_sexpr, ap_sret, ap_sretn, ap_sif, ap_sset, ap_sasg, ap_spar, ap_saug, ap_seq, seqK_next, seqK_ret, seqK_brk, seqK_cont, seqK_exc, ap_for, 
    ap_iseq, ap_ir1, ap_gnm, ap_gtp, gnms_nil, gnms_cons, ap_gsub, Option.map_some, Option.bind_some, loopN_next, loopN_cont, ty_int, ty_bl, ty_str, 
    ty_non, ty_tup, ty_lst, ty_ref, isi_ap, len_ref, get_last, append_last, tuple_last, list_last, add_ii, sub_ii, mul_ii, mulOk_l, mulOk_r, fdiv_ii, 
    divmod_ii, mod_ii, pow_ii, neg_i, ord_ii, is_non, isnt_non, is_bl, isnt_bl, abs_i, int_i, int_b, max_ii, min_ii, len_tup, len_lst, tuple_lst, 
    tuple_tup, list_lst, list_tup, List.getElem?_cons_zero, List.getElem?_cons_succ, List.set_cons_zero, List.set_cons_succ, List.map_cons, List.map_nil, 
    List.cons_append, List.nil_append, List.reduceReplicate, Nat.reduceSub, List.length_cons, List.length_nil, if_true, if_false, reduceIte, reduceCtorEq, 
    Bool.false_eq_true, Bool.true_eq_false, sizeLine_eq, Int.reduceToNat, newCell, ix_tupm, ix_lstm, atI_0, atI_1, atI_2, atI_3, atI_4, atI_5, 
    decide_eq_true h1, List.length_map, atI_map h2]
  · have h1 : ¬ (k : Int) < (ns.length : Int) := by omega
    have h2 : ns.getD k 0 = 0 := by rw [List.getD_eq_getElem?_getD, List.getElem?_eq_none (by omega)]; rfl
    simp (config := { decide := true }) only [bind_ok, bind_exc, toS_ok, toS_exc, ap_var, ap_c, ap_op2, ap_op1, ap_and, ap_or, ap_not, ap_if, ap_tval, ap_ttruth, ap_tand, ap_tor, ap_tnot, ap_ttrue, 
    ap_nil, ap_cons, ap_tup, ap_lst, ap_lstM, ap_app, ap_sl, ap_pno, ap_pat, toI_int, ap_mt, ap_chain, isBl_bl, truD_bl, truD_int, ap_snil, ap_sbrk, 
    ap_scont, ap_sexpr, ap_sret, ap_sretn, ap_sif, ap_sset, ap_sasg, ap_spar, ap_saug, ap_seq, seqK_next, seqK_ret, seqK_brk, seqK_cont, seqK_exc, ap_for, 
    ap_iseq, ap_ir1, ap_gnm, ap_gtp, gnms_nil, gnms_cons, ap_gsub, Option.map_some, Option.bind_some, loopN_next, loopN_cont, ty_int, ty_bl, ty_str, 
    ty_non, ty_tup, ty_lst, ty_ref, isi_ap, len_ref, get_last, append_last, tuple_last, list_last, add_ii, sub_ii, mul_ii, mulOk_l, mulOk_r, fdiv_ii, 
    divmod_ii, mod_ii, pow_ii, neg_i, ord_ii, is_non, isnt_non, is_bl, isnt_bl, abs_i, int_i, int_b, max_ii, min_ii, len_tup, len_lst, tuple_lst, 
    tuple_tup, list_lst, list_tup, List.getElem?_cons_zero, List.getElem?_cons_succ, List.set_cons_zero, List.set_cons_succ, List.map_cons, List.map_nil, 
    List.cons_append, List.nil_append, List.reduceReplicate, Nat.reduceSub, List.length_cons, List.length_nil, if_true, if_false, reduceIte, reduceCtorEq, 
    Bool.false_eq_true, Bool.true_eq_false, sizeLine_eq, Int.reduceToNat, newCell, ix_tupm, ix_lstm, atI_0, atI_1, atI_2, atI_3, atI_4, atI_5, 
    decide_eq_false h1, List.length_map, h2]
/-- a row by digits -/
def wordRow : Nat → Row
  | 0 => .drop | 1 => .swap | 2 => .add | 3 => .sub | 4 => .mul | 5 => .less | 6 => .same | 7 => .not | 8 => .need
  | 9 => .fact 0 | 10 => .fact 1 | 11 => .fact 2 | 12 => .fact 3 | 13 => .fact 4 | 14 => .iff | 15 => .els | _ => .fin
def RowOk : Row → Prop
  | .push n => n.natAbs < 10 ^ 50
  | .copy k => k < 10
  | .paid k => k < 10
  | _ => True
theorem row_pure (w : Row) : pureD w.d := by
  cases w <;> exact pure_tup (by simp [pure_str, pure_int])
theorem words_at : ∀ k : Nat, k < 17 → atI [D.str "drop", D.str "swap", D.str "add", D.str "sub", D.str "mul", D.str "less", D.str "same", D.str "not", D.str "need", D.str "height", D.str "age", D.str "worth", D.str "ins", D.str "outs", D.str "if", D.str "else", D.str "end"] (k : Int) = some (match (wordRow k).d with | .tup [x] => x | x => x)
  | 0, _ => rfl | 1, _ => rfl | 2, _ => rfl | 3, _ => rfl | 4, _ => rfl | 5, _ => rfl | 6, _ => rfl | 7, _ => rfl | 8, _ => rfl | 9, _ => rfl | 10, _ => rfl | 11, _ => rfl | 12, _ => rfl | 13, _ => rfl | 14, _ => rfl | 15, _ => rfl | 16, _ => rfl | k + 17, h => absurd h (by omega)
theorem word_d : ∀ k : Nat, k < 17 → (wordRow k).d = .tup [match (wordRow k).d with | .tup [x] => x | x => x]
  | 0, _ => rfl | 1, _ => rfl | 2, _ => rfl | 3, _ => rfl | 4, _ => rfl | 5, _ => rfl | 6, _ => rfl | 7, _ => rfl | 8, _ => rfl | 9, _ => rfl | 10, _ => rfl | 11, _ => rfl | 12, _ => rfl | 13, _ => rfl | 14, _ => rfl | 15, _ => rfl | 16, _ => rfl | k + 17, h => absurd h (by omega)
theorem word_ok : ∀ k : Nat, k < 17 → RowOk (wordRow k)
  | 0, _ => trivial | 1, _ => trivial | 2, _ => trivial | 3, _ => trivial | 4, _ => trivial | 5, _ => trivial | 6, _ => trivial | 7, _ => trivial | 8, _ => trivial | 9, _ => trivial | 10, _ => trivial | 11, _ => trivial | 12, _ => trivial | 13, _ => trivial | 14, _ => trivial | 15, _ => trivial | 16, _ => trivial | k + 17, h => absurd h (by omega)
theorem f_digit (n : Int) (S : Sto) : ∃ n' w, F__law_digit_row [.int n] S = .ok (.tup [.int n', w.d]) S ∧ RowOk w := by
  have a1 : ∀ S, addD (.lst [.str "drop", .str "swap", .str "add", .str "sub", .str "mul", .str "less", .str "same", .str "not", .str "need"]) (.lst [.str "height", .str "age", .str "worth", .str "ins", .str "outs"]) S = .ok (.lst [.str "drop", .str "swap", .str "add", .str "sub", .str "mul", .str "less", .str "same", .str "not", .str "need", .str "height", .str "age", .str "worth", .str "ins", .str "outs"]) S := fun S => by
    rw [add_ll (by rw [sizeLine_eq]; decide)]; rfl
  have a2 : ∀ S, addD (.lst [.str "drop", .str "swap", .str "add", .str "sub", .str "mul", .str "less", .str "same", .str "not", .str "need", .str "height", .str "age", .str "worth", .str "ins", .str "outs"]) (.lst [.str "if", .str "else", .str "end"]) S = .ok (.lst [.str "drop", .str "swap", .str "add", .str "sub", .str "mul", .str "less", .str "same", .str "not", .str "need", .str "height", .str "age", .str "worth", .str "ins", .str "outs", .str "if", .str "else", .str "end"]) S := fun S => by
    rw [add_ll (by rw [sizeLine_eq]; decide)]; rfl
  have dv20 : divOk 20 = true := divOk_of (by decide) (by decide)
  have dv10 : divOk 10 = true := divOk_of (by decide) (by decide)
  by_cases h : n % 20 < 17
  · obtain ⟨k, hk, hk2⟩ : ∃ k : Nat, n % 20 = (k : Int) ∧ k < 17 := ⟨(n % 20).toNat, by omega, by omega⟩
    refine ⟨n / 20, wordRow k, run_flat rfl ?_ (pure_tup (by simp [pure_int]; exact row_pure _) _), word_ok k hk2⟩
    unfold A__law_digit_row
    rw [word_d k hk2]
    have hx := words_at k hk2
    have h1 : (k : Int) < 17 := by omega
    simp (config := { decide := true }) only [bind_ok, bind_exc, toS_ok, toS_exc, ap_var, ap_c, ap_op2, ap_op1, ap_and, ap_or, ap_not, ap_if, ap_tval, ap_ttruth, ap_tand, ap_tor, ap_tnot, ap_ttrue, 
    ap_nil, ap_cons, ap_tup, ap_lst, ap_lstM, ap_app, ap_sl, ap_pno, ap_pat, toI_int, ap_mt, ap_chain, isBl_bl, truD_bl, truD_int, ap_snil, ap_sbrk, 
    ap_scont, ap_sexpr, ap_sret, ap_sretn, ap_sif, ap_sset, ap_sasg, ap_spar, ap_saug, ap_seq, seqK_next, seqK_ret, seqK_brk, seqK_cont, seqK_exc, ap_for, 
    ap_iseq, ap_ir1, ap_gnm, ap_gtp, gnms_nil, gnms_cons, ap_gsub, Option.map_some, Option.bind_some, loopN_next, loopN_cont, ty_int, ty_bl, ty_str, 
    ty_non, ty_tup, ty_lst, ty_ref, isi_ap, len_ref, get_last, append_last, tuple_last, list_last, add_ii, sub_ii, mul_ii, mulOk_l, mulOk_r, fdiv_ii, 
    divmod_ii, mod_ii, pow_ii, neg_i, ord_ii, is_non, isnt_non, is_bl, isnt_bl, abs_i, int_i, int_b, max_ii, min_ii, len_tup, len_lst, tuple_lst, 
    tuple_tup, list_lst, list_tup, List.getElem?_cons_zero, List.getElem?_cons_succ, List.set_cons_zero, List.set_cons_succ, List.map_cons, List.map_nil, 
    List.cons_append, List.nil_append, List.reduceReplicate, Nat.reduceSub, List.length_cons, List.length_nil, if_true, if_false, reduceIte, reduceCtorEq, 
    Bool.false_eq_true, Bool.true_eq_false, sizeLine_eq, Int.reduceToNat, newCell, ix_tupm, ix_lstm, atI_0, atI_1, atI_2, atI_3, atI_4, atI_5, a1, a2, 
    divmod_ii dv20, hk, decide_eq_true h1, hx]
  · have h1 : ¬ n % 20 < 17 := h
    by_cases h17 : n % 20 = 17
    · have hb : (n % 20 == 17) = true := by rw [h17]; rfl
      have hw : divOk (2 * 10 ^ 50 - 1) = true := divOk_of (by decide) (by decide +kernel)
      have m2 : (2 : Int).natAbs < 2 ^ 64 := by decide
      refine ⟨n / 20 / (2 * 10 ^ 50 - 1), .push (n / 20 % (2 * 10 ^ 50 - 1) - 10 ^ 50 + 1), run_flat rfl ?_ (pure_tup (by simp [pure_int]; exact row_pure _) _), ?_⟩
      · unfold A__law_digit_row Row.d
        simp (config := { decide := true }) only [bind_ok, bind_exc, toS_ok, toS_exc, ap_var, ap_c, ap_op2, ap_op1, ap_and, ap_or, ap_not, ap_if, ap_tval, ap_ttruth, ap_tand, ap_tor, ap_tnot, ap_ttrue, 
    ap_nil, ap_cons, ap_tup, ap_lst, ap_lstM, ap_app, ap_sl, ap_pno, ap_pat, toI_int, ap_mt, ap_chain, isBl_bl, truD_bl, truD_int, ap_snil, ap_sbrk, 
    ap_scont, ap_sexpr, ap_sret, ap_sretn, ap_sif, ap_sset, ap_sasg, ap_spar, ap_saug, ap_seq, seqK_next, seqK_ret, seqK_brk, seqK_cont, seqK_exc, ap_for, 
    ap_iseq, ap_ir1, ap_gnm, ap_gtp, gnms_nil, gnms_cons, ap_gsub, Option.map_some, Option.bind_some, loopN_next, loopN_cont, ty_int, ty_bl, ty_str, 
    ty_non, ty_tup, ty_lst, ty_ref, isi_ap, len_ref, get_last, append_last, tuple_last, list_last, add_ii, sub_ii, mul_ii, mulOk_l, mulOk_r, fdiv_ii, 
    divmod_ii, mod_ii, pow_ii, neg_i, ord_ii, is_non, isnt_non, is_bl, isnt_bl, abs_i, int_i, int_b, max_ii, min_ii, len_tup, len_lst, tuple_lst, 
    tuple_tup, list_lst, list_tup, List.getElem?_cons_zero, List.getElem?_cons_succ, List.set_cons_zero, List.set_cons_succ, List.map_cons, List.map_nil, 
    List.cons_append, List.nil_append, List.reduceReplicate, Nat.reduceSub, List.length_cons, List.length_nil, if_true, if_false, reduceIte, reduceCtorEq, 
    Bool.false_eq_true, Bool.true_eq_false, sizeLine_eq, Int.reduceToNat, newCell, ix_tupm, ix_lstm, atI_0, atI_1, atI_2, atI_3, atI_4, atI_5, a1, a2, 
    divmod_ii dv20, decide_eq_false h1, hb, eqv_ii, mul_ii (mulOk_l m2), divmod_ii hw]
      · show (n / 20 % (2 * 10 ^ 50 - 1) - 10 ^ 50 + 1).natAbs < 10 ^ 50
        omega
    · have hb : (n % 20 == 17) = false := beq_false_of_ne h17
      obtain ⟨g, hg, hg2⟩ : ∃ g : Nat, n / 20 % 10 = (g : Int) ∧ g < 10 := ⟨(n / 20 % 10).toNat, by omega, by omega⟩
      by_cases h18 : n % 20 = 18
      · refine ⟨n / 20 / 10, .copy g, run_flat rfl ?_ (pure_tup (by simp [pure_int]; exact row_pure _) _), hg2⟩
        have hx : n % 20 - 18 = 0 := by omega
        unfold A__law_digit_row Row.d
        simp (config := { decide := true }) only [bind_ok, bind_exc, toS_ok, toS_exc, ap_var, ap_c, ap_op2, ap_op1, ap_and, ap_or, ap_not, ap_if, ap_tval, ap_ttruth, ap_tand, ap_tor, ap_tnot, ap_ttrue, 
    ap_nil, ap_cons, ap_tup, ap_lst, ap_lstM, ap_app, ap_sl, ap_pno, ap_pat, toI_int, ap_mt, ap_chain, isBl_bl, truD_bl, truD_int, ap_snil, ap_sbrk, 
    ap_scont, ap_sexpr, ap_sret, ap_sretn, ap_sif, ap_sset, ap_sasg, ap_spar, ap_saug, ap_seq, seqK_next, seqK_ret, seqK_brk, seqK_cont, seqK_exc, ap_for, 
    ap_iseq, ap_ir1, ap_gnm, ap_gtp, gnms_nil, gnms_cons, ap_gsub, Option.map_some, Option.bind_some, loopN_next, loopN_cont, ty_int, ty_bl, ty_str, 
    ty_non, ty_tup, ty_lst, ty_ref, isi_ap, len_ref, get_last, append_last, tuple_last, list_last, add_ii, sub_ii, mul_ii, mulOk_l, mulOk_r, fdiv_ii, 
    divmod_ii, mod_ii, pow_ii, neg_i, ord_ii, is_non, isnt_non, is_bl, isnt_bl, abs_i, int_i, int_b, max_ii, min_ii, len_tup, len_lst, tuple_lst, 
    tuple_tup, list_lst, list_tup, List.getElem?_cons_zero, List.getElem?_cons_succ, List.set_cons_zero, List.set_cons_succ, List.map_cons, List.map_nil, 
    List.cons_append, List.nil_append, List.reduceReplicate, Nat.reduceSub, List.length_cons, List.length_nil, if_true, if_false, reduceIte, reduceCtorEq, 
    Bool.false_eq_true, Bool.true_eq_false, sizeLine_eq, Int.reduceToNat, newCell, ix_tupm, ix_lstm, atI_0, atI_1, atI_2, atI_3, atI_4, atI_5, a1, a2, 
    divmod_ii dv20, decide_eq_false h1, hb, eqv_ii, divmod_ii dv10, hx, hg]
      · refine ⟨n / 20 / 10, .paid g, run_flat rfl ?_ (pure_tup (by simp [pure_int]; exact row_pure _) _), hg2⟩
        have hx : n % 20 - 18 = 1 := by omega
        unfold A__law_digit_row Row.d
        simp (config := { decide := true }) only [bind_ok, bind_exc, toS_ok, toS_exc, ap_var, ap_c, ap_op2, ap_op1, ap_and, ap_or, ap_not, ap_if, ap_tval, ap_ttruth, ap_tand, ap_tor, ap_tnot, ap_ttrue, 
    ap_nil, ap_cons, ap_tup, ap_lst, ap_lstM, ap_app, ap_sl, ap_pno, ap_pat, toI_int, ap_mt, ap_chain, isBl_bl, truD_bl, truD_int, ap_snil, ap_sbrk, 
    ap_scont, ap_sexpr, ap_sret, ap_sretn, ap_sif, ap_sset, ap_sasg, ap_spar, ap_saug, ap_seq, seqK_next, seqK_ret, seqK_brk, seqK_cont, seqK_exc, ap_for, 
    ap_iseq, ap_ir1, ap_gnm, ap_gtp, gnms_nil, gnms_cons, ap_gsub, Option.map_some, Option.bind_some, loopN_next, loopN_cont, ty_int, ty_bl, ty_str, 
    ty_non, ty_tup, ty_lst, ty_ref, isi_ap, len_ref, get_last, append_last, tuple_last, list_last, add_ii, sub_ii, mul_ii, mulOk_l, mulOk_r, fdiv_ii, 
    divmod_ii, mod_ii, pow_ii, neg_i, ord_ii, is_non, isnt_non, is_bl, isnt_bl, abs_i, int_i, int_b, max_ii, min_ii, len_tup, len_lst, tuple_lst, 
    tuple_tup, list_lst, list_tup, List.getElem?_cons_zero, List.getElem?_cons_succ, List.set_cons_zero, List.set_cons_succ, List.map_cons, List.map_nil, 
    List.cons_append, List.nil_append, List.reduceReplicate, Nat.reduceSub, List.length_cons, List.length_nil, if_true, if_false, reduceIte, reduceCtorEq, 
    Bool.false_eq_true, Bool.true_eq_false, sizeLine_eq, Int.reduceToNat, newCell, ix_tupm, ix_lstm, atI_0, atI_1, atI_2, atI_3, atI_4, atI_5, a1, a2, 
    divmod_ii dv20, decide_eq_false h1, hb, eqv_ii, divmod_ii dv10, hx, hg]
/-- keys as the law draws them -/
def KeysOk (ks : List Int) : Prop := ks.length ≤ 10 ∧ ∀ x ∈ ks, x.natAbs < 10 ^ 50
theorem keys_loop1 (cd dd : D) (num : Int) (m : Nat) (hm : m ≤ 10) (S : Sto) :
    ∃ (num' : Int) (k g : Option D) (acc : List Int), forL (fun _ => True) (gNm 5) L__law_keys_1 (rangeI 0 m) [some cd, some dd, some (.ref S.length), some (.int num), some (.int m), none, none] (S ++ [.lst []]) =
      .next [some cd, some dd, some (.ref S.length), some (.int num'), some (.int m), k, g] (S ++ [.lst (acc.map .int)]) ∧ acc.length = m ∧ ∀ v ∈ acc, v.natAbs < 10 ^ 50 := by
  obtain ⟨l', S', e, num', k, g, acc, hl, hS, ha, hv⟩ := forL_range (gd := fun _ => True) (G := gNm 5) (body := L__law_keys_1) (lo := 0) (n := m)
    (l := [some cd, some dd, some (.ref S.length), some (.int num), some (.int m), none, none]) (S := S ++ [.lst []])
    (fun i l S' => ∃ (num' : Int) (k g : Option D) (acc : List Int), l = [some cd, some dd, some (.ref S.length), some (.int num'), some (.int m), k, g] ∧ S' = S ++ [.lst (acc.map .int)] ∧ acc.length = i ∧ ∀ v ∈ acc, v.natAbs < 10 ^ 50)
    ⟨num, none, none, [], rfl, rfl, rfl, fun v hv => by cases hv⟩ (fun _ _ _ _ => trivial) (fun i l S1 hi ⟨num', k, g, acc, hl, hS, ha, hv⟩ => by
      subst hl hS
      refine ⟨_, _, rfl, ?_⟩
      have hw : divOk (2 * 10 ^ 50 - 1) = true := divOk_of (by decide) (by decide +kernel)
      have m2 : (2 : Int).natAbs < 2 ^ 64 := by decide
      have hz : (acc.map D.int).length < 16777216 := by simp; omega
      refine ⟨[some cd, some dd, some (.ref S.length), some (.int (num' / (2 * 10 ^ 50 - 1))), some (.int m), some (.int (0 + i)), some (.int (num' % (2 * 10 ^ 50 - 1)))], S ++ [.lst ((acc ++ [num' % (2 * 10 ^ 50 - 1) - 10 ^ 50 + 1]).map .int)], ?_, _, _, _, acc ++ [num' % (2 * 10 ^ 50 - 1) - 10 ^ 50 + 1], rfl, rfl, by simp [ha], fun v hv' => ?_⟩
      · unfold L__law_keys_1
        simp (config := { decide := true }) only [bind_ok, bind_exc, toS_ok, toS_exc, ap_var, ap_c, ap_op2, ap_op1, ap_and, ap_or, ap_not, ap_if, ap_tval, ap_ttruth, ap_tand, ap_tor, ap_tnot, ap_ttrue, 
    ap_nil, ap_cons, ap_tup, ap_lst, ap_lstM, ap_app, ap_sl, ap_pno, ap_pat, toI_int, ap_mt, ap_chain, isBl_bl, truD_bl, truD_int, ap_snil, ap_sbrk, 
    ap_scont, ap_sexpr, ap_sret, ap_sretn, ap_sif, ap_sset, ap_sasg, ap_spar, ap_saug, ap_seq, seqK_next, seqK_ret, seqK_brk, seqK_cont, seqK_exc, ap_for, 
    ap_iseq, ap_ir1, ap_gnm, ap_gtp, gnms_nil, gnms_cons, ap_gsub, Option.map_some, Option.bind_some, loopN_next, loopN_cont, ty_int, ty_bl, ty_str, 
    ty_non, ty_tup, ty_lst, ty_ref, isi_ap, len_ref, get_last, append_last, tuple_last, list_last, add_ii, sub_ii, mul_ii, mulOk_l, mulOk_r, fdiv_ii, 
    divmod_ii, mod_ii, pow_ii, neg_i, ord_ii, is_non, isnt_non, is_bl, isnt_bl, abs_i, int_i, int_b, max_ii, min_ii, len_tup, len_lst, tuple_lst, 
    tuple_tup, list_lst, list_tup, List.getElem?_cons_zero, List.getElem?_cons_succ, List.set_cons_zero, List.set_cons_succ, List.map_cons, List.map_nil, 
    List.cons_append, List.nil_append, List.reduceReplicate, Nat.reduceSub, List.length_cons, List.length_nil, if_true, if_false, reduceIte, reduceCtorEq, 
    Bool.false_eq_true, Bool.true_eq_false, sizeLine_eq, Int.reduceToNat, newCell, ix_tupm, ix_lstm, atI_0, atI_1, atI_2, atI_3, atI_4, atI_5, 
    mul_ii (mulOk_l m2), divmod_ii hw, hz, List.map_append]
      · rw [List.mem_append, List.mem_singleton] at hv'
        rcases hv' with hv' | rfl
        · exact hv v hv'
        · omega)
  subst hl hS
  exact ⟨num', k, g, acc, e, ha, hv⟩
theorem keys_loop2 (cd dd : D) (num : Int) (m : Nat) (hm : m ≤ 10) (S : Sto) :
    ∃ (num' : Int) (k : Option D) (acc : List Int), forL (fun _ => True) (gNm 5) L__law_keys_2 (rangeI 0 m) [some cd, some dd, some (.ref S.length), some (.int num), none, none, none] (S ++ [.lst []]) =
      .next [some cd, some dd, some (.ref S.length), some (.int num'), none, k, none] (S ++ [.lst (acc.map .int)]) ∧ acc.length = m ∧ ∀ v ∈ acc, v.natAbs < 10 ^ 50 := by
  obtain ⟨l', S', e, num', k, acc, hl, hS, ha, hv⟩ := forL_range (gd := fun _ => True) (G := gNm 5) (body := L__law_keys_2) (lo := 0) (n := m)
    (l := [some cd, some dd, some (.ref S.length), some (.int num), none, none, none]) (S := S ++ [.lst []])
    (fun i l S' => ∃ (num' : Int) (k : Option D) (acc : List Int), l = [some cd, some dd, some (.ref S.length), some (.int num'), none, k, none] ∧ S' = S ++ [.lst (acc.map .int)] ∧ acc.length = i ∧ ∀ v ∈ acc, v.natAbs < 10 ^ 50)
    ⟨num, none, [], rfl, rfl, rfl, fun v hv => by cases hv⟩ (fun _ _ _ _ => trivial) (fun i l S1 hi ⟨num', k, acc, hl, hS, ha, hv⟩ => by
      subst hl hS
      refine ⟨_, _, rfl, ?_⟩
      have m2 : (48271 : Int).natAbs < 2 ^ 64 := by decide
      have hz : (acc.map D.int).length < 16777216 := by simp; omega
      refine ⟨[some cd, some dd, some (.ref S.length), some (.int ((num' * 48271 + 7) % 2147483647)), none, some (.int (0 + i)), none], S ++ [.lst ((acc ++ [(num' * 48271 + 7) % 2147483647 / 3 % 9 - 3]).map .int)], ?_, _, _, acc ++ [(num' * 48271 + 7) % 2147483647 / 3 % 9 - 3], rfl, rfl, by simp [ha], fun v hv' => ?_⟩
      · unfold L__law_keys_2
        simp (config := { decide := true }) only [bind_ok, bind_exc, toS_ok, toS_exc, ap_var, ap_c, ap_op2, ap_op1, ap_and, ap_or, ap_not, ap_if, ap_tval, ap_ttruth, ap_tand, ap_tor, ap_tnot, ap_ttrue, 
    ap_nil, ap_cons, ap_tup, ap_lst, ap_lstM, ap_app, ap_sl, ap_pno, ap_pat, toI_int, ap_mt, ap_chain, isBl_bl, truD_bl, truD_int, ap_snil, ap_sbrk, 
    ap_scont, ap_sexpr, ap_sret, ap_sretn, ap_sif, ap_sset, ap_sasg, ap_spar, ap_saug, ap_seq, seqK_next, seqK_ret, seqK_brk, seqK_cont, seqK_exc, ap_for, 
    ap_iseq, ap_ir1, ap_gnm, ap_gtp, gnms_nil, gnms_cons, ap_gsub, Option.map_some, Option.bind_some, loopN_next, loopN_cont, ty_int, ty_bl, ty_str, 
    ty_non, ty_tup, ty_lst, ty_ref, isi_ap, len_ref, get_last, append_last, tuple_last, list_last, add_ii, sub_ii, mul_ii, mulOk_l, mulOk_r, fdiv_ii, 
    divmod_ii, mod_ii, pow_ii, neg_i, ord_ii, is_non, isnt_non, is_bl, isnt_bl, abs_i, int_i, int_b, max_ii, min_ii, len_tup, len_lst, tuple_lst, 
    tuple_tup, list_lst, list_tup, List.getElem?_cons_zero, List.getElem?_cons_succ, List.set_cons_zero, List.set_cons_succ, List.map_cons, List.map_nil, 
    List.cons_append, List.nil_append, List.reduceReplicate, Nat.reduceSub, List.length_cons, List.length_nil, if_true, if_false, reduceIte, reduceCtorEq, 
    Bool.false_eq_true, Bool.true_eq_false, sizeLine_eq, Int.reduceToNat, newCell, ix_tupm, ix_lstm, atI_0, atI_1, atI_2, atI_3, atI_4, atI_5, 
    mul_ii (mulOk_r m2), hz, List.map_append]
      · rw [List.mem_append, List.mem_singleton] at hv'
        rcases hv' with hv' | rfl
        · exact hv v hv'
        · have : (6 : Nat) < 10 ^ 50 := by decide
          omega)
  subst hl hS
  exact ⟨num', k, acc, e, ha, hv⟩
theorem f_keys (c : Int) (dg : Bool) (S : Sto) : ∃ ks : List Int, F__law_keys [.int c, .bl dg] S = .ok (.tup (ks.map .int)) S ∧ KeysOk ks := by
  have pk : ∀ acc : List Int, pureD (.tup (acc.map .int)) := fun acc => pure_tup (by simp; intro a _; exact pure_int a)
  cases dg with
  | true =>
    obtain ⟨m, hm, hm2⟩ : ∃ m : Nat, c % 11 = m ∧ m ≤ 10 := ⟨(c % 11).toNat, by omega, by omega⟩
    obtain ⟨num', k, g, acc, e, ha, hv⟩ := keys_loop1 (.int c) (.bl true) (c / 11) m hm2 S
    refine ⟨acc, run_ret rfl (S' := S ++ [.lst (acc.map .int)]) ?_ (exit_ext (fz_rlt _ _ _ _ (pk acc _))), by omega, hv⟩
    have d11 : divOk 11 = true := divOk_of (by decide) (by decide)
    have sm : small62 (m : Int) = true := small62_of (by omega) (by omega)
    unfold A__law_keys
    simp (config := { decide := true }) only [bind_ok, bind_exc, toS_ok, toS_exc, ap_var, ap_c, ap_op2, ap_op1, ap_and, ap_or, ap_not, ap_if, ap_tval, ap_ttruth, ap_tand, ap_tor, ap_tnot, ap_ttrue, 
    ap_nil, ap_cons, ap_tup, ap_lst, ap_lstM, ap_app, ap_sl, ap_pno, ap_pat, toI_int, ap_mt, ap_chain, isBl_bl, truD_bl, truD_int, ap_snil, ap_sbrk, 
    ap_scont, ap_sexpr, ap_sret, ap_sretn, ap_sif, ap_sset, ap_sasg, ap_spar, ap_saug, ap_seq, seqK_next, seqK_ret, seqK_brk, seqK_cont, seqK_exc, ap_for, 
    ap_iseq, ap_ir1, ap_gnm, ap_gtp, gnms_nil, gnms_cons, ap_gsub, Option.map_some, Option.bind_some, loopN_next, loopN_cont, ty_int, ty_bl, ty_str, 
    ty_non, ty_tup, ty_lst, ty_ref, isi_ap, len_ref, get_last, append_last, tuple_last, list_last, add_ii, sub_ii, mul_ii, mulOk_l, mulOk_r, fdiv_ii, 
    divmod_ii, mod_ii, pow_ii, neg_i, ord_ii, is_non, isnt_non, is_bl, isnt_bl, abs_i, int_i, int_b, max_ii, min_ii, len_tup, len_lst, tuple_lst, 
    tuple_tup, list_lst, list_tup, List.getElem?_cons_zero, List.getElem?_cons_succ, List.set_cons_zero, List.set_cons_succ, List.map_cons, List.map_nil, 
    List.cons_append, List.nil_append, List.reduceReplicate, Nat.reduceSub, List.length_cons, List.length_nil, if_true, if_false, reduceIte, reduceCtorEq, 
    Bool.false_eq_true, Bool.true_eq_false, sizeLine_eq, Int.reduceToNat, newCell, ix_tupm, ix_lstm, atI_0, atI_1, atI_2, atI_3, atI_4, atI_5, 
    divmod_ii d11]
    rw [hm, if_pos sm, Int.toNat_natCast]
    simp (config := { decide := true }) only [bind_ok, bind_exc, toS_ok, toS_exc, ap_var, ap_c, ap_op2, ap_op1, ap_and, ap_or, ap_not, ap_if, ap_tval, ap_ttruth, ap_tand, ap_tor, ap_tnot, ap_ttrue, 
    ap_nil, ap_cons, ap_tup, ap_lst, ap_lstM, ap_app, ap_sl, ap_pno, ap_pat, toI_int, ap_mt, ap_chain, isBl_bl, truD_bl, truD_int, ap_snil, ap_sbrk, 
    ap_scont, ap_sexpr, ap_sret, ap_sretn, ap_sif, ap_sset, ap_sasg, ap_spar, ap_saug, ap_seq, seqK_next, seqK_ret, seqK_brk, seqK_cont, seqK_exc, ap_for, 
    ap_iseq, ap_ir1, ap_gnm, ap_gtp, gnms_nil, gnms_cons, ap_gsub, Option.map_some, Option.bind_some, loopN_next, loopN_cont, ty_int, ty_bl, ty_str, 
    ty_non, ty_tup, ty_lst, ty_ref, isi_ap, len_ref, get_last, append_last, tuple_last, list_last, add_ii, sub_ii, mul_ii, mulOk_l, mulOk_r, fdiv_ii, 
    divmod_ii, mod_ii, pow_ii, neg_i, ord_ii, is_non, isnt_non, is_bl, isnt_bl, abs_i, int_i, int_b, max_ii, min_ii, len_tup, len_lst, tuple_lst, 
    tuple_tup, list_lst, list_tup, List.getElem?_cons_zero, List.getElem?_cons_succ, List.set_cons_zero, List.set_cons_succ, List.map_cons, List.map_nil, 
    List.cons_append, List.nil_append, List.reduceReplicate, Nat.reduceSub, List.length_cons, List.length_nil, if_true, if_false, reduceIte, reduceCtorEq, 
    Bool.false_eq_true, Bool.true_eq_false, sizeLine_eq, Int.reduceToNat, newCell, ix_tupm, ix_lstm, atI_0, atI_1, atI_2, atI_3, atI_4, atI_5, e]
  | false =>
    obtain ⟨m, hm, hm2⟩ : ∃ m : Nat, mixed c % 7 = m ∧ m ≤ 10 := ⟨(mixed c % 7).toNat, by omega, by omega⟩
    obtain ⟨num', k, acc, e, ha, hv⟩ := keys_loop2 (.int c) (.bl false) (mixed c) m hm2 S
    refine ⟨acc, run_ret rfl (S' := S ++ [.lst (acc.map .int)]) ?_ (exit_ext (fz_rlt _ _ _ _ (pk acc _))), by omega, hv⟩
    have sm : small62 (m : Int) = true := small62_of (by omega) (by omega)
    unfold A__law_keys
    simp (config := { decide := true }) only [bind_ok, bind_exc, toS_ok, toS_exc, ap_var, ap_c, ap_op2, ap_op1, ap_and, ap_or, ap_not, ap_if, ap_tval, ap_ttruth, ap_tand, ap_tor, ap_tnot, ap_ttrue, 
    ap_nil, ap_cons, ap_tup, ap_lst, ap_lstM, ap_app, ap_sl, ap_pno, ap_pat, toI_int, ap_mt, ap_chain, isBl_bl, truD_bl, truD_int, ap_snil, ap_sbrk, 
    ap_scont, ap_sexpr, ap_sret, ap_sretn, ap_sif, ap_sset, ap_sasg, ap_spar, ap_saug, ap_seq, seqK_next, seqK_ret, seqK_brk, seqK_cont, seqK_exc, ap_for, 
    ap_iseq, ap_ir1, ap_gnm, ap_gtp, gnms_nil, gnms_cons, ap_gsub, Option.map_some, Option.bind_some, loopN_next, loopN_cont, ty_int, ty_bl, ty_str, 
    ty_non, ty_tup, ty_lst, ty_ref, isi_ap, len_ref, get_last, append_last, tuple_last, list_last, add_ii, sub_ii, mul_ii, mulOk_l, mulOk_r, fdiv_ii, 
    divmod_ii, mod_ii, pow_ii, neg_i, ord_ii, is_non, isnt_non, is_bl, isnt_bl, abs_i, int_i, int_b, max_ii, min_ii, len_tup, len_lst, tuple_lst, 
    tuple_tup, list_lst, list_tup, List.getElem?_cons_zero, List.getElem?_cons_succ, List.set_cons_zero, List.set_cons_succ, List.map_cons, List.map_nil, 
    List.cons_append, List.nil_append, List.reduceReplicate, Nat.reduceSub, List.length_cons, List.length_nil, if_true, if_false, reduceIte, reduceCtorEq, 
    Bool.false_eq_true, Bool.true_eq_false, sizeLine_eq, Int.reduceToNat, newCell, ix_tupm, ix_lstm, atI_0, atI_1, atI_2, atI_3, atI_4, atI_5, f_mixed]
    rw [hm, if_pos sm, Int.toNat_natCast]
    simp (config := { decide := true }) only [bind_ok, bind_exc, toS_ok, toS_exc, ap_var, ap_c, ap_op2, ap_op1, ap_and, ap_or, ap_not, ap_if, ap_tval, ap_ttruth, ap_tand, ap_tor, ap_tnot, ap_ttrue, 
    ap_nil, ap_cons, ap_tup, ap_lst, ap_lstM, ap_app, ap_sl, ap_pno, ap_pat, toI_int, ap_mt, ap_chain, isBl_bl, truD_bl, truD_int, ap_snil, ap_sbrk, 
    ap_scont, ap_sexpr, ap_sret, ap_sretn, ap_sif, ap_sset, ap_sasg, ap_spar, ap_saug, ap_seq, seqK_next, seqK_ret, seqK_brk, seqK_cont, seqK_exc, ap_for, 
    ap_iseq, ap_ir1, ap_gnm, ap_gtp, gnms_nil, gnms_cons, ap_gsub, Option.map_some, Option.bind_some, loopN_next, loopN_cont, ty_int, ty_bl, ty_str, 
    ty_non, ty_tup, ty_lst, ty_ref, isi_ap, len_ref, get_last, append_last, tuple_last, list_last, add_ii, sub_ii, mul_ii, mulOk_l, mulOk_r, fdiv_ii, 
    divmod_ii, mod_ii, pow_ii, neg_i, ord_ii, is_non, isnt_non, is_bl, isnt_bl, abs_i, int_i, int_b, max_ii, min_ii, len_tup, len_lst, tuple_lst, 
    tuple_tup, list_lst, list_tup, List.getElem?_cons_zero, List.getElem?_cons_succ, List.set_cons_zero, List.set_cons_succ, List.map_cons, List.map_nil, 
    List.cons_append, List.nil_append, List.reduceReplicate, Nat.reduceSub, List.length_cons, List.length_nil, if_true, if_false, reduceIte, reduceCtorEq, 
    Bool.false_eq_true, Bool.true_eq_false, sizeLine_eq, Int.reduceToNat, newCell, ix_tupm, ix_lstm, atI_0, atI_1, atI_2, atI_3, atI_4, atI_5, e]
end LW

namespace LW
open PySem PySem.Spec PyProof.Rows L2 DL
theorem num_inner (sd fd kd : D) (num large : Int) (t0 : Option D) (S : Sto) :
    ∃ (num' large' : Int) (t : Option D), forL (fun _ => True) (gNm 5) L__law_numbers_3 (rangeI 0 12) [some sd, some fd, some kd, some (.int num), some (.int large), t0] S =
      .next [some sd, some fd, some kd, some (.int num'), some (.int large'), t] S := by
  obtain ⟨l', S', e, num', large', t, hl, hS⟩ := forL_range (gd := fun _ => True) (G := gNm 5) (body := L__law_numbers_3) (lo := 0) (n := 12)
    (l := [some sd, some fd, some kd, some (.int num), some (.int large), t0]) (S := S)
    (fun i l S' => ∃ (num' large' : Int) (t : Option D), l = [some sd, some fd, some kd, some (.int num'), some (.int large'), t] ∧ S' = S)
    ⟨num, large, t0, rfl, rfl⟩ (fun _ _ _ _ => trivial) (fun i l S1 hi ⟨num', large', t, hl, hS⟩ => by
      subst hl hS
      refine ⟨_, _, rfl, ?_⟩
      have m1 : (48271 : Int).natAbs < 2 ^ 64 := by decide
      have m2 : (1000003 : Int).natAbs < 2 ^ 64 := by decide
      have m3 : (0 + (i : Int)).natAbs < 2 ^ 64 := by omega
      refine ⟨[some sd, some fd, some kd, some (.int ((num' * 48271 + (0 + (i : Int)) * (0 + i) + 3) % 2147483647)), some (.int (large' * 1000003 + (num' * 48271 + (0 + (i : Int)) * (0 + i) + 3) % 2147483647 / 5)), some (.int (0 + i))], S1, ?_, _, _, _, rfl, rfl⟩
      unfold L__law_numbers_3
      simp (config := { decide := true }) only [bind_ok, bind_exc, toS_ok, toS_exc, ap_var, ap_c, ap_op2, ap_op1, ap_and, ap_or, ap_not, ap_if, ap_tval, ap_ttruth, ap_tand, ap_tor, ap_tnot, ap_ttrue, 
    ap_nil, ap_cons, ap_tup, ap_lst, ap_lstM, ap_app, ap_sl, ap_pno, ap_pat, toI_int, ap_mt, ap_chain, isBl_bl, truD_bl, truD_int, ap_snil, ap_sbrk, 
    ap_scont, ap_sexpr, ap_sret, ap_sretn, ap_sif, ap_sset, ap_sasg, ap_spar, ap_saug, ap_seq, seqK_next, seqK_ret, seqK_brk, seqK_cont, seqK_exc, ap_for, 
    ap_iseq, ap_ir1, ap_gnm, ap_gtp, gnms_nil, gnms_cons, ap_gsub, Option.map_some, Option.bind_some, loopN_next, loopN_cont, ty_int, ty_bl, ty_str, 
    ty_non, ty_tup, ty_lst, ty_ref, isi_ap, len_ref, get_last, append_last, tuple_last, list_last, add_ii, sub_ii, mul_ii, mulOk_l, mulOk_r, fdiv_ii, 
    divmod_ii, mod_ii, pow_ii, neg_i, ord_ii, is_non, isnt_non, is_bl, isnt_bl, abs_i, int_i, int_b, max_ii, min_ii, len_tup, len_lst, tuple_lst, 
    tuple_tup, list_lst, list_tup, List.getElem?_cons_zero, List.getElem?_cons_succ, List.set_cons_zero, List.set_cons_succ, List.map_cons, List.map_nil, 
    List.cons_append, List.nil_append, List.reduceReplicate, Nat.reduceSub, List.length_cons, List.length_nil, if_true, if_false, reduceIte, reduceCtorEq, 
    Bool.false_eq_true, Bool.true_eq_false, sizeLine_eq, Int.reduceToNat, newCell, ix_tupm, ix_lstm, atI_0, atI_1, atI_2, atI_3, atI_4, atI_5, 
    mul_ii (mulOk_r m1), mul_ii (mulOk_r m2), mul_ii (mulOk_l m3)])
  subst hl hS
  exact ⟨num', large', t, e⟩
theorem num_outer (ns : List Int) (S : Sto) :
    ∃ (k n l t : Option D) (acc : List Int), forL (fun _ => True) (gNm 2) L__law_numbers_2 (rangeI 0 7) [some (.lst (ns.map D.int)), some (.ref S.length), none, none, none, none] (S ++ [.lst []]) =
      .next [some (.lst (ns.map D.int)), some (.ref S.length), k, n, l, t] (S ++ [.lst (acc.map .int)]) ∧ acc.length = 7 := by
  obtain ⟨l', S', e, k, n, l, t, acc, hl, hS, ha⟩ := forL_range (gd := fun _ => True) (G := gNm 2) (body := L__law_numbers_2) (lo := 0) (n := 7)
    (l := [some (.lst (ns.map D.int)), some (.ref S.length), none, none, none, none]) (S := S ++ [.lst []])
    (fun i l' S' => ∃ (k n l t : Option D) (acc : List Int), l' = [some (.lst (ns.map D.int)), some (.ref S.length), k, n, l, t] ∧ S' = S ++ [.lst (acc.map .int)] ∧ acc.length = i)
    ⟨none, none, none, none, [], rfl, rfl, rfl⟩ (fun _ _ _ _ => trivial) (fun i l' S1 hi ⟨k, n, l, t, acc, hl, hS, ha⟩ => by
      subst hl hS
      refine ⟨_, _, rfl, ?_⟩
      have m1 : (1000 : Int).natAbs < 2 ^ 64 := by decide
      have hz : (acc.map D.int).length < 16777216 := by simp; omega
      have fc : ∀ S, F__law_cell [.lst (ns.map D.int), .int (4 + (0 + (i : Int)))] S = .ok (.int (cellOf ns (4 + i))) S := fun S => by
        have := f_cell ns (4 + i) S
        rw [show ((4 + i : Nat) : Int) = 4 + (0 + (i : Int)) by omega] at this
        exact this
      obtain ⟨num', large', t', ei⟩ := num_inner (.lst (ns.map D.int)) (.ref S.length) (.int (0 + i)) (mixed (cellOf ns (4 + i) + 1000 * (0 + (i : Int)))) (mixed (cellOf ns (4 + i) + 1000 * (0 + (i : Int)))) t (S ++ [.lst (acc.map .int)])
      have s12 : small62 12 = true := small62_of (by decide) (by decide)
      have t12 : Int.toNat 12 = 12 := rfl
      refine ⟨[some (.lst (ns.map D.int)), some (.ref S.length), some (.int (0 + i)), some (.int num'), some (.int large'), t'], S ++ [.lst ((acc ++ [large']).map .int)], ?_, _, _, _, _, acc ++ [large'], rfl, rfl, by simp [ha]⟩
      unfold L__law_numbers_2
      simp (config := { decide := true }) only [bind_ok, bind_exc, toS_ok, toS_exc, ap_var, ap_c, ap_op2, ap_op1, ap_and, ap_or, ap_not, ap_if, ap_tval, ap_ttruth, ap_tand, ap_tor, ap_tnot, ap_ttrue, 
    ap_nil, ap_cons, ap_tup, ap_lst, ap_lstM, ap_app, ap_sl, ap_pno, ap_pat, toI_int, ap_mt, ap_chain, isBl_bl, truD_bl, truD_int, ap_snil, ap_sbrk, 
    ap_scont, ap_sexpr, ap_sret, ap_sretn, ap_sif, ap_sset, ap_sasg, ap_spar, ap_saug, ap_seq, seqK_next, seqK_ret, seqK_brk, seqK_cont, seqK_exc, ap_for, 
    ap_iseq, ap_ir1, ap_gnm, ap_gtp, gnms_nil, gnms_cons, ap_gsub, Option.map_some, Option.bind_some, loopN_next, loopN_cont, ty_int, ty_bl, ty_str, 
    ty_non, ty_tup, ty_lst, ty_ref, isi_ap, len_ref, get_last, append_last, tuple_last, list_last, add_ii, sub_ii, mul_ii, mulOk_l, mulOk_r, fdiv_ii, 
    divmod_ii, mod_ii, pow_ii, neg_i, ord_ii, is_non, isnt_non, is_bl, isnt_bl, abs_i, int_i, int_b, max_ii, min_ii, len_tup, len_lst, tuple_lst, 
    tuple_tup, list_lst, list_tup, List.getElem?_cons_zero, List.getElem?_cons_succ, List.set_cons_zero, List.set_cons_succ, List.map_cons, List.map_nil, 
    List.cons_append, List.nil_append, List.reduceReplicate, Nat.reduceSub, List.length_cons, List.length_nil, if_true, if_false, reduceIte, reduceCtorEq, 
    Bool.false_eq_true, Bool.true_eq_false, sizeLine_eq, Int.reduceToNat, newCell, ix_tupm, ix_lstm, atI_0, atI_1, atI_2, atI_3, atI_4, atI_5, 
    mul_ii (mulOk_l m1), fc, f_mixed, s12, t12, ei, hz, List.map_append])
  subst hl hS
  exact ⟨k, n, l, t, acc, e, ha⟩
theorem f_numbers (ns : List Int) (S : Sto) : ∃ xs : List Int, F__law_numbers [.lst (ns.map D.int)] S = .ok (.lst (xs.map .int)) S ∧ xs.length = 7 := by
  have s7 : small62 7 = true := small62_of (by decide) (by decide)
  have t7 : Int.toNat 7 = 7 := rfl
  have fc0 : ∀ S, F__law_cell [.lst (ns.map D.int), .int 0] S = .ok (.int (cellOf ns 0)) S := fun S => f_cell ns 0 S
  cases hb : (cellOf ns 0 % 2 == 0) with
  | true =>
    have hA : iR1 (aCons (eC (.int 7)) aNil) [some (.lst (ns.map D.int)), none, none, none, none, none] S = .ok ⟨rangeI 0 7, fun _ => True⟩ S := by
      simp (config := { decide := true }) only [bind_ok, bind_exc, toS_ok, toS_exc, ap_var, ap_c, ap_op2, ap_op1, ap_and, ap_or, ap_not, ap_if, ap_tval, ap_ttruth, ap_tand, ap_tor, ap_tnot, ap_ttrue, 
    ap_nil, ap_cons, ap_tup, ap_lst, ap_lstM, ap_app, ap_sl, ap_pno, ap_pat, toI_int, ap_mt, ap_chain, isBl_bl, truD_bl, truD_int, ap_snil, ap_sbrk, 
    ap_scont, ap_sexpr, ap_sret, ap_sretn, ap_sif, ap_sset, ap_sasg, ap_spar, ap_saug, ap_seq, seqK_next, seqK_ret, seqK_brk, seqK_cont, seqK_exc, ap_for, 
    ap_iseq, ap_ir1, ap_gnm, ap_gtp, gnms_nil, gnms_cons, ap_gsub, Option.map_some, Option.bind_some, loopN_next, loopN_cont, ty_int, ty_bl, ty_str, 
    ty_non, ty_tup, ty_lst, ty_ref, isi_ap, len_ref, get_last, append_last, tuple_last, list_last, add_ii, sub_ii, mul_ii, mulOk_l, mulOk_r, fdiv_ii, 
    divmod_ii, mod_ii, pow_ii, neg_i, ord_ii, is_non, isnt_non, is_bl, isnt_bl, abs_i, int_i, int_b, max_ii, min_ii, len_tup, len_lst, tuple_lst, 
    tuple_tup, list_lst, list_tup, List.getElem?_cons_zero, List.getElem?_cons_succ, List.set_cons_zero, List.set_cons_succ, List.map_cons, List.map_nil, 
    List.cons_append, List.nil_append, List.reduceReplicate, Nat.reduceSub, List.length_cons, List.length_nil, if_true, if_false, reduceIte, reduceCtorEq, 
    Bool.false_eq_true, Bool.true_eq_false, sizeLine_eq, Int.reduceToNat, newCell, ix_tupm, ix_lstm, atI_0, atI_1, atI_2, atI_3, atI_4, atI_5, s7, t7]
    have lc := lc_map (i := 2) (el := L__law_numbers_1) (l := [some (.lst (ns.map D.int)), none, none, none, none, none]) (S := S) (f := fun d => match d with | .int i => D.int (cellOf ns (4 + i.toNat)) | d => d) hA (fun _ => trivial) (fun d hd acc => by
      obtain ⟨j, hj⟩ := List.mem_iff_getElem?.mp hd
      obtain ⟨_, rfl⟩ := rangeI_get hj
      have fc := f_cell ns (4 + j) (S ++ [.lst acc])
      rw [show ((4 + j : Nat) : Int) = 4 + (0 + (j : Int)) by omega] at fc
      unfold L__law_numbers_1
      simp (config := { decide := true }) only [bind_ok, bind_exc, toS_ok, toS_exc, ap_var, ap_c, ap_op2, ap_op1, ap_and, ap_or, ap_not, ap_if, ap_tval, ap_ttruth, ap_tand, ap_tor, ap_tnot, ap_ttrue, 
    ap_nil, ap_cons, ap_tup, ap_lst, ap_lstM, ap_app, ap_sl, ap_pno, ap_pat, toI_int, ap_mt, ap_chain, isBl_bl, truD_bl, truD_int, ap_snil, ap_sbrk, 
    ap_scont, ap_sexpr, ap_sret, ap_sretn, ap_sif, ap_sset, ap_sasg, ap_spar, ap_saug, ap_seq, seqK_next, seqK_ret, seqK_brk, seqK_cont, seqK_exc, ap_for, 
    ap_iseq, ap_ir1, ap_gnm, ap_gtp, gnms_nil, gnms_cons, ap_gsub, Option.map_some, Option.bind_some, loopN_next, loopN_cont, ty_int, ty_bl, ty_str, 
    ty_non, ty_tup, ty_lst, ty_ref, isi_ap, len_ref, get_last, append_last, tuple_last, list_last, add_ii, sub_ii, mul_ii, mulOk_l, mulOk_r, fdiv_ii, 
    divmod_ii, mod_ii, pow_ii, neg_i, ord_ii, is_non, isnt_non, is_bl, isnt_bl, abs_i, int_i, int_b, max_ii, min_ii, len_tup, len_lst, tuple_lst, 
    tuple_tup, list_lst, list_tup, List.getElem?_cons_zero, List.getElem?_cons_succ, List.set_cons_zero, List.set_cons_succ, List.map_cons, List.map_nil, 
    List.cons_append, List.nil_append, List.reduceReplicate, Nat.reduceSub, List.length_cons, List.length_nil, if_true, if_false, reduceIte, reduceCtorEq, 
    Bool.false_eq_true, Bool.true_eq_false, sizeLine_eq, Int.reduceToNat, newCell, ix_tupm, ix_lstm, atI_0, atI_1, atI_2, atI_3, atI_4, atI_5, fc]
      rw [show (0 + (j : Int)).toNat = j by omega]) (by rw [rangeI_len, sizeLine_eq]; decide) (by exact pures (by unfold rangeI; simp; intro a _; exact pure_int _) _)
    have e7 : (rangeI 0 7).map (fun d => match d with | .int i => D.int (cellOf ns (4 + i.toNat)) | d => d) = ((List.range 7).map fun j => cellOf ns (4 + j)).map D.int := by
      unfold rangeI
      rw [List.map_map, List.map_map]
      refine List.map_congr_left fun j _ => ?_
      show D.int (cellOf ns (4 + (0 + (j : Int)).toNat)) = D.int (cellOf ns (4 + j))
      rw [show (0 + (j : Int)).toNat = j by omega]
    rw [e7] at lc
    refine ⟨(List.range 7).map fun j => cellOf ns (4 + j), run_flat rfl ?_ (pure_lst (by simp; intro a _; exact pure_int _) _), by simp⟩
    unfold A__law_numbers
    simp (config := { decide := true }) only [bind_ok, bind_exc, toS_ok, toS_exc, ap_var, ap_c, ap_op2, ap_op1, ap_and, ap_or, ap_not, ap_if, ap_tval, ap_ttruth, ap_tand, ap_tor, ap_tnot, ap_ttrue, 
    ap_nil, ap_cons, ap_tup, ap_lst, ap_lstM, ap_app, ap_sl, ap_pno, ap_pat, toI_int, ap_mt, ap_chain, isBl_bl, truD_bl, truD_int, ap_snil, ap_sbrk, 
    ap_scont, ap_sexpr, ap_sret, ap_sretn, ap_sif, ap_sset, ap_sasg, ap_spar, ap_saug, ap_seq, seqK_next, seqK_ret, seqK_brk, seqK_cont, seqK_exc, ap_for, 
    ap_iseq, ap_ir1, ap_gnm, ap_gtp, gnms_nil, gnms_cons, ap_gsub, Option.map_some, Option.bind_some, loopN_next, loopN_cont, ty_int, ty_bl, ty_str, 
    ty_non, ty_tup, ty_lst, ty_ref, isi_ap, len_ref, get_last, append_last, tuple_last, list_last, add_ii, sub_ii, mul_ii, mulOk_l, mulOk_r, fdiv_ii, 
    divmod_ii, mod_ii, pow_ii, neg_i, ord_ii, is_non, isnt_non, is_bl, isnt_bl, abs_i, int_i, int_b, max_ii, min_ii, len_tup, len_lst, tuple_lst, 
    tuple_tup, list_lst, list_tup, List.getElem?_cons_zero, List.getElem?_cons_succ, List.set_cons_zero, List.set_cons_succ, List.map_cons, List.map_nil, 
    List.cons_append, List.nil_append, List.reduceReplicate, Nat.reduceSub, List.length_cons, List.length_nil, if_true, if_false, reduceIte, reduceCtorEq, 
    Bool.false_eq_true, Bool.true_eq_false, sizeLine_eq, Int.reduceToNat, newCell, ix_tupm, ix_lstm, atI_0, atI_1, atI_2, atI_3, atI_4, atI_5, fc0, eqv_ii, 
    hb, lc]
  | false =>
    obtain ⟨k, n, l, t, acc, e, ha⟩ := num_outer ns S
    have hp : rlts S.length (acc.map D.int) = true := pures (by simp; intro a _; exact pure_int a) _
    refine ⟨acc, run_ret rfl (S' := S ++ [.lst (acc.map .int)]) (d := .ref S.length) ?_ ?_, ha⟩
    rotate_left
    · exact exit_last hp
    unfold A__law_numbers
    simp (config := { decide := true }) only [bind_ok, bind_exc, toS_ok, toS_exc, ap_var, ap_c, ap_op2, ap_op1, ap_and, ap_or, ap_not, ap_if, ap_tval, ap_ttruth, ap_tand, ap_tor, ap_tnot, ap_ttrue, 
    ap_nil, ap_cons, ap_tup, ap_lst, ap_lstM, ap_app, ap_sl, ap_pno, ap_pat, toI_int, ap_mt, ap_chain, isBl_bl, truD_bl, truD_int, ap_snil, ap_sbrk, 
    ap_scont, ap_sexpr, ap_sret, ap_sretn, ap_sif, ap_sset, ap_sasg, ap_spar, ap_saug, ap_seq, seqK_next, seqK_ret, seqK_brk, seqK_cont, seqK_exc, ap_for, 
    ap_iseq, ap_ir1, ap_gnm, ap_gtp, gnms_nil, gnms_cons, ap_gsub, Option.map_some, Option.bind_some, loopN_next, loopN_cont, ty_int, ty_bl, ty_str, 
    ty_non, ty_tup, ty_lst, ty_ref, isi_ap, len_ref, get_last, append_last, tuple_last, list_last, add_ii, sub_ii, mul_ii, mulOk_l, mulOk_r, fdiv_ii, 
    divmod_ii, mod_ii, pow_ii, neg_i, ord_ii, is_non, isnt_non, is_bl, isnt_bl, abs_i, int_i, int_b, max_ii, min_ii, len_tup, len_lst, tuple_lst, 
    tuple_tup, list_lst, list_tup, List.getElem?_cons_zero, List.getElem?_cons_succ, List.set_cons_zero, List.set_cons_succ, List.map_cons, List.map_nil, 
    List.cons_append, List.nil_append, List.reduceReplicate, Nat.reduceSub, List.length_cons, List.length_nil, if_true, if_false, reduceIte, reduceCtorEq, 
    Bool.false_eq_true, Bool.true_eq_false, sizeLine_eq, Int.reduceToNat, newCell, ix_tupm, ix_lstm, atI_0, atI_1, atI_2, atI_3, atI_4, atI_5, fc0, eqv_ii, 
    hb, s7, t7, e]
end LW

namespace LW
open PySem PySem.Spec PyProof.Rows L2 DL
/-- two live lists at the end -/
def P2 (S : Sto) (xs ys : List D) : Sto := S ++ [.lst xs, .lst ys]
section
variable {S : Sto} {xs ys xs' ys' : List D} {y : D}
theorem p2_len : (P2 S xs ys).length = S.length + 2 := by unfold P2; simp
theorem p2_0 : (P2 S xs ys)[S.length]? = some (.lst xs) := by
  unfold P2; rw [List.getElem?_append_right (Nat.le_refl _), Nat.sub_self]; rfl
theorem p2_1 : (P2 S xs ys)[S.length + 1]? = some (.lst ys) := by
  unfold P2; rw [List.getElem?_append_right (by omega), show S.length + 1 - S.length = 1 by omega]; rfl
theorem p2_s0 : (P2 S xs ys).set S.length (.lst xs') = P2 S xs' ys := by
  unfold P2; rw [List.set_append_right _ _ (Nat.le_refl _), Nat.sub_self]; rfl
theorem p2_s1 : (P2 S xs ys).set (S.length + 1) (.lst ys') = P2 S xs ys' := by
  unfold P2; rw [List.set_append_right _ _ (by omega), show S.length + 1 - S.length = 1 by omega]; rfl
theorem p2_app0 (h : xs.length < 1000) : appendD (.ref S.length) [y] (P2 S xs ys) = .ok .non (P2 S (xs ++ [y]) ys) := by
  unfold appendD
  simp only
  rw [cellL_ref p2_0]
  simp only
  rw [if_pos (by rw [sizeLine_eq]; omega), p2_s0]
theorem p2_app1 (h : ys.length < 1000) : appendD (.ref (S.length + 1)) [y] (P2 S xs ys) = .ok .non (P2 S xs (ys ++ [y])) := by
  unfold appendD
  simp only
  rw [cellL_ref p2_1]
  simp only
  rw [if_pos (by rw [sizeLine_eq]; omega), p2_s1]
theorem p2_pop1 : popD (.ref (S.length + 1)) [] (P2 S xs (ys ++ [y])) = .ok y (P2 S xs ys) := by
  unfold popD
  simp only
  rw [cellL_ref p2_1]
  simp only
  rw [show (ys ++ [y])[(ys ++ [y]).length - 1]? = some y by simp]
  simp only [List.dropLast_concat]
  rw [p2_s1]
theorem p2_ix1 : ixD (.ref (S.length + 1)) (.int (-1)) (P2 S xs (ys ++ [y])) = .ok y (P2 S xs (ys ++ [y])) := by
  show (match seqOf (P2 S xs (ys ++ [y])) (.ref (S.length + 1)) with | some xs' => (match atI xs' (-1) with | some d => Res.ok d (P2 S xs (ys ++ [y])) | none => Res.bad) | none => Res.bad) = _
  rw [seqOf_ref p2_1]
  simp only
  rw [atI_last]
theorem p2_set1 {z : D} : setLD (.ref (S.length + 1)) (.int (-1)) z (P2 S xs (ys ++ [y])) = some (P2 S xs (ys ++ [z])) := by
  unfold setLD
  simp only
  rw [cellL_ref p2_1]
  simp only
  have e : ixN (ys ++ [y]).length (-1) = some ys.length := by
    unfold ixN
    rw [if_neg (by omega), if_pos (by simp; omega)]
    congr 1
    simp
    omega
  rw [e]
  simp only
  rw [p2_s1]
  congr 2
  rw [List.set_append_right _ _ (Nat.le_refl _), Nat.sub_self]
  rfl
theorem p2_ty0 : tyD (P2 S xs ys) (.ref S.length) = some "list" := by rw [ty_ref, p2_0]
theorem p2_ty1 : tyD (P2 S xs ys) (.ref (S.length + 1)) = some "list" := by rw [ty_ref, p2_1]
theorem p2_len0 : lenD [.ref S.length] (P2 S xs ys) = .ok (.int xs.length) (P2 S xs ys) := by rw [len_ref, p2_0]
theorem p2_len1 : lenD [.ref (S.length + 1)] (P2 S xs ys) = .ok (.int ys.length) (P2 S xs ys) := by rw [len_ref, p2_1]
end
theorem nin_words {S : Sto} {z : Str} (ws : List Str) : ninD (.str z) (.tup (ws.map D.str)) S = .ok (.bl (!decide (z ∈ ws))) S := by
  show (match seqOf S (.tup (ws.map D.str)) with
    | some ys => if (flatOk S (.str z) && decide (dps (drs S ys) ≤ 60)) = true then Res.ok (D.bl (!inL S (.str z) ys)) S else Res.bad
    | none => Res.bad) = _
  rw [seqOf_tup]
  simp only
  have h1 : flatOk S (.str z) = true := by unfold flatOk dr; unfold dp; rfl
  have h2 : dr S (.str z) = .str z := by unfold dr; rfl
  rw [h1, dr_strs, dps_strs, if_pos (by decide)]
  unfold inL
  rw [dr_strs, h2, any_strs]
/-- the ifs that stand open behind rows; none: an else or an end too many -/
def dep : Nat → List Row → Option Nat
  | d, [] => some d
  | d, .iff :: rows => dep (d + 1) rows
  | 0, .els :: _ => none
  | 0, .fin :: _ => none
  | d + 1, .els :: rows => dep (d + 1) rows
  | d + 1, .fin :: rows => dep d rows
  | d, _ :: rows => dep d rows
theorem dep_app : ∀ (a b : List Row) (d : Nat), dep d (a ++ b) = (dep d a).bind fun e => dep e b
  | [], b, d => rfl
  | w :: a, b, d => by
    cases w <;> (try cases d) <;> simp only [List.cons_append, dep, dep_app a b, Option.bind]
theorem plain_word (w : Row) (h : w.plain = true) : ∃ z : Str, (∀ S, ixD w.d (.int 0) S = .ok (.str z) S) ∧ z ≠ "if" ∧ z ≠ "else" ∧ z ≠ "end" := by
  cases w with
  | fact k =>
    match k with
    | 0 => exact ⟨"height", fun S => by unfold Row.d factW; simp (config := { decide := true }) only [bind_ok, bind_exc, toS_ok, toS_exc, ap_var, ap_c, ap_op2, ap_op1, ap_and, ap_or, ap_not, ap_if, ap_tval, ap_ttruth, ap_tand, ap_tor, ap_tnot, ap_ttrue, 
    ap_nil, ap_cons, ap_tup, ap_lst, ap_lstM, ap_app, ap_sl, ap_pno, ap_pat, toI_int, ap_mt, ap_chain, isBl_bl, truD_bl, truD_int, ap_snil, ap_sbrk, 
    ap_scont, ap_sexpr, ap_sret, ap_sretn, ap_sif, ap_sset, ap_sasg, ap_spar, ap_saug, ap_seq, seqK_next, seqK_ret, seqK_brk, seqK_cont, seqK_exc, ap_for, 
    ap_iseq, ap_ir1, ap_gnm, ap_gtp, gnms_nil, gnms_cons, ap_gsub, Option.map_some, Option.bind_some, loopN_next, loopN_cont, ty_int, ty_bl, ty_str, 
    ty_non, ty_tup, ty_lst, ty_ref, isi_ap, len_ref, get_last, append_last, tuple_last, list_last, add_ii, sub_ii, mul_ii, mulOk_l, mulOk_r, fdiv_ii, 
    divmod_ii, mod_ii, pow_ii, neg_i, ord_ii, is_non, isnt_non, is_bl, isnt_bl, abs_i, int_i, int_b, max_ii, min_ii, len_tup, len_lst, tuple_lst, 
    tuple_tup, list_lst, list_tup, List.getElem?_cons_zero, List.getElem?_cons_succ, List.set_cons_zero, List.set_cons_succ, List.map_cons, List.map_nil, 
    List.cons_append, List.nil_append, List.reduceReplicate, Nat.reduceSub, List.length_cons, List.length_nil, if_true, if_false, reduceIte, reduceCtorEq, 
    Bool.false_eq_true, Bool.true_eq_false, sizeLine_eq, Int.reduceToNat, newCell, ix_tupm, ix_lstm, atI_0, atI_1, atI_2, atI_3, atI_4, atI_5], by decide, by decide, by decide⟩
    | 1 => exact ⟨"age", fun S => by unfold Row.d factW; simp (config := { decide := true }) only [bind_ok, bind_exc, toS_ok, toS_exc, ap_var, ap_c, ap_op2, ap_op1, ap_and, ap_or, ap_not, ap_if, ap_tval, ap_ttruth, ap_tand, ap_tor, ap_tnot, ap_ttrue, 
    ap_nil, ap_cons, ap_tup, ap_lst, ap_lstM, ap_app, ap_sl, ap_pno, ap_pat, toI_int, ap_mt, ap_chain, isBl_bl, truD_bl, truD_int, ap_snil, ap_sbrk, 
    ap_scont, ap_sexpr, ap_sret, ap_sretn, ap_sif, ap_sset, ap_sasg, ap_spar, ap_saug, ap_seq, seqK_next, seqK_ret, seqK_brk, seqK_cont, seqK_exc, ap_for, 
    ap_iseq, ap_ir1, ap_gnm, ap_gtp, gnms_nil, gnms_cons, ap_gsub, Option.map_some, Option.bind_some, loopN_next, loopN_cont, ty_int, ty_bl, ty_str, 
    ty_non, ty_tup, ty_lst, ty_ref, isi_ap, len_ref, get_last, append_last, tuple_last, list_last, add_ii, sub_ii, mul_ii, mulOk_l, mulOk_r, fdiv_ii, 
    divmod_ii, mod_ii, pow_ii, neg_i, ord_ii, is_non, isnt_non, is_bl, isnt_bl, abs_i, int_i, int_b, max_ii, min_ii, len_tup, len_lst, tuple_lst, 
    tuple_tup, list_lst, list_tup, List.getElem?_cons_zero, List.getElem?_cons_succ, List.set_cons_zero, List.set_cons_succ, List.map_cons, List.map_nil, 
    List.cons_append, List.nil_append, List.reduceReplicate, Nat.reduceSub, List.length_cons, List.length_nil, if_true, if_false, reduceIte, reduceCtorEq, 
    Bool.false_eq_true, Bool.true_eq_false, sizeLine_eq, Int.reduceToNat, newCell, ix_tupm, ix_lstm, atI_0, atI_1, atI_2, atI_3, atI_4, atI_5], by decide, by decide, by decide⟩
    | 2 => exact ⟨"worth", fun S => by unfold Row.d factW; simp (config := { decide := true }) only [bind_ok, bind_exc, toS_ok, toS_exc, ap_var, ap_c, ap_op2, ap_op1, ap_and, ap_or, ap_not, ap_if, ap_tval, ap_ttruth, ap_tand, ap_tor, ap_tnot, ap_ttrue, 
    ap_nil, ap_cons, ap_tup, ap_lst, ap_lstM, ap_app, ap_sl, ap_pno, ap_pat, toI_int, ap_mt, ap_chain, isBl_bl, truD_bl, truD_int, ap_snil, ap_sbrk, 
    ap_scont, ap_sexpr, ap_sret, ap_sretn, ap_sif, ap_sset, ap_sasg, ap_spar, ap_saug, ap_seq, seqK_next, seqK_ret, seqK_brk, seqK_cont, seqK_exc, ap_for, 
    ap_iseq, ap_ir1, ap_gnm, ap_gtp, gnms_nil, gnms_cons, ap_gsub, Option.map_some, Option.bind_some, loopN_next, loopN_cont, ty_int, ty_bl, ty_str, 
    ty_non, ty_tup, ty_lst, ty_ref, isi_ap, len_ref, get_last, append_last, tuple_last, list_last, add_ii, sub_ii, mul_ii, mulOk_l, mulOk_r, fdiv_ii, 
    divmod_ii, mod_ii, pow_ii, neg_i, ord_ii, is_non, isnt_non, is_bl, isnt_bl, abs_i, int_i, int_b, max_ii, min_ii, len_tup, len_lst, tuple_lst, 
    tuple_tup, list_lst, list_tup, List.getElem?_cons_zero, List.getElem?_cons_succ, List.set_cons_zero, List.set_cons_succ, List.map_cons, List.map_nil, 
    List.cons_append, List.nil_append, List.reduceReplicate, Nat.reduceSub, List.length_cons, List.length_nil, if_true, if_false, reduceIte, reduceCtorEq, 
    Bool.false_eq_true, Bool.true_eq_false, sizeLine_eq, Int.reduceToNat, newCell, ix_tupm, ix_lstm, atI_0, atI_1, atI_2, atI_3, atI_4, atI_5], by decide, by decide, by decide⟩
    | 3 => exact ⟨"ins", fun S => by unfold Row.d factW; simp (config := { decide := true }) only [bind_ok, bind_exc, toS_ok, toS_exc, ap_var, ap_c, ap_op2, ap_op1, ap_and, ap_or, ap_not, ap_if, ap_tval, ap_ttruth, ap_tand, ap_tor, ap_tnot, ap_ttrue, 
    ap_nil, ap_cons, ap_tup, ap_lst, ap_lstM, ap_app, ap_sl, ap_pno, ap_pat, toI_int, ap_mt, ap_chain, isBl_bl, truD_bl, truD_int, ap_snil, ap_sbrk, 
    ap_scont, ap_sexpr, ap_sret, ap_sretn, ap_sif, ap_sset, ap_sasg, ap_spar, ap_saug, ap_seq, seqK_next, seqK_ret, seqK_brk, seqK_cont, seqK_exc, ap_for, 
    ap_iseq, ap_ir1, ap_gnm, ap_gtp, gnms_nil, gnms_cons, ap_gsub, Option.map_some, Option.bind_some, loopN_next, loopN_cont, ty_int, ty_bl, ty_str, 
    ty_non, ty_tup, ty_lst, ty_ref, isi_ap, len_ref, get_last, append_last, tuple_last, list_last, add_ii, sub_ii, mul_ii, mulOk_l, mulOk_r, fdiv_ii, 
    divmod_ii, mod_ii, pow_ii, neg_i, ord_ii, is_non, isnt_non, is_bl, isnt_bl, abs_i, int_i, int_b, max_ii, min_ii, len_tup, len_lst, tuple_lst, 
    tuple_tup, list_lst, list_tup, List.getElem?_cons_zero, List.getElem?_cons_succ, List.set_cons_zero, List.set_cons_succ, List.map_cons, List.map_nil, 
    List.cons_append, List.nil_append, List.reduceReplicate, Nat.reduceSub, List.length_cons, List.length_nil, if_true, if_false, reduceIte, reduceCtorEq, 
    Bool.false_eq_true, Bool.true_eq_false, sizeLine_eq, Int.reduceToNat, newCell, ix_tupm, ix_lstm, atI_0, atI_1, atI_2, atI_3, atI_4, atI_5], by decide, by decide, by decide⟩
    | 4 => exact ⟨"outs", fun S => by unfold Row.d factW; simp (config := { decide := true }) only [bind_ok, bind_exc, toS_ok, toS_exc, ap_var, ap_c, ap_op2, ap_op1, ap_and, ap_or, ap_not, ap_if, ap_tval, ap_ttruth, ap_tand, ap_tor, ap_tnot, ap_ttrue, 
    ap_nil, ap_cons, ap_tup, ap_lst, ap_lstM, ap_app, ap_sl, ap_pno, ap_pat, toI_int, ap_mt, ap_chain, isBl_bl, truD_bl, truD_int, ap_snil, ap_sbrk, 
    ap_scont, ap_sexpr, ap_sret, ap_sretn, ap_sif, ap_sset, ap_sasg, ap_spar, ap_saug, ap_seq, seqK_next, seqK_ret, seqK_brk, seqK_cont, seqK_exc, ap_for, 
    ap_iseq, ap_ir1, ap_gnm, ap_gtp, gnms_nil, gnms_cons, ap_gsub, Option.map_some, Option.bind_some, loopN_next, loopN_cont, ty_int, ty_bl, ty_str, 
    ty_non, ty_tup, ty_lst, ty_ref, isi_ap, len_ref, get_last, append_last, tuple_last, list_last, add_ii, sub_ii, mul_ii, mulOk_l, mulOk_r, fdiv_ii, 
    divmod_ii, mod_ii, pow_ii, neg_i, ord_ii, is_non, isnt_non, is_bl, isnt_bl, abs_i, int_i, int_b, max_ii, min_ii, len_tup, len_lst, tuple_lst, 
    tuple_tup, list_lst, list_tup, List.getElem?_cons_zero, List.getElem?_cons_succ, List.set_cons_zero, List.set_cons_succ, List.map_cons, List.map_nil, 
    List.cons_append, List.nil_append, List.reduceReplicate, Nat.reduceSub, List.length_cons, List.length_nil, if_true, if_false, reduceIte, reduceCtorEq, 
    Bool.false_eq_true, Bool.true_eq_false, sizeLine_eq, Int.reduceToNat, newCell, ix_tupm, ix_lstm, atI_0, atI_1, atI_2, atI_3, atI_4, atI_5], by decide, by decide, by decide⟩
  | iff => cases h
  | els => cases h
  | fin => cases h
  | drop => exact ⟨"drop", fun S => by unfold Row.d; simp (config := { decide := true }) only [bind_ok, bind_exc, toS_ok, toS_exc, ap_var, ap_c, ap_op2, ap_op1, ap_and, ap_or, ap_not, ap_if, ap_tval, ap_ttruth, ap_tand, ap_tor, ap_tnot, ap_ttrue, 
    ap_nil, ap_cons, ap_tup, ap_lst, ap_lstM, ap_app, ap_sl, ap_pno, ap_pat, toI_int, ap_mt, ap_chain, isBl_bl, truD_bl, truD_int, ap_snil, ap_sbrk, 
    ap_scont, ap_sexpr, ap_sret, ap_sretn, ap_sif, ap_sset, ap_sasg, ap_spar, ap_saug, ap_seq, seqK_next, seqK_ret, seqK_brk, seqK_cont, seqK_exc, ap_for, 
    ap_iseq, ap_ir1, ap_gnm, ap_gtp, gnms_nil, gnms_cons, ap_gsub, Option.map_some, Option.bind_some, loopN_next, loopN_cont, ty_int, ty_bl, ty_str, 
    ty_non, ty_tup, ty_lst, ty_ref, isi_ap, len_ref, get_last, append_last, tuple_last, list_last, add_ii, sub_ii, mul_ii, mulOk_l, mulOk_r, fdiv_ii, 
    divmod_ii, mod_ii, pow_ii, neg_i, ord_ii, is_non, isnt_non, is_bl, isnt_bl, abs_i, int_i, int_b, max_ii, min_ii, len_tup, len_lst, tuple_lst, 
    tuple_tup, list_lst, list_tup, List.getElem?_cons_zero, List.getElem?_cons_succ, List.set_cons_zero, List.set_cons_succ, List.map_cons, List.map_nil, 
    List.cons_append, List.nil_append, List.reduceReplicate, Nat.reduceSub, List.length_cons, List.length_nil, if_true, if_false, reduceIte, reduceCtorEq, 
    Bool.false_eq_true, Bool.true_eq_false, sizeLine_eq, Int.reduceToNat, newCell, ix_tupm, ix_lstm, atI_0, atI_1, atI_2, atI_3, atI_4, atI_5], by decide, by decide, by decide⟩
  | swap => exact ⟨"swap", fun S => by unfold Row.d; simp (config := { decide := true }) only [bind_ok, bind_exc, toS_ok, toS_exc, ap_var, ap_c, ap_op2, ap_op1, ap_and, ap_or, ap_not, ap_if, ap_tval, ap_ttruth, ap_tand, ap_tor, ap_tnot, ap_ttrue, 
    ap_nil, ap_cons, ap_tup, ap_lst, ap_lstM, ap_app, ap_sl, ap_pno, ap_pat, toI_int, ap_mt, ap_chain, isBl_bl, truD_bl, truD_int, ap_snil, ap_sbrk, 
    ap_scont, ap_sexpr, ap_sret, ap_sretn, ap_sif, ap_sset, ap_sasg, ap_spar, ap_saug, ap_seq, seqK_next, seqK_ret, seqK_brk, seqK_cont, seqK_exc, ap_for, 
    ap_iseq, ap_ir1, ap_gnm, ap_gtp, gnms_nil, gnms_cons, ap_gsub, Option.map_some, Option.bind_some, loopN_next, loopN_cont, ty_int, ty_bl, ty_str, 
    ty_non, ty_tup, ty_lst, ty_ref, isi_ap, len_ref, get_last, append_last, tuple_last, list_last, add_ii, sub_ii, mul_ii, mulOk_l, mulOk_r, fdiv_ii, 
    divmod_ii, mod_ii, pow_ii, neg_i, ord_ii, is_non, isnt_non, is_bl, isnt_bl, abs_i, int_i, int_b, max_ii, min_ii, len_tup, len_lst, tuple_lst, 
    tuple_tup, list_lst, list_tup, List.getElem?_cons_zero, List.getElem?_cons_succ, List.set_cons_zero, List.set_cons_succ, List.map_cons, List.map_nil, 
    List.cons_append, List.nil_append, List.reduceReplicate, Nat.reduceSub, List.length_cons, List.length_nil, if_true, if_false, reduceIte, reduceCtorEq, 
    Bool.false_eq_true, Bool.true_eq_false, sizeLine_eq, Int.reduceToNat, newCell, ix_tupm, ix_lstm, atI_0, atI_1, atI_2, atI_3, atI_4, atI_5], by decide, by decide, by decide⟩
  | not => exact ⟨"not", fun S => by unfold Row.d; simp (config := { decide := true }) only [bind_ok, bind_exc, toS_ok, toS_exc, ap_var, ap_c, ap_op2, ap_op1, ap_and, ap_or, ap_not, ap_if, ap_tval, ap_ttruth, ap_tand, ap_tor, ap_tnot, ap_ttrue, 
    ap_nil, ap_cons, ap_tup, ap_lst, ap_lstM, ap_app, ap_sl, ap_pno, ap_pat, toI_int, ap_mt, ap_chain, isBl_bl, truD_bl, truD_int, ap_snil, ap_sbrk, 
    ap_scont, ap_sexpr, ap_sret, ap_sretn, ap_sif, ap_sset, ap_sasg, ap_spar, ap_saug, ap_seq, seqK_next, seqK_ret, seqK_brk, seqK_cont, seqK_exc, ap_for, 
    ap_iseq, ap_ir1, ap_gnm, ap_gtp, gnms_nil, gnms_cons, ap_gsub, Option.map_some, Option.bind_some, loopN_next, loopN_cont, ty_int, ty_bl, ty_str, 
    ty_non, ty_tup, ty_lst, ty_ref, isi_ap, len_ref, get_last, append_last, tuple_last, list_last, add_ii, sub_ii, mul_ii, mulOk_l, mulOk_r, fdiv_ii, 
    divmod_ii, mod_ii, pow_ii, neg_i, ord_ii, is_non, isnt_non, is_bl, isnt_bl, abs_i, int_i, int_b, max_ii, min_ii, len_tup, len_lst, tuple_lst, 
    tuple_tup, list_lst, list_tup, List.getElem?_cons_zero, List.getElem?_cons_succ, List.set_cons_zero, List.set_cons_succ, List.map_cons, List.map_nil, 
    List.cons_append, List.nil_append, List.reduceReplicate, Nat.reduceSub, List.length_cons, List.length_nil, if_true, if_false, reduceIte, reduceCtorEq, 
    Bool.false_eq_true, Bool.true_eq_false, sizeLine_eq, Int.reduceToNat, newCell, ix_tupm, ix_lstm, atI_0, atI_1, atI_2, atI_3, atI_4, atI_5], by decide, by decide, by decide⟩
  | need => exact ⟨"need", fun S => by unfold Row.d; simp (config := { decide := true }) only [bind_ok, bind_exc, toS_ok, toS_exc, ap_var, ap_c, ap_op2, ap_op1, ap_and, ap_or, ap_not, ap_if, ap_tval, ap_ttruth, ap_tand, ap_tor, ap_tnot, ap_ttrue, 
    ap_nil, ap_cons, ap_tup, ap_lst, ap_lstM, ap_app, ap_sl, ap_pno, ap_pat, toI_int, ap_mt, ap_chain, isBl_bl, truD_bl, truD_int, ap_snil, ap_sbrk, 
    ap_scont, ap_sexpr, ap_sret, ap_sretn, ap_sif, ap_sset, ap_sasg, ap_spar, ap_saug, ap_seq, seqK_next, seqK_ret, seqK_brk, seqK_cont, seqK_exc, ap_for, 
    ap_iseq, ap_ir1, ap_gnm, ap_gtp, gnms_nil, gnms_cons, ap_gsub, Option.map_some, Option.bind_some, loopN_next, loopN_cont, ty_int, ty_bl, ty_str, 
    ty_non, ty_tup, ty_lst, ty_ref, isi_ap, len_ref, get_last, append_last, tuple_last, list_last, add_ii, sub_ii, mul_ii, mulOk_l, mulOk_r, fdiv_ii, 
    divmod_ii, mod_ii, pow_ii, neg_i, ord_ii, is_non, isnt_non, is_bl, isnt_bl, abs_i, int_i, int_b, max_ii, min_ii, len_tup, len_lst, tuple_lst, 
    tuple_tup, list_lst, list_tup, List.getElem?_cons_zero, List.getElem?_cons_succ, List.set_cons_zero, List.set_cons_succ, List.map_cons, List.map_nil, 
    List.cons_append, List.nil_append, List.reduceReplicate, Nat.reduceSub, List.length_cons, List.length_nil, if_true, if_false, reduceIte, reduceCtorEq, 
    Bool.false_eq_true, Bool.true_eq_false, sizeLine_eq, Int.reduceToNat, newCell, ix_tupm, ix_lstm, atI_0, atI_1, atI_2, atI_3, atI_4, atI_5], by decide, by decide, by decide⟩
  | add => exact ⟨"add", fun S => by unfold Row.d; simp (config := { decide := true }) only [bind_ok, bind_exc, toS_ok, toS_exc, ap_var, ap_c, ap_op2, ap_op1, ap_and, ap_or, ap_not, ap_if, ap_tval, ap_ttruth, ap_tand, ap_tor, ap_tnot, ap_ttrue, 
    ap_nil, ap_cons, ap_tup, ap_lst, ap_lstM, ap_app, ap_sl, ap_pno, ap_pat, toI_int, ap_mt, ap_chain, isBl_bl, truD_bl, truD_int, ap_snil, ap_sbrk, 
    ap_scont, ap_sexpr, ap_sret, ap_sretn, ap_sif, ap_sset, ap_sasg, ap_spar, ap_saug, ap_seq, seqK_next, seqK_ret, seqK_brk, seqK_cont, seqK_exc, ap_for, 
    ap_iseq, ap_ir1, ap_gnm, ap_gtp, gnms_nil, gnms_cons, ap_gsub, Option.map_some, Option.bind_some, loopN_next, loopN_cont, ty_int, ty_bl, ty_str, 
    ty_non, ty_tup, ty_lst, ty_ref, isi_ap, len_ref, get_last, append_last, tuple_last, list_last, add_ii, sub_ii, mul_ii, mulOk_l, mulOk_r, fdiv_ii, 
    divmod_ii, mod_ii, pow_ii, neg_i, ord_ii, is_non, isnt_non, is_bl, isnt_bl, abs_i, int_i, int_b, max_ii, min_ii, len_tup, len_lst, tuple_lst, 
    tuple_tup, list_lst, list_tup, List.getElem?_cons_zero, List.getElem?_cons_succ, List.set_cons_zero, List.set_cons_succ, List.map_cons, List.map_nil, 
    List.cons_append, List.nil_append, List.reduceReplicate, Nat.reduceSub, List.length_cons, List.length_nil, if_true, if_false, reduceIte, reduceCtorEq, 
    Bool.false_eq_true, Bool.true_eq_false, sizeLine_eq, Int.reduceToNat, newCell, ix_tupm, ix_lstm, atI_0, atI_1, atI_2, atI_3, atI_4, atI_5], by decide, by decide, by decide⟩
  | sub => exact ⟨"sub", fun S => by unfold Row.d; simp (config := { decide := true }) only [bind_ok, bind_exc, toS_ok, toS_exc, ap_var, ap_c, ap_op2, ap_op1, ap_and, ap_or, ap_not, ap_if, ap_tval, ap_ttruth, ap_tand, ap_tor, ap_tnot, ap_ttrue, 
    ap_nil, ap_cons, ap_tup, ap_lst, ap_lstM, ap_app, ap_sl, ap_pno, ap_pat, toI_int, ap_mt, ap_chain, isBl_bl, truD_bl, truD_int, ap_snil, ap_sbrk, 
    ap_scont, ap_sexpr, ap_sret, ap_sretn, ap_sif, ap_sset, ap_sasg, ap_spar, ap_saug, ap_seq, seqK_next, seqK_ret, seqK_brk, seqK_cont, seqK_exc, ap_for, 
    ap_iseq, ap_ir1, ap_gnm, ap_gtp, gnms_nil, gnms_cons, ap_gsub, Option.map_some, Option.bind_some, loopN_next, loopN_cont, ty_int, ty_bl, ty_str, 
    ty_non, ty_tup, ty_lst, ty_ref, isi_ap, len_ref, get_last, append_last, tuple_last, list_last, add_ii, sub_ii, mul_ii, mulOk_l, mulOk_r, fdiv_ii, 
    divmod_ii, mod_ii, pow_ii, neg_i, ord_ii, is_non, isnt_non, is_bl, isnt_bl, abs_i, int_i, int_b, max_ii, min_ii, len_tup, len_lst, tuple_lst, 
    tuple_tup, list_lst, list_tup, List.getElem?_cons_zero, List.getElem?_cons_succ, List.set_cons_zero, List.set_cons_succ, List.map_cons, List.map_nil, 
    List.cons_append, List.nil_append, List.reduceReplicate, Nat.reduceSub, List.length_cons, List.length_nil, if_true, if_false, reduceIte, reduceCtorEq, 
    Bool.false_eq_true, Bool.true_eq_false, sizeLine_eq, Int.reduceToNat, newCell, ix_tupm, ix_lstm, atI_0, atI_1, atI_2, atI_3, atI_4, atI_5], by decide, by decide, by decide⟩
  | mul => exact ⟨"mul", fun S => by unfold Row.d; simp (config := { decide := true }) only [bind_ok, bind_exc, toS_ok, toS_exc, ap_var, ap_c, ap_op2, ap_op1, ap_and, ap_or, ap_not, ap_if, ap_tval, ap_ttruth, ap_tand, ap_tor, ap_tnot, ap_ttrue, 
    ap_nil, ap_cons, ap_tup, ap_lst, ap_lstM, ap_app, ap_sl, ap_pno, ap_pat, toI_int, ap_mt, ap_chain, isBl_bl, truD_bl, truD_int, ap_snil, ap_sbrk, 
    ap_scont, ap_sexpr, ap_sret, ap_sretn, ap_sif, ap_sset, ap_sasg, ap_spar, ap_saug, ap_seq, seqK_next, seqK_ret, seqK_brk, seqK_cont, seqK_exc, ap_for, 
    ap_iseq, ap_ir1, ap_gnm, ap_gtp, gnms_nil, gnms_cons, ap_gsub, Option.map_some, Option.bind_some, loopN_next, loopN_cont, ty_int, ty_bl, ty_str, 
    ty_non, ty_tup, ty_lst, ty_ref, isi_ap, len_ref, get_last, append_last, tuple_last, list_last, add_ii, sub_ii, mul_ii, mulOk_l, mulOk_r, fdiv_ii, 
    divmod_ii, mod_ii, pow_ii, neg_i, ord_ii, is_non, isnt_non, is_bl, isnt_bl, abs_i, int_i, int_b, max_ii, min_ii, len_tup, len_lst, tuple_lst, 
    tuple_tup, list_lst, list_tup, List.getElem?_cons_zero, List.getElem?_cons_succ, List.set_cons_zero, List.set_cons_succ, List.map_cons, List.map_nil, 
    List.cons_append, List.nil_append, List.reduceReplicate, Nat.reduceSub, List.length_cons, List.length_nil, if_true, if_false, reduceIte, reduceCtorEq, 
    Bool.false_eq_true, Bool.true_eq_false, sizeLine_eq, Int.reduceToNat, newCell, ix_tupm, ix_lstm, atI_0, atI_1, atI_2, atI_3, atI_4, atI_5], by decide, by decide, by decide⟩
  | less => exact ⟨"less", fun S => by unfold Row.d; simp (config := { decide := true }) only [bind_ok, bind_exc, toS_ok, toS_exc, ap_var, ap_c, ap_op2, ap_op1, ap_and, ap_or, ap_not, ap_if, ap_tval, ap_ttruth, ap_tand, ap_tor, ap_tnot, ap_ttrue, 
    ap_nil, ap_cons, ap_tup, ap_lst, ap_lstM, ap_app, ap_sl, ap_pno, ap_pat, toI_int, ap_mt, ap_chain, isBl_bl, truD_bl, truD_int, ap_snil, ap_sbrk, 
    ap_scont, ap_sexpr, ap_sret, ap_sretn, ap_sif, ap_sset, ap_sasg, ap_spar, ap_saug, ap_seq, seqK_next, seqK_ret, seqK_brk, seqK_cont, seqK_exc, ap_for, 
    ap_iseq, ap_ir1, ap_gnm, ap_gtp, gnms_nil, gnms_cons, ap_gsub, Option.map_some, Option.bind_some, loopN_next, loopN_cont, ty_int, ty_bl, ty_str, 
    ty_non, ty_tup, ty_lst, ty_ref, isi_ap, len_ref, get_last, append_last, tuple_last, list_last, add_ii, sub_ii, mul_ii, mulOk_l, mulOk_r, fdiv_ii, 
    divmod_ii, mod_ii, pow_ii, neg_i, ord_ii, is_non, isnt_non, is_bl, isnt_bl, abs_i, int_i, int_b, max_ii, min_ii, len_tup, len_lst, tuple_lst, 
    tuple_tup, list_lst, list_tup, List.getElem?_cons_zero, List.getElem?_cons_succ, List.set_cons_zero, List.set_cons_succ, List.map_cons, List.map_nil, 
    List.cons_append, List.nil_append, List.reduceReplicate, Nat.reduceSub, List.length_cons, List.length_nil, if_true, if_false, reduceIte, reduceCtorEq, 
    Bool.false_eq_true, Bool.true_eq_false, sizeLine_eq, Int.reduceToNat, newCell, ix_tupm, ix_lstm, atI_0, atI_1, atI_2, atI_3, atI_4, atI_5], by decide, by decide, by decide⟩
  | same => exact ⟨"same", fun S => by unfold Row.d; simp (config := { decide := true }) only [bind_ok, bind_exc, toS_ok, toS_exc, ap_var, ap_c, ap_op2, ap_op1, ap_and, ap_or, ap_not, ap_if, ap_tval, ap_ttruth, ap_tand, ap_tor, ap_tnot, ap_ttrue, 
    ap_nil, ap_cons, ap_tup, ap_lst, ap_lstM, ap_app, ap_sl, ap_pno, ap_pat, toI_int, ap_mt, ap_chain, isBl_bl, truD_bl, truD_int, ap_snil, ap_sbrk, 
    ap_scont, ap_sexpr, ap_sret, ap_sretn, ap_sif, ap_sset, ap_sasg, ap_spar, ap_saug, ap_seq, seqK_next, seqK_ret, seqK_brk, seqK_cont, seqK_exc, ap_for, 
    ap_iseq, ap_ir1, ap_gnm, ap_gtp, gnms_nil, gnms_cons, ap_gsub, Option.map_some, Option.bind_some, loopN_next, loopN_cont, ty_int, ty_bl, ty_str, 
    ty_non, ty_tup, ty_lst, ty_ref, isi_ap, len_ref, get_last, append_last, tuple_last, list_last, add_ii, sub_ii, mul_ii, mulOk_l, mulOk_r, fdiv_ii, 
    divmod_ii, mod_ii, pow_ii, neg_i, ord_ii, is_non, isnt_non, is_bl, isnt_bl, abs_i, int_i, int_b, max_ii, min_ii, len_tup, len_lst, tuple_lst, 
    tuple_tup, list_lst, list_tup, List.getElem?_cons_zero, List.getElem?_cons_succ, List.set_cons_zero, List.set_cons_succ, List.map_cons, List.map_nil, 
    List.cons_append, List.nil_append, List.reduceReplicate, Nat.reduceSub, List.length_cons, List.length_nil, if_true, if_false, reduceIte, reduceCtorEq, 
    Bool.false_eq_true, Bool.true_eq_false, sizeLine_eq, Int.reduceToNat, newCell, ix_tupm, ix_lstm, atI_0, atI_1, atI_2, atI_3, atI_4, atI_5], by decide, by decide, by decide⟩
  | paid k => exact ⟨"paid", fun S => by unfold Row.d; simp (config := { decide := true }) only [bind_ok, bind_exc, toS_ok, toS_exc, ap_var, ap_c, ap_op2, ap_op1, ap_and, ap_or, ap_not, ap_if, ap_tval, ap_ttruth, ap_tand, ap_tor, ap_tnot, ap_ttrue, 
    ap_nil, ap_cons, ap_tup, ap_lst, ap_lstM, ap_app, ap_sl, ap_pno, ap_pat, toI_int, ap_mt, ap_chain, isBl_bl, truD_bl, truD_int, ap_snil, ap_sbrk, 
    ap_scont, ap_sexpr, ap_sret, ap_sretn, ap_sif, ap_sset, ap_sasg, ap_spar, ap_saug, ap_seq, seqK_next, seqK_ret, seqK_brk, seqK_cont, seqK_exc, ap_for, 
    ap_iseq, ap_ir1, ap_gnm, ap_gtp, gnms_nil, gnms_cons, ap_gsub, Option.map_some, Option.bind_some, loopN_next, loopN_cont, ty_int, ty_bl, ty_str, 
    ty_non, ty_tup, ty_lst, ty_ref, isi_ap, len_ref, get_last, append_last, tuple_last, list_last, add_ii, sub_ii, mul_ii, mulOk_l, mulOk_r, fdiv_ii, 
    divmod_ii, mod_ii, pow_ii, neg_i, ord_ii, is_non, isnt_non, is_bl, isnt_bl, abs_i, int_i, int_b, max_ii, min_ii, len_tup, len_lst, tuple_lst, 
    tuple_tup, list_lst, list_tup, List.getElem?_cons_zero, List.getElem?_cons_succ, List.set_cons_zero, List.set_cons_succ, List.map_cons, List.map_nil, 
    List.cons_append, List.nil_append, List.reduceReplicate, Nat.reduceSub, List.length_cons, List.length_nil, if_true, if_false, reduceIte, reduceCtorEq, 
    Bool.false_eq_true, Bool.true_eq_false, sizeLine_eq, Int.reduceToNat, newCell, ix_tupm, ix_lstm, atI_0, atI_1, atI_2, atI_3, atI_4, atI_5], by decide, by decide, by decide⟩
  | push n => exact ⟨"push", fun S => by unfold Row.d; simp (config := { decide := true }) only [bind_ok, bind_exc, toS_ok, toS_exc, ap_var, ap_c, ap_op2, ap_op1, ap_and, ap_or, ap_not, ap_if, ap_tval, ap_ttruth, ap_tand, ap_tor, ap_tnot, ap_ttrue, 
    ap_nil, ap_cons, ap_tup, ap_lst, ap_lstM, ap_app, ap_sl, ap_pno, ap_pat, toI_int, ap_mt, ap_chain, isBl_bl, truD_bl, truD_int, ap_snil, ap_sbrk, 
    ap_scont, ap_sexpr, ap_sret, ap_sretn, ap_sif, ap_sset, ap_sasg, ap_spar, ap_saug, ap_seq, seqK_next, seqK_ret, seqK_brk, seqK_cont, seqK_exc, ap_for, 
    ap_iseq, ap_ir1, ap_gnm, ap_gtp, gnms_nil, gnms_cons, ap_gsub, Option.map_some, Option.bind_some, loopN_next, loopN_cont, ty_int, ty_bl, ty_str, 
    ty_non, ty_tup, ty_lst, ty_ref, isi_ap, len_ref, get_last, append_last, tuple_last, list_last, add_ii, sub_ii, mul_ii, mulOk_l, mulOk_r, fdiv_ii, 
    divmod_ii, mod_ii, pow_ii, neg_i, ord_ii, is_non, isnt_non, is_bl, isnt_bl, abs_i, int_i, int_b, max_ii, min_ii, len_tup, len_lst, tuple_lst, 
    tuple_tup, list_lst, list_tup, List.getElem?_cons_zero, List.getElem?_cons_succ, List.set_cons_zero, List.set_cons_succ, List.map_cons, List.map_nil, 
    List.cons_append, List.nil_append, List.reduceReplicate, Nat.reduceSub, List.length_cons, List.length_nil, if_true, if_false, reduceIte, reduceCtorEq, 
    Bool.false_eq_true, Bool.true_eq_false, sizeLine_eq, Int.reduceToNat, newCell, ix_tupm, ix_lstm, atI_0, atI_1, atI_2, atI_3, atI_4, atI_5], by decide, by decide, by decide⟩
  | copy k => exact ⟨"copy", fun S => by unfold Row.d; simp (config := { decide := true }) only [bind_ok, bind_exc, toS_ok, toS_exc, ap_var, ap_c, ap_op2, ap_op1, ap_and, ap_or, ap_not, ap_if, ap_tval, ap_ttruth, ap_tand, ap_tor, ap_tnot, ap_ttrue, 
    ap_nil, ap_cons, ap_tup, ap_lst, ap_lstM, ap_app, ap_sl, ap_pno, ap_pat, toI_int, ap_mt, ap_chain, isBl_bl, truD_bl, truD_int, ap_snil, ap_sbrk, 
    ap_scont, ap_sexpr, ap_sret, ap_sretn, ap_sif, ap_sset, ap_sasg, ap_spar, ap_saug, ap_seq, seqK_next, seqK_ret, seqK_brk, seqK_cont, seqK_exc, ap_for, 
    ap_iseq, ap_ir1, ap_gnm, ap_gtp, gnms_nil, gnms_cons, ap_gsub, Option.map_some, Option.bind_some, loopN_next, loopN_cont, ty_int, ty_bl, ty_str, 
    ty_non, ty_tup, ty_lst, ty_ref, isi_ap, len_ref, get_last, append_last, tuple_last, list_last, add_ii, sub_ii, mul_ii, mulOk_l, mulOk_r, fdiv_ii, 
    divmod_ii, mod_ii, pow_ii, neg_i, ord_ii, is_non, isnt_non, is_bl, isnt_bl, abs_i, int_i, int_b, max_ii, min_ii, len_tup, len_lst, tuple_lst, 
    tuple_tup, list_lst, list_tup, List.getElem?_cons_zero, List.getElem?_cons_succ, List.set_cons_zero, List.set_cons_succ, List.map_cons, List.map_nil, 
    List.cons_append, List.nil_append, List.reduceReplicate, Nat.reduceSub, List.length_cons, List.length_nil, if_true, if_false, reduceIte, reduceCtorEq, 
    Bool.false_eq_true, Bool.true_eq_false, sizeLine_eq, Int.reduceToNat, newCell, ix_tupm, ix_lstm, atI_0, atI_1, atI_2, atI_3, atI_4, atI_5], by decide, by decide, by decide⟩
theorem dps_bls : ∀ l : List Bool, dps (l.map D.bl) = 0
  | [] => by unfold dps; rfl
  | w :: ws => by
    rw [List.map_cons]
    unfold dps
    rw [dps_bls ws]
    unfold dp; rfl
/-- one row of a part -/
theorem part_body (num most many : Int) (k0 r0 m0 : Option D) (rows : List Row) (op : List Bool) (S : Sto) (kd : D) (hr : rows.length < 100) (ho : op.length ≤ rows.length) (hd : dep 0 rows = some op.length) :
    ∃ (num' : Int) (r m : Option D) (rows' : List Row) (op' : List Bool), L__law_part_1 [some (.int num), some (.int most), some (.ref S.length), some (.ref (S.length + 1)), some (.int many), some kd, r0, m0] (P2 S (rows.map Row.d) (op.map D.bl)) =
      .next [some (.int num'), some (.int most), some (.ref S.length), some (.ref (S.length + 1)), some (.int many), some kd, r, m] (P2 S (rows'.map Row.d) (op'.map D.bl)) ∧ rows'.length ≤ rows.length + 1 ∧ op'.length ≤ rows'.length ∧ dep 0 rows' = some op'.length := by
  obtain ⟨n', w, ed, hw⟩ := f_digit num (P2 S (rows.map Row.d) (op.map D.bl))
  obtain ⟨room, hroom⟩ : ∃ room : Int, most - (rows.length : Int) - (op.length : Int) = room := ⟨_, rfl⟩
  have ap0 : appendD (.ref S.length) [w.d] (P2 S (rows.map Row.d) (op.map D.bl)) = .ok .non (P2 S ((rows ++ [w]).map Row.d) (op.map D.bl)) := by
    rw [List.map_append]
    exact p2_app0 (by simp; omega)
  by_cases hp : w.plain = true
  · obtain ⟨z, hz, z1, z2, z3⟩ := plain_word w hp
    have hn : ninD (.str z) (.tup [.str "if", .str "else", .str "end"]) (P2 S (rows.map Row.d) (op.map D.bl)) = .ok (.bl true) (P2 S (rows.map Row.d) (op.map D.bl)) := by
      have := nin_words (S := P2 S (rows.map Row.d) (op.map D.bl)) (z := z) ["if", "else", "end"]
      rw [decide_eq_false (by simp; exact ⟨z1, z2, z3⟩)] at this
      exact this
    by_cases hg : (0 : Int) < room
    · refine ⟨n', some w.d, some (.int room), rows ++ [w], op, ?_, by simp, by simp; omega, ?_⟩
      · unfold L__law_part_1
        simp (config := { decide := true }) only [bind_ok, bind_exc, toS_ok, toS_exc, ap_var, ap_c, ap_op2, ap_op1, ap_and, ap_or, ap_not, ap_if, ap_tval, ap_ttruth, ap_tand, ap_tor, ap_tnot, ap_ttrue, 
    ap_nil, ap_cons, ap_tup, ap_lst, ap_lstM, ap_app, ap_sl, ap_pno, ap_pat, toI_int, ap_mt, ap_chain, isBl_bl, truD_bl, truD_int, ap_snil, ap_sbrk, 
    ap_scont, ap_sexpr, ap_sret, ap_sretn, ap_sif, ap_sset, ap_sasg, ap_spar, ap_saug, ap_seq, seqK_next, seqK_ret, seqK_brk, seqK_cont, seqK_exc, ap_for, 
    ap_iseq, ap_ir1, ap_gnm, ap_gtp, gnms_nil, gnms_cons, ap_gsub, Option.map_some, Option.bind_some, loopN_next, loopN_cont, ty_int, ty_bl, ty_str, 
    ty_non, ty_tup, ty_lst, ty_ref, isi_ap, len_ref, get_last, append_last, tuple_last, list_last, add_ii, sub_ii, mul_ii, mulOk_l, mulOk_r, fdiv_ii, 
    divmod_ii, mod_ii, pow_ii, neg_i, ord_ii, is_non, isnt_non, is_bl, isnt_bl, abs_i, int_i, int_b, max_ii, min_ii, len_tup, len_lst, tuple_lst, 
    tuple_tup, list_lst, list_tup, List.getElem?_cons_zero, List.getElem?_cons_succ, List.set_cons_zero, List.set_cons_succ, List.map_cons, List.map_nil, 
    List.cons_append, List.nil_append, List.reduceReplicate, Nat.reduceSub, List.length_cons, List.length_nil, if_true, if_false, reduceIte, reduceCtorEq, 
    Bool.false_eq_true, Bool.true_eq_false, sizeLine_eq, Int.reduceToNat, newCell, ix_tupm, ix_lstm, atI_0, atI_1, atI_2, atI_3, atI_4, atI_5, p2_ty0, 
    p2_ty1, p2_0, p2_1, p2_ix1, p2_pop1, p2_set1, seq_ss, List.length_map, Bool.not_true, Bool.not_false, ed, hroom, hz, decide_eq_false z1, 
    decide_eq_false z2, decide_eq_false z3, hn, decide_eq_true hg, ap0]
      · rw [dep_app, hd]
        cases w <;> first | (cases hp; done) | rfl
    · refine ⟨n', some w.d, some (.int room), rows, op, ?_, by omega, by omega, hd⟩
      unfold L__law_part_1
      simp (config := { decide := true }) only [bind_ok, bind_exc, toS_ok, toS_exc, ap_var, ap_c, ap_op2, ap_op1, ap_and, ap_or, ap_not, ap_if, ap_tval, ap_ttruth, ap_tand, ap_tor, ap_tnot, ap_ttrue, 
    ap_nil, ap_cons, ap_tup, ap_lst, ap_lstM, ap_app, ap_sl, ap_pno, ap_pat, toI_int, ap_mt, ap_chain, isBl_bl, truD_bl, truD_int, ap_snil, ap_sbrk, 
    ap_scont, ap_sexpr, ap_sret, ap_sretn, ap_sif, ap_sset, ap_sasg, ap_spar, ap_saug, ap_seq, seqK_next, seqK_ret, seqK_brk, seqK_cont, seqK_exc, ap_for, 
    ap_iseq, ap_ir1, ap_gnm, ap_gtp, gnms_nil, gnms_cons, ap_gsub, Option.map_some, Option.bind_some, loopN_next, loopN_cont, ty_int, ty_bl, ty_str, 
    ty_non, ty_tup, ty_lst, ty_ref, isi_ap, len_ref, get_last, append_last, tuple_last, list_last, add_ii, sub_ii, mul_ii, mulOk_l, mulOk_r, fdiv_ii, 
    divmod_ii, mod_ii, pow_ii, neg_i, ord_ii, is_non, isnt_non, is_bl, isnt_bl, abs_i, int_i, int_b, max_ii, min_ii, len_tup, len_lst, tuple_lst, 
    tuple_tup, list_lst, list_tup, List.getElem?_cons_zero, List.getElem?_cons_succ, List.set_cons_zero, List.set_cons_succ, List.map_cons, List.map_nil, 
    List.cons_append, List.nil_append, List.reduceReplicate, Nat.reduceSub, List.length_cons, List.length_nil, if_true, if_false, reduceIte, reduceCtorEq, 
    Bool.false_eq_true, Bool.true_eq_false, sizeLine_eq, Int.reduceToNat, newCell, ix_tupm, ix_lstm, atI_0, atI_1, atI_2, atI_3, atI_4, atI_5, p2_ty0, 
    p2_ty1, p2_0, p2_1, p2_ix1, p2_pop1, p2_set1, seq_ss, List.length_map, Bool.not_true, Bool.not_false, ed, hroom, hz, decide_eq_false z1, 
    decide_eq_false z2, decide_eq_false z3, hn, decide_eq_false hg]
  · have ne : nevD (.ref (S.length + 1)) (.lst []) (P2 S (rows.map Row.d) (op.map D.bl)) = .ok (.bl (!(op.map D.bl).isEmpty)) (P2 S (rows.map Row.d) (op.map D.bl)) := nev_empty p2_1 (by rw [dps_bls]; omega)
    have hn : ∀ z : Str, z ∈ (["if", "else", "end"] : List Str) → ninD (.str z) (.tup [.str "if", .str "else", .str "end"]) (P2 S (rows.map Row.d) (op.map D.bl)) = .ok (.bl false) (P2 S (rows.map Row.d) (op.map D.bl)) := fun z hz => by
      have := nin_words (S := P2 S (rows.map Row.d) (op.map D.bl)) (z := z) ["if", "else", "end"]
      rw [decide_eq_true hz] at this
      exact this
    have n1 := hn "if" (by decide)
    have n2 := hn "else" (by decide)
    have n3 := hn "end" (by decide)
    have e12 : decide (("if" : Str) = "else") = false := by decide
    have e13 : decide (("if" : Str) = "end") = false := by decide
    have e21 : decide (("else" : Str) = "if") = false := by decide
    have e23 : decide (("else" : Str) = "end") = false := by decide
    have e31 : decide (("end" : Str) = "if") = false := by decide
    have e32 : decide (("end" : Str) = "else") = false := by decide
    have zi : ∀ S, ixD Row.iff.d (.int 0) S = .ok (.str "if") S := fun S => by unfold Row.d; simp (config := { decide := true }) only [bind_ok, bind_exc, toS_ok, toS_exc, ap_var, ap_c, ap_op2, ap_op1, ap_and, ap_or, ap_not, ap_if, ap_tval, ap_ttruth, ap_tand, ap_tor, ap_tnot, ap_ttrue, 
    ap_nil, ap_cons, ap_tup, ap_lst, ap_lstM, ap_app, ap_sl, ap_pno, ap_pat, toI_int, ap_mt, ap_chain, isBl_bl, truD_bl, truD_int, ap_snil, ap_sbrk, 
    ap_scont, ap_sexpr, ap_sret, ap_sretn, ap_sif, ap_sset, ap_sasg, ap_spar, ap_saug, ap_seq, seqK_next, seqK_ret, seqK_brk, seqK_cont, seqK_exc, ap_for, 
    ap_iseq, ap_ir1, ap_gnm, ap_gtp, gnms_nil, gnms_cons, ap_gsub, Option.map_some, Option.bind_some, loopN_next, loopN_cont, ty_int, ty_bl, ty_str, 
    ty_non, ty_tup, ty_lst, ty_ref, isi_ap, len_ref, get_last, append_last, tuple_last, list_last, add_ii, sub_ii, mul_ii, mulOk_l, mulOk_r, fdiv_ii, 
    divmod_ii, mod_ii, pow_ii, neg_i, ord_ii, is_non, isnt_non, is_bl, isnt_bl, abs_i, int_i, int_b, max_ii, min_ii, len_tup, len_lst, tuple_lst, 
    tuple_tup, list_lst, list_tup, List.getElem?_cons_zero, List.getElem?_cons_succ, List.set_cons_zero, List.set_cons_succ, List.map_cons, List.map_nil, 
    List.cons_append, List.nil_append, List.reduceReplicate, Nat.reduceSub, List.length_cons, List.length_nil, if_true, if_false, reduceIte, reduceCtorEq, 
    Bool.false_eq_true, Bool.true_eq_false, sizeLine_eq, Int.reduceToNat, newCell, ix_tupm, ix_lstm, atI_0, atI_1, atI_2, atI_3, atI_4, atI_5]
    have ze : ∀ S, ixD Row.els.d (.int 0) S = .ok (.str "else") S := fun S => by unfold Row.d; simp (config := { decide := true }) only [bind_ok, bind_exc, toS_ok, toS_exc, ap_var, ap_c, ap_op2, ap_op1, ap_and, ap_or, ap_not, ap_if, ap_tval, ap_ttruth, ap_tand, ap_tor, ap_tnot, ap_ttrue, 
    ap_nil, ap_cons, ap_tup, ap_lst, ap_lstM, ap_app, ap_sl, ap_pno, ap_pat, toI_int, ap_mt, ap_chain, isBl_bl, truD_bl, truD_int, ap_snil, ap_sbrk, 
    ap_scont, ap_sexpr, ap_sret, ap_sretn, ap_sif, ap_sset, ap_sasg, ap_spar, ap_saug, ap_seq, seqK_next, seqK_ret, seqK_brk, seqK_cont, seqK_exc, ap_for, 
    ap_iseq, ap_ir1, ap_gnm, ap_gtp, gnms_nil, gnms_cons, ap_gsub, Option.map_some, Option.bind_some, loopN_next, loopN_cont, ty_int, ty_bl, ty_str, 
    ty_non, ty_tup, ty_lst, ty_ref, isi_ap, len_ref, get_last, append_last, tuple_last, list_last, add_ii, sub_ii, mul_ii, mulOk_l, mulOk_r, fdiv_ii, 
    divmod_ii, mod_ii, pow_ii, neg_i, ord_ii, is_non, isnt_non, is_bl, isnt_bl, abs_i, int_i, int_b, max_ii, min_ii, len_tup, len_lst, tuple_lst, 
    tuple_tup, list_lst, list_tup, List.getElem?_cons_zero, List.getElem?_cons_succ, List.set_cons_zero, List.set_cons_succ, List.map_cons, List.map_nil, 
    List.cons_append, List.nil_append, List.reduceReplicate, Nat.reduceSub, List.length_cons, List.length_nil, if_true, if_false, reduceIte, reduceCtorEq, 
    Bool.false_eq_true, Bool.true_eq_false, sizeLine_eq, Int.reduceToNat, newCell, ix_tupm, ix_lstm, atI_0, atI_1, atI_2, atI_3, atI_4, atI_5]
    have zf : ∀ S, ixD Row.fin.d (.int 0) S = .ok (.str "end") S := fun S => by unfold Row.d; simp (config := { decide := true }) only [bind_ok, bind_exc, toS_ok, toS_exc, ap_var, ap_c, ap_op2, ap_op1, ap_and, ap_or, ap_not, ap_if, ap_tval, ap_ttruth, ap_tand, ap_tor, ap_tnot, ap_ttrue, 
    ap_nil, ap_cons, ap_tup, ap_lst, ap_lstM, ap_app, ap_sl, ap_pno, ap_pat, toI_int, ap_mt, ap_chain, isBl_bl, truD_bl, truD_int, ap_snil, ap_sbrk, 
    ap_scont, ap_sexpr, ap_sret, ap_sretn, ap_sif, ap_sset, ap_sasg, ap_spar, ap_saug, ap_seq, seqK_next, seqK_ret, seqK_brk, seqK_cont, seqK_exc, ap_for, 
    ap_iseq, ap_ir1, ap_gnm, ap_gtp, gnms_nil, gnms_cons, ap_gsub, Option.map_some, Option.bind_some, loopN_next, loopN_cont, ty_int, ty_bl, ty_str, 
    ty_non, ty_tup, ty_lst, ty_ref, isi_ap, len_ref, get_last, append_last, tuple_last, list_last, add_ii, sub_ii, mul_ii, mulOk_l, mulOk_r, fdiv_ii, 
    divmod_ii, mod_ii, pow_ii, neg_i, ord_ii, is_non, isnt_non, is_bl, isnt_bl, abs_i, int_i, int_b, max_ii, min_ii, len_tup, len_lst, tuple_lst, 
    tuple_tup, list_lst, list_tup, List.getElem?_cons_zero, List.getElem?_cons_succ, List.set_cons_zero, List.set_cons_succ, List.map_cons, List.map_nil, 
    List.cons_append, List.nil_append, List.reduceReplicate, Nat.reduceSub, List.length_cons, List.length_nil, if_true, if_false, reduceIte, reduceCtorEq, 
    Bool.false_eq_true, Bool.true_eq_false, sizeLine_eq, Int.reduceToNat, newCell, ix_tupm, ix_lstm, atI_0, atI_1, atI_2, atI_3, atI_4, atI_5]
    have ap : ∀ (w : Row) (op' : List Bool), appendD (.ref S.length) [w.d] (P2 S (rows.map Row.d) (op'.map D.bl)) = .ok .non (P2 S ((rows ++ [w]).map Row.d) (op'.map D.bl)) := fun w op' => by
      rw [List.map_append (l₁ := rows)]
      exact p2_app0 (show (rows.map Row.d).length < 1000 by simp; omega)
    have ap1 : appendD (.ref (S.length + 1)) [.bl true] (P2 S (rows.map Row.d) (op.map D.bl)) = .ok .non (P2 S (rows.map Row.d) ((op ++ [true]).map D.bl)) := by
      rw [List.map_append]
      exact p2_app1 (show (op.map D.bl).length < 1000 by simp; omega)
    cases w with
    | iff =>
      by_cases h4 : (op.length : Int) < 4
      · by_cases h1 : (1 : Int) < room
        · refine ⟨n', some Row.iff.d, some (.int room), rows ++ [.iff], op ++ [true], ?_, by simp, by simp; omega, ?_⟩
          · unfold L__law_part_1
            simp (config := { decide := true }) only [bind_ok, bind_exc, toS_ok, toS_exc, ap_var, ap_c, ap_op2, ap_op1, ap_and, ap_or, ap_not, ap_if, ap_tval, ap_ttruth, ap_tand, ap_tor, ap_tnot, ap_ttrue, 
    ap_nil, ap_cons, ap_tup, ap_lst, ap_lstM, ap_app, ap_sl, ap_pno, ap_pat, toI_int, ap_mt, ap_chain, isBl_bl, truD_bl, truD_int, ap_snil, ap_sbrk, 
    ap_scont, ap_sexpr, ap_sret, ap_sretn, ap_sif, ap_sset, ap_sasg, ap_spar, ap_saug, ap_seq, seqK_next, seqK_ret, seqK_brk, seqK_cont, seqK_exc, ap_for, 
    ap_iseq, ap_ir1, ap_gnm, ap_gtp, gnms_nil, gnms_cons, ap_gsub, Option.map_some, Option.bind_some, loopN_next, loopN_cont, ty_int, ty_bl, ty_str, 
    ty_non, ty_tup, ty_lst, ty_ref, isi_ap, len_ref, get_last, append_last, tuple_last, list_last, add_ii, sub_ii, mul_ii, mulOk_l, mulOk_r, fdiv_ii, 
    divmod_ii, mod_ii, pow_ii, neg_i, ord_ii, is_non, isnt_non, is_bl, isnt_bl, abs_i, int_i, int_b, max_ii, min_ii, len_tup, len_lst, tuple_lst, 
    tuple_tup, list_lst, list_tup, List.getElem?_cons_zero, List.getElem?_cons_succ, List.set_cons_zero, List.set_cons_succ, List.map_cons, List.map_nil, 
    List.cons_append, List.nil_append, List.reduceReplicate, Nat.reduceSub, List.length_cons, List.length_nil, if_true, if_false, reduceIte, reduceCtorEq, 
    Bool.false_eq_true, Bool.true_eq_false, sizeLine_eq, Int.reduceToNat, newCell, ix_tupm, ix_lstm, atI_0, atI_1, atI_2, atI_3, atI_4, atI_5, p2_ty0, 
    p2_ty1, p2_0, p2_1, p2_ix1, p2_pop1, p2_set1, seq_ss, List.length_map, Bool.not_true, Bool.not_false, ed, hroom, zi, decide_true, decide_eq_true h4, 
    decide_eq_true h1, ap1, ap Row.iff (op ++ [true])]
          · rw [dep_app, hd]
            simp [dep]
        · refine ⟨n', some Row.iff.d, some (.int room), rows, op, ?_, by omega, by omega, hd⟩
          unfold L__law_part_1
          simp (config := { decide := true }) only [bind_ok, bind_exc, toS_ok, toS_exc, ap_var, ap_c, ap_op2, ap_op1, ap_and, ap_or, ap_not, ap_if, ap_tval, ap_ttruth, ap_tand, ap_tor, ap_tnot, ap_ttrue, 
    ap_nil, ap_cons, ap_tup, ap_lst, ap_lstM, ap_app, ap_sl, ap_pno, ap_pat, toI_int, ap_mt, ap_chain, isBl_bl, truD_bl, truD_int, ap_snil, ap_sbrk, 
    ap_scont, ap_sexpr, ap_sret, ap_sretn, ap_sif, ap_sset, ap_sasg, ap_spar, ap_saug, ap_seq, seqK_next, seqK_ret, seqK_brk, seqK_cont, seqK_exc, ap_for, 
    ap_iseq, ap_ir1, ap_gnm, ap_gtp, gnms_nil, gnms_cons, ap_gsub, Option.map_some, Option.bind_some, loopN_next, loopN_cont, ty_int, ty_bl, ty_str, 
    ty_non, ty_tup, ty_lst, ty_ref, isi_ap, len_ref, get_last, append_last, tuple_last, list_last, add_ii, sub_ii, mul_ii, mulOk_l, mulOk_r, fdiv_ii, 
    divmod_ii, mod_ii, pow_ii, neg_i, ord_ii, is_non, isnt_non, is_bl, isnt_bl, abs_i, int_i, int_b, max_ii, min_ii, len_tup, len_lst, tuple_lst, 
    tuple_tup, list_lst, list_tup, List.getElem?_cons_zero, List.getElem?_cons_succ, List.set_cons_zero, List.set_cons_succ, List.map_cons, List.map_nil, 
    List.cons_append, List.nil_append, List.reduceReplicate, Nat.reduceSub, List.length_cons, List.length_nil, if_true, if_false, reduceIte, reduceCtorEq, 
    Bool.false_eq_true, Bool.true_eq_false, sizeLine_eq, Int.reduceToNat, newCell, ix_tupm, ix_lstm, atI_0, atI_1, atI_2, atI_3, atI_4, atI_5, p2_ty0, 
    p2_ty1, p2_0, p2_1, p2_ix1, p2_pop1, p2_set1, seq_ss, List.length_map, Bool.not_true, Bool.not_false, ed, hroom, zi, decide_true, decide_eq_true h4, 
    decide_eq_false h1, e12, e13, n1]
      · refine ⟨n', some Row.iff.d, some (.int room), rows, op, ?_, by omega, by omega, hd⟩
        unfold L__law_part_1
        simp (config := { decide := true }) only [bind_ok, bind_exc, toS_ok, toS_exc, ap_var, ap_c, ap_op2, ap_op1, ap_and, ap_or, ap_not, ap_if, ap_tval, ap_ttruth, ap_tand, ap_tor, ap_tnot, ap_ttrue, 
    ap_nil, ap_cons, ap_tup, ap_lst, ap_lstM, ap_app, ap_sl, ap_pno, ap_pat, toI_int, ap_mt, ap_chain, isBl_bl, truD_bl, truD_int, ap_snil, ap_sbrk, 
    ap_scont, ap_sexpr, ap_sret, ap_sretn, ap_sif, ap_sset, ap_sasg, ap_spar, ap_saug, ap_seq, seqK_next, seqK_ret, seqK_brk, seqK_cont, seqK_exc, ap_for, 
    ap_iseq, ap_ir1, ap_gnm, ap_gtp, gnms_nil, gnms_cons, ap_gsub, Option.map_some, Option.bind_some, loopN_next, loopN_cont, ty_int, ty_bl, ty_str, 
    ty_non, ty_tup, ty_lst, ty_ref, isi_ap, len_ref, get_last, append_last, tuple_last, list_last, add_ii, sub_ii, mul_ii, mulOk_l, mulOk_r, fdiv_ii, 
    divmod_ii, mod_ii, pow_ii, neg_i, ord_ii, is_non, isnt_non, is_bl, isnt_bl, abs_i, int_i, int_b, max_ii, min_ii, len_tup, len_lst, tuple_lst, 
    tuple_tup, list_lst, list_tup, List.getElem?_cons_zero, List.getElem?_cons_succ, List.set_cons_zero, List.set_cons_succ, List.map_cons, List.map_nil, 
    List.cons_append, List.nil_append, List.reduceReplicate, Nat.reduceSub, List.length_cons, List.length_nil, if_true, if_false, reduceIte, reduceCtorEq, 
    Bool.false_eq_true, Bool.true_eq_false, sizeLine_eq, Int.reduceToNat, newCell, ix_tupm, ix_lstm, atI_0, atI_1, atI_2, atI_3, atI_4, atI_5, p2_ty0, 
    p2_ty1, p2_0, p2_1, p2_ix1, p2_pop1, p2_set1, seq_ss, List.length_map, Bool.not_true, Bool.not_false, ed, hroom, zi, decide_true, decide_eq_false h4, 
    e12, e13, n1]
    | els =>
      rcases List.eq_nil_or_concat op with hop | ⟨op', b, hop⟩
      · have he : (op.map D.bl).isEmpty = true := by rw [hop]; rfl
        rw [he] at ne
        refine ⟨n', some Row.els.d, some (.int room), rows, op, ?_, by omega, by omega, hd⟩
        unfold L__law_part_1
        simp (config := { decide := true }) only [bind_ok, bind_exc, toS_ok, toS_exc, ap_var, ap_c, ap_op2, ap_op1, ap_and, ap_or, ap_not, ap_if, ap_tval, ap_ttruth, ap_tand, ap_tor, ap_tnot, ap_ttrue, 
    ap_nil, ap_cons, ap_tup, ap_lst, ap_lstM, ap_app, ap_sl, ap_pno, ap_pat, toI_int, ap_mt, ap_chain, isBl_bl, truD_bl, truD_int, ap_snil, ap_sbrk, 
    ap_scont, ap_sexpr, ap_sret, ap_sretn, ap_sif, ap_sset, ap_sasg, ap_spar, ap_saug, ap_seq, seqK_next, seqK_ret, seqK_brk, seqK_cont, seqK_exc, ap_for, 
    ap_iseq, ap_ir1, ap_gnm, ap_gtp, gnms_nil, gnms_cons, ap_gsub, Option.map_some, Option.bind_some, loopN_next, loopN_cont, ty_int, ty_bl, ty_str, 
    ty_non, ty_tup, ty_lst, ty_ref, isi_ap, len_ref, get_last, append_last, tuple_last, list_last, add_ii, sub_ii, mul_ii, mulOk_l, mulOk_r, fdiv_ii, 
    divmod_ii, mod_ii, pow_ii, neg_i, ord_ii, is_non, isnt_non, is_bl, isnt_bl, abs_i, int_i, int_b, max_ii, min_ii, len_tup, len_lst, tuple_lst, 
    tuple_tup, list_lst, list_tup, List.getElem?_cons_zero, List.getElem?_cons_succ, List.set_cons_zero, List.set_cons_succ, List.map_cons, List.map_nil, 
    List.cons_append, List.nil_append, List.reduceReplicate, Nat.reduceSub, List.length_cons, List.length_nil, if_true, if_false, reduceIte, reduceCtorEq, 
    Bool.false_eq_true, Bool.true_eq_false, sizeLine_eq, Int.reduceToNat, newCell, ix_tupm, ix_lstm, atI_0, atI_1, atI_2, atI_3, atI_4, atI_5, p2_ty0, 
    p2_ty1, p2_0, p2_1, p2_ix1, p2_pop1, p2_set1, seq_ss, List.length_map, Bool.not_true, Bool.not_false, ed, hroom, ze, decide_true, e21, e23, n2, ne]
      · have he : (op.map D.bl).isEmpty = false := by rw [hop]; simp
        rw [he] at ne
        have ix : ixD (.ref (S.length + 1)) (.int (-1)) (P2 S (rows.map Row.d) (op.map D.bl)) = .ok (.bl b) (P2 S (rows.map Row.d) (op.map D.bl)) := by
          rw [hop, List.concat_eq_append, List.map_append]; exact p2_ix1
        have st : setLD (.ref (S.length + 1)) (.int (-1)) (.bl false) (P2 S (rows.map Row.d) (op.map D.bl)) = some (P2 S (rows.map Row.d) ((op' ++ [false]).map D.bl)) := by
          rw [hop, List.concat_eq_append, List.map_append, List.map_append]; exact p2_set1
        have hlen : (op' ++ [false]).length = op.length := by rw [hop]; simp
        cases b with
        | false =>
          refine ⟨n', some Row.els.d, some (.int room), rows, op, ?_, by omega, by omega, hd⟩
          unfold L__law_part_1
          simp (config := { decide := true }) only [bind_ok, bind_exc, toS_ok, toS_exc, ap_var, ap_c, ap_op2, ap_op1, ap_and, ap_or, ap_not, ap_if, ap_tval, ap_ttruth, ap_tand, ap_tor, ap_tnot, ap_ttrue, 
    ap_nil, ap_cons, ap_tup, ap_lst, ap_lstM, ap_app, ap_sl, ap_pno, ap_pat, toI_int, ap_mt, ap_chain, isBl_bl, truD_bl, truD_int, ap_snil, ap_sbrk, 
    ap_scont, ap_sexpr, ap_sret, ap_sretn, ap_sif, ap_sset, ap_sasg, ap_spar, ap_saug, ap_seq, seqK_next, seqK_ret, seqK_brk, seqK_cont, seqK_exc, ap_for, 
    ap_iseq, ap_ir1, ap_gnm, ap_gtp, gnms_nil, gnms_cons, ap_gsub, Option.map_some, Option.bind_some, loopN_next, loopN_cont, ty_int, ty_bl, ty_str, 
    ty_non, ty_tup, ty_lst, ty_ref, isi_ap, len_ref, get_last, append_last, tuple_last, list_last, add_ii, sub_ii, mul_ii, mulOk_l, mulOk_r, fdiv_ii, 
    divmod_ii, mod_ii, pow_ii, neg_i, ord_ii, is_non, isnt_non, is_bl, isnt_bl, abs_i, int_i, int_b, max_ii, min_ii, len_tup, len_lst, tuple_lst, 
    tuple_tup, list_lst, list_tup, List.getElem?_cons_zero, List.getElem?_cons_succ, List.set_cons_zero, List.set_cons_succ, List.map_cons, List.map_nil, 
    List.cons_append, List.nil_append, List.reduceReplicate, Nat.reduceSub, List.length_cons, List.length_nil, if_true, if_false, reduceIte, reduceCtorEq, 
    Bool.false_eq_true, Bool.true_eq_false, sizeLine_eq, Int.reduceToNat, newCell, ix_tupm, ix_lstm, atI_0, atI_1, atI_2, atI_3, atI_4, atI_5, p2_ty0, 
    p2_ty1, p2_0, p2_1, p2_ix1, p2_pop1, p2_set1, seq_ss, List.length_map, Bool.not_true, Bool.not_false, ed, hroom, ze, decide_true, e21, e23, n2, ne, ix]
        | true =>
          by_cases h1 : (0 : Int) < room
          · refine ⟨n', some Row.els.d, some (.int room), rows ++ [.els], op' ++ [false], ?_, by simp, by rw [hlen]; simp; omega, ?_⟩
            · unfold L__law_part_1
              simp (config := { decide := true }) only [bind_ok, bind_exc, toS_ok, toS_exc, ap_var, ap_c, ap_op2, ap_op1, ap_and, ap_or, ap_not, ap_if, ap_tval, ap_ttruth, ap_tand, ap_tor, ap_tnot, ap_ttrue, 
    ap_nil, ap_cons, ap_tup, ap_lst, ap_lstM, ap_app, ap_sl, ap_pno, ap_pat, toI_int, ap_mt, ap_chain, isBl_bl, truD_bl, truD_int, ap_snil, ap_sbrk, 
    ap_scont, ap_sexpr, ap_sret, ap_sretn, ap_sif, ap_sset, ap_sasg, ap_spar, ap_saug, ap_seq, seqK_next, seqK_ret, seqK_brk, seqK_cont, seqK_exc, ap_for, 
    ap_iseq, ap_ir1, ap_gnm, ap_gtp, gnms_nil, gnms_cons, ap_gsub, Option.map_some, Option.bind_some, loopN_next, loopN_cont, ty_int, ty_bl, ty_str, 
    ty_non, ty_tup, ty_lst, ty_ref, isi_ap, len_ref, get_last, append_last, tuple_last, list_last, add_ii, sub_ii, mul_ii, mulOk_l, mulOk_r, fdiv_ii, 
    divmod_ii, mod_ii, pow_ii, neg_i, ord_ii, is_non, isnt_non, is_bl, isnt_bl, abs_i, int_i, int_b, max_ii, min_ii, len_tup, len_lst, tuple_lst, 
    tuple_tup, list_lst, list_tup, List.getElem?_cons_zero, List.getElem?_cons_succ, List.set_cons_zero, List.set_cons_succ, List.map_cons, List.map_nil, 
    List.cons_append, List.nil_append, List.reduceReplicate, Nat.reduceSub, List.length_cons, List.length_nil, if_true, if_false, reduceIte, reduceCtorEq, 
    Bool.false_eq_true, Bool.true_eq_false, sizeLine_eq, Int.reduceToNat, newCell, ix_tupm, ix_lstm, atI_0, atI_1, atI_2, atI_3, atI_4, atI_5, p2_ty0, 
    p2_ty1, p2_0, p2_1, p2_ix1, p2_pop1, p2_set1, seq_ss, List.length_map, Bool.not_true, Bool.not_false, ed, hroom, ze, decide_true, e21, e23, n2, ne, ix, 
    decide_eq_true h1, st, ap Row.els (op' ++ [false])]
            · rw [dep_app, hd, hlen, hop]
              simp [dep]
          · refine ⟨n', some Row.els.d, some (.int room), rows, op, ?_, by omega, by omega, hd⟩
            unfold L__law_part_1
            simp (config := { decide := true }) only [bind_ok, bind_exc, toS_ok, toS_exc, ap_var, ap_c, ap_op2, ap_op1, ap_and, ap_or, ap_not, ap_if, ap_tval, ap_ttruth, ap_tand, ap_tor, ap_tnot, ap_ttrue, 
    ap_nil, ap_cons, ap_tup, ap_lst, ap_lstM, ap_app, ap_sl, ap_pno, ap_pat, toI_int, ap_mt, ap_chain, isBl_bl, truD_bl, truD_int, ap_snil, ap_sbrk, 
    ap_scont, ap_sexpr, ap_sret, ap_sretn, ap_sif, ap_sset, ap_sasg, ap_spar, ap_saug, ap_seq, seqK_next, seqK_ret, seqK_brk, seqK_cont, seqK_exc, ap_for, 
    ap_iseq, ap_ir1, ap_gnm, ap_gtp, gnms_nil, gnms_cons, ap_gsub, Option.map_some, Option.bind_some, loopN_next, loopN_cont, ty_int, ty_bl, ty_str, 
    ty_non, ty_tup, ty_lst, ty_ref, isi_ap, len_ref, get_last, append_last, tuple_last, list_last, add_ii, sub_ii, mul_ii, mulOk_l, mulOk_r, fdiv_ii, 
    divmod_ii, mod_ii, pow_ii, neg_i, ord_ii, is_non, isnt_non, is_bl, isnt_bl, abs_i, int_i, int_b, max_ii, min_ii, len_tup, len_lst, tuple_lst, 
    tuple_tup, list_lst, list_tup, List.getElem?_cons_zero, List.getElem?_cons_succ, List.set_cons_zero, List.set_cons_succ, List.map_cons, List.map_nil, 
    List.cons_append, List.nil_append, List.reduceReplicate, Nat.reduceSub, List.length_cons, List.length_nil, if_true, if_false, reduceIte, reduceCtorEq, 
    Bool.false_eq_true, Bool.true_eq_false, sizeLine_eq, Int.reduceToNat, newCell, ix_tupm, ix_lstm, atI_0, atI_1, atI_2, atI_3, atI_4, atI_5, p2_ty0, 
    p2_ty1, p2_0, p2_1, p2_ix1, p2_pop1, p2_set1, seq_ss, List.length_map, Bool.not_true, Bool.not_false, ed, hroom, ze, decide_true, e21, e23, n2, ne, ix, 
    decide_eq_false h1]
    | fin =>
      rcases List.eq_nil_or_concat op with hop | ⟨op', b, hop⟩
      · have he : (op.map D.bl).isEmpty = true := by rw [hop]; rfl
        rw [he] at ne
        refine ⟨n', some Row.fin.d, some (.int room), rows, op, ?_, by omega, by omega, hd⟩
        unfold L__law_part_1
        simp (config := { decide := true }) only [bind_ok, bind_exc, toS_ok, toS_exc, ap_var, ap_c, ap_op2, ap_op1, ap_and, ap_or, ap_not, ap_if, ap_tval, ap_ttruth, ap_tand, ap_tor, ap_tnot, ap_ttrue, 
    ap_nil, ap_cons, ap_tup, ap_lst, ap_lstM, ap_app, ap_sl, ap_pno, ap_pat, toI_int, ap_mt, ap_chain, isBl_bl, truD_bl, truD_int, ap_snil, ap_sbrk, 
    ap_scont, ap_sexpr, ap_sret, ap_sretn, ap_sif, ap_sset, ap_sasg, ap_spar, ap_saug, ap_seq, seqK_next, seqK_ret, seqK_brk, seqK_cont, seqK_exc, ap_for, 
    ap_iseq, ap_ir1, ap_gnm, ap_gtp, gnms_nil, gnms_cons, ap_gsub, Option.map_some, Option.bind_some, loopN_next, loopN_cont, ty_int, ty_bl, ty_str, 
    ty_non, ty_tup, ty_lst, ty_ref, isi_ap, len_ref, get_last, append_last, tuple_last, list_last, add_ii, sub_ii, mul_ii, mulOk_l, mulOk_r, fdiv_ii, 
    divmod_ii, mod_ii, pow_ii, neg_i, ord_ii, is_non, isnt_non, is_bl, isnt_bl, abs_i, int_i, int_b, max_ii, min_ii, len_tup, len_lst, tuple_lst, 
    tuple_tup, list_lst, list_tup, List.getElem?_cons_zero, List.getElem?_cons_succ, List.set_cons_zero, List.set_cons_succ, List.map_cons, List.map_nil, 
    List.cons_append, List.nil_append, List.reduceReplicate, Nat.reduceSub, List.length_cons, List.length_nil, if_true, if_false, reduceIte, reduceCtorEq, 
    Bool.false_eq_true, Bool.true_eq_false, sizeLine_eq, Int.reduceToNat, newCell, ix_tupm, ix_lstm, atI_0, atI_1, atI_2, atI_3, atI_4, atI_5, p2_ty0, 
    p2_ty1, p2_0, p2_1, p2_ix1, p2_pop1, p2_set1, seq_ss, List.length_map, Bool.not_true, Bool.not_false, ed, hroom, zf, decide_true, e31, e32, n3, ne]
      · have he : (op.map D.bl).isEmpty = false := by rw [hop]; simp
        rw [he] at ne
        have pp : popD (.ref (S.length + 1)) [] (P2 S (rows.map Row.d) (op.map D.bl)) = .ok (.bl b) (P2 S (rows.map Row.d) (op'.map D.bl)) := by
          rw [hop, List.concat_eq_append, List.map_append]; exact p2_pop1
        have hlen : op.length = op'.length + 1 := by rw [hop]; simp
        refine ⟨n', some Row.fin.d, some (.int room), rows ++ [.fin], op', ?_, by simp, by simp; omega, ?_⟩
        · unfold L__law_part_1
          simp (config := { decide := true }) only [bind_ok, bind_exc, toS_ok, toS_exc, ap_var, ap_c, ap_op2, ap_op1, ap_and, ap_or, ap_not, ap_if, ap_tval, ap_ttruth, ap_tand, ap_tor, ap_tnot, ap_ttrue, 
    ap_nil, ap_cons, ap_tup, ap_lst, ap_lstM, ap_app, ap_sl, ap_pno, ap_pat, toI_int, ap_mt, ap_chain, isBl_bl, truD_bl, truD_int, ap_snil, ap_sbrk, 
    ap_scont, ap_sexpr, ap_sret, ap_sretn, ap_sif, ap_sset, ap_sasg, ap_spar, ap_saug, ap_seq, seqK_next, seqK_ret, seqK_brk, seqK_cont, seqK_exc, ap_for, 
    ap_iseq, ap_ir1, ap_gnm, ap_gtp, gnms_nil, gnms_cons, ap_gsub, Option.map_some, Option.bind_some, loopN_next, loopN_cont, ty_int, ty_bl, ty_str, 
    ty_non, ty_tup, ty_lst, ty_ref, isi_ap, len_ref, get_last, append_last, tuple_last, list_last, add_ii, sub_ii, mul_ii, mulOk_l, mulOk_r, fdiv_ii, 
    divmod_ii, mod_ii, pow_ii, neg_i, ord_ii, is_non, isnt_non, is_bl, isnt_bl, abs_i, int_i, int_b, max_ii, min_ii, len_tup, len_lst, tuple_lst, 
    tuple_tup, list_lst, list_tup, List.getElem?_cons_zero, List.getElem?_cons_succ, List.set_cons_zero, List.set_cons_succ, List.map_cons, List.map_nil, 
    List.cons_append, List.nil_append, List.reduceReplicate, Nat.reduceSub, List.length_cons, List.length_nil, if_true, if_false, reduceIte, reduceCtorEq, 
    Bool.false_eq_true, Bool.true_eq_false, sizeLine_eq, Int.reduceToNat, newCell, ix_tupm, ix_lstm, atI_0, atI_1, atI_2, atI_3, atI_4, atI_5, p2_ty0, 
    p2_ty1, p2_0, p2_1, p2_ix1, p2_pop1, p2_set1, seq_ss, List.length_map, Bool.not_true, Bool.not_false, ed, hroom, zf, decide_true, e31, e32, n3, ne, pp, 
    ap Row.fin op']
        · rw [dep_app, hd, hlen]
          simp [dep]
    | _ => exact absurd rfl hp
end LW

namespace LW
open PySem PySem.Spec PyProof.Rows L2 DL
theorem dep_fins : ∀ (n d : Nat), dep (d + n) (List.replicate n .fin) = some d
  | 0, d => rfl
  | n + 1, d => by
    rw [List.replicate_succ]
    show dep (d + n) (List.replicate n .fin) = some d
    exact dep_fins n d
theorem part_loop (num most : Int) (m : Nat) (hm : m ≤ 9) (S : Sto) :
    ∃ (n' k r g : Option D) (rows : List Row) (op : List Bool), forL (fun _ => True) (gNm 5) L__law_part_1 (rangeI 0 m) [some (.int num), some (.int most), some (.ref S.length), some (.ref (S.length + 1)), some (.int m), none, none, none] (P2 S [] []) =
      .next [n', some (.int most), some (.ref S.length), some (.ref (S.length + 1)), some (.int m), k, r, g] (P2 S (rows.map Row.d) (op.map D.bl)) ∧ rows.length ≤ m ∧ op.length ≤ rows.length ∧ dep 0 rows = some op.length := by
  obtain ⟨l', S', e, n', k, r, g, rows, op, hl, hS, h1, h2, h3⟩ := forL_range (gd := fun _ => True) (G := gNm 5) (body := L__law_part_1) (lo := 0) (n := m)
    (l := [some (.int num), some (.int most), some (.ref S.length), some (.ref (S.length + 1)), some (.int m), none, none, none]) (S := P2 S [] [])
    (fun i l S' => ∃ (n' : Int) (k r g : Option D) (rows : List Row) (op : List Bool), l = [some (.int n'), some (.int most), some (.ref S.length), some (.ref (S.length + 1)), some (.int m), k, r, g] ∧ S' = P2 S (rows.map Row.d) (op.map D.bl) ∧ rows.length ≤ i ∧ op.length ≤ rows.length ∧ dep 0 rows = some op.length)
    ⟨num, none, none, none, [], [], rfl, rfl, by simp, by simp, rfl⟩ (fun _ _ _ _ => trivial) (fun i l S1 hi ⟨n', k, r, g, rows, op, hl, hS, h1, h2, h3⟩ => by
      subst hl hS
      refine ⟨_, _, rfl, ?_⟩
      obtain ⟨num', r', g', rows', op', e, a1, a2, a3⟩ := part_body n' most m k r g rows op S (.int (0 + i)) (by omega) h2 h3
      exact ⟨_, _, (congrArg loopN e).trans rfl, num', _, r', g', rows', op', rfl, rfl, by omega, a2, a3⟩)
  subst hl hS
  exact ⟨_, k, r, g, rows, op, e, h1, h2, h3⟩
theorem f_part (num : Int) (most : Nat) (h1 : most ≤ 9) (S : Sto) : ∃ rows : List Row, F__law_part [.int num, .int most] S = .ok (.tup (rows.map Row.d)) S ∧ rows.length ≤ 18 ∧ dep 0 rows = some 0 := by
  have d11 : divOk ((most : Int) + 1) = true := divOk_of (by omega) (by omega)
  obtain ⟨m, hm, hm2⟩ : ∃ m : Nat, num % ((most : Int) + 1) = m ∧ m ≤ 9 := by
    have a1 := Int.emod_nonneg num (show (most : Int) + 1 ≠ 0 by omega)
    have a2 := Int.emod_lt_of_pos num (show 0 < (most : Int) + 1 by omega)
    exact ⟨(num % ((most : Int) + 1)).toNat, by omega, by omega⟩
  obtain ⟨n', k, r, g, rows, op, e, h1, h2, h3⟩ := part_loop (num / ((most : Int) + 1)) most m hm2 S
  refine ⟨rows ++ List.replicate op.length .fin, run_ret rfl (S' := P2 S (rows.map Row.d) (op.map D.bl)) ?_ (exit_ext (fz_rlt _ _ _ _ (pure_tup (by simp only [List.mem_map]; rintro x ⟨w, _, rfl⟩; exact row_pure w) _))), by simp; omega, ?_⟩
  · have sm : small62 (m : Int) = true := small62_of (by omega) (by omega)
    have hmul : ∀ S, mulD (.lst [.tup [.str "end"]]) (.int (op.length : Int)) S = .ok (.lst ((List.replicate op.length Row.fin).map Row.d)) S := fun S => by
      have hc : (op.length : Int) ≤ 100000 ∧ [D.tup [.str "end"]].length * (op.length : Int).toNat ≤ sizeLine ∧ -100000 ≤ (op.length : Int) := ⟨by omega, by rw [sizeLine_eq]; show 1 * _ ≤ _; omega, by omega⟩
      refine (if_pos (α := Res D) (e := .bad) hc).trans ?_
      congr 2
      rw [Int.toNat_natCast, List.map_replicate]
      simp [Row.d]
    have ad := add_rl (S := P2 S (rows.map Row.d) (op.map D.bl)) (n := S.length) (ys := (List.replicate op.length Row.fin).map Row.d) p2_0 (by rw [sizeLine_eq]; simp; omega)
    have e0 : S ++ [Cell.lst []] ++ [Cell.lst []] = P2 S [] [] := by unfold P2; simp
    unfold A__law_part
    simp (config := { decide := true }) only [bind_ok, bind_exc, toS_ok, toS_exc, ap_var, ap_c, ap_op2, ap_op1, ap_and, ap_or, ap_not, ap_if, ap_tval, ap_ttruth, ap_tand, ap_tor, ap_tnot, ap_ttrue, 
    ap_nil, ap_cons, ap_tup, ap_lst, ap_lstM, ap_app, ap_sl, ap_pno, ap_pat, toI_int, ap_mt, ap_chain, isBl_bl, truD_bl, truD_int, ap_snil, ap_sbrk, 
    ap_scont, ap_sexpr, ap_sret, ap_sretn, ap_sif, ap_sset, ap_sasg, ap_spar, ap_saug, ap_seq, seqK_next, seqK_ret, seqK_brk, seqK_cont, seqK_exc, ap_for, 
    ap_iseq, ap_ir1, ap_gnm, ap_gtp, gnms_nil, gnms_cons, ap_gsub, Option.map_some, Option.bind_some, loopN_next, loopN_cont, ty_int, ty_bl, ty_str, 
    ty_non, ty_tup, ty_lst, ty_ref, isi_ap, len_ref, get_last, append_last, tuple_last, list_last, add_ii, sub_ii, mul_ii, mulOk_l, mulOk_r, fdiv_ii, 
    divmod_ii, mod_ii, pow_ii, neg_i, ord_ii, is_non, isnt_non, is_bl, isnt_bl, abs_i, int_i, int_b, max_ii, min_ii, len_tup, len_lst, tuple_lst, 
    tuple_tup, list_lst, list_tup, List.getElem?_cons_zero, List.getElem?_cons_succ, List.set_cons_zero, List.set_cons_succ, List.map_cons, List.map_nil, 
    List.cons_append, List.nil_append, List.reduceReplicate, Nat.reduceSub, List.length_cons, List.length_nil, if_true, if_false, reduceIte, reduceCtorEq, 
    Bool.false_eq_true, Bool.true_eq_false, sizeLine_eq, Int.reduceToNat, newCell, ix_tupm, ix_lstm, atI_0, atI_1, atI_2, atI_3, atI_4, atI_5, 
    divmod_ii d11]
    have l1 : (S ++ [Cell.lst []]).length = S.length + 1 := by simp
    rw [hm, if_pos sm, Int.toNat_natCast, e0, l1]
    simp (config := { decide := true }) only [bind_ok, bind_exc, toS_ok, toS_exc, ap_var, ap_c, ap_op2, ap_op1, ap_and, ap_or, ap_not, ap_if, ap_tval, ap_ttruth, ap_tand, ap_tor, ap_tnot, ap_ttrue, 
    ap_nil, ap_cons, ap_tup, ap_lst, ap_lstM, ap_app, ap_sl, ap_pno, ap_pat, toI_int, ap_mt, ap_chain, isBl_bl, truD_bl, truD_int, ap_snil, ap_sbrk, 
    ap_scont, ap_sexpr, ap_sret, ap_sretn, ap_sif, ap_sset, ap_sasg, ap_spar, ap_saug, ap_seq, seqK_next, seqK_ret, seqK_brk, seqK_cont, seqK_exc, ap_for, 
    ap_iseq, ap_ir1, ap_gnm, ap_gtp, gnms_nil, gnms_cons, ap_gsub, Option.map_some, Option.bind_some, loopN_next, loopN_cont, ty_int, ty_bl, ty_str, 
    ty_non, ty_tup, ty_lst, ty_ref, isi_ap, len_ref, get_last, append_last, tuple_last, list_last, add_ii, sub_ii, mul_ii, mulOk_l, mulOk_r, fdiv_ii, 
    divmod_ii, mod_ii, pow_ii, neg_i, ord_ii, is_non, isnt_non, is_bl, isnt_bl, abs_i, int_i, int_b, max_ii, min_ii, len_tup, len_lst, tuple_lst, 
    tuple_tup, list_lst, list_tup, List.getElem?_cons_zero, List.getElem?_cons_succ, List.set_cons_zero, List.set_cons_succ, List.map_cons, List.map_nil, 
    List.cons_append, List.nil_append, List.reduceReplicate, Nat.reduceSub, List.length_cons, List.length_nil, if_true, if_false, reduceIte, reduceCtorEq, 
    Bool.false_eq_true, Bool.true_eq_false, sizeLine_eq, Int.reduceToNat, newCell, ix_tupm, ix_lstm, atI_0, atI_1, atI_2, atI_3, atI_4, atI_5, e, p2_0, 
    p2_1, List.length_map, hmul, ad]
    rw [List.map_append]
  · rw [dep_app, h3]
    have := dep_fins op.length 0
    rw [Nat.zero_add] at this
    exact this
end LW

namespace LW
open PySem PySem.Spec PyProof.Rows L2 DL
/-- a part whose ifs are closed, under a way that is not taken -/
theorem skip (f : Fx) (a : Bool) (ws : Ways) (rest : List Row) (r : List Int) : ∀ (p : List Row) (d e : Nat), dep d p = some e →
    orun f (p ++ rest) (List.replicate d (false, false) ++ (a, false) :: ws) r = orun f rest (List.replicate e (false, false) ++ (a, false) :: ws) r
  | [], d, e, h => by
    obtain rfl : d = e := Option.some.inj h
    rfl
  | w :: p, d, e, h => by
    rw [List.cons_append, orun]
    cases w with
    | iff =>
      have ih := skip f a ws rest r p (d + 1) e h
      cases d with
      | zero => exact ih
      | succ d => exact ih
    | els =>
      cases d with
      | zero => cases h
      | succ d =>
        have ih := skip f a ws rest r p (d + 1) e h
        exact ih
    | fin =>
      cases d with
      | zero => cases h
      | succ d =>
        have ih := skip f a ws rest r p d e h
        exact ih
    | _ =>
      have h : dep d p = some e := by cases d <;> exact h
      have ih := skip f a ws rest r p d e h
      cases d with
      | zero => exact ih
      | succ d => exact ih
def thenO (o : Option (Option (List Int))) (g : List Int → Option (Option (List Int))) : Option (Option (List Int)) := match o with
  | some (some r) => g r
  | some none => some none
  | none => none
theorem turn1_plain (f : Fx) {w : Row} (hp : w.plain = true) (p : Bool × Bool) (ws : Ways) (r : List Int) : turn1 f w (p :: ws) r = some (p :: ws, if p.2 then step f w r else (false, r)) := by
  cases w <;> first | (cases hp; done) | rfl
theorem runs_plain (f : Fx) {w : Row} (hp : w.plain = true) (ws : Ways) (rest p : List Row) (vs : Ways) (r : List Int)
    (ih : ∀ r, orun f (p ++ rest) (vs ++ (true, true) :: ws) r = thenO (orun f p (vs ++ [(true, true)]) r) (fun r' => orun f rest ((true, true) :: ws) r')) :
    orun f (w :: (p ++ rest)) (vs ++ (true, true) :: ws) r = thenO (orun f (w :: p) (vs ++ [(true, true)]) r) (fun r' => orun f rest ((true, true) :: ws) r') := by
  rw [orun, orun]
  cases vs with
  | nil =>
    rw [List.nil_append, List.nil_append, turn1_plain f hp, turn1_plain f hp]
    simp only [if_true]
    cases step f w r with
    | mk sh r' =>
      cases sh with
      | true => rfl
      | false => exact ih r'
  | cons v vs =>
    rw [List.cons_append, List.cons_append, turn1_plain f hp, turn1_plain f hp]
    simp only
    cases (if v.2 then step f w r else (false, r)) with
    | mk sh r' =>
      cases sh with
      | true => rfl
      | false => exact ih r'
/-- a part whose ifs are closed, under a way that is taken -/
theorem runs (f : Fx) (ws : Ways) (rest : List Row) : ∀ (p : List Row) (vs : Ways) (r : List Int), dep vs.length p = some 0 →
    orun f (p ++ rest) (vs ++ (true, true) :: ws) r = thenO (orun f p (vs ++ [(true, true)]) r) (fun r' => orun f rest ((true, true) :: ws) r')
  | [], vs, r, h => by
    have : vs = [] := List.eq_nil_of_length_eq_zero (Option.some.inj h)
    subst this
    rfl
  | w :: p, vs, r, h => by
    rw [List.cons_append]
    cases w with
    | iff =>
      rw [orun, orun]
      cases vs with
      | nil =>
        cases r with
        | nil => rfl
        | cons x r => exact runs f ws rest p [(true, !(x == 0))] r h
      | cons v vs =>
        obtain ⟨v1, v2⟩ := v
        cases v2 with
        | false => exact runs f ws rest p ((false, false) :: (v1, false) :: vs) r h
        | true =>
          cases r with
          | nil => rfl
          | cons x r => exact runs f ws rest p ((true, !(x == 0)) :: (v1, true) :: vs) r h
    | els =>
      rw [orun, orun]
      cases vs with
      | nil => cases h
      | cons v vs => exact runs f ws rest p ((v.1, v.1 && !v.2) :: vs) r h
    | fin =>
      rw [orun, orun]
      cases vs with
      | nil => cases h
      | cons v vs => exact runs f ws rest p vs r h
    | _ =>
      have h2 : dep vs.length p = some 0 := by revert h; cases vs.length <;> exact id
      exact runs_plain f rfl ws rest p vs r fun r => runs f ws rest p vs r h2
end LW

namespace LW
open PySem PySem.Spec PyProof.Rows L2 DL
theorem defd (f : Fx) : ∀ (p : List Row) (v : Bool × Bool) (ws : Ways) (r : List Int) (e : Nat), dep ws.length p = some e → ∃ o, orun f p (v :: ws) r = some o
  | [], v, ws, r, e, h => ⟨_, rfl⟩
  | w :: p, v, ws, r, e, h => by
    by_cases hp : w.plain = true
    · have h2 : dep ws.length p = some e := by
        revert h
        cases w <;> first | (cases hp; done) | (cases ws.length <;> exact id)
      rw [orun, turn1_plain f hp]
      simp only
      cases (if v.2 then step f w r else (false, r)) with
      | mk sh r' =>
        cases sh with
        | true => exact ⟨_, rfl⟩
        | false => exact defd f p v ws r' e h2
    · cases w with
      | iff =>
        obtain ⟨v1, v2⟩ := v
        cases v2 with
        | false => exact defd f p (false, false) ((v1, false) :: ws) r e (by cases ws <;> exact h)
        | true =>
          cases r with
          | nil => exact ⟨_, rfl⟩
          | cons x r => exact defd f p (true, !(x == 0)) ((v1, true) :: ws) r e (by cases ws <;> exact h)
      | els =>
        cases ws with
        | nil => cases h
        | cons v' ws => exact defd f p (v.1, v.1 && !v.2) (v' :: ws) r e h
      | fin =>
        cases ws with
        | nil => cases h
        | cons v' ws => exact defd f p v' ws r e h
      | _ => exact absurd rfl hp
/-- the law's locks -/
def lockA (a b p : List Row) : List Row := a ++ ([.push 0, .drop] ++ (p ++ b))
def lockB (a b p0 p1 : List Row) (g : Int) : List Row := a ++ ([.push g, .iff] ++ (p0 ++ (.els :: (p1 ++ (.fin :: b)))))
theorem branch (f : Fx) (a b p0 p1 : List Row) (g : Int) (r : List Int) (ha : dep 0 a = some 0) (h0 : dep 0 p0 = some 0) (h1 : dep 0 p1 = some 0) (hg : g.natAbs < 10 ^ 60) :
    orun f (lockB a b p0 p1 g) [(true, true)] r = orun f (lockA a b (if g = 0 then p1 else p0)) [(true, true)] r := by
  unfold lockA lockB
  have rA := runs f [] ([.push 0, .drop] ++ ((if g = 0 then p1 else p0) ++ b)) a [] r ha
  have rB := runs f [] ([.push g, .iff] ++ (p0 ++ (.els :: (p1 ++ (.fin :: b))))) a [] r ha
  simp only [List.nil_append] at rA rB
  rw [rA, rB]
  congr 1
  funext r'
  show (match lay g (false, r') with | (sh, r2) => if sh then some none else orun f _ [(true, true)] r2) = (match lay 0 (false, r') with | (sh, r2) => if sh then some none else orun f _ [(true, true)] r2)
  by_cases hl : r'.length = 20
  · have e : ∀ x, lay x (false, r') = (true, r') := fun x => by unfold lay; rw [if_pos (.inr hl)]
    rw [e, e]
    rfl
  · have e : ∀ x : Int, x.natAbs < 10 ^ 60 → lay x (false, r') = (false, x :: r') := fun x hx => by unfold lay; rw [if_neg (by simp only; omega)]
    rw [e g hg, e 0 (by decide)]
    show orun f (.iff :: (p0 ++ (.els :: (p1 ++ (.fin :: b))))) [(true, true)] (g :: r') = orun f (.drop :: ((if g = 0 then p1 else p0) ++ b)) [(true, true)] (0 :: r')
    show orun f (p0 ++ (.els :: (p1 ++ (.fin :: b)))) [(true, !(g == 0)), (true, true)] r' = orun f ((if g = 0 then p1 else p0) ++ b) [(true, true)] r'
    by_cases hz : g = 0
    · rw [if_pos hz, hz]
      have s := skip f true [(true, true)] (.els :: (p1 ++ (.fin :: b))) r' p0 0 0 h0
      have r1 := runs f [(true, true)] (.fin :: b) p1 [] r' h1
      have r2 := runs f [] b p1 [] r' h1
      simp only [List.nil_append] at r1 r2
      refine s.trans ?_
      rw [r2]
      exact r1
    · rw [if_neg hz, beq_false_of_ne hz]
      have r1 := runs f [(true, true)] (.els :: (p1 ++ (.fin :: b))) p0 [] r' h0
      have r2 := runs f [] b p0 [] r' h0
      simp only [List.nil_append] at r1 r2
      refine Eq.trans r1 ?_
      rw [r2]
      congr 1
      funext r3
      have s := skip f true [(true, true)] (.fin :: b) r3 p1 0 0 h1
      exact s
theorem dep_lockA {a b p : List Row} (ha : dep 0 a = some 0) (hb : dep 0 b = some 0) (hp : dep 0 p = some 0) : dep 0 (lockA a b p) = some 0 := by
  unfold lockA
  rw [dep_app, ha]
  show dep 0 (p ++ b) = some 0
  rw [dep_app, hp]
  exact hb
end LW

namespace LW
open PySem PySem.Spec PyProof.Rows L2 DL
section
variable {gd : Sto → Prop} {i : Nat} {el : E} {l : DL.Loc} {S : Sto} {A : I} {items : List D} {Pv : D → Prop}
theorem lcL_ex (hg : ∀ acc, gd (S ++ [.lst acc])) : ∀ (items acc : List D), (∀ d ∈ items, ∀ acc, ∃ v, el (l.set i (some d)) (S ++ [.lst acc]) = .ok v (S ++ [.lst acc]) ∧ Pv v) → acc.length + items.length ≤ sizeLine →
    ∃ vs, lcL gd (gNm i) tTrue el S.length items (wipeL l [i]) (S ++ [.lst acc]) = .ok () (S ++ [.lst (acc ++ vs)]) ∧ vs.length = items.length ∧ ∀ v ∈ vs, Pv v
  | [], acc, _, _ => ⟨[], by unfold lcL; rw [if_pos (hg acc), List.append_nil], rfl, fun v hv => by cases hv⟩
  | d :: ds, acc, h, hz => by
    obtain ⟨v, hv, pv⟩ := h d List.mem_cons_self acc
    obtain ⟨vs, e2, hl, hp⟩ := lcL_ex hg ds (acc ++ [v]) (fun d' hd' => h d' (List.mem_cons_of_mem _ hd')) (by simp at hz ⊢; omega)
    refine ⟨v :: vs, ?_, by simp [hl], fun x hx => by rcases List.mem_cons.mp hx with rfl | hx; exact pv; exact hp x hx⟩
    unfold lcL
    rw [if_pos (hg acc)]
    have e : (wipeL l [i]).set i (some d) = l.set i (some d) := set_none_some
    simp only [gNm, tTrue, Res.bind, if_true, e]
    rw [hv]
    simp only
    rw [push_last (by simp at hz; omega)]
    simp only
    rw [e2]
    simp
theorem lc_ex (hA : A l S = .ok ⟨items, gd⟩ S) (hg : ∀ acc, gd (S ++ [.lst acc])) (h : ∀ d ∈ items, ∀ acc, ∃ v, el (l.set i (some d)) (S ++ [.lst acc]) = .ok v (S ++ [.lst acc]) ∧ Pv v) (hz : items.length ≤ sizeLine) (hr : ∀ v, Pv v → pureD v) :
    ∃ vs, eLcX .fr A (gNm i) tTrue el [i] l S = .ok (.lst vs) S ∧ vs.length = items.length ∧ ∀ v ∈ vs, Pv v := by
  obtain ⟨vs, e, hl, hp⟩ := lcL_ex hg items [] h (by simpa using hz)
  refine ⟨vs, ?_, hl, hp⟩
  rw [ap_lc, hA]
  simp only [Res.bind]
  rw [e]
  simp only [nox, List.nil_append]
  show exitD S (.ref S.length) (S ++ [.lst vs]) = _
  refine exit_ext ?_
  unfold fzD sbD fzR
  rw [if_neg (Nat.lt_irrefl _)]
  unfold cellV
  rw [List.getElem?_append_right (Nat.le_refl _), Nat.sub_self]
  simp only [List.getElem?_cons_zero]
  rw [fzs_rlt _ _ _ _ (pures (fun x hx => hr x (hp x hx)) _)]
  rfl
end
/-- a part of the law's -/
def Part (d : D) : Prop := ∃ rows : List Row, d = .tup (rows.map Row.d) ∧ rows.length ≤ 18 ∧ dep 0 rows = some 0
theorem part_pure {d : D} (h : Part d) : pureD d := by
  obtain ⟨rows, rfl, _⟩ := h
  exact pure_tup (by simp only [List.mem_map]; rintro x ⟨w, _, rfl⟩; exact row_pure w)
theorem all_parts : ∀ (vs : List D), (∀ v ∈ vs, Part v) → ∃ ps : List (List Row), vs = ps.map (fun p => .tup (p.map Row.d)) ∧ ∀ p ∈ ps, p.length ≤ 18 ∧ dep 0 p = some 0
  | [], _ => ⟨[], rfl, fun p hp => by cases hp⟩
  | v :: vs, h => by
    obtain ⟨p, rfl, h1, h2⟩ := h v List.mem_cons_self
    obtain ⟨ps, rfl, hp⟩ := all_parts vs fun v hv => h v (List.mem_cons_of_mem _ hv)
    exact ⟨p :: ps, rfl, fun q hq => by rcases List.mem_cons.mp hq with rfl | hq; exact ⟨h1, h2⟩; exact hp q hq⟩

section
variable {l : DL.Loc} {S : Sto} {A B : E} {x y : List Row}
theorem eAdd (hA : A l S = .ok (.tup (x.map Row.d)) S) (hB : B l S = .ok (.tup (y.map Row.d)) S) (hx : x.length ≤ 200) (hy : y.length ≤ 200) : eOp2 addD A B l S = .ok (.tup ((x ++ y).map Row.d)) S := by
  rw [ap_op2, hA]
  simp only [Res.bind]
  rw [hB]
  simp only
  rw [List.map_append]
  exact if_pos (by rw [sizeLine_eq]; simp; omega)
theorem eVarR {i : Nat} (h : l[i]? = some (some (.tup (x.map Row.d)))) : eVar i l S = .ok (.tup (x.map Row.d)) S := by
  rw [ap_var, h]
end
end LW

namespace LW
open PySem PySem.Spec PyProof.Rows L2 DL
def T (p : List Row) : D := .tup (p.map Row.d)
/-- a lock that answers v -/
def Lk (ks : List Int) (f : Fx) (v : Bool) (x : D) : Prop := pureD x ∧ ∀ S, F_opens [x, .tup (ks.map D.int), f.d] S = .ok (.bl v) S
theorem T_pure (p : List Row) : pureD (T p) := pure_tup (by simp only [List.mem_map]; rintro x ⟨w, _, rfl⟩; exact row_pure w)
theorem lk_of {ks : List Int} (hk : Fit ks.reverse) {f : Fx} {p : List Row} {o : Option (List Int)} (hp : p.length < 800) (ho : orun f p [(true, true)] ks.reverse = some o) : Lk ks f (oans o) (T p) :=
  ⟨T_pure p, fun S => f_opens f p ks o hk hp ho S⟩
section
variable {l : DL.Loc} {S : Sto} {a b p0 p1 p : List Row} {g : Int}
theorem e_lockB {P Q : E} (h9 : l[9]? = some (some (T (a ++ [.push g, .iff])))) (h4 : l[4]? = some (some (T b))) (hP : P l S = .ok (T p0) S) (hQ : Q l S = .ok (T p1) S)
    (la : a.length ≤ 18) (lb : b.length ≤ 18) (l0 : p0.length ≤ 18) (l1 : p1.length ≤ 18) :
    eOp2 addD (eOp2 addD (eOp2 addD (eOp2 addD (eOp2 addD (eVar 9) P) (eTup (aCons (eTup (aCons (eC (.str "else")) aNil)) aNil))) Q) (eTup (aCons (eTup (aCons (eC (.str "end")) aNil)) aNil))) (eVar 4) l S = .ok (T (lockB a b p0 p1 g)) S := by
  have le : (eTup (aCons (eTup (aCons (eC (.str "else")) aNil)) aNil)) l S = .ok (.tup (([Row.els]).map Row.d)) S := by simp (config := { decide := true }) only [bind_ok, bind_exc, toS_ok, toS_exc, ap_var, ap_c, ap_op2, ap_op1, ap_and, ap_or, ap_not, ap_if, ap_tval, ap_ttruth, ap_tand, ap_tor, ap_tnot, ap_ttrue, 
    ap_nil, ap_cons, ap_tup, ap_lst, ap_lstM, ap_app, ap_sl, ap_pno, ap_pat, toI_int, ap_mt, ap_chain, isBl_bl, truD_bl, truD_int, ap_snil, ap_sbrk, 
    ap_scont, ap_sexpr, ap_sret, ap_sretn, ap_sif, ap_sset, ap_sasg, ap_spar, ap_saug, ap_seq, seqK_next, seqK_ret, seqK_brk, seqK_cont, seqK_exc, ap_for, 
    ap_iseq, ap_ir1, ap_gnm, ap_gtp, gnms_nil, gnms_cons, ap_gsub, Option.map_some, Option.bind_some, loopN_next, loopN_cont, ty_int, ty_bl, ty_str, 
    ty_non, ty_tup, ty_lst, ty_ref, isi_ap, len_ref, get_last, append_last, tuple_last, list_last, add_ii, sub_ii, mul_ii, mulOk_l, mulOk_r, fdiv_ii, 
    divmod_ii, mod_ii, pow_ii, neg_i, ord_ii, is_non, isnt_non, is_bl, isnt_bl, abs_i, int_i, int_b, max_ii, min_ii, len_tup, len_lst, tuple_lst, 
    tuple_tup, list_lst, list_tup, List.getElem?_cons_zero, List.getElem?_cons_succ, List.set_cons_zero, List.set_cons_succ, List.map_cons, List.map_nil, 
    List.cons_append, List.nil_append, List.reduceReplicate, Nat.reduceSub, List.length_cons, List.length_nil, if_true, if_false, reduceIte, reduceCtorEq, 
    Bool.false_eq_true, Bool.true_eq_false, sizeLine_eq, Int.reduceToNat, newCell, ix_tupm, ix_lstm, atI_0, atI_1, atI_2, atI_3, atI_4, atI_5, Row.d, 
    List.map_cons, List.map_nil]
  have lf : (eTup (aCons (eTup (aCons (eC (.str "end")) aNil)) aNil)) l S = .ok (.tup (([Row.fin]).map Row.d)) S := by simp (config := { decide := true }) only [bind_ok, bind_exc, toS_ok, toS_exc, ap_var, ap_c, ap_op2, ap_op1, ap_and, ap_or, ap_not, ap_if, ap_tval, ap_ttruth, ap_tand, ap_tor, ap_tnot, ap_ttrue, 
    ap_nil, ap_cons, ap_tup, ap_lst, ap_lstM, ap_app, ap_sl, ap_pno, ap_pat, toI_int, ap_mt, ap_chain, isBl_bl, truD_bl, truD_int, ap_snil, ap_sbrk, 
    ap_scont, ap_sexpr, ap_sret, ap_sretn, ap_sif, ap_sset, ap_sasg, ap_spar, ap_saug, ap_seq, seqK_next, seqK_ret, seqK_brk, seqK_cont, seqK_exc, ap_for, 
    ap_iseq, ap_ir1, ap_gnm, ap_gtp, gnms_nil, gnms_cons, ap_gsub, Option.map_some, Option.bind_some, loopN_next, loopN_cont, ty_int, ty_bl, ty_str, 
    ty_non, ty_tup, ty_lst, ty_ref, isi_ap, len_ref, get_last, append_last, tuple_last, list_last, add_ii, sub_ii, mul_ii, mulOk_l, mulOk_r, fdiv_ii, 
    divmod_ii, mod_ii, pow_ii, neg_i, ord_ii, is_non, isnt_non, is_bl, isnt_bl, abs_i, int_i, int_b, max_ii, min_ii, len_tup, len_lst, tuple_lst, 
    tuple_tup, list_lst, list_tup, List.getElem?_cons_zero, List.getElem?_cons_succ, List.set_cons_zero, List.set_cons_succ, List.map_cons, List.map_nil, 
    List.cons_append, List.nil_append, List.reduceReplicate, Nat.reduceSub, List.length_cons, List.length_nil, if_true, if_false, reduceIte, reduceCtorEq, 
    Bool.false_eq_true, Bool.true_eq_false, sizeLine_eq, Int.reduceToNat, newCell, ix_tupm, ix_lstm, atI_0, atI_1, atI_2, atI_3, atI_4, atI_5, Row.d, 
    List.map_cons, List.map_nil]
  have e := eAdd (eAdd (eAdd (eAdd (eAdd (eVarR h9) hP (by simp; omega) (by omega)) le (by simp; omega) (by simp)) hQ (by simp; omega) (by omega)) lf (by simp; omega) (by simp)) (eVarR h4) (by simp; omega) (by omega)
  rw [e]
  unfold lockB T
  simp
end
noncomputable def XA : E := eOp2 addD (eOp2 addD (eOp2 addD (eOp2 addD (eOp2 addD (eVar 9) (eVar 11)) (eTup (aCons (eTup (aCons (eC (.str "else")) aNil)) aNil))) (eOp2 ixD (eVar 5) (eC (.int 1)))) (eTup (aCons (eTup (aCons (eC (.str "end")) aNil)) aNil))) (eVar 4)
noncomputable def XB : E := eOp2 addD (eOp2 addD (eOp2 addD (eOp2 addD (eOp2 addD (eVar 9) (eOp2 ixD (eVar 5) (eC (.int 0)))) (eTup (aCons (eTup (aCons (eC (.str "else")) aNil)) aNil))) (eVar 11)) (eTup (aCons (eTup (aCons (eC (.str "end")) aNil)) aNil))) (eVar 4)
theorem law3_eq : L_law_3 = sIf (tVal (eOp2 eqvD (eVar 8) (eC (.int 0)))) (sExpr (eMt "list" appendD (eVar 10) (aCons XA aNil))) (sExpr (eMt "list" appendD (eVar 10) (aCons XB aNil))) := rfl
/-- the locks with another part where it is not done -/
theorem loop3 (sd dg nd nv : D) (ks : List Int) (f : Fx) (v : Bool) (a b p0 p1 : List Row) (ps : List (List Row)) (g : Int) (o11 o12 : Option D) (S : Sto) (ls0 : List D)
    (la : a.length ≤ 18) (lb : b.length ≤ 18) (l0 : p0.length ≤ 18) (l1 : p1.length ≤ 18) (lp : ∀ p ∈ ps, p.length ≤ 18) (hn : ps.length ≤ 10) (hl0 : ls0.length ≤ 10) (h0 : ∀ x ∈ ls0, Lk ks f v x)
    (hv : ∀ p ∈ ps, Lk ks f v (if g = 0 then T (lockB a b p p1 g) else T (lockB a b p0 p g))) :
    ∃ (o : Option D) (ls : List D), forL (fun _ => True) (gNm 11) L_law_3 (ps.map T) [some sd, some dg, some nd, some (T a), some (T b), some (.lst ((p0 :: p1 :: ps).map T)), some nv, some f.d, some (.int g), some (T (a ++ [.push g, .iff])), some (.ref S.length), o11, o12, none, none] (S ++ [.lst ls0]) =
      .next [some sd, some dg, some nd, some (T a), some (T b), some (.lst ((p0 :: p1 :: ps).map T)), some nv, some f.d, some (.int g), some (T (a ++ [.push g, .iff])), some (.ref S.length), o, o12, none, none] (S ++ [.lst ls]) ∧ ls.length = ls0.length + ps.length ∧ (∀ x ∈ ls, Lk ks f v x) ∧ ls0 <+: ls := by
  obtain ⟨l', S', e, o, ls, hl, hS, h1, h2, h3⟩ := forL_list (gd := fun _ => True) (G := gNm 11) (body := L_law_3) (items := ps.map T)
    (l := [some sd, some dg, some nd, some (T a), some (T b), some (.lst ((p0 :: p1 :: ps).map T)), some nv, some f.d, some (.int g), some (T (a ++ [.push g, .iff])), some (.ref S.length), o11, o12, none, none]) (S := S ++ [.lst ls0])
    (fun i l S' => ∃ (o : Option D) (ls : List D), l = [some sd, some dg, some nd, some (T a), some (T b), some (.lst ((p0 :: p1 :: ps).map T)), some nv, some f.d, some (.int g), some (T (a ++ [.push g, .iff])), some (.ref S.length), o, o12, none, none] ∧ S' = S ++ [.lst ls] ∧ (i ≤ ps.length → ls.length = ls0.length + i) ∧ (∀ x ∈ ls, Lk ks f v x) ∧ ls0 <+: ls)
    ⟨o11, ls0, rfl, rfl, fun _ => rfl, h0, List.prefix_refl _⟩ (fun _ _ _ _ => trivial) (fun i d l S1 hd ⟨o, ls, hl, hS, h1, h2, h3⟩ => by
      subst hl hS
      rw [List.getElem?_map] at hd
      cases hp : ps[i]? with
      | none => rw [hp] at hd; cases hd
      | some p =>
        rw [hp] at hd
        obtain rfl : T p = d := Option.some.inj hd
        have hi := (List.getElem?_eq_some_iff.mp hp).1
        have hm := List.mem_of_getElem? hp
        have hlen := h1 (by omega)
        have hz : ls.length < 16777216 := by omega
        refine ⟨_, _, rfl, ?_⟩
        have hx := hv p hm
        by_cases hg : g = 0
        · rw [if_pos hg] at hx
          have eb := e_lockB (l := [some sd, some dg, some nd, some (T a), some (T b), some (.lst ((p0 :: p1 :: ps).map T)), some nv, some f.d, some (.int g), some (T (a ++ [.push g, .iff])), some (.ref S.length), some (T p), o12, none, none]) (S := S ++ [.lst ls]) (P := eVar 11) (Q := eOp2 ixD (eVar 5) (eC (.int 1))) rfl rfl (show _ = Res.ok (T p) _ from rfl) (show _ = Res.ok (T p1) _ by simp (config := { decide := true }) only [bind_ok, bind_exc, toS_ok, toS_exc, ap_var, ap_c, ap_op2, ap_op1, ap_and, ap_or, ap_not, ap_if, ap_tval, ap_ttruth, ap_tand, ap_tor, ap_tnot, ap_ttrue, 
    ap_nil, ap_cons, ap_tup, ap_lst, ap_lstM, ap_app, ap_sl, ap_pno, ap_pat, toI_int, ap_mt, ap_chain, isBl_bl, truD_bl, truD_int, ap_snil, ap_sbrk, 
    ap_scont, ap_sexpr, ap_sret, ap_sretn, ap_sif, ap_sset, ap_sasg, ap_spar, ap_saug, ap_seq, seqK_next, seqK_ret, seqK_brk, seqK_cont, seqK_exc, ap_for, 
    ap_iseq, ap_ir1, ap_gnm, ap_gtp, gnms_nil, gnms_cons, ap_gsub, Option.map_some, Option.bind_some, loopN_next, loopN_cont, ty_int, ty_bl, ty_str, 
    ty_non, ty_tup, ty_lst, ty_ref, isi_ap, len_ref, get_last, append_last, tuple_last, list_last, add_ii, sub_ii, mul_ii, mulOk_l, mulOk_r, fdiv_ii, 
    divmod_ii, mod_ii, pow_ii, neg_i, ord_ii, is_non, isnt_non, is_bl, isnt_bl, abs_i, int_i, int_b, max_ii, min_ii, len_tup, len_lst, tuple_lst, 
    tuple_tup, list_lst, list_tup, List.getElem?_cons_zero, List.getElem?_cons_succ, List.set_cons_zero, List.set_cons_succ, List.map_cons, List.map_nil, 
    List.cons_append, List.nil_append, List.reduceReplicate, Nat.reduceSub, List.length_cons, List.length_nil, if_true, if_false, reduceIte, reduceCtorEq, 
    Bool.false_eq_true, Bool.true_eq_false, sizeLine_eq, Int.reduceToNat, newCell, ix_tupm, ix_lstm, atI_0, atI_1, atI_2, atI_3, atI_4, atI_5, 
    List.map_cons]) la lb (lp p hm) l1
          have hb : (g == 0) = true := by rw [hg]; rfl
          refine ⟨[some sd, some dg, some nd, some (T a), some (T b), some (.lst ((p0 :: p1 :: ps).map T)), some nv, some f.d, some (.int g), some (T (a ++ [.push g, .iff])), some (.ref S.length), some (T p), o12, none, none], S ++ [.lst (ls ++ [T (lockB a b p p1 g)])], ?_, _, _, rfl, rfl, fun _ => by simp [hlen]; omega, fun x hx' => by
            rw [List.mem_append, List.mem_singleton] at hx'
            rcases hx' with hx' | rfl
            · exact h2 x hx'
            · exact hx, h3.trans (List.prefix_append _ _)⟩
          rw [law3_eq]
          have eb : XA _ _ = _ := eb
          simp only [List.map_cons] at eb
          simp (config := { decide := true }) only [bind_ok, bind_exc, toS_ok, toS_exc, ap_var, ap_c, ap_op2, ap_op1, ap_and, ap_or, ap_not, ap_if, ap_tval, ap_ttruth, ap_tand, ap_tor, ap_tnot, ap_ttrue, 
    ap_nil, ap_cons, ap_tup, ap_lst, ap_lstM, ap_app, ap_sl, ap_pno, ap_pat, toI_int, ap_mt, ap_chain, isBl_bl, truD_bl, truD_int, ap_snil, ap_sbrk, 
    ap_scont, ap_sexpr, ap_sret, ap_sretn, ap_sif, ap_sset, ap_sasg, ap_spar, ap_saug, ap_seq, seqK_next, seqK_ret, seqK_brk, seqK_cont, seqK_exc, ap_for, 
    ap_iseq, ap_ir1, ap_gnm, ap_gtp, gnms_nil, gnms_cons, ap_gsub, Option.map_some, Option.bind_some, loopN_next, loopN_cont, ty_int, ty_bl, ty_str, 
    ty_non, ty_tup, ty_lst, ty_ref, isi_ap, len_ref, get_last, append_last, tuple_last, list_last, add_ii, sub_ii, mul_ii, mulOk_l, mulOk_r, fdiv_ii, 
    divmod_ii, mod_ii, pow_ii, neg_i, ord_ii, is_non, isnt_non, is_bl, isnt_bl, abs_i, int_i, int_b, max_ii, min_ii, len_tup, len_lst, tuple_lst, 
    tuple_tup, list_lst, list_tup, List.getElem?_cons_zero, List.getElem?_cons_succ, List.set_cons_zero, List.set_cons_succ, List.map_cons, List.map_nil, 
    List.cons_append, List.nil_append, List.reduceReplicate, Nat.reduceSub, List.length_cons, List.length_nil, if_true, if_false, reduceIte, reduceCtorEq, 
    Bool.false_eq_true, Bool.true_eq_false, sizeLine_eq, Int.reduceToNat, newCell, ix_tupm, ix_lstm, atI_0, atI_1, atI_2, atI_3, atI_4, atI_5, eqv_ii, hb, 
    eb, hz]
        · rw [if_neg hg] at hx
          have eb := e_lockB (l := [some sd, some dg, some nd, some (T a), some (T b), some (.lst ((p0 :: p1 :: ps).map T)), some nv, some f.d, some (.int g), some (T (a ++ [.push g, .iff])), some (.ref S.length), some (T p), o12, none, none]) (S := S ++ [.lst ls]) (P := eOp2 ixD (eVar 5) (eC (.int 0))) (Q := eVar 11) rfl rfl (show _ = Res.ok (T p0) _ by simp (config := { decide := true }) only [bind_ok, bind_exc, toS_ok, toS_exc, ap_var, ap_c, ap_op2, ap_op1, ap_and, ap_or, ap_not, ap_if, ap_tval, ap_ttruth, ap_tand, ap_tor, ap_tnot, ap_ttrue, 
    ap_nil, ap_cons, ap_tup, ap_lst, ap_lstM, ap_app, ap_sl, ap_pno, ap_pat, toI_int, ap_mt, ap_chain, isBl_bl, truD_bl, truD_int, ap_snil, ap_sbrk, 
    ap_scont, ap_sexpr, ap_sret, ap_sretn, ap_sif, ap_sset, ap_sasg, ap_spar, ap_saug, ap_seq, seqK_next, seqK_ret, seqK_brk, seqK_cont, seqK_exc, ap_for, 
    ap_iseq, ap_ir1, ap_gnm, ap_gtp, gnms_nil, gnms_cons, ap_gsub, Option.map_some, Option.bind_some, loopN_next, loopN_cont, ty_int, ty_bl, ty_str, 
    ty_non, ty_tup, ty_lst, ty_ref, isi_ap, len_ref, get_last, append_last, tuple_last, list_last, add_ii, sub_ii, mul_ii, mulOk_l, mulOk_r, fdiv_ii, 
    divmod_ii, mod_ii, pow_ii, neg_i, ord_ii, is_non, isnt_non, is_bl, isnt_bl, abs_i, int_i, int_b, max_ii, min_ii, len_tup, len_lst, tuple_lst, 
    tuple_tup, list_lst, list_tup, List.getElem?_cons_zero, List.getElem?_cons_succ, List.set_cons_zero, List.set_cons_succ, List.map_cons, List.map_nil, 
    List.cons_append, List.nil_append, List.reduceReplicate, Nat.reduceSub, List.length_cons, List.length_nil, if_true, if_false, reduceIte, reduceCtorEq, 
    Bool.false_eq_true, Bool.true_eq_false, sizeLine_eq, Int.reduceToNat, newCell, ix_tupm, ix_lstm, atI_0, atI_1, atI_2, atI_3, atI_4, atI_5, 
    List.map_cons]) (show _ = Res.ok (T p) _ from rfl) la lb l0 (lp p hm)
          have eb : XB _ _ = _ := eb
          simp only [List.map_cons] at eb
          have hb : (g == 0) = false := beq_false_of_ne hg
          refine ⟨[some sd, some dg, some nd, some (T a), some (T b), some (.lst ((p0 :: p1 :: ps).map T)), some nv, some f.d, some (.int g), some (T (a ++ [.push g, .iff])), some (.ref S.length), some (T p), o12, none, none], S ++ [.lst (ls ++ [T (lockB a b p0 p g)])], ?_, _, _, rfl, rfl, fun _ => by simp [hlen]; omega, fun x hx' => by
            rw [List.mem_append, List.mem_singleton] at hx'
            rcases hx' with hx' | rfl
            · exact h2 x hx'
            · exact hx, h3.trans (List.prefix_append _ _)⟩
          rw [law3_eq]
          simp (config := { decide := true }) only [bind_ok, bind_exc, toS_ok, toS_exc, ap_var, ap_c, ap_op2, ap_op1, ap_and, ap_or, ap_not, ap_if, ap_tval, ap_ttruth, ap_tand, ap_tor, ap_tnot, ap_ttrue, 
    ap_nil, ap_cons, ap_tup, ap_lst, ap_lstM, ap_app, ap_sl, ap_pno, ap_pat, toI_int, ap_mt, ap_chain, isBl_bl, truD_bl, truD_int, ap_snil, ap_sbrk, 
    ap_scont, ap_sexpr, ap_sret, ap_sretn, ap_sif, ap_sset, ap_sasg, ap_spar, ap_saug, ap_seq, seqK_next, seqK_ret, seqK_brk, seqK_cont, seqK_exc, ap_for, 
    ap_iseq, ap_ir1, ap_gnm, ap_gtp, gnms_nil, gnms_cons, ap_gsub, Option.map_some, Option.bind_some, loopN_next, loopN_cont, ty_int, ty_bl, ty_str, 
    ty_non, ty_tup, ty_lst, ty_ref, isi_ap, len_ref, get_last, append_last, tuple_last, list_last, add_ii, sub_ii, mul_ii, mulOk_l, mulOk_r, fdiv_ii, 
    divmod_ii, mod_ii, pow_ii, neg_i, ord_ii, is_non, isnt_non, is_bl, isnt_bl, abs_i, int_i, int_b, max_ii, min_ii, len_tup, len_lst, tuple_lst, 
    tuple_tup, list_lst, list_tup, List.getElem?_cons_zero, List.getElem?_cons_succ, List.set_cons_zero, List.set_cons_succ, List.map_cons, List.map_nil, 
    List.cons_append, List.nil_append, List.reduceReplicate, Nat.reduceSub, List.length_cons, List.length_nil, if_true, if_false, reduceIte, reduceCtorEq, 
    Bool.false_eq_true, Bool.true_eq_false, sizeLine_eq, Int.reduceToNat, newCell, ix_tupm, ix_lstm, atI_0, atI_1, atI_2, atI_3, atI_4, atI_5, eqv_ii, hb, 
    eb, hz])
  subst hl hS
  exact ⟨o, ls, e, by have := h1 (by simp); simpa using this, h2, h3⟩
end LW

namespace LW
open PySem PySem.Spec PyProof.Rows L2 DL
theorem ne_five (v : Bool) (S : Sto) : nevD (.lst [.bl v, .bl v, .bl v, .bl v, .bl v]) (.lst [.bl v, .bl v, .bl v, .bl v, .bl v]) S = .ok (.bl false) S := by
  have h : dr S (.lst [.bl v, .bl v, .bl v, .bl v, .bl v]) = .lst [.bl v, .bl v, .bl v, .bl v, .bl v] := by simp only [dr, drs]
  have hd : dp (.lst [.bl v, .bl v, .bl v, .bl v, .bl v]) ≤ 60 := by simp only [dp, dps]; decide
  rw [nev_of h h hd hd]
  have : eqD (.lst [.bl v, .bl v, .bl v, .bl v, .bl v]) (.lst [.bl v, .bl v, .bl v, .bl v, .bl v]) = true := by
    simp [eqD, eqDs]
  rw [this]; rfl
theorem iSeq_var {l : DL.Loc} {S : Sto} {i : Nat} {d : D} {xs : List D} (h : l[i]? = some (some d)) (hs : seqOf S d = some xs) : iSeq (eVar i) l S = .ok ⟨xs, fun S' => seqOf S' d = some xs⟩ S := by
  unfold iSeq
  rw [ap_var, h]
  simp only [Res.bind]
  rw [hs]
noncomputable def XC : E := eOp2 addD (eOp2 addD (eOp2 addD (eVar 3) (eTup (aCons (eTup (aCons (eC (.str "push")) (aCons (eC (.int 0)) aNil))) (aCons (eTup (aCons (eC (.str "drop")) aNil)) aNil)))) (eOp2 ixD (eVar 5) (eApp intD (aCons (eOp2 eqvD (eVar 8) (eC (.int 0))) aNil)))) (eVar 4)
noncomputable def XD : E := eOp2 addD (eOp2 addD (eOp2 addD (eOp2 addD (eOp2 addD (eVar 9) (eOp2 ixD (eVar 5) (eC (.int 0)))) (eTup (aCons (eTup (aCons (eC (.str "else")) aNil)) aNil))) (eOp2 ixD (eVar 5) (eC (.int 1)))) (eTup (aCons (eTup (aCons (eC (.str "end")) aNil)) aNil))) (eVar 4)
noncomputable def XS : E := eOp2 addD (eVar 3) (eTup (aCons (eTup (aCons (eC (.str "push")) (aCons (eVar 8) aNil))) (aCons (eTup (aCons (eC (.str "if")) aNil)) aNil)))
noncomputable def XF : E := eLc (iSeq (eVar 10)) (gNm 14) tTrue L_law_4 [14]
theorem law2_eq : L_law_2 = sSeq (sSet 9 XS) (sSeq (sSet 10 (eLstM (aCons XC aNil))) (sSeq (sExpr (eMt "list" appendD (eVar 10) (aCons XD aNil)))
  (sSeq (sFor (iSeq (eSl (eVar 5) (pAt (eC (.int 2))) pNo)) (gNm 11) L_law_3)
  (sSeq (sSet 12 XF)
  (sIf (tOrD (tNotD (tTruth (eOp1 (isiD "bool") (eOp2 ixD (eVar 12) (eC (.int 0)))))) (tVal (eOp2 nevD (eVar 12) (eOp2 mulD (eLst (aCons (eOp2 ixD (eVar 12) (eC (.int 0))) aNil)) (eApp lenD (aCons (eVar 10) aNil))))))
  (sRet (eC (.bl false)))
  sNil))))) := rfl
theorem body2 (g : Int) (hg : g.natAbs < 10 ^ 60) (sd dg nd : D) (ks : List Int) (hk : Fit ks.reverse) (f : Fx) (a b p0 p1 p2 p3 p4 : List Row)
    (la : a.length ≤ 18) (lb : b.length ≤ 18) (da : dep 0 a = some 0) (db : dep 0 b = some 0)
    (l0 : p0.length ≤ 18) (l1 : p1.length ≤ 18) (l2 : p2.length ≤ 18) (l3 : p3.length ≤ 18) (l4 : p4.length ≤ 18)
    (d0 : dep 0 p0 = some 0) (d1 : dep 0 p1 = some 0) (d2 : dep 0 p2 = some 0) (d3 : dep 0 p3 = some 0) (d4 : dep 0 p4 = some 0)
    (o9 o10 o11 o12 : Option D) (S : Sto) :
    ∃ x9 x10 x11 x12 ls, L_law_2 [some sd, some dg, some nd, some (T a), some (T b), some (.lst [T p0, T p1, T p2, T p3, T p4]), some (.tup (ks.map D.int)), some f.d, some (.int g), o9, o10, o11, o12, none, none] S =
      .next [some sd, some dg, some nd, some (T a), some (T b), some (.lst [T p0, T p1, T p2, T p3, T p4]), some (.tup (ks.map D.int)), some f.d, some (.int g), x9, x10, x11, x12, none, none] (S ++ [.lst ls]) := by
  -- the base lock and its answer
  obtain ⟨q, hq⟩ : ∃ q, (if g = 0 then p1 else p0) = q := ⟨_, rfl⟩
  have lq : q.length ≤ 18 := by rw [← hq]; split <;> assumption
  have dq : dep 0 q = some 0 := by rw [← hq]; split <;> assumption
  obtain ⟨o, ho⟩ := defd f (lockA a b q) (true, true) [] ks.reverse 0 (dep_lockA da db dq)
  have hA : Lk ks f (oans o) (T (lockA a b q)) := lk_of hk (by unfold lockA; simp; omega) ho
  have hB : ∀ p0' p1', p0'.length ≤ 18 → p1'.length ≤ 18 → dep 0 p0' = some 0 → dep 0 p1' = some 0 → (if g = 0 then p1' else p0') = q → Lk ks f (oans o) (T (lockB a b p0' p1' g)) := fun p0' p1' e0 e1 f0 f1 e =>
    lk_of hk (by unfold lockB; simp; omega) (by rw [branch f a b p0' p1' g ks.reverse da f0 f1 hg, e]; exact ho)
  have hD := hB p0 p1 l0 l1 d0 d1 hq
  have h3 : ∀ p ∈ [p2, p3, p4], Lk ks f (oans o) (if g = 0 then T (lockB a b p p1 g) else T (lockB a b p0 p g)) := fun p hp => by
    have hp2 : p.length ≤ 18 ∧ dep 0 p = some 0 := by
      simp only [List.mem_cons, List.not_mem_nil, or_false] at hp
      rcases hp with rfl | rfl | rfl
      · exact ⟨l2, d2⟩
      · exact ⟨l3, d3⟩
      · exact ⟨l4, d4⟩
    by_cases hz : g = 0
    · rw [if_pos hz]
      exact hB p p1 hp2.1 l1 hp2.2 d1 (by rw [if_pos hz]; rw [if_pos hz] at hq; exact hq)
    · rw [if_neg hz]
      exact hB p0 p l0 hp2.1 d0 hp2.2 (by rw [if_neg hz]; rw [if_neg hz] at hq; exact hq)
  have e9 : XS [some sd, some dg, some nd, some (T a), some (T b), some (.lst [T p0, T p1, T p2, T p3, T p4]), some (.tup (ks.map D.int)), some f.d, some (.int g), o9, o10, o11, o12, none, none] S = .ok (T (a ++ [.push g, .iff])) S :=
    eAdd (x := a) (y := [Row.push g, Row.iff]) (eVarR rfl) (by simp (config := { decide := true }) only [bind_ok, bind_exc, toS_ok, toS_exc, ap_var, ap_c, ap_op2, ap_op1, ap_and, ap_or, ap_not, ap_if, ap_tval, ap_ttruth, ap_tand, ap_tor, ap_tnot, ap_ttrue, 
    ap_nil, ap_cons, ap_tup, ap_lst, ap_lstM, ap_app, ap_sl, ap_pno, ap_pat, toI_int, ap_mt, ap_chain, isBl_bl, truD_bl, truD_int, ap_snil, ap_sbrk, 
    ap_scont, ap_sexpr, ap_sret, ap_sretn, ap_sif, ap_sset, ap_sasg, ap_spar, ap_saug, ap_seq, seqK_next, seqK_ret, seqK_brk, seqK_cont, seqK_exc, ap_for, 
    ap_iseq, ap_ir1, ap_gnm, ap_gtp, gnms_nil, gnms_cons, ap_gsub, Option.map_some, Option.bind_some, loopN_next, loopN_cont, ty_int, ty_bl, ty_str, 
    ty_non, ty_tup, ty_lst, ty_ref, isi_ap, len_ref, get_last, append_last, tuple_last, list_last, add_ii, sub_ii, mul_ii, mulOk_l, mulOk_r, fdiv_ii, 
    divmod_ii, mod_ii, pow_ii, neg_i, ord_ii, is_non, isnt_non, is_bl, isnt_bl, abs_i, int_i, int_b, max_ii, min_ii, len_tup, len_lst, tuple_lst, 
    tuple_tup, list_lst, list_tup, List.getElem?_cons_zero, List.getElem?_cons_succ, List.set_cons_zero, List.set_cons_succ, List.map_cons, List.map_nil, 
    List.cons_append, List.nil_append, List.reduceReplicate, Nat.reduceSub, List.length_cons, List.length_nil, if_true, if_false, reduceIte, reduceCtorEq, 
    Bool.false_eq_true, Bool.true_eq_false, sizeLine_eq, Int.reduceToNat, newCell, ix_tupm, ix_lstm, atI_0, atI_1, atI_2, atI_3, atI_4, atI_5, Row.d, 
    List.map_cons, List.map_nil]) (by omega) (by simp)
  have hix : (eOp2 ixD (eVar 5) (eApp intD (aCons (eOp2 eqvD (eVar 8) (eC (.int 0))) aNil))) [some sd, some dg, some nd, some (T a), some (T b), some (.lst [T p0, T p1, T p2, T p3, T p4]), some (.tup (ks.map D.int)), some f.d, some (.int g), some (T (a ++ [.push g, .iff])), o10, o11, o12, none, none] S = .ok (.tup (q.map Row.d)) S := by
    by_cases hz : g = 0
    · have hb : (g == 0) = true := by rw [hz]; rfl
      rw [if_pos hz] at hq
      rw [← hq]
      simp (config := { decide := true }) only [bind_ok, bind_exc, toS_ok, toS_exc, ap_var, ap_c, ap_op2, ap_op1, ap_and, ap_or, ap_not, ap_if, ap_tval, ap_ttruth, ap_tand, ap_tor, ap_tnot, ap_ttrue, 
    ap_nil, ap_cons, ap_tup, ap_lst, ap_lstM, ap_app, ap_sl, ap_pno, ap_pat, toI_int, ap_mt, ap_chain, isBl_bl, truD_bl, truD_int, ap_snil, ap_sbrk, 
    ap_scont, ap_sexpr, ap_sret, ap_sretn, ap_sif, ap_sset, ap_sasg, ap_spar, ap_saug, ap_seq, seqK_next, seqK_ret, seqK_brk, seqK_cont, seqK_exc, ap_for, 
    ap_iseq, ap_ir1, ap_gnm, ap_gtp, gnms_nil, gnms_cons, ap_gsub, Option.map_some, Option.bind_some, loopN_next, loopN_cont, ty_int, ty_bl, ty_str, 
    ty_non, ty_tup, ty_lst, ty_ref, isi_ap, len_ref, get_last, append_last, tuple_last, list_last, add_ii, sub_ii, mul_ii, mulOk_l, mulOk_r, fdiv_ii, 
    divmod_ii, mod_ii, pow_ii, neg_i, ord_ii, is_non, isnt_non, is_bl, isnt_bl, abs_i, int_i, int_b, max_ii, min_ii, len_tup, len_lst, tuple_lst, 
    tuple_tup, list_lst, list_tup, List.getElem?_cons_zero, List.getElem?_cons_succ, List.set_cons_zero, List.set_cons_succ, List.map_cons, List.map_nil, 
    List.cons_append, List.nil_append, List.reduceReplicate, Nat.reduceSub, List.length_cons, List.length_nil, if_true, if_false, reduceIte, reduceCtorEq, 
    Bool.false_eq_true, Bool.true_eq_false, sizeLine_eq, Int.reduceToNat, newCell, ix_tupm, ix_lstm, atI_0, atI_1, atI_2, atI_3, atI_4, atI_5, eqv_ii, hb]
      rfl
    · have hb : (g == 0) = false := beq_false_of_ne hz
      rw [if_neg hz] at hq
      rw [← hq]
      simp (config := { decide := true }) only [bind_ok, bind_exc, toS_ok, toS_exc, ap_var, ap_c, ap_op2, ap_op1, ap_and, ap_or, ap_not, ap_if, ap_tval, ap_ttruth, ap_tand, ap_tor, ap_tnot, ap_ttrue, 
    ap_nil, ap_cons, ap_tup, ap_lst, ap_lstM, ap_app, ap_sl, ap_pno, ap_pat, toI_int, ap_mt, ap_chain, isBl_bl, truD_bl, truD_int, ap_snil, ap_sbrk, 
    ap_scont, ap_sexpr, ap_sret, ap_sretn, ap_sif, ap_sset, ap_sasg, ap_spar, ap_saug, ap_seq, seqK_next, seqK_ret, seqK_brk, seqK_cont, seqK_exc, ap_for, 
    ap_iseq, ap_ir1, ap_gnm, ap_gtp, gnms_nil, gnms_cons, ap_gsub, Option.map_some, Option.bind_some, loopN_next, loopN_cont, ty_int, ty_bl, ty_str, 
    ty_non, ty_tup, ty_lst, ty_ref, isi_ap, len_ref, get_last, append_last, tuple_last, list_last, add_ii, sub_ii, mul_ii, mulOk_l, mulOk_r, fdiv_ii, 
    divmod_ii, mod_ii, pow_ii, neg_i, ord_ii, is_non, isnt_non, is_bl, isnt_bl, abs_i, int_i, int_b, max_ii, min_ii, len_tup, len_lst, tuple_lst, 
    tuple_tup, list_lst, list_tup, List.getElem?_cons_zero, List.getElem?_cons_succ, List.set_cons_zero, List.set_cons_succ, List.map_cons, List.map_nil, 
    List.cons_append, List.nil_append, List.reduceReplicate, Nat.reduceSub, List.length_cons, List.length_nil, if_true, if_false, reduceIte, reduceCtorEq, 
    Bool.false_eq_true, Bool.true_eq_false, sizeLine_eq, Int.reduceToNat, newCell, ix_tupm, ix_lstm, atI_0, atI_1, atI_2, atI_3, atI_4, atI_5, eqv_ii, hb]
      rfl
  have e10 : XC [some sd, some dg, some nd, some (T a), some (T b), some (.lst [T p0, T p1, T p2, T p3, T p4]), some (.tup (ks.map D.int)), some f.d, some (.int g), some (T (a ++ [.push g, .iff])), o10, o11, o12, none, none] S = .ok (T (lockA a b q)) S := by
    have e := eAdd (eAdd (eAdd (x := a) (y := [.push 0, .drop]) (A := eVar 3) (B := (eTup (aCons (eTup (aCons (eC (.str "push")) (aCons (eC (.int 0)) aNil))) (aCons (eTup (aCons (eC (.str "drop")) aNil)) aNil)))) (l := [some sd, some dg, some nd, some (T a), some (T b), some (.lst [T p0, T p1, T p2, T p3, T p4]), some (.tup (ks.map D.int)), some f.d, some (.int g), some (T (a ++ [.push g, .iff])), o10, o11, o12, none, none]) (S := S)
      (eVarR rfl) (by simp (config := { decide := true }) only [bind_ok, bind_exc, toS_ok, toS_exc, ap_var, ap_c, ap_op2, ap_op1, ap_and, ap_or, ap_not, ap_if, ap_tval, ap_ttruth, ap_tand, ap_tor, ap_tnot, ap_ttrue, 
    ap_nil, ap_cons, ap_tup, ap_lst, ap_lstM, ap_app, ap_sl, ap_pno, ap_pat, toI_int, ap_mt, ap_chain, isBl_bl, truD_bl, truD_int, ap_snil, ap_sbrk, 
    ap_scont, ap_sexpr, ap_sret, ap_sretn, ap_sif, ap_sset, ap_sasg, ap_spar, ap_saug, ap_seq, seqK_next, seqK_ret, seqK_brk, seqK_cont, seqK_exc, ap_for, 
    ap_iseq, ap_ir1, ap_gnm, ap_gtp, gnms_nil, gnms_cons, ap_gsub, Option.map_some, Option.bind_some, loopN_next, loopN_cont, ty_int, ty_bl, ty_str, 
    ty_non, ty_tup, ty_lst, ty_ref, isi_ap, len_ref, get_last, append_last, tuple_last, list_last, add_ii, sub_ii, mul_ii, mulOk_l, mulOk_r, fdiv_ii, 
    divmod_ii, mod_ii, pow_ii, neg_i, ord_ii, is_non, isnt_non, is_bl, isnt_bl, abs_i, int_i, int_b, max_ii, min_ii, len_tup, len_lst, tuple_lst, 
    tuple_tup, list_lst, list_tup, List.getElem?_cons_zero, List.getElem?_cons_succ, List.set_cons_zero, List.set_cons_succ, List.map_cons, List.map_nil, 
    List.cons_append, List.nil_append, List.reduceReplicate, Nat.reduceSub, List.length_cons, List.length_nil, if_true, if_false, reduceIte, reduceCtorEq, 
    Bool.false_eq_true, Bool.true_eq_false, sizeLine_eq, Int.reduceToNat, newCell, ix_tupm, ix_lstm, atI_0, atI_1, atI_2, atI_3, atI_4, atI_5, Row.d, 
    List.map_cons, List.map_nil]) (by omega) (by simp)) hix (by simp; omega) (by omega)) (eVarR (i := 4) (x := b) rfl) (by simp; omega) (by omega)
    refine Eq.trans e ?_
    unfold lockA T
    simp
  have eD : ∀ ls, XD [some sd, some dg, some nd, some (T a), some (T b), some (.lst [T p0, T p1, T p2, T p3, T p4]), some (.tup (ks.map D.int)), some f.d, some (.int g), some (T (a ++ [.push g, .iff])), some (.ref S.length), o11, o12, none, none] (S ++ [.lst ls]) = .ok (T (lockB a b p0 p1 g)) (S ++ [.lst ls]) := fun ls =>
    e_lockB rfl rfl (by simp (config := { decide := true }) only [bind_ok, bind_exc, toS_ok, toS_exc, ap_var, ap_c, ap_op2, ap_op1, ap_and, ap_or, ap_not, ap_if, ap_tval, ap_ttruth, ap_tand, ap_tor, ap_tnot, ap_ttrue, 
    ap_nil, ap_cons, ap_tup, ap_lst, ap_lstM, ap_app, ap_sl, ap_pno, ap_pat, toI_int, ap_mt, ap_chain, isBl_bl, truD_bl, truD_int, ap_snil, ap_sbrk, 
    ap_scont, ap_sexpr, ap_sret, ap_sretn, ap_sif, ap_sset, ap_sasg, ap_spar, ap_saug, ap_seq, seqK_next, seqK_ret, seqK_brk, seqK_cont, seqK_exc, ap_for, 
    ap_iseq, ap_ir1, ap_gnm, ap_gtp, gnms_nil, gnms_cons, ap_gsub, Option.map_some, Option.bind_some, loopN_next, loopN_cont, ty_int, ty_bl, ty_str, 
    ty_non, ty_tup, ty_lst, ty_ref, isi_ap, len_ref, get_last, append_last, tuple_last, list_last, add_ii, sub_ii, mul_ii, mulOk_l, mulOk_r, fdiv_ii, 
    divmod_ii, mod_ii, pow_ii, neg_i, ord_ii, is_non, isnt_non, is_bl, isnt_bl, abs_i, int_i, int_b, max_ii, min_ii, len_tup, len_lst, tuple_lst, 
    tuple_tup, list_lst, list_tup, List.getElem?_cons_zero, List.getElem?_cons_succ, List.set_cons_zero, List.set_cons_succ, List.map_cons, List.map_nil, 
    List.cons_append, List.nil_append, List.reduceReplicate, Nat.reduceSub, List.length_cons, List.length_nil, if_true, if_false, reduceIte, reduceCtorEq, 
    Bool.false_eq_true, Bool.true_eq_false, sizeLine_eq, Int.reduceToNat, newCell, ix_tupm, ix_lstm, atI_0, atI_1, atI_2, atI_3, atI_4, atI_5]) (by simp (config := { decide := true }) only [bind_ok, bind_exc, toS_ok, toS_exc, ap_var, ap_c, ap_op2, ap_op1, ap_and, ap_or, ap_not, ap_if, ap_tval, ap_ttruth, ap_tand, ap_tor, ap_tnot, ap_ttrue, 
    ap_nil, ap_cons, ap_tup, ap_lst, ap_lstM, ap_app, ap_sl, ap_pno, ap_pat, toI_int, ap_mt, ap_chain, isBl_bl, truD_bl, truD_int, ap_snil, ap_sbrk, 
    ap_scont, ap_sexpr, ap_sret, ap_sretn, ap_sif, ap_sset, ap_sasg, ap_spar, ap_saug, ap_seq, seqK_next, seqK_ret, seqK_brk, seqK_cont, seqK_exc, ap_for, 
    ap_iseq, ap_ir1, ap_gnm, ap_gtp, gnms_nil, gnms_cons, ap_gsub, Option.map_some, Option.bind_some, loopN_next, loopN_cont, ty_int, ty_bl, ty_str, 
    ty_non, ty_tup, ty_lst, ty_ref, isi_ap, len_ref, get_last, append_last, tuple_last, list_last, add_ii, sub_ii, mul_ii, mulOk_l, mulOk_r, fdiv_ii, 
    divmod_ii, mod_ii, pow_ii, neg_i, ord_ii, is_non, isnt_non, is_bl, isnt_bl, abs_i, int_i, int_b, max_ii, min_ii, len_tup, len_lst, tuple_lst, 
    tuple_tup, list_lst, list_tup, List.getElem?_cons_zero, List.getElem?_cons_succ, List.set_cons_zero, List.set_cons_succ, List.map_cons, List.map_nil, 
    List.cons_append, List.nil_append, List.reduceReplicate, Nat.reduceSub, List.length_cons, List.length_nil, if_true, if_false, reduceIte, reduceCtorEq, 
    Bool.false_eq_true, Bool.true_eq_false, sizeLine_eq, Int.reduceToNat, newCell, ix_tupm, ix_lstm, atI_0, atI_1, atI_2, atI_3, atI_4, atI_5]) la lb l0 l1
  obtain ⟨x11, ls, e3, hl, hall, hpre⟩ := loop3 sd dg nd (.tup (ks.map D.int)) ks f (oans o) a b p0 p1 [p2, p3, p4] g o11 o12 S [T (lockA a b q), T (lockB a b p0 p1 g)] la lb l0 l1 (fun p hp => by
      simp only [List.mem_cons, List.not_mem_nil, or_false] at hp
      rcases hp with rfl | rfl | rfl <;> assumption) (by simp) (by simp) (fun x hx => by
      simp only [List.mem_cons, List.not_mem_nil, or_false] at hx
      rcases hx with rfl | rfl
      · exact hA
      · exact hD) h3
  simp only [List.map_cons, List.map_nil] at e3
  have hl5 : ls.length = 5 := hl
  have eF : XF [some sd, some dg, some nd, some (T a), some (T b), some (.lst [T p0, T p1, T p2, T p3, T p4]), some (.tup (ks.map D.int)), some f.d, some (.int g), some (T (a ++ [.push g, .iff])), some (.ref S.length), x11, o12, none, none] (S ++ [.lst ls]) = .ok (.lst [.bl (oans o), .bl (oans o), .bl (oans o), .bl (oans o), .bl (oans o)]) (S ++ [.lst ls]) := by
    have lc := lc_map (gd := fun S' => seqOf S' (.ref S.length) = some ls) (i := 14) (el := L_law_4) (l := [some sd, some dg, some nd, some (T a), some (T b), some (.lst [T p0, T p1, T p2, T p3, T p4]), some (.tup (ks.map D.int)), some f.d, some (.int g), some (T (a ++ [.push g, .iff])), some (.ref S.length), x11, o12, none, none]) (S := S ++ [.lst ls]) (f := fun _ => .bl (oans o)) (A := iSeq (eVar 10)) (items := ls)
      (iSeq_var rfl (seqOf_ref get_last)) (fun acc => seq_keep (seqOf_ref get_last)) (fun d hd acc => by
        have h2 := (hall d hd).2
        unfold L_law_4
        simp (config := { decide := true }) only [bind_ok, bind_exc, toS_ok, toS_exc, ap_var, ap_c, ap_op2, ap_op1, ap_and, ap_or, ap_not, ap_if, ap_tval, ap_ttruth, ap_tand, ap_tor, ap_tnot, ap_ttrue, 
    ap_nil, ap_cons, ap_tup, ap_lst, ap_lstM, ap_app, ap_sl, ap_pno, ap_pat, toI_int, ap_mt, ap_chain, isBl_bl, truD_bl, truD_int, ap_snil, ap_sbrk, 
    ap_scont, ap_sexpr, ap_sret, ap_sretn, ap_sif, ap_sset, ap_sasg, ap_spar, ap_saug, ap_seq, seqK_next, seqK_ret, seqK_brk, seqK_cont, seqK_exc, ap_for, 
    ap_iseq, ap_ir1, ap_gnm, ap_gtp, gnms_nil, gnms_cons, ap_gsub, Option.map_some, Option.bind_some, loopN_next, loopN_cont, ty_int, ty_bl, ty_str, 
    ty_non, ty_tup, ty_lst, ty_ref, isi_ap, len_ref, get_last, append_last, tuple_last, list_last, add_ii, sub_ii, mul_ii, mulOk_l, mulOk_r, fdiv_ii, 
    divmod_ii, mod_ii, pow_ii, neg_i, ord_ii, is_non, isnt_non, is_bl, isnt_bl, abs_i, int_i, int_b, max_ii, min_ii, len_tup, len_lst, tuple_lst, 
    tuple_tup, list_lst, list_tup, List.getElem?_cons_zero, List.getElem?_cons_succ, List.set_cons_zero, List.set_cons_succ, List.map_cons, List.map_nil, 
    List.cons_append, List.nil_append, List.reduceReplicate, Nat.reduceSub, List.length_cons, List.length_nil, if_true, if_false, reduceIte, reduceCtorEq, 
    Bool.false_eq_true, Bool.true_eq_false, sizeLine_eq, Int.reduceToNat, newCell, ix_tupm, ix_lstm, atI_0, atI_1, atI_2, atI_3, atI_4, atI_5, h2]) (by rw [sizeLine_eq]; omega) (pures (by simp; intro a _; exact pure_bl _) _)
    refine Eq.trans lc ?_
    match ls, hl5 with
    | [_, _, _, _, _], _ => rfl
  refine ⟨some (T (a ++ [.push g, .iff])), some (.ref S.length), x11, some (.lst [.bl (oans o), .bl (oans o), .bl (oans o), .bl (oans o), .bl (oans o)]), ls, ?_⟩
  have k1 : kitB "bool" "bool" = some true := by decide +kernel
  have hm : ∀ S, mulD (.lst [.bl (oans o)]) (.int 5) S = .ok (.lst [.bl (oans o), .bl (oans o), .bl (oans o), .bl (oans o), .bl (oans o)]) S := fun S => by
    have hc : (5 : Int) ≤ 100000 ∧ [D.bl (oans o)].length * (5 : Int).toNat ≤ sizeLine ∧ -100000 ≤ (5 : Int) := ⟨by decide, by rw [sizeLine_eq]; show 1 * 5 ≤ _; decide, by decide⟩
    exact if_pos (α := Res D) (e := .bad) hc
  rw [law2_eq]
  have hcut : slD.cutL [T p0, T p1, T p2, T p3, T p4] (some 2) none = [T p2, T p3, T p4] := by rfl
  have hl5' : (ls.length : Int) = 5 := by rw [hl5]; rfl
  simp (config := { decide := true }) only [bind_ok, bind_exc, toS_ok, toS_exc, ap_var, ap_c, ap_op2, ap_op1, ap_and, ap_or, ap_not, ap_if, ap_tval, ap_ttruth, ap_tand, ap_tor, ap_tnot, ap_ttrue, 
    ap_nil, ap_cons, ap_tup, ap_lst, ap_lstM, ap_app, ap_sl, ap_pno, ap_pat, toI_int, ap_mt, ap_chain, isBl_bl, truD_bl, truD_int, ap_snil, ap_sbrk, 
    ap_scont, ap_sexpr, ap_sret, ap_sretn, ap_sif, ap_sset, ap_sasg, ap_spar, ap_saug, ap_seq, seqK_next, seqK_ret, seqK_brk, seqK_cont, seqK_exc, ap_for, 
    ap_iseq, ap_ir1, ap_gnm, ap_gtp, gnms_nil, gnms_cons, ap_gsub, Option.map_some, Option.bind_some, loopN_next, loopN_cont, ty_int, ty_bl, ty_str, 
    ty_non, ty_tup, ty_lst, ty_ref, isi_ap, len_ref, get_last, append_last, tuple_last, list_last, add_ii, sub_ii, mul_ii, mulOk_l, mulOk_r, fdiv_ii, 
    divmod_ii, mod_ii, pow_ii, neg_i, ord_ii, is_non, isnt_non, is_bl, isnt_bl, abs_i, int_i, int_b, max_ii, min_ii, len_tup, len_lst, tuple_lst, 
    tuple_tup, list_lst, list_tup, List.getElem?_cons_zero, List.getElem?_cons_succ, List.set_cons_zero, List.set_cons_succ, List.map_cons, List.map_nil, 
    List.cons_append, List.nil_append, List.reduceReplicate, Nat.reduceSub, List.length_cons, List.length_nil, if_true, if_false, reduceIte, reduceCtorEq, 
    Bool.false_eq_true, Bool.true_eq_false, sizeLine_eq, Int.reduceToNat, newCell, ix_tupm, ix_lstm, atI_0, atI_1, atI_2, atI_3, atI_4, atI_5, e9, e10, eD, 
    sl_lst, hcut, seqOf_lst, e3, eF, k1, get_last, hl5', hm, ne_five, Bool.not_true]
end LW

namespace LW
open PySem PySem.Spec PyProof.Rows L2 DL
theorem law8_ret (S : Sto) : exitM .fr [] (.bl true) S = .ok (.bl true) [] := by
  show exitD [] (.bl true) S = _
  have := exit_ext (S := []) (E := S) (d := .bl true) (e := .bl true) (fz_rlt _ _ _ _ (pure_bl _ _))
  simpa using this
theorem main (ns : List Int) (h : ns.length ≤ 63) : ∃ S', F_law [.lst (ns.map D.int)] [] = .ok (.bl true) S' := by
  obtain ⟨xs, exs, hx7⟩ := f_numbers ns []
  match xs, hx7 with
  | [x0, x1, x2, x3, x4, x5, x6], _ =>
  have fc0 : F__law_cell [.lst (ns.map D.int), .int 0] [] = .ok (.int (cellOf ns 0)) [] := f_cell ns 0 []
  have fc1 : F__law_cell [.lst (ns.map D.int), .int 1] [] = .ok (.int (cellOf ns 1)) [] := f_cell ns 1 []
  have fc2 : F__law_cell [.lst (ns.map D.int), .int 2] [] = .ok (.int (cellOf ns 2)) [] := f_cell ns 2 []
  have fc3 : F__law_cell [.lst (ns.map D.int), .int 3] [] = .ok (.int (cellOf ns 3)) [] := f_cell ns 3 []
  obtain ⟨a, ea, la, da⟩ := f_part x0 3 (by decide) []
  obtain ⟨b, eb, lb, db⟩ := f_part x1 3 (by decide) []
  have ea : F__law_part [.int x0, .int 3] [] = .ok (T a) [] := ea
  have eb : F__law_part [.int x1, .int 3] [] = .ok (T b) [] := eb
  obtain ⟨ks, ek, hk⟩ := f_keys (cellOf ns 2) (cellOf ns 0 % 2 == 0) []
  obtain ⟨f, ef, hf⟩ := f_facts (cellOf ns 3) (cellOf ns 0 % 2 == 0) []
  have hfit : Fit ks.reverse := ⟨by have := hk.1; simp; omega, fun x hx => by
    have := hk.2 x (List.mem_reverse.mp hx)
    omega⟩
  have hcut : slD.cutL [D.int x0, .int x1, .int x2, .int x3, .int x4, .int x5, .int x6] (some 2) none = [.int x2, .int x3, .int x4, .int x5, .int x6] := by rfl
  obtain ⟨vs, e5, hv5, hvp⟩ := lc_ex (A := iSeq (eSl (eVar 2) (pAt (eC (.int 2))) pNo)) (gd := fun S' => seqOf S' (.lst [.int x2, .int x3, .int x4, .int x5, .int x6]) = some [.int x2, .int x3, .int x4, .int x5, .int x6])
    (items := [.int x2, .int x3, .int x4, .int x5, .int x6]) (i := 13) (el := L_law_1) (S := []) (Pv := Part)
    (l := [some (.lst (ns.map D.int)), some (.bl (cellOf ns 0 % 2 == 0)), some (.lst [.int x0, .int x1, .int x2, .int x3, .int x4, .int x5, .int x6]), some (T a), some (T b), none, none, none, none, none, none, none, none, none, none])
    (by simp (config := { decide := true }) only [bind_ok, bind_exc, toS_ok, toS_exc, ap_var, ap_c, ap_op2, ap_op1, ap_and, ap_or, ap_not, ap_if, ap_tval, ap_ttruth, ap_tand, ap_tor, ap_tnot, ap_ttrue, 
    ap_nil, ap_cons, ap_tup, ap_lst, ap_lstM, ap_app, ap_sl, ap_pno, ap_pat, toI_int, ap_mt, ap_chain, isBl_bl, truD_bl, truD_int, ap_snil, ap_sbrk, 
    ap_scont, ap_sexpr, ap_sret, ap_sretn, ap_sif, ap_sset, ap_sasg, ap_spar, ap_saug, ap_seq, seqK_next, seqK_ret, seqK_brk, seqK_cont, seqK_exc, ap_for, 
    ap_iseq, ap_ir1, ap_gnm, ap_gtp, gnms_nil, gnms_cons, ap_gsub, Option.map_some, Option.bind_some, loopN_next, loopN_cont, ty_int, ty_bl, ty_str, 
    ty_non, ty_tup, ty_lst, ty_ref, isi_ap, len_ref, get_last, append_last, tuple_last, list_last, add_ii, sub_ii, mul_ii, mulOk_l, mulOk_r, fdiv_ii, 
    divmod_ii, mod_ii, pow_ii, neg_i, ord_ii, is_non, isnt_non, is_bl, isnt_bl, abs_i, int_i, int_b, max_ii, min_ii, len_tup, len_lst, tuple_lst, 
    tuple_tup, list_lst, list_tup, List.getElem?_cons_zero, List.getElem?_cons_succ, List.set_cons_zero, List.set_cons_succ, List.map_cons, List.map_nil, 
    List.cons_append, List.nil_append, List.reduceReplicate, Nat.reduceSub, List.length_cons, List.length_nil, if_true, if_false, reduceIte, reduceCtorEq, 
    Bool.false_eq_true, Bool.true_eq_false, sizeLine_eq, Int.reduceToNat, newCell, ix_tupm, ix_lstm, atI_0, atI_1, atI_2, atI_3, atI_4, atI_5, sl_lst, 
    hcut, seqOf_lst]) (fun _ => rfl) (fun d hd acc => by
      obtain ⟨n, rfl⟩ : ∃ n, d = .int n := by
        simp only [List.mem_cons, List.not_mem_nil, or_false] at hd
        rcases hd with rfl | rfl | rfl | rfl | rfl <;> exact ⟨_, rfl⟩
      obtain ⟨p, ep, lp, dp⟩ := f_part n 9 (by decide) ([] ++ [.lst acc])
      have ep : F__law_part [.int n, .int 9] [.lst acc] = .ok (.tup (p.map Row.d)) [.lst acc] := ep
      exact ⟨.tup (p.map Row.d), by unfold L_law_1; simp (config := { decide := true }) only [bind_ok, bind_exc, toS_ok, toS_exc, ap_var, ap_c, ap_op2, ap_op1, ap_and, ap_or, ap_not, ap_if, ap_tval, ap_ttruth, ap_tand, ap_tor, ap_tnot, ap_ttrue, 
    ap_nil, ap_cons, ap_tup, ap_lst, ap_lstM, ap_app, ap_sl, ap_pno, ap_pat, toI_int, ap_mt, ap_chain, isBl_bl, truD_bl, truD_int, ap_snil, ap_sbrk, 
    ap_scont, ap_sexpr, ap_sret, ap_sretn, ap_sif, ap_sset, ap_sasg, ap_spar, ap_saug, ap_seq, seqK_next, seqK_ret, seqK_brk, seqK_cont, seqK_exc, ap_for, 
    ap_iseq, ap_ir1, ap_gnm, ap_gtp, gnms_nil, gnms_cons, ap_gsub, Option.map_some, Option.bind_some, loopN_next, loopN_cont, ty_int, ty_bl, ty_str, 
    ty_non, ty_tup, ty_lst, ty_ref, isi_ap, len_ref, get_last, append_last, tuple_last, list_last, add_ii, sub_ii, mul_ii, mulOk_l, mulOk_r, fdiv_ii, 
    divmod_ii, mod_ii, pow_ii, neg_i, ord_ii, is_non, isnt_non, is_bl, isnt_bl, abs_i, int_i, int_b, max_ii, min_ii, len_tup, len_lst, tuple_lst, 
    tuple_tup, list_lst, list_tup, List.getElem?_cons_zero, List.getElem?_cons_succ, List.set_cons_zero, List.set_cons_succ, List.map_cons, List.map_nil, 
    List.cons_append, List.nil_append, List.reduceReplicate, Nat.reduceSub, List.length_cons, List.length_nil, if_true, if_false, reduceIte, reduceCtorEq, 
    Bool.false_eq_true, Bool.true_eq_false, sizeLine_eq, Int.reduceToNat, newCell, ix_tupm, ix_lstm, atI_0, atI_1, atI_2, atI_3, atI_4, atI_5, ep], p, rfl, lp, dp⟩)
    (by rw [sizeLine_eq]; simp) (fun v hv => part_pure hv)
  obtain ⟨ps, rfl, hps⟩ := all_parts vs hvp
  have hp5 : ps.length = 5 := by simpa using hv5
  match ps, hp5, hps with
  | [p0, p1, p2, p3, p4], _, hps =>
  have q0 := hps p0 (by simp)
  have q1 := hps p1 (by simp)
  have q2 := hps p2 (by simp)
  have q3 := hps p3 (by simp)
  have q4 := hps p4 (by simp)
  have e5 : eLcX .fr (iSeq (eSl (eVar 2) (pAt (eC (.int 2))) pNo)) (gNm 13) tTrue L_law_1 [13] [some (.lst (ns.map D.int)), some (.bl (cellOf ns 0 % 2 == 0)), some (.lst [.int x0, .int x1, .int x2, .int x3, .int x4, .int x5, .int x6]), some (T a), some (T b), none, none, none, none, none, none, none, none, none, none] [] =
    .ok (.lst [T p0, T p1, T p2, T p3, T p4]) [] := e5
  have g0 : (cellOf ns 1 % 3 - 1).natAbs < 10 ^ 60 := by omega
  obtain ⟨l', S', e8, hl⟩ := forL_list (gd := fun _ => True) (G := gNm 8) (body := L_law_2)
    (items := [.int (cellOf ns 1 % 3 - 1), .int 0, .int 7]) (S := [])
    (l := [some (.lst (ns.map D.int)), some (.bl (cellOf ns 0 % 2 == 0)), some (.lst [.int x0, .int x1, .int x2, .int x3, .int x4, .int x5, .int x6]), some (T a), some (T b), some (.lst [T p0, T p1, T p2, T p3, T p4]), some (.tup (ks.map D.int)), some f.d, none, none, none, none, none, none, none])
    (fun i l S' => ∃ o8 o9 o10 o11 o12, l = [some (.lst (ns.map D.int)), some (.bl (cellOf ns 0 % 2 == 0)), some (.lst [.int x0, .int x1, .int x2, .int x3, .int x4, .int x5, .int x6]), some (T a), some (T b), some (.lst [T p0, T p1, T p2, T p3, T p4]), some (.tup (ks.map D.int)), some f.d, o8, o9, o10, o11, o12, none, none])
    ⟨none, none, none, none, none, rfl⟩ (fun _ _ _ _ => trivial) (fun i d l S1 hd ⟨o8, o9, o10, o11, o12, hl⟩ => by
      subst hl
      obtain ⟨g, rfl, hg⟩ : ∃ g : Int, d = .int g ∧ g.natAbs < 10 ^ 60 := by
        have hd := List.mem_of_getElem? hd
        simp only [List.mem_cons, List.not_mem_nil, or_false] at hd
        rcases hd with rfl | rfl | rfl
        · exact ⟨_, rfl, g0⟩
        · exact ⟨_, rfl, by decide⟩
        · exact ⟨_, rfl, by decide⟩
      obtain ⟨x9, x10, x11, x12, ls, e⟩ := body2 g hg (.lst (ns.map D.int)) (.bl (cellOf ns 0 % 2 == 0)) (.lst [.int x0, .int x1, .int x2, .int x3, .int x4, .int x5, .int x6]) ks hfit f a b p0 p1 p2 p3 p4 la lb da db
        q0.1 q1.1 q2.1 q3.1 q4.1 q0.2 q1.2 q2.2 q3.2 q4.2 o9 o10 o11 o12 S1
      refine ⟨[some (.lst (ns.map D.int)), some (.bl (cellOf ns 0 % 2 == 0)), some (.lst [.int x0, .int x1, .int x2, .int x3, .int x4, .int x5, .int x6]), some (T a), some (T b), some (.lst [T p0, T p1, T p2, T p3, T p4]), some (.tup (ks.map D.int)), some f.d, some (.int g), o9, o10, o11, o12, none, none], S1, rfl, [some (.lst (ns.map D.int)), some (.bl (cellOf ns 0 % 2 == 0)), some (.lst [.int x0, .int x1, .int x2, .int x3, .int x4, .int x5, .int x6]), some (T a), some (T b), some (.lst [T p0, T p1, T p2, T p3, T p4]), some (.tup (ks.map D.int)), some f.d, some (.int g), x9, x10, x11, x12, none, none], S1 ++ [.lst ls], ?_, some (.int g), x9, x10, x11, x12, rfl⟩
      rw [e]
      rfl)
  refine ⟨[], run_ret (S' := S') (d := .bl true) rfl ?_ (law8_ret S')⟩
  unfold A_law
  have dv : (2 : Int) ≠ 0 := by decide
  simp only [List.map_cons, List.map_nil] at exs
  simp (config := { decide := true }) only [bind_ok, bind_exc, toS_ok, toS_exc, ap_var, ap_c, ap_op2, ap_op1, ap_and, ap_or, ap_not, ap_if, ap_tval, ap_ttruth, ap_tand, ap_tor, ap_tnot, ap_ttrue, 
    ap_nil, ap_cons, ap_tup, ap_lst, ap_lstM, ap_app, ap_sl, ap_pno, ap_pat, toI_int, ap_mt, ap_chain, isBl_bl, truD_bl, truD_int, ap_snil, ap_sbrk, 
    ap_scont, ap_sexpr, ap_sret, ap_sretn, ap_sif, ap_sset, ap_sasg, ap_spar, ap_saug, ap_seq, seqK_next, seqK_ret, seqK_brk, seqK_cont, seqK_exc, ap_for, 
    ap_iseq, ap_ir1, ap_gnm, ap_gtp, gnms_nil, gnms_cons, ap_gsub, Option.map_some, Option.bind_some, loopN_next, loopN_cont, ty_int, ty_bl, ty_str, 
    ty_non, ty_tup, ty_lst, ty_ref, isi_ap, len_ref, get_last, append_last, tuple_last, list_last, add_ii, sub_ii, mul_ii, mulOk_l, mulOk_r, fdiv_ii, 
    divmod_ii, mod_ii, pow_ii, neg_i, ord_ii, is_non, isnt_non, is_bl, isnt_bl, abs_i, int_i, int_b, max_ii, min_ii, len_tup, len_lst, tuple_lst, 
    tuple_tup, list_lst, list_tup, List.getElem?_cons_zero, List.getElem?_cons_succ, List.set_cons_zero, List.set_cons_succ, List.map_cons, List.map_nil, 
    List.cons_append, List.nil_append, List.reduceReplicate, Nat.reduceSub, List.length_cons, List.length_nil, if_true, if_false, reduceIte, reduceCtorEq, 
    Bool.false_eq_true, Bool.true_eq_false, sizeLine_eq, Int.reduceToNat, newCell, ix_tupm, ix_lstm, atI_0, atI_1, atI_2, atI_3, atI_4, atI_5, fc0, fc1, 
    fc2, fc3, exs, eqv_ii, ea, eb, e5, ek, ef, seqOf_lst, e8]
end LW

namespace LW
open PySem PySem.Spec PyProof.Rows L2 DL
set_option maxHeartbeats 0
def d0 : He.DefD := ⟨("_law_mixed", none), "_law_mixed", "_law_mixed", defArgs (top 7), defBody (top 7), defScope (top 7), [], []⟩
def d1 : He.DefD := ⟨("_law_cell", none), "_law_cell", "_law_cell", defArgs (top 8), defBody (top 8), defScope (top 8), [], []⟩
def d2 : He.DefD := ⟨("_law_numbers", none), "_law_numbers", "_law_numbers", defArgs (top 13), defBody (top 13), defScope (top 13), [], []⟩
def d3 : He.DefD := ⟨("_law_digit_row", none), "_law_digit_row", "_law_digit_row", defArgs (top 9), defBody (top 9), defScope (top 9), [], []⟩
def d4 : He.DefD := ⟨("_law_part", none), "_law_part", "_law_part", defArgs (top 12), defBody (top 12), defScope (top 12), [], []⟩
def d5 : He.DefD := ⟨("_law_keys", none), "_law_keys", "_law_keys", defArgs (top 10), defBody (top 10), defScope (top 10), [], []⟩
def d6 : He.DefD := ⟨("_law_facts", none), "_law_facts", "_law_facts", defArgs (top 11), defBody (top 11), defScope (top 11), [], []⟩
def d7 : He.DefD := ⟨("Trial", some "__init__"), "__init__", "Trial.__init__", defArgs (inClass (top 4) 0), defBody (inClass (top 4) 0), defScope (inClass (top 4) 0), [], []⟩
def d8 : He.DefD := ⟨("Trial", some "has"), "has", "Trial.has", defArgs (inClass (top 4) 1), defBody (inClass (top 4) 1), defScope (inClass (top 4) 1), [], []⟩
def d9 : He.DefD := ⟨("Trial", some "asked"), "asked", "Trial.asked", defArgs (inClass (top 4) 7), defBody (inClass (top 4) 7), defScope (inClass (top 4) 7), [], []⟩
def d10 : He.DefD := ⟨("Trial", some "lay"), "lay", "Trial.lay", defArgs (inClass (top 4) 2), defBody (inClass (top 4) 2), defScope (inClass (top 4) 2), [], []⟩
def d11 : He.DefD := ⟨("Trial", some "turn"), "turn", "Trial.turn", defArgs (inClass (top 4) 4), defBody (inClass (top 4) 4), defScope (inClass (top 4) 4), [], []⟩
def d12 : He.DefD := ⟨("Trial", some "reckon"), "reckon", "Trial.reckon", defArgs (inClass (top 4) 5), defBody (inClass (top 4) 5), defScope (inClass (top 4) 5), [], []⟩
def d13 : He.DefD := ⟨("Trial", some "lay_fact"), "lay_fact", "Trial.lay_fact", defArgs (inClass (top 4) 3), defBody (inClass (top 4) 3), defScope (inClass (top 4) 3), [], []⟩
def d14 : He.DefD := ⟨("Trial", some "do"), "do", "Trial.do", defArgs (inClass (top 4) 6), defBody (inClass (top 4) 6), defScope (inClass (top 4) 6), [], []⟩
def d15 : He.DefD := ⟨("opens", none), "opens", "opens", defArgs (top 5), defBody (top 5), defScope (top 5), [], []⟩
def d16 : He.DefD := ⟨("law", none), "law", "law", defArgs (top 14), defBody (top 14), defScope (top 14), [], []⟩
def clA (K : PySem.W.Frag) : Nat → Addr := fun c => He.ga K ((["Trial"] : List Str).getD c "")
def fn : List He.DefD := [d0, d1, d2, d3, d4, d5, d6, d7, d8, d9, d10, d11, d12, d13, d14, d15, d16]
def fa : List He.Fa := [.glo "_law_cell", .glo "_law_mixed", .glo "_law_digit_row", .glo "_law_numbers", .glo "_law_part", .glo "_law_keys", .glo "_law_facts", .glo "opens", .glo "law", .free "len", .free "range", .free "divmod", .free "tuple", .free "list", .free "abs", .free "int", .free "isinstance", .free "bool", .int "OVER" 1000000000000000000000000000000000000000000000000000000000000, .int "MOST_LYING" 20, .glo "FACTS", .cls "Trial", .noat "Trial" "pile", .noat "Trial" "facts", .noat "Trial" "shut", .meth "Trial" "has", .meth "Trial" "lay", .meth "Trial" "turn", .meth "Trial" "reckon", .meth "Trial" "lay_fact", .mkr "Trial", .glo "Trial", .meth "Trial" "asked", .meth "Trial" "do"]
def ex (K : PySem.W.Frag) : Bool := He.tupB K "FACTS" [.str "height", .str "age", .str "worth", .str "ins", .str "outs"] && tupDn K "FACTS"
abbrev R : PySem.W.OpenRow := PySem.W.OpenLaw.row PySem.Challenge.rw_spentonce_k08_rows_not_done
abbrev hk : PySem.W.Hook := He.hookX 4 fa fn [] [] ex
def ob (s : PySem.W.SharedT) : He.AlX := He.obsX 4 fa fn [] [] ex (HandSHeadRun.getT s)
theorem ob_eq (s : PySem.W.SharedT) : ob s = hk.obs s.abs := He.obsX_eq (HandSHeadRun.getT_eq s)
def names : List PySem.Str := (["FACTS", "MOST_LYING", "OVER", "Trial", "__name__", "_law_cell", "_law_digit_row", "_law_facts", "_law_keys", "_law_mixed", "_law_numbers", "_law_part", "opens"] : List PySem.Str)
theorem run (w : World) : HandSHeadRun.RunEq R (PySem.W.view R.prog [14]) hk ob 20000 names w := by
  intro os
  kernel_rfl
theorem facts {P : Program} {w : World} {K : PySem.W.Frag} {h : Heap} {mg : Str → Option Value} {f : Addr} (X : K.In h) (G : h.Ns mainGlobals mg) (hfa : mg ("law" : Str) = some (.ref f)) (cx : He.SaysX fa fn [] [] ex w h K) (cl : Nat → Addr) (hcl : cl = clA K) :
    ∃ fd : FuncData, (∀ (s : Shared) (v : Value), BindsTo s fd ⟨[v], []⟩ [("script", v)]) ∧ ∀ base : Heap, K.In base → base.Ns mainGlobals mg → FnOk P w K mg base (L2.CX P w) 5 f fd ["script"] (spF ⟨P, w, K, cl⟩ 1 F_law) := by
  have c := cx.t.d
  obtain ⟨fd0, D0⟩ := c.def_ 0 (d := d0) rfl
  obtain ⟨fd1, D1⟩ := c.def_ 1 (d := d1) rfl
  obtain ⟨fd2, D2⟩ := c.def_ 2 (d := d2) rfl
  obtain ⟨fd3, D3⟩ := c.def_ 3 (d := d3) rfl
  obtain ⟨fd4, D4⟩ := c.def_ 4 (d := d4) rfl
  obtain ⟨fd5, D5⟩ := c.def_ 5 (d := d5) rfl
  obtain ⟨fd6, D6⟩ := c.def_ 6 (d := d6) rfl
  obtain ⟨fd7, D7⟩ := c.def_ 7 (d := d7) rfl
  obtain ⟨fd8, D8⟩ := c.def_ 8 (d := d8) rfl
  obtain ⟨fd9, D9⟩ := c.def_ 9 (d := d9) rfl
  obtain ⟨fd10, D10⟩ := c.def_ 10 (d := d10) rfl
  obtain ⟨fd11, D11⟩ := c.def_ 11 (d := d11) rfl
  obtain ⟨fd12, D12⟩ := c.def_ 12 (d := d12) rfl
  obtain ⟨fd13, D13⟩ := c.def_ 13 (d := d13) rfl
  obtain ⟨fd14, D14⟩ := c.def_ 14 (d := d14) rfl
  obtain ⟨fd15, D15⟩ := c.def_ 15 (d := d15) rfl
  obtain ⟨fd16, D16⟩ := c.def_ 16 (d := d16) rfl
  have m__law_cell := He.glo_ok X G (c.fact 0 (f := .glo "_law_cell") rfl)
  have m__law_mixed := He.glo_ok X G (c.fact 1 (f := .glo "_law_mixed") rfl)
  have m__law_digit_row := He.glo_ok X G (c.fact 2 (f := .glo "_law_digit_row") rfl)
  have m__law_numbers := He.glo_ok X G (c.fact 3 (f := .glo "_law_numbers") rfl)
  have m__law_part := He.glo_ok X G (c.fact 4 (f := .glo "_law_part") rfl)
  have m__law_keys := He.glo_ok X G (c.fact 5 (f := .glo "_law_keys") rfl)
  have m__law_facts := He.glo_ok X G (c.fact 6 (f := .glo "_law_facts") rfl)
  have m_opens := He.glo_ok X G (c.fact 7 (f := .glo "opens") rfl)
  have m_law := He.glo_ok X G (c.fact 8 (f := .glo "law") rfl)
  have g_len := He.free_ok X G (c.fact 9 (f := .free "len") rfl)
  have g_range := He.free_ok X G (c.fact 10 (f := .free "range") rfl)
  have g_divmod := He.free_ok X G (c.fact 11 (f := .free "divmod") rfl)
  have g_tuple := He.free_ok X G (c.fact 12 (f := .free "tuple") rfl)
  have g_list := He.free_ok X G (c.fact 13 (f := .free "list") rfl)
  have g_abs := He.free_ok X G (c.fact 14 (f := .free "abs") rfl)
  have g_int := He.free_ok X G (c.fact 15 (f := .free "int") rfl)
  have g_isinstance := He.free_ok X G (c.fact 16 (f := .free "isinstance") rfl)
  have g_bool := He.free_ok X G (c.fact 17 (f := .free "bool") rfl)
  have v_OVER := He.int_ok X G (c.fact 18 (f := .int "OVER" 1000000000000000000000000000000000000000000000000000000000000) rfl)
  have v_MOST_LYING := He.int_ok X G (c.fact 19 (f := .int "MOST_LYING" 20) rfl)
  have em : (He.tupB K "FACTS" [.str "height", .str "age", .str "worth", .str "ins", .str "outs"] && tupDn K "FACTS") = true := cx.more
  simp only [Bool.and_eq_true] at em
  obtain ⟨e0, e1⟩ := em
  have w_FACTS : GTupS K mg "FACTS" ["height", "age", "worth", "ins", "outs"] := gtups_of (He.glo_ok X G (c.fact 20 (f := .glo "FACTS") rfl)) e0 e1 rfl
  have v_FACTS : GTup K mg "FACTS" C_FACTS := gtup_of (He.glo_ok X G (c.fact 20 (f := .glo "FACTS") rfl)) e0 rfl
  subst hcl
  have kc_Trial : Cls K (clA K 0) := He.cls_ok (c.fact 21 (f := .cls "Trial") rfl)
  have kn_Trial_pile : NoAttr K (clA K 0) "pile" := He.noat_ok (c.fact 22 (f := .noat "Trial" "pile") rfl)
  have kn_Trial_facts : NoAttr K (clA K 0) "facts" := He.noat_ok (c.fact 23 (f := .noat "Trial" "facts") rfl)
  have kn_Trial_shut : NoAttr K (clA K 0) "shut" := He.noat_ok (c.fact 24 (f := .noat "Trial" "shut") rfl)
  have a_Trial_has := He.meth_ok (c.fact 25 (f := .meth "Trial" "has") rfl)
  have a_Trial_lay := He.meth_ok (c.fact 26 (f := .meth "Trial" "lay") rfl)
  have a_Trial_turn := He.meth_ok (c.fact 27 (f := .meth "Trial" "turn") rfl)
  have a_Trial_reckon := He.meth_ok (c.fact 28 (f := .meth "Trial" "reckon") rfl)
  have a_Trial_lay_fact := He.meth_ok (c.fact 29 (f := .meth "Trial" "lay_fact") rfl)
  have k_Trial := He.mkr_ok (c.fact 30 (f := .mkr "Trial") rfl)
  have m_Trial := He.glo_ok X G (c.fact 31 (f := .glo "Trial") rfl)
  have a_Trial_asked := He.meth_ok (c.fact 32 (f := .meth "Trial" "asked") rfl)
  have a_Trial_do := He.meth_ok (c.fact 33 (f := .meth "Trial" "do") rfl)
  cases hfa.symm.trans m_law
  have b := FunD.bindsA (ps := ["script"]) D16 fun _ _ _ _ _ _ us hl => match us, hl with | [_], _ => rfl
  refine ⟨fd16, fun s v => b s [v] rfl, fun base _ _ => ?_⟩
  have o__law_mixed := ok__law_mixed (P := P) (w := w) (mg := mg) (base := base) (cl := clA K) D0 
  have c__law_mixed : Cal P w K mg base (clA K) 1 "_law_mixed" F__law_mixed := cal_of o__law_mixed (FunD.bindsN D0 fun _ _ _ _ _ _ us hl => match us, hl with | [_], _ => rfl) m__law_mixed D0.kp
  have o__law_cell := ok__law_cell (P := P) (w := w) (mg := mg) (base := base) (cl := clA K) D1 g_len
  have c__law_cell : Cal P w K mg base (clA K) 1 "_law_cell" F__law_cell := cal_of o__law_cell (FunD.bindsN D1 fun _ _ _ _ _ _ us hl => match us, hl with | [_, _], _ => rfl) m__law_cell D1.kp
  have o__law_numbers := ok__law_numbers (P := P) (w := w) (mg := mg) (base := base) (cl := clA K) D2 c__law_cell g_range c__law_mixed
  have c__law_numbers : Cal P w K mg base (clA K) 2 "_law_numbers" F__law_numbers := cal_of o__law_numbers (FunD.bindsN D2 fun _ _ _ _ _ _ us hl => match us, hl with | [_], _ => rfl) m__law_numbers D2.kp
  have o__law_digit_row := ok__law_digit_row (P := P) (w := w) (mg := mg) (base := base) (cl := clA K) D3 g_divmod
  have c__law_digit_row : Cal P w K mg base (clA K) 1 "_law_digit_row" F__law_digit_row := cal_of o__law_digit_row (FunD.bindsN D3 fun _ _ _ _ _ _ us hl => match us, hl with | [_], _ => rfl) m__law_digit_row D3.kp
  have o__law_part := ok__law_part (P := P) (w := w) (mg := mg) (base := base) (cl := clA K) D4 g_divmod g_range c__law_digit_row g_len g_tuple
  have c__law_part : Cal P w K mg base (clA K) 2 "_law_part" F__law_part := cal_of o__law_part (FunD.bindsN D4 fun _ _ _ _ _ _ us hl => match us, hl with | [_, _], _ => rfl) m__law_part D4.kp
  have o__law_keys := ok__law_keys (P := P) (w := w) (mg := mg) (base := base) (cl := clA K) D5 g_divmod g_range g_tuple c__law_mixed
  have c__law_keys : Cal P w K mg base (clA K) 2 "_law_keys" F__law_keys := cal_of o__law_keys (FunD.bindsN D5 fun _ _ _ _ _ _ us hl => match us, hl with | [_, _], _ => rfl) m__law_keys D5.kp
  have o__law_facts := ok__law_facts (P := P) (w := w) (mg := mg) (base := base) (cl := clA K) D6 c__law_mixed g_range g_divmod g_tuple
  have c__law_facts : Cal P w K mg base (clA K) 2 "_law_facts" F__law_facts := cal_of o__law_facts (FunD.bindsN D6 fun _ _ _ _ _ _ us hl => match us, hl with | [_, _], _ => rfl) m__law_facts D6.kp
  have o_Trial___init__ := ok_Trial___init__ (P := P) (w := w) (mg := mg) (base := base) (cl := clA K) D7 kc_Trial kn_Trial_pile g_list kn_Trial_facts kn_Trial_shut
  have n_Trial : CalN P w K mg base (clA K) 1 0 "Trial" F_Trial___init__ := ⟨_, _, _, o_Trial___init__, (FunD.bindsN D7 fun _ _ _ _ _ _ us hl => match us, hl with | [_, _, _], _ => rfl), k_Trial, m_Trial, fun _ _ h => runF_len h⟩
  have o_Trial_has := ok_Trial_has (P := P) (w := w) (mg := mg) (base := base) (cl := clA K) D8 kc_Trial kn_Trial_pile g_len kn_Trial_shut
  have m_Trial_has : CalM P w K mg base (clA K) 1 0 "has" F_Trial_has := ⟨_, _, _, o_Trial_has, (FunD.bindsN D8 fun _ _ _ _ _ _ us hl => match us, hl with | [_, _], _ => rfl), a_Trial_has, fun _ _ h => runF_len h⟩
  have o_Trial_asked := ok_Trial_asked (P := P) (w := w) (mg := mg) (base := base) (cl := clA K) D9 kc_Trial m_Trial_has kn_Trial_pile
  have m_Trial_asked : CalM P w K mg base (clA K) 2 0 "asked" F_Trial_asked := ⟨_, _, _, o_Trial_asked, (FunD.bindsN D9 fun _ _ _ _ _ _ us hl => match us, hl with | [_], _ => rfl), a_Trial_asked, fun _ _ h => runF_len h⟩
  have o_Trial_lay := ok_Trial_lay (P := P) (w := w) (mg := mg) (base := base) (cl := clA K) D10 g_abs v_OVER kc_Trial kn_Trial_pile g_len v_MOST_LYING kn_Trial_shut
  have m_Trial_lay : CalM P w K mg base (clA K) 1 0 "lay" F_Trial_lay := ⟨_, _, _, o_Trial_lay, (FunD.bindsN D10 fun _ _ _ _ _ _ us hl => match us, hl with | [_, _], _ => rfl), a_Trial_lay, fun _ _ h => runF_len h⟩
  have o_Trial_turn := ok_Trial_turn (P := P) (w := w) (mg := mg) (base := base) (cl := clA K) D11 kc_Trial m_Trial_has kn_Trial_pile g_len m_Trial_lay g_int kn_Trial_shut
  have m_Trial_turn : CalM P w K mg base (clA K) 2 0 "turn" F_Trial_turn := ⟨_, _, _, o_Trial_turn, (FunD.bindsN D11 fun _ _ _ _ _ _ us hl => match us, hl with | [_, _], _ => rfl), a_Trial_turn, fun _ _ h => runF_len h⟩
  have o_Trial_reckon := ok_Trial_reckon (P := P) (w := w) (mg := mg) (base := base) (cl := clA K) D12 kc_Trial m_Trial_has kn_Trial_pile m_Trial_lay g_int
  have m_Trial_reckon : CalM P w K mg base (clA K) 2 0 "reckon" F_Trial_reckon := ⟨_, _, _, o_Trial_reckon, (FunD.bindsN D12 fun _ _ _ _ _ _ us hl => match us, hl with | [_, _], _ => rfl), a_Trial_reckon, fun _ _ h => runF_len h⟩
  have o_Trial_lay_fact := ok_Trial_lay_fact (P := P) (w := w) (mg := mg) (base := base) (cl := clA K) D13 kc_Trial kn_Trial_facts g_len m_Trial_lay w_FACTS v_FACTS
  have m_Trial_lay_fact : CalM P w K mg base (clA K) 2 0 "lay_fact" F_Trial_lay_fact := ⟨_, _, _, o_Trial_lay_fact, (FunD.bindsN D13 fun _ _ _ _ _ _ us hl => match us, hl with | [_, _], _ => rfl), a_Trial_lay_fact, fun _ _ h => runF_len h⟩
  have o_Trial_do := ok_Trial_do (P := P) (w := w) (mg := mg) (base := base) (cl := clA K) D14 kc_Trial m_Trial_lay m_Trial_has kn_Trial_pile m_Trial_turn m_Trial_reckon m_Trial_lay_fact
  have m_Trial_do : CalM P w K mg base (clA K) 3 0 "do" F_Trial_do := ⟨_, _, _, o_Trial_do, (FunD.bindsN D14 fun _ _ _ _ _ _ us hl => match us, hl with | [_, _], _ => rfl), a_Trial_do, fun _ _ h => runF_len h⟩
  have o_opens := ok_opens (P := P) (w := w) (mg := mg) (base := base) (cl := clA K) D15 n_Trial kc_Trial m_Trial_asked m_Trial_do kn_Trial_shut kn_Trial_pile
  have c_opens : Cal P w K mg base (clA K) 4 "opens" F_opens := cal_of o_opens (FunD.bindsN D15 fun _ _ _ _ _ _ us hl => match us, hl with | [_, _, _], _ => rfl) m_opens D15.kp
  exact ok_law D16 c__law_cell c__law_numbers c__law_part c__law_keys c__law_facts g_int c_opens g_isinstance g_bool g_len
end LW

open PySem PySem.W PySem.Calls PyProof.Rows
theorem PySem.Challenge.cw_spentonce_k08_rows_not_done_holds : PySem.Challenge.rw_spentonce_k08_rows_not_done.Holds := by
  w_on; o_law
  refine HandSHeadRun.head_any (r := OpenLaw.row PySem.Challenge.rw_spentonce_k08_rows_not_done) (q := view (OpenLaw.row PySem.Challenge.rw_spentonce_k08_rows_not_done).prog [14]) (H := LW.hk) (ob := LW.ob) (M := 20000) (loose := LW.names) (d := HandSHeadRun.topDef (OpenLaw.row PySem.Challenge.rw_spentonce_k08_rows_not_done).prog 14) (kwd := []) LW.ob_eq
    (by kernel_rfl) (fun s => by kernel_rfl) LW.run (by kernel_rfl) (by kernel_rfl) (by kernel_rfl) (by rfl) (by first | assumption | decide +kernel) (by decide +kernel) ⟨rfl, rfl, rfl, rfl, rfl, by decide +kernel⟩ ?hw ?hc
  case hw => w_witness2
  case hc =>
    refine L2.walk_ofE (l := PySem.Challenge.rw_spentonce_k08_rows_not_done) (n := 63) (k := 5) (x := "script") (CX := L2.CX0) rfl (by decide) (by kernel_rfl) ⟨rfl, by decide, by decide⟩ ?F (fun _ _ _ _ z => z)
    intro w mg fa h Y G hmg0
    obtain ⟨K, KX, c⟩ := Y
    have hmg : mg ("law" : PySem.Str) = some (.ref fa) := by
      have e : (HandSHeadRun.topDef (OpenLaw.row PySem.Challenge.rw_spentonce_k08_rows_not_done).prog 14).name = ("law" : PySem.Str) := by kernel_rfl
      rw [← e]
      exact hmg0
    obtain ⟨fd, hb, hF⟩ := LW.facts (P := (PySem.Challenge.rw_spentonce_k08_rows_not_done).prog) (w := w) KX G hmg c (LW.clA K) rfl
    exact ⟨K, fd, DL.spLaw K, KX, hb, fun H a ns hl _ hS => ⟨a, ns, rfl, hS, hl, fun _ => rfl⟩, fun base i j => DL.fn_calm (hF base i j) fun vs H Q E h => DL.law_sp LW.main vs H Q E h⟩
