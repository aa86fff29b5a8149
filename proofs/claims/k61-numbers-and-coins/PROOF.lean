import PyProof.Rows.All
import Wide.All
import OpenK.AllK
import Wide.FinOn
import HandS.ForMost
import HandS.Exc
import HandS.TryOnly
import HandS.ExcOwn
import HandS.WordsExc
import HandS.Defaults
import HandS.Wide
import HandS.WideBits
import HandS.TupAny
import HandS.TupMul
import HandS.Style
import HandS.IsInst
import HandS.Small
import KE.KEqNest
import HandS.List
import HandS.Flow
import HandS.Iter
import KE.DataEq
import HandS.Comp
import HandS.WordsList
import HandS.Conv
import HandS.More
import HandS.HeadHook4
import HandS.Strs
import HandS.Rev
import HandS.Zip
import KE.GoesEnum
import HandS.ExcIs
import HandS.Dict
import HandS.RevTup
import KE.KDictList
import KE.DataFind
import HandS.Text
import PySem.Challenge.RW_spentonce_k61_numbers_and_coins
import KE.KStateDown
import Lean
import HandS.Ends
import HandS.Head0
import HandS.Head1
import HandS.Head2
import HandS.HeadEnd
import HandS.HeadHook1
import HandS.HeadHook2
set_option Elab.async false
set_option linter.all false
set_option maxRecDepth 100000
set_option maxHeartbeats 4000000
/-! DL1: the abstract values, the store, what they stand for in the abstract heap of the hand layer, and the judgements. -/
namespace DL
open PySem PySem.Spec PyProof.Rows L2

/-- data: frozen lists and dicts are values; ref n is the n-th live cell of the store -/
inductive D where
  | non | bl (b : Bool) | int (i : Int) | str (s : Str)
  | tup (xs : List D) | lst (xs : List D) | dic (t : Bool) (es : List D) | ref (n : Nat) | exc (n : Nat)
/-- a live cell -/
inductive Cell where
  | lst (xs : List D) | dic (t : Bool) (es : List D) | ins (c : Nat) (fs : List (Str × D)) | dead
abbrev Sto := List Cell
abbrev Loc := List (Option D)
inductive Res (α : Type) where
  | ok (a : α) (S : Sto) | exc (x : Nat) (S : Sto) | bad
def Res.bind {α β : Type} (r : Res α) (k : α → Sto → Res β) : Res β := match r with
  | .ok a S => k a S
  | .exc x S => .exc x S
  | .bad => .bad
abbrev E := Loc → Sto → Res D
abbrev T := Loc → Sto → Res Bool
abbrev As := Loc → Sto → Res (List D)
inductive Out where
  | next (l : Loc) (S : Sto) | ret (d : D) (S : Sto) | brk (l : Loc) (S : Sto) | cont (l : Loc) (S : Sto) | exc (x : Nat) (l : Loc) (S : Sto) | bad
abbrev Stm := Loc → Sto → Out

/-- what is fixed through a law's run -/
structure Ct where
  P : Program
  w : World
  K : PySem.W.Frag
  cl : Nat → Addr
abbrev cxt (X : Cx) (cl : Nat → Addr) : Ct := ⟨X.prog, X.w, X.K, cl⟩
abbrev Le (F F' : Hp) : Prop := ∀ a o, F a = some o → F' a = some o
theorem Le.refl (F : Hp) : Le F F := fun _ _ h => h
theorem Le.trans {F G H : Hp} (a : Le F G) (b : Le G H) : Le F H := fun x o h => b x o (a x o h)

def keyD : Key → D
  | .inl i => .int i
  | .inr s => .str s

/-- what is known of a caught exception: its class -/
abbrev exH (C a : Addr) : HO := .ext fun h => ∃ (oe : Obj) (vs : Array Value), h.get? a = some oe ∧ Zc (.ref C) none oe ∧ oe.data = .fields vs
def keyT (ks : List Key) : D := .tup (ks.map keyD)
mutual
inductive RepD (C : Ct) (ρ : List Addr) (F : Hp) : V → D → Prop
  | non : RepD C ρ F .non .non
  | bl (b : Bool) : RepD C ρ F (.bl b) (.bl b)
  | int (i : Int) : RepD C ρ F (.int i) (.int i)
  | str (s : Str) : RepD C ρ F (.str s) (.str s)
  | tup {a : Addr} {vs : List V} {xs : List D} : SqT C.K F a vs → RepAll C ρ F vs xs → RepD C ρ F (.ref a) (.tup xs)
  | lst {a : Addr} {vs : List V} {xs : List D} : SqL C.K F a vs → RepAll C ρ F vs xs → RepD C ρ F (.ref a) (.lst xs)
  | dicK {a : Addr} {kvs : List (Key × V)} {es : List D} : Rd F a (.dK kvs) → RepKV C ρ F kvs es → RepD C ρ F (.ref a) (.dic false es)
  | dicT {a : Addr} {kvs : List (List Key × V)} {es : List D} : Rd F a (.dT kvs) → RepKT C ρ F kvs es → RepD C ρ F (.ref a) (.dic true es)
  | exc {a : Addr} {n : Nat} : Rd F a (exH (C.cl n) a) → RepD C ρ F (.ref a) (.exc n)
  | ref {a : Addr} {n : Nat} : ρ[n]? = some a → RepD C ρ F (.ref a) (.ref n)
inductive RepAll (C : Ct) (ρ : List Addr) (F : Hp) : List V → List D → Prop
  | nil : RepAll C ρ F [] []
  | cons {v : V} {vs : List V} {d : D} {ds : List D} : RepD C ρ F v d → RepAll C ρ F vs ds → RepAll C ρ F (v :: vs) (d :: ds)
/-- a dict's entries, each told as a pair -/
inductive RepKV (C : Ct) (ρ : List Addr) (F : Hp) : List (Key × V) → List D → Prop
  | nil : RepKV C ρ F [] []
  | cons {k : Key} {v : V} {vs : List (Key × V)} {d : D} {ds : List D} : RepD C ρ F v d → RepKV C ρ F vs ds → RepKV C ρ F ((k, v) :: vs) (.tup [keyD k, d] :: ds)
inductive RepKT (C : Ct) (ρ : List Addr) (F : Hp) : List (List Key × V) → List D → Prop
  | nil : RepKT C ρ F [] []
  | cons {k : List Key} {v : V} {vs : List (List Key × V)} {d : D} {ds : List D} : RepD C ρ F v d → RepKT C ρ F vs ds → RepKT C ρ F ((k, v) :: vs) (.tup [keyT k, d] :: ds)
end

theorem rd_mono {F F' : Hp} {a : Addr} {u : HO} (e : Le F F') (h : Rd F a u) : Rd F' a u := by
  rcases h with h | ⟨o, h⟩
  · exact .inl (e _ _ h)
  · exact .inr ⟨o, e _ _ h⟩
theorem sqL_mono {K : PySem.W.Frag} {F F' : Hp} {a : Addr} {xs : List V} (e : Le F F') (h : SqL K F a xs) : SqL K F' a xs := by
  rcases h with h | h
  · exact .inl (rd_mono e h)
  · exact .inr h
theorem sqT_mono {K : PySem.W.Frag} {F F' : Hp} {a : Addr} {xs : List V} (e : Le F F') (h : SqT K F a xs) : SqT K F' a xs := by
  rcases h with h | h
  · exact .inl (rd_mono e h)
  · exact .inr h
theorem pre_get {ρ ρ' : List Addr} (h : ρ <+: ρ') {n : Nat} {a : Addr} (e : ρ[n]? = some a) : ρ'[n]? = some a := by
  obtain ⟨t, rfl⟩ := h
  rw [List.getElem?_append_left (List.getElem?_eq_some_iff.mp e).1]
  exact e

section
variable {C : Ct} {ρ ρ' : List Addr} {F F' : Hp}
mutual
theorem RepD.mono (hr : ρ <+: ρ') (hF : Le F F') : ∀ {v : V} {d : D}, RepD C ρ F v d → RepD C ρ' F' v d
  | _, _, .non => .non
  | _, _, .bl b => .bl b
  | _, _, .int i => .int i
  | _, _, .str s => .str s
  | _, _, .tup h r => .tup (sqT_mono hF h) (RepAll.mono hr hF r)
  | _, _, .lst h r => .lst (sqL_mono hF h) (RepAll.mono hr hF r)
  | _, _, .dicK h r => .dicK (rd_mono hF h) (RepKV.mono hr hF r)
  | _, _, .dicT h r => .dicT (rd_mono hF h) (RepKT.mono hr hF r)
  | _, _, .exc h => .exc (rd_mono hF h)
  | _, _, .ref e => .ref (pre_get hr e)
theorem RepAll.mono (hr : ρ <+: ρ') (hF : Le F F') : ∀ {vs : List V} {ds : List D}, RepAll C ρ F vs ds → RepAll C ρ' F' vs ds
  | _, _, .nil => .nil
  | _, _, .cons h r => .cons (RepD.mono hr hF h) (RepAll.mono hr hF r)
theorem RepKV.mono (hr : ρ <+: ρ') (hF : Le F F') : ∀ {vs : List (Key × V)} {ds : List D}, RepKV C ρ F vs ds → RepKV C ρ' F' vs ds
  | _, _, .nil => .nil
  | _, _, .cons h r => .cons (RepD.mono hr hF h) (RepKV.mono hr hF r)
theorem RepKT.mono (hr : ρ <+: ρ') (hF : Le F F') : ∀ {vs : List (List Key × V)} {ds : List D}, RepKT C ρ F vs ds → RepKT C ρ' F' vs ds
  | _, _, .nil => .nil
  | _, _, .cons h r => .cons (RepD.mono hr hF h) (RepKT.mono hr hF r)
end
theorem RepAll.len {vs : List V} {ds : List D} (r : RepAll C ρ F vs ds) : vs.length = ds.length := by
  induction ds generalizing vs with
  | nil => cases r; rfl
  | cons d ds ih => cases r with
    | cons h t => simp [ih t]
theorem RepAll.get : ∀ {vs : List V} {ds : List D} {i : Nat} {d : D}, RepAll C ρ F vs ds → ds[i]? = some d → ∃ v, vs[i]? = some v ∧ RepD C ρ F v d
  | _, _, _, _, .nil, e => by simp at e
  | _, _, 0, _, .cons h _, e => by simp at e; subst e; exact ⟨_, rfl, h⟩
  | _, _, i + 1, d, .cons _ t, e => by
    obtain ⟨v, h1, h2⟩ := RepAll.get (i := i) (d := d) t (by simpa using e)
    exact ⟨v, by simpa using h1, h2⟩
theorem RepAll.getV : ∀ {vs : List V} {ds : List D} {i : Nat} {v : V}, RepAll C ρ F vs ds → vs[i]? = some v → ∃ d, ds[i]? = some d ∧ RepD C ρ F v d
  | _, _, _, _, .nil, e => by simp at e
  | _, _, 0, _, .cons h _, e => by simp at e; subst e; exact ⟨_, rfl, h⟩
  | _, _, i + 1, v, .cons _ t, e => by
    obtain ⟨d, h1, h2⟩ := RepAll.getV (i := i) (v := v) t (by simpa using e)
    exact ⟨d, by simpa using h1, h2⟩
theorem RepAll.app : ∀ {vs ws : List V} {ds es : List D}, RepAll C ρ F vs ds → RepAll C ρ F ws es → RepAll C ρ F (vs ++ ws) (ds ++ es)
  | _, _, _, _, .nil, s => s
  | _, _, _, _, .cons h t, s => .cons h (RepAll.app t s)
theorem RepAll.take : ∀ {vs : List V} {ds : List D} (n : Nat), RepAll C ρ F vs ds → RepAll C ρ F (vs.take n) (ds.take n)
  | _, _, 0, _ => .nil
  | _, _, _ + 1, .nil => .nil
  | _, _, n + 1, .cons h t => .cons h (RepAll.take n t)
theorem RepAll.drop : ∀ {vs : List V} {ds : List D} (n : Nat), RepAll C ρ F vs ds → RepAll C ρ F (vs.drop n) (ds.drop n)
  | _, _, 0, r => r
  | _, _, _ + 1, .nil => .nil
  | _, _, n + 1, .cons _ t => RepAll.drop n t
theorem RepAll.set {v : V} {d : D} (h : RepD C ρ F v d) : ∀ {vs : List V} {ds : List D} (i : Nat), RepAll C ρ F vs ds → RepAll C ρ F (vs.set i v) (ds.set i d)
  | _, _, _, .nil => .nil
  | _, _, 0, .cons _ t => .cons h t
  | _, _, i + 1, .cons q t => .cons q (RepAll.set h i t)
theorem RepAll.one {v : V} {d : D} (h : RepD C ρ F v d) : RepAll C ρ F [v] [d] := .cons h .nil
theorem RepAll.snoc {v : V} {d : D} {vs : List V} {ds : List D} (r : RepAll C ρ F vs ds) (h : RepD C ρ F v d) : RepAll C ρ F (vs ++ [v]) (ds ++ [d]) := r.app (.one h)
theorem RepAll.rev : ∀ {vs : List V} {ds : List D}, RepAll C ρ F vs ds → RepAll C ρ F vs.reverse ds.reverse
  | _, _, .nil => .nil
  | _, _, .cons h t => by rw [List.reverse_cons, List.reverse_cons]; exact (RepAll.rev t).snoc h
theorem RepAll.dropLast {vs : List V} {ds : List D} (r : RepAll C ρ F vs ds) : RepAll C ρ F vs.dropLast ds.dropLast := by
  rw [List.dropLast_eq_take, List.dropLast_eq_take, r.len]; exact r.take _
theorem RepAll.erase : ∀ {vs : List V} {ds : List D} (i : Nat), RepAll C ρ F vs ds → RepAll C ρ F (vs.eraseIdx i) (ds.eraseIdx i)
  | _, _, _, .nil => .nil
  | _, _, 0, .cons _ t => t
  | _, _, i + 1, .cons q t => .cons q (RepAll.erase i t)
end

/-- an instance's fields, in order -/
inductive RepF (C : Ct) (ρ : List Addr) (F : Hp) : List (Str × V) → List (Str × D) → Prop
  | nil : RepF C ρ F [] []
  | cons {f : Str} {v : V} {d : D} {vs : List (Str × V)} {ds : List (Str × D)} : RepD C ρ F v d → RepF C ρ F vs ds → RepF C ρ F ((f, v) :: vs) ((f, d) :: ds)
theorem RepF.mono {C : Ct} {ρ ρ' : List Addr} {F F' : Hp} (hr : ρ <+: ρ') (hF : Le F F') {vs : List (Str × V)} {ds : List (Str × D)} (h : RepF C ρ F vs ds) : RepF C ρ' F' vs ds := by
  induction h with
  | nil => exact .nil
  | cons h _ ih => exact .cons (h.mono hr hF) ih

def CellRep (C : Ct) (ρ : List Addr) (F H : Hp) (a : Addr) : Cell → Prop
  | .lst xs => ∃ vs, H a = some (.lst vs) ∧ RepAll C ρ F vs xs
  | .dic false es => ∃ kvs : List (Key × V), H a = some (.dK kvs) ∧ RepKV C ρ F kvs es
  | .dic true es => ∃ kvs : List (List Key × V), H a = some (.dT kvs) ∧ RepKT C ρ F kvs es
  | .ins c fs => ∃ dx vfs, H a = some (.ins (C.cl c) dx vfs) ∧ RepF C ρ F vfs fs
  | .dead => True
theorem CellRep.mono {C : Ct} {ρ ρ' : List Addr} {F F' H H' : Hp} {a : Addr} (hr : ρ <+: ρ') (hF : Le F F') (hH : ∀ o, H a = some o → H' a = some o) : ∀ {c : Cell}, CellRep C ρ F H a c → CellRep C ρ' F' H' a c
  | .lst xs, ⟨vs, h, r⟩ => ⟨vs, hH _ h, r.mono hr hF⟩
  | .dic false es, ⟨kvs, h, r⟩ => ⟨kvs, hH _ h, r.mono hr hF⟩
  | .dic true es, ⟨kvs, h, r⟩ => ⟨kvs, hH _ h, r.mono hr hF⟩
  | .ins c fs, ⟨dx, vfs, h, r⟩ => ⟨dx, vfs, hH _ h, r.mono hr hF⟩
  | .dead, _ => trivial
/-- a live cell's address is tracked -/
theorem CellRep.some {C : Ct} {ρ : List Addr} {F H : Hp} {a : Addr} : ∀ {c : Cell}, CellRep C ρ F H a c → c ≠ .dead → ∃ o, H a = some o ∧ Mut (some o)
  | .lst xs, ⟨vs, h, r⟩, _ => ⟨_, h, trivial⟩
  | .dic false es, ⟨kvs, h, r⟩, _ => ⟨_, h, trivial⟩
  | .dic true es, ⟨kvs, h, r⟩, _ => ⟨_, h, trivial⟩
  | .ins c fs, ⟨dx, vfs, h, r⟩, _ => ⟨_, h, trivial⟩
  | .dead, _, n => absurd rfl n

structure Rel (C : Ct) (ρ : List Addr) (F : Hp) (S : Sto) (H : Hp) : Prop where
  fz : Le F H
  len : ρ.length = S.length
  cell : ∀ (i : Nat) (a : Addr) (c : Cell), ρ[i]? = some a → S[i]? = some c → CellRep C ρ F H a c
  apart : ∀ (i : Nat) (a : Addr) (c : Cell), ρ[i]? = some a → S[i]? = some c → c ≠ .dead → F a = none
  inj : ∀ (i j : Nat) (a : Addr) (ci cj : Cell), ρ[i]? = some a → ρ[j]? = some a → S[i]? = some ci → S[j]? = some cj → ci ≠ .dead → cj ≠ .dead → i = j

def LRel (C : Ct) (ρ : List Addr) (F : Hp) (σ : L2.St) (l : Loc) : Prop := σ.length = l.length ∧ ∀ (i : Nat) (d : D), l[i]? = some (some d) → ∃ v, σ[i]? = some (some v) ∧ RepD C ρ F v d
theorem LRel.mono {C : Ct} {ρ ρ' : List Addr} {F F' : Hp} {σ : L2.St} {l : Loc} (hr : ρ <+: ρ') (hF : Le F F') (h : LRel C ρ F σ l) : LRel C ρ' F' σ l :=
  ⟨h.1, fun i d e => let ⟨v, e1, r⟩ := h.2 i d e; ⟨v, e1, r.mono hr hF⟩⟩
theorem LRel.set {C : Ct} {ρ : List Addr} {F : Hp} {σ : L2.St} {l : Loc} (h : LRel C ρ F σ l) (i : Nat) {v : V} {d : D} (r : RepD C ρ F v d) : LRel C ρ F (σ.set i (some v)) (l.set i (some d)) := by
  refine ⟨by simp [h.1], fun j e he => ?_⟩
  by_cases hj : i = j
  · subst hj
    rw [List.getElem?_set] at he
    split at he
    · split at he
      · cases he
        exact ⟨v, by rw [List.getElem?_set, if_pos rfl, if_pos (by rw [h.1]; assumption)], r⟩
      · cases he
    · exact absurd rfl (by assumption)
  · rw [List.getElem?_set_ne hj] at he ⊢
    exact h.2 j e he
/-- forgetting a slot -/
theorem LRel.none {C : Ct} {ρ : List Addr} {F : Hp} {σ : L2.St} {l : Loc} (h : LRel C ρ F σ l) (i : Nat) : LRel C ρ F σ (l.set i none) := by
  refine ⟨by simp [h.1], fun j e he => ?_⟩
  by_cases hj : i = j
  · subst hj
    rw [List.getElem?_set] at he
    split at he
    · split at he <;> cases he
    · exact absurd rfl (by assumption)
  · rw [List.getElem?_set_ne hj] at he
    exact h.2 j e he

/-! ### what is wanted behind -/
def satE (C : Ct) (W : WX) (ρ : List Addr) (F : Hp) (σ : L2.St) (r : Res D) (Q : VK) : Prop := match r with
  | .ok d S' => ∀ ρ' F' H' v, Rel C ρ' F' S' H' → ρ <+: ρ' → Le F F' → RepD C ρ' F' v d → Q v H'
  | .exc x S' => ∀ ρ' F' H' (dd : Unit), Rel C ρ' F' S' H' → ρ <+: ρ' → Le F F' → W (.ref (C.cl x)) none σ H'
  | .bad => False
def satT (C : Ct) (W : WX) (ρ : List Addr) (F : Hp) (σ : L2.St) (r : Res Bool) (Q : Bool → Hp → Prop) : Prop := match r with
  | .ok b S' => ∀ ρ' F' H', Rel C ρ' F' S' H' → ρ <+: ρ' → Le F F' → Q b H'
  | .exc x S' => ∀ ρ' F' H' (dd : Unit), Rel C ρ' F' S' H' → ρ <+: ρ' → Le F F' → W (.ref (C.cl x)) none σ H'
  | .bad => False
def satA (C : Ct) (W : WX) (ρ : List Addr) (F : Hp) (σ : L2.St) (r : Res (List D)) (Q : List V → Hp → Prop) : Prop := match r with
  | .ok ds S' => ∀ ρ' F' H' vs, Rel C ρ' F' S' H' → ρ <+: ρ' → Le F F' → RepAll C ρ' F' vs ds → Q vs H'
  | .exc x S' => ∀ ρ' F' H' (dd : Unit), Rel C ρ' F' S' H' → ρ <+: ρ' → Le F F' → W (.ref (C.cl x)) none σ H'
  | .bad => False
def satS (C : Ct) (W : WX) (ρ : List Addr) (F : Hp) (r : Out) (D : Ends) : Prop := match r with
  | .next l' S' => ∀ ρ' F' H' σ', Rel C ρ' F' S' H' → ρ <+: ρ' → Le F F' → LRel C ρ' F' σ' l' → D.nx σ' H'
  | .ret d S' => ∀ ρ' F' H' v, Rel C ρ' F' S' H' → ρ <+: ρ' → Le F F' → RepD C ρ' F' v d → D.rt v H'
  | .brk l' S' => ∀ ρ' F' H' σ', Rel C ρ' F' S' H' → ρ <+: ρ' → Le F F' → LRel C ρ' F' σ' l' → D.bk σ' H'
  | .cont l' S' => ∀ ρ' F' H' σ', Rel C ρ' F' S' H' → ρ <+: ρ' → Le F F' → LRel C ρ' F' σ' l' → D.ct σ' H'
  | .exc x l' S' => ∀ ρ' F' H' σ' (dd : Unit), Rel C ρ' F' S' H' → ρ <+: ρ' → Le F F' → LRel C ρ' F' σ' l' → W (.ref (C.cl x)) none σ' H'
  | .bad => False

section
variable {C : Ct} {W : WX} {ρ ρ1 : List Addr} {F F1 : Hp} {σ : L2.St}
theorem satE.mono (hr : ρ <+: ρ1) (hF : Le F F1) {r : Res D} {Q : VK} (h : satE C W ρ F σ r Q) : satE C W ρ1 F1 σ r Q := by
  cases r with
  | ok d S => exact fun ρ' F' H' v a b c e => h ρ' F' H' v a (hr.trans b) (hF.trans c) e
  | exc x S => exact fun ρ' F' H' dd a b c => h ρ' F' H' dd a (hr.trans b) (hF.trans c)
  | bad => exact h
theorem satT.mono (hr : ρ <+: ρ1) (hF : Le F F1) {r : Res Bool} {Q : Bool → Hp → Prop} (h : satT C W ρ F σ r Q) : satT C W ρ1 F1 σ r Q := by
  cases r with
  | ok d S => exact fun ρ' F' H' a b c => h ρ' F' H' a (hr.trans b) (hF.trans c)
  | exc x S => exact fun ρ' F' H' dd a b c => h ρ' F' H' dd a (hr.trans b) (hF.trans c)
  | bad => exact h
theorem satA.mono (hr : ρ <+: ρ1) (hF : Le F F1) {r : Res (List D)} {Q : List V → Hp → Prop} (h : satA C W ρ F σ r Q) : satA C W ρ1 F1 σ r Q := by
  cases r with
  | ok d S => exact fun ρ' F' H' v a b c e => h ρ' F' H' v a (hr.trans b) (hF.trans c) e
  | exc x S => exact fun ρ' F' H' dd a b c => h ρ' F' H' dd a (hr.trans b) (hF.trans c)
  | bad => exact h
theorem satS.mono (hr : ρ <+: ρ1) (hF : Le F F1) {r : Out} {D : Ends} (h : satS C W ρ F r D) : satS C W ρ1 F1 r D := by
  cases r with
  | next l S => exact fun ρ' F' H' v a b c e => h ρ' F' H' v a (hr.trans b) (hF.trans c) e
  | ret l S => exact fun ρ' F' H' v a b c e => h ρ' F' H' v a (hr.trans b) (hF.trans c) e
  | brk l S => exact fun ρ' F' H' v a b c e => h ρ' F' H' v a (hr.trans b) (hF.trans c) e
  | cont l S => exact fun ρ' F' H' v a b c e => h ρ' F' H' v a (hr.trans b) (hF.trans c) e
  | exc x l S => exact fun ρ' F' H' v dd a b c e => h ρ' F' H' v dd a (hr.trans b) (hF.trans c) e
  | bad => exact h
end

def tE (C : Ct) (W : WX) (A : E) : TE := fun σ H Q => ∃ l S ρ F, LRel C ρ F σ l ∧ Rel C ρ F S H ∧ satE C W ρ F σ (A l S) Q
def tT (C : Ct) (W : WX) (A : T) : TT := fun σ H Q => ∃ l S ρ F, LRel C ρ F σ l ∧ Rel C ρ F S H ∧ satT C W ρ F σ (A l S) Q
def tAs (C : Ct) (W : WX) (A : As) : TA := fun σ H Q => ∃ l S ρ F, LRel C ρ F σ l ∧ Rel C ρ F S H ∧ satA C W ρ F σ (A l S) Q
def tS (C : Ct) (W : WX) (A : Stm) : TS := fun D σ H => ∃ l S ρ F, LRel C ρ F σ l ∧ Rel C ρ F S H ∧ satS C W ρ F (A l S) D

/-- THE JUDGEMENTS: the syntax does what the abstract function says -/
abbrev DE (X : Cx) (cl : Nat → Addr) (W : WX) (e : Expr) (A : E) : Prop := PE X e (tE (cxt X cl) W A)
abbrev DT (X : Cx) (cl : Nat → Addr) (W : WX) (e : Expr) (A : T) : Prop := PT X e (tT (cxt X cl) W A)
abbrev DW (X : Cx) (cl : Nat → Addr) (W : WX) (e : Expr) (A : T) : Prop := PW X e (tT (cxt X cl) W A)
abbrev DA (X : Cx) (cl : Nat → Addr) (W : WX) (es : List Expr) (A : As) : Prop := PA X es (tAs (cxt X cl) W A)
abbrev DS (X : Cx) (cl : Nat → Addr) (W : WX) (st : Stmt) (A : Stm) : Prop := PS X st (tS (cxt X cl) W A)
abbrev DSs (X : Cx) (cl : Nat → Addr) (W : WX) (st : List Stmt) (A : Stm) : Prop := PSs X st (tS (cxt X cl) W A)

theorem _root_.L2.PE.imp {X : Cx} {e : Expr} {t t' : TE} (h : PE X e t) (i : ∀ σ H Q, t' σ H Q → t σ H Q) : PE X e t' := ⟨fun pins s σ H Q I q => h.run pins s σ H Q I (i _ _ _ q)⟩
theorem _root_.L2.PT.imp {X : Cx} {e : Expr} {t t' : TT} (h : PT X e t) (i : ∀ σ H Q, t' σ H Q → t σ H Q) : PT X e t' := ⟨fun pins s σ H Q I q => h.run pins s σ H Q I (i _ _ _ q)⟩
theorem _root_.L2.PW.imp {X : Cx} {e : Expr} {t t' : TT} (h : PW X e t) (i : ∀ σ H Q, t' σ H Q → t σ H Q) : PW X e t' := ⟨fun wh pins s σ H Q I q => h.run wh pins s σ H Q I (i _ _ _ q)⟩
theorem _root_.L2.PA.imp {X : Cx} {e : List Expr} {t t' : TA} (h : PA X e t) (i : ∀ σ H Q, t' σ H Q → t σ H Q) : PA X e t' := ⟨fun pos pins s σ H Q I q => h.run pos pins s σ H Q I (i _ _ _ q)⟩
theorem _root_.L2.PS.imp {X : Cx} {e : Stmt} {t t' : TS} (h : PS X e t) (i : ∀ D σ H, t' D σ H → t D σ H) : PS X e t' := ⟨fun pins s σ H D I q => h.run pins s σ H D I (i _ _ _ q)⟩
theorem _root_.L2.PSs.imp {X : Cx} {e : List Stmt} {t t' : TS} (h : PSs X e t) (i : ∀ D σ H, t' D σ H → t D σ H) : PSs X e t' := ⟨fun pins s σ H D I q => h.run pins s σ H D I (i _ _ _ q)⟩

/-! ### the relation: a new frozen object, a cell changed, laid, forgotten -/
section
variable {C : Ct} {ρ : List Addr} {F H : Hp} {S : Sto}
theorem le_upd {G : Hp} {p : Addr} {o : HO} (h : G p = none) : Le G (upd G p o) := fun a u e => by rw [upd_ne (ne_of_none e h)]; exact e
theorem Rel.fnone (R : Rel C ρ F S H) {p : Addr} (h : H p = none) : F p = none := by
  cases e : F p with
  | none => rfl
  | some o => rw [R.fz _ _ e] at h; cases h
/-- what is tracked stays: the frozen part may grow by it -/
theorem Rel.grow (R : Rel C ρ F S H) {H' : Hp} (k : Le H H') : Rel C ρ F S H' :=
  ⟨fun a o e => k a o (R.fz a o e), R.len, fun i a c e1 e2 => (R.cell i a c e1 e2).mono (List.prefix_refl _) (Le.refl _) fun o e => k a o e, R.apart, R.inj⟩
/-- a new object, frozen -/
theorem Rel.new (R : Rel C ρ F S H) {p : Addr} {o : HO} (h : H p = none) : Rel C ρ (upd F p o) S (upd H p o) := by
  have hF := R.fnone h
  refine ⟨fun a u e => ?_, R.len, fun i a c e1 e2 => ?_, fun i a c e1 e2 hd => ?_, R.inj⟩
  · by_cases ha : a = p
    · subst ha; rw [upd_same] at e ⊢; exact e
    · rw [upd_ne ha] at e ⊢; exact R.fz _ _ e
  · refine (R.cell i a c e1 e2).mono (List.prefix_refl _) (le_upd hF) fun u e => ?_
    rw [upd_ne (ne_of_none e h)]; exact e
  · obtain ⟨u, hu, _⟩ := (R.cell i a c e1 e2).some hd
    rw [upd_ne (ne_of_none hu h)]
    exact R.apart i a c e1 e2 hd
/-- a live cell is changed -/
theorem Rel.put (R : Rel C ρ F S H) {i : Nat} {a : Addr} {c c' : Cell} {o : HO} (e1 : ρ[i]? = some a) (e2 : S[i]? = some c) (hd : c ≠ .dead) (hn : CellRep C ρ F (upd H a o) a c') (hd' : c' ≠ .dead) : Rel C ρ F (S.set i c') (upd H a o) := by
  have hF := R.apart i a c e1 e2 hd
  have hlt : i < S.length := (List.getElem?_eq_some_iff.mp e2).1
  have keep : ∀ (j : Nat) (b : Addr) (cj : Cell), ρ[j]? = some b → S[j]? = some cj → cj ≠ .dead → j ≠ i → b ≠ a := fun j b cj h1 h2 hcj hji hb => by
    subst hb
    exact hji (R.inj j i b cj c h1 e1 h2 e2 hcj hd)
  have getS : ∀ (j : Nat) (cj : Cell), (S.set i c')[j]? = some cj → (j = i ∧ cj = c') ∨ (j ≠ i ∧ S[j]? = some cj) := fun j cj h => by
    by_cases hj : j = i
    · subst hj
      rw [List.getElem?_set_self hlt] at h
      exact .inl ⟨rfl, (Option.some.inj h).symm⟩
    · rw [List.getElem?_set_ne (Ne.symm hj)] at h
      exact .inr ⟨hj, h⟩
  refine ⟨fun b u e => ?_, by simp [R.len], fun j b cj h1 h2 => ?_, fun j b cj h1 h2 hc => ?_, fun j k b cj ck h1 h2 h3 h4 hj hk => ?_⟩
  · have : b ≠ a := fun z => by subst z; rw [hF] at e; cases e
    rw [upd_ne this]; exact R.fz _ _ e
  · rcases getS j cj h2 with ⟨rfl, rfl⟩ | ⟨hj, h2⟩
    · rw [e1] at h1; cases h1; exact hn
    · by_cases hcj : cj = .dead
      · subst hcj; trivial
      · refine (R.cell j b cj h1 h2).mono (List.prefix_refl _) (Le.refl _) fun u e => ?_
        rw [upd_ne (keep j b cj h1 h2 hcj hj)]; exact e
  · rcases getS j cj h2 with ⟨rfl, rfl⟩ | ⟨hj, h2⟩
    · rw [e1] at h1; cases h1; exact hF
    · exact R.apart j b cj h1 h2 hc
  · have g3 := getS j cj h3
    have g4 := getS k ck h4
    rcases g3 with ⟨z1, z2⟩ | ⟨hj', g3⟩ <;> rcases g4 with ⟨z3, z4⟩ | ⟨hk', g4⟩
    · rw [z1, z3]
    · subst z1; exact R.inj _ _ b c ck h1 h2 e2 g4 hd hk
    · subst z3; exact R.inj _ _ b cj c h1 h2 g3 e2 hj hd
    · exact R.inj _ _ b cj ck h1 h2 g3 g4 hj hk
/-- a new cell is laid -/
theorem Rel.lay (R : Rel C ρ F S H) {p : Addr} {o : HO} {c : Cell} (h : H p = none) (hn : CellRep C (ρ ++ [p]) F (upd H p o) p c) (hd : c ≠ .dead) : Rel C (ρ ++ [p]) F (S ++ [c]) (upd H p o) := by
  have hF := R.fnone h
  have pr : ρ <+: ρ ++ [p] := List.prefix_append _ _
  have gρ : ∀ j b, (ρ ++ [p])[j]? = some b → (ρ[j]? = some b ∧ j < ρ.length) ∨ (j = ρ.length ∧ b = p) := fun j b e => by
    by_cases hj : j < ρ.length
    · rw [List.getElem?_append_left hj] at e; exact .inl ⟨e, hj⟩
    · have hl : j < (ρ ++ [p]).length := (List.getElem?_eq_some_iff.mp e).1
      have hj' : j = ρ.length := by simp at hl; omega
      subst hj'
      simp at e
      exact .inr ⟨rfl, e.symm⟩
  have gS : ∀ j cj, j < ρ.length → (S ++ [c])[j]? = some cj → S[j]? = some cj := fun j cj hj e => by
    rw [List.getElem?_append_left (by rw [← R.len]; exact hj)] at e; exact e
  have gL : ∀ cj, (S ++ [c])[ρ.length]? = some cj → cj = c := fun cj e => by
    rw [R.len] at e; simp at e; exact e.symm
  have ne : ∀ (j : Nat) (b : Addr) (cj : Cell), ρ[j]? = some b → S[j]? = some cj → cj ≠ .dead → b ≠ p := fun j b cj h1 h2 hc => by
    obtain ⟨u, hu, _⟩ := (R.cell j b cj h1 h2).some hc
    exact ne_of_none hu h
  refine ⟨fun b u e => ?_, by simp [R.len], fun j b cj h1 h2 => ?_, fun j b cj h1 h2 hc => ?_, fun j k b cj ck h1 h2 h3 h4 hj hk => ?_⟩
  · rw [upd_ne (ne_of_none e hF)]; exact R.fz _ _ e
  · rcases gρ j b h1 with ⟨h1, hl⟩ | ⟨rfl, rfl⟩
    · refine (R.cell j b cj h1 (gS j cj hl h2)).mono pr (Le.refl _) fun u e => ?_
      rw [upd_ne (ne_of_none e h)]; exact e
    · have hc := gL cj h2; subst hc; exact hn
  · rcases gρ j b h1 with ⟨h1, hl⟩ | ⟨rfl, rfl⟩
    · exact R.apart j b cj h1 (gS j cj hl h2) hc
    · exact hF
  · rcases gρ j b h1 with ⟨h1, hl⟩ | ⟨e1, e2⟩ <;> rcases gρ k b h2 with ⟨h2, hl'⟩ | ⟨e3, e4⟩
    · exact R.inj j k b cj ck h1 h2 (gS j cj hl h3) (gS k ck hl' h4) hj hk
    · exact absurd e4 (ne j b cj h1 (gS j cj hl h3) hj)
    · exact absurd e2 (ne k b ck h2 (gS k ck hl' h4) hk)
    · rw [e1, e3]
end
theorem ref_last {ρ : List Addr} {p : Addr} : (ρ ++ [p])[ρ.length]? = some p := by simp
end DL

/-! DL2: names, constants, operators, comparisons, truth. -/
namespace DL
open PySem PySem.Spec PyProof.Rows L2

def listOf (S : Sto) : D → Option (List D)
  | .lst xs => some xs
  | .ref n => match S[n]? with
    | some (.lst xs) => some xs
    | _ => none
  | _ => none
def seqOf (S : Sto) : D → Option (List D)
  | .tup xs => some xs
  | d => listOf S d
section
variable {C : Ct} {W : WX} {ρ : List Addr} {F H : Hp} {S : Sto} {v : V} {d : D} {xs : List D}
theorem rep_list (R : Rel C ρ F S H) (r : RepD C ρ F v d) (h : listOf S d = some xs) : ∃ a vs, v = .ref a ∧ SqL C.K H a vs ∧ RepAll C ρ F vs xs := by
  cases r with
  | lst hq ra =>
    obtain rfl := Option.some.inj h
    exact ⟨_, _, rfl, sqL_mono R.fz hq, ra⟩
  | @ref a n e =>
    have h' : (match S[n]? with
      | some (.lst xs) => some xs
      | _ => none) = some xs := h
    split at h'
    · next ys es =>
      obtain rfl := Option.some.inj h'
      obtain ⟨vs, hv, ra⟩ := R.cell n a _ e es
      exact ⟨a, vs, rfl, SqL.of hv, ra⟩
    · exact nomatch h'
  | _ => exact nomatch h
theorem rep_tup (R : Rel C ρ F S H) (r : RepD C ρ F v (.tup xs)) : ∃ a vs, v = .ref a ∧ SqT C.K H a vs ∧ RepAll C ρ F vs xs := by
  cases r with
  | tup hq ra => exact ⟨_, _, rfl, sqT_mono R.fz hq, ra⟩
theorem rep_seq (R : Rel C ρ F S H) (r : RepD C ρ F v d) (h : seqOf S d = some xs) : ∃ a vs, v = .ref a ∧ (SqL C.K H a vs ∨ SqT C.K H a vs) ∧ RepAll C ρ F vs xs := by
  cases d with
  | tup ys =>
    obtain rfl := Option.some.inj (show some ys = some xs from h)
    obtain ⟨a, vs, e, hq, ra⟩ := rep_tup R r
    exact ⟨a, vs, e, .inr hq, ra⟩
  | _ =>
    obtain ⟨a, vs, e, hq, ra⟩ := rep_list R r h
    exact ⟨a, vs, e, .inl hq, ra⟩
/-- the answer at once: data of the same store -/
theorem satE.now {σ : L2.St} {Q : VK} (h : satE C W ρ F σ (.ok d S) Q) (R : Rel C ρ F S H) (r : RepD C ρ F v d) : Q v H := h ρ F H v R (List.prefix_refl _) (Le.refl _) r
/-- a new tuple, a new list, frozen -/
theorem satE.newT {σ : L2.St} {Q : VK} {vs : List V} (h : satE C W ρ F σ (.ok (.tup xs) S) Q) (R : Rel C ρ F S H) (r : RepAll C ρ F vs xs) {p : Addr} (hp : H p = none) : Q (.ref p) (upd H p (.tup vs)) :=
  h ρ (upd F p (.tup vs)) _ _ (R.new hp) (List.prefix_refl _) (le_upd (R.fnone hp)) (.tup (SqT.of upd_same) (r.mono (List.prefix_refl _) (le_upd (R.fnone hp))))
theorem satE.newL {σ : L2.St} {Q : VK} {vs : List V} (h : satE C W ρ F σ (.ok (.lst xs) S) Q) (R : Rel C ρ F S H) (r : RepAll C ρ F vs xs) {p : Addr} (hp : H p = none) : Q (.ref p) (upd H p (.lst vs)) :=
  h ρ (upd F p (.lst vs)) _ _ (R.new hp) (List.prefix_refl _) (le_upd (R.fnone hp)) (.lst (SqL.of upd_same) (r.mono (List.prefix_refl _) (le_upd (R.fnone hp))))
end

/-! ### names, constants -/
def eVar (i : Nat) : E := fun l S => match l[i]? with
  | some (some d) => .ok d S
  | _ => .bad
def eC (d : D) : E := fun _ S => .ok d S
section
variable {X : Cx} {cl : Nat → Addr} {W : WX}
theorem de_of {i : Nat} {e : Expr} (h : PE X e (tVar i)) : DE X cl W e (eVar i) := h.imp fun σ H Q ⟨l, S, ρ, F, hl, R, h⟩ => by
  unfold eVar at h
  split at h
  · next d e =>
    obtain ⟨v, ev, r⟩ := hl.2 i d e
    exact ⟨v, ev, h.now R r⟩
  · exact h.elim
theorem de_const {v : V} {d : D} {e : Expr} (h : PE X e (tC v)) (r : ∀ ρ F, RepD (cxt X cl) ρ F v d) : DE X cl W e (eC d) := h.imp fun σ H Q ⟨l, S, ρ, F, hl, R, h⟩ => h.now R (r _ _)
theorem dv (i : Nat) {x : Str} {pos : Pos} (hN : X.N[i]? = some x := by rfl) (hv : Vis X.env.scope x := by first | exact Or.inl rfl | exact Or.inr (Or.inl rfl) | exact Or.inr (Or.inr rfl)) (hd : (x == ("__debug__" : Str)) = false := by decide)
    (hcd : (x == ("__classdict__" : Str)) = false := by decide) : DE X cl W (.Name x pos) (eVar i) := de_of (pe_var hN hv hd hcd)
theorem de_int {i : Int} {j : Nat} {pos : Pos} : DE X cl W (.Constant (.int i) j pos) (eC (.int i)) := de_const pe_int fun _ _ => .int i
theorem de_bl {b : Bool} {j : Nat} {pos : Pos} : DE X cl W (.Constant (.bool b) j pos) (eC (.bl b)) := de_const pe_bl fun _ _ => .bl b
theorem de_non {j : Nat} {pos : Pos} : DE X cl W (.Constant .none j pos) (eC .non) := de_const pe_non fun _ _ => .non
theorem de_str {x : Str} {j : Nat} {pos : Pos} : DE X cl W (.Constant (.str x) j pos) (eC (.str x)) := de_const pe_str fun _ _ => .str x
end

/-! ### two operands -/
def eOp2 (f : D → D → Sto → Res D) (A B : E) : E := fun l S => (A l S).bind fun x S1 => (B l S1).bind fun y S2 => f x y S2
def eOp1 (f : D → Sto → Res D) (A : E) : E := fun l S => (A l S).bind fun x S1 => f x S1
def rD2 (C : Ct) (W : WX) (f : D → D → Sto → Res D) : R2 := fun x y H Q => ∃ ρ F S σ dx dy, Rel C ρ F S H ∧ RepD C ρ F x dx ∧ RepD C ρ F y dy ∧ satE C W ρ F σ (f dx dy S) Q
def rD1 (C : Ct) (W : WX) (f : D → Sto → Res D) : V → Hp → VK → Prop := fun x H Q => ∃ ρ F S σ dx, Rel C ρ F S H ∧ RepD C ρ F x dx ∧ satE C W ρ F σ (f dx S) Q
section
variable {C : Ct} {W : WX} {A B : E} {f : D → D → Sto → Res D} {g : D → Sto → Res D}
/-- a step on, with a value in hand -/
theorem tE_step {σ : L2.St} {H : Hp} {Q : VK} {l : Loc} {S : Sto} {ρ : List Addr} {F : Hp} {k : D → Sto → Res D} (hl : LRel C ρ F σ l) (R : Rel C ρ F S H) (h : satE C W ρ F σ ((A l S).bind k) Q) {Q1 : VK}
    (hk : ∀ d S1 ρ1 F1 H1 v, Rel C ρ1 F1 S1 H1 → LRel C ρ1 F1 σ l → RepD C ρ1 F1 v d → ρ <+: ρ1 → Le F F1 → satE C W ρ1 F1 σ (k d S1) Q → Q1 v H1) : tE C W A σ H Q1 := by
  refine ⟨l, S, ρ, F, hl, R, ?_⟩
  cases e : A l S with
  | ok d S1 =>
    rw [e] at h
    exact fun ρ1 F1 H1 v R1 p1 f1 r1 => hk d S1 ρ1 F1 H1 v R1 (hl.mono p1 f1) r1 p1 f1 (h.mono p1 f1)
  | exc x S1 => rw [e] at h; exact h
  | bad => rw [e] at h; exact h
theorem tE_op2 {σ : L2.St} {H : Hp} {Q : VK} (h : tE C W (eOp2 f A B) σ H Q) : tOp (rD2 C W f) (tE C W A) (tE C W B) σ H Q := by
  obtain ⟨l, S, ρ, F, hl, R, h⟩ := h
  refine tE_step (Q := Q) hl R h fun x S1 ρ1 F1 H1 v R1 hl1 r1 p1 f1 h1 => ?_
  refine tE_step (Q := Q) hl1 R1 h1 fun y S2 ρ2 F2 H2 u R2 hl2 r2 p2 f2 h2 => ?_
  exact ⟨ρ2, F2, S2, σ, x, y, R2, r1.mono p2 f2, r2, h2⟩
theorem tE_op1 {σ : L2.St} {H : Hp} {Q : VK} (h : tE C W (eOp1 g A) σ H Q) : tUn (rD1 C W g) (tE C W A) σ H Q := by
  obtain ⟨l, S, ρ, F, hl, R, h⟩ := h
  exact tE_step (Q := Q) hl R h fun x S1 ρ1 F1 H1 v R1 hl1 r1 p1 f1 h1 => ⟨ρ1, F1, S1, σ, x, R1, r1, h1⟩
end
theorem _root_.L2.OpR.weak {X : Cx} {f : Value → Value → Sem Value} {r r' : R2} (h : OpR X f r) (i : ∀ x y H Q, r' x y H Q → r x y H Q) : OpR X f r' := fun pins s σ H x y v u Q I rx ry q => h pins s σ H x y v u Q I rx ry (i _ _ _ _ q)
theorem _root_.L2.UnR.weak {X : Cx} {f : Value → Sem Value} {r r' : V → Hp → VK → Prop} (h : UnR X f r) (i : ∀ x H Q, r' x H Q → r x H Q) : UnR X f r' := fun pins s σ H x v Q I rx q => h pins s σ H x v Q I rx (i _ _ _ q)
abbrev OpD (X : Cx) (cl : Nat → Addr) (W : WX) (f : Value → Value → Sem Value) (g : D → D → Sto → Res D) : Prop := OpR X f (rD2 (cxt X cl) W g)
section
variable {X : Cx} {cl : Nat → Addr} {W : WX} {A B : E} {a b : Expr} {pos : Pos}
theorem de_bin {op : Operator} {g : D → D → Sto → Res D} (ho : OpD X cl W (binaryOp op) g) (ha : DE X cl W a A) (hb : DE X cl W b B) : DE X cl W (.BinOp a op b pos) (eOp2 g A B) := (pe_op ho ha hb).imp fun _ _ _ h => tE_op2 h
theorem de_cmp {op : CmpOp} {g : D → D → Sto → Res D} (ho : OpD X cl W (compareOp op) g) (ha : DE X cl W a A) (hb : DE X cl W b B) (hm : behindInMarks op b = false := by first | exact nobehind _ (by decide) (by decide) | rfl) : DE X cl W (.Compare a [op] [b] pos) (eOp2 g A B) := (pe_cmpR ho ha hb hm).imp fun _ _ _ h => tE_op2 h
end

/-! ### + - * // % ** -/
def addD : D → D → Sto → Res D
  | .int i, .int j, S => .ok (.int (i + j)) S
  | .str s, .str t, S => if s.length + t.length ≤ sizeLine then .ok (.str (s ++ t)) S else .bad
  | .tup xs, .tup ys, S => if xs.length + ys.length ≤ sizeLine then .ok (.tup (xs ++ ys)) S else .bad
  | x, y, S => match listOf S x, listOf S y with
    | some xs, some ys => if xs.length + ys.length ≤ sizeLine then .ok (.lst (xs ++ ys)) S else .bad
    | _, _ => .bad
def subD : D → D → Sto → Res D
  | .int i, .int j, S => .ok (.int (i - j)) S
  | _, _, _ => .bad
def mulOk (i j : Int) : Bool := decide (i.natAbs < 2 ^ 64) || decide (j.natAbs < 2 ^ 64) || decide (i.natAbs.log2 + j.natAbs.log2 < 1000000)
def mulD : D → D → Sto → Res D
  | .int i, .int j, S => if mulOk i j = true then .ok (.int (i * j)) S else .bad
  | .lst xs, .int k, S => if k ≤ 100000 ∧ xs.length * k.toNat ≤ sizeLine ∧ -100000 ≤ k then .ok (.lst (List.replicate k.toNat xs).flatten) S else .bad
  | .tup xs, .int k, S => if -100000 ≤ k ∧ k ≤ 1000 ∧ xs.length ≤ 1000 then .ok (.tup (List.replicate k.toNat xs).flatten) S else .bad
  | _, _, _ => .bad
def divOk (j : Int) : Bool := decide (0 < j) && decide (j.natAbs.log2 < 9000)
def fdivD : D → D → Sto → Res D
  | .int i, .int j, S => if divOk j = true then .ok (.int (i / j)) S else .bad
  | _, _, _ => .bad
def modD : D → D → Sto → Res D
  | .int i, .int j, S => if 0 < j then .ok (.int (i % j)) S else .bad
  | _, _, _ => .bad
def powD : D → D → Sto → Res D
  | .int i, .int j, S => if 0 ≤ j ∧ j ≤ 1000000 ∧ i.natAbs < 2 ^ 64 then .ok (.int (i ^ j.toNat)) S else .bad
  | _, _, _ => .bad
section
variable {X : Cx} {cl : Nat → Addr} {W : WX}
/-- list + list, whatever lists they are -/
def rCatL (K : PySem.W.Frag) : R2 := fun x y H Q => ∃ l b xs zs, x = .ref l ∧ y = .ref b ∧ SqL K H l xs ∧ SqL K H b zs ∧ xs.length + zs.length ≤ sizeLine ∧ ∀ p, H p = none → Q (.ref p) (upd H p (.lst (xs ++ zs)))
theorem op_catL : OpR X (binaryOp .Add) (rCatL X.K) := by
  intro pins s σ H x y v u Q I rx ry h
  obtain ⟨l, b, xs, zs, rfl, rfl, hH, hB, hz, q⟩ := h
  cases rx
  cases ry
  obtain ⟨its, r, pl, _⟩ := I.list hH
  obtain ⟨its2, r2, pl2, _⟩ := I.list hB
  obtain ⟨⟨cls, dd, data, sls⟩, n, ho, hc, hdd, hd⟩ := pl
  obtain ⟨⟨cls2, dd2, data2, sl2⟩, n2, ho2, hc2, hdd2, hd2⟩ := pl2
  simp only at hc hdd hd hc2 hdd2 hd2
  subst hc hdd hd hc2 hdd2 hd2
  have hl := r.length
  have hl2 := r2.length
  have e : its.toArray ++ its2.toArray = (its ++ its2).toArray := by simp
  refine concat_meets ⟨_, ho, rfl⟩ ⟨_, ho2, rfl⟩ noFill_list_add seq_list_add PySem.F.slot_list_add PySem.F.entry_list_add (PySem.F.args_list_add_2 _ _) (list_addW l b its.toArray its2.toArray n n2 none none sls sl2 (by simp; omega)) ⟨ho, ho2, ?_⟩
  rw [e]
  exact ⟨.ref _, _, I.lnew (t' := s.toks) (r.append r2) (by rw [List.length_append]; omega), rfl, q _ I.fresh⟩
theorem od_add : OpD X cl W (binaryOp .Add) addD := by
  refine ((op_add.or op_add_str).or (op_catA.or op_catL)).weak ?_
  rintro x y H Q ⟨ρ, F, S, σ, dx, dy, R, r1, r2, h⟩
  unfold addD at h
  split at h
  · cases r1; cases r2
    exact .inl (.inl ⟨_, _, rfl, rfl, h.now R (.int _)⟩)
  · cases r1; cases r2
    split at h
    · next hz => exact .inl (.inr ⟨_, _, rfl, rfl, hz, h.now R (.str _)⟩)
    · exact h.elim
  · split at h
    · next xs ys hz =>
      obtain ⟨a, vs, rfl, ha, ra⟩ := rep_tup R r1
      obtain ⟨b, us, rfl, hb, rb⟩ := rep_tup R r2
      have l1 := ra.len
      have l2 := rb.len
      refine .inr (.inl ⟨a, b, vs, us, rfl, rfl, ha, hb, by omega, fun e => ?_, fun _ e => ?_, fun _ _ p hp => h.newT R (ra.app rb) hp⟩)
      · subst e; cases ra; exact h.now R r2
      · subst e; cases rb; rw [List.append_nil] at h; exact h.now R r1
    · exact h.elim
  · split at h
    · next xs ys e1 e2 =>
      split at h
      · next hz =>
        obtain ⟨a, vs, rfl, ha, ra⟩ := rep_list R r1 e1
        obtain ⟨b, us, rfl, hb, rb⟩ := rep_list R r2 e2
        have l1 := ra.len
        have l2 := rb.len
        exact .inr (.inr ⟨a, b, vs, us, rfl, rfl, ha, hb, by omega, fun p hp => h.newL R (ra.app rb) hp⟩)
      · exact h.elim
    · exact h.elim
theorem od_sub : OpD X cl W (binaryOp .Sub) subD := op_sub.weak fun x y H Q ⟨ρ, F, S, σ, dx, dy, R, r1, r2, h⟩ => by
  unfold subD at h
  split at h
  · cases r1; cases r2
    exact ⟨_, _, rfl, rfl, h.now R (.int _)⟩
  · exact h.elim
theorem RepAll.rep {C : Ct} {ρ : List Addr} {F : Hp} {vs : List V} {ds : List D} (r : RepAll C ρ F vs ds) : ∀ k : Nat, RepAll C ρ F (List.replicate k vs).flatten (List.replicate k ds).flatten
  | 0 => .nil
  | k + 1 => by rw [List.replicate_succ, List.replicate_succ, List.flatten_cons, List.flatten_cons]; exact r.app (r.rep k)
/-- list * int, whatever list it is -/
def rRepL (K : PySem.W.Frag) : R2 := fun x y H Q => ∃ l k xs, x = .ref l ∧ y = .int k ∧ SqL K H l xs ∧ -(2 ^ 63) ≤ k ∧ k < 2 ^ 63 ∧ xs.length * k.toNat ≤ sizeLine ∧
  ∀ p, H p = none → Q (.ref p) (upd H p (.lst (List.replicate k.toNat xs).flatten))
theorem int_rmul_listW (a : Int) (t : Tok) (l : Addr) (items : Array Value) (n : Nat) (dd : Option Addr) (sl : Array (Option Value)) :
    Meets (Builtin.«int.__rmul__» ⟨[.int a t, .ref l], []⟩) (fun _ R s => s.heap.get? l = some { cls := .type "list", dict := dd, data := .seq items n, slots := sl } ∧ R (.ok (.ret Value.notImplemented)) s) :=
  .of_wp fun prog w A R s h => by obtain ⟨hp, g, d, tk, os⟩ := s; obtain ⟨hl, h⟩ := h; wp_walk using AutoSeq1.wpAny_loadPart' hl; exact ⟨_, rfl, h⟩
theorem list_mulW (l : Addr) (items : Array Value) (n : Nat) (dd : Option Addr) (sl : Array (Option Value)) (x : Int) (u : Tok) (hc0 : ¬(!Builtin.List.listFitsIndex x) = true) (hc1 : ¬items.size * x.toNat > (2 ^ 63 - 1) / 8) (hc2 : ¬Builtin.List.listTooLong (items.size * x.toNat) = true) :
    Meets (Builtin.«list.__mul__» ⟨[.ref l, .int x u], []⟩) (fun _ R s => s.heap.get? l = some { cls := .type "list", dict := dd, data := .seq items n, slots := sl } ∧ R (.ok (.ret (Value.ref s.heap.objs.size))) { s with heap := s.heap.push { cls := Value.type "list", data := Data.seq (List.foldl (fun x1 x2 => x1 ++ x2) #[] (List.replicate (if items.isEmpty = true then 0 else x.toNat) items)) }, toks := s.toks }) :=
  .of_wp fun prog w A R s h => by
    obtain ⟨hp, g, d, tk, os⟩ := s; obtain ⟨hl, h⟩ := h
    have hsz := AutoListH.joined_fits hc2
    have f1 := AutoSeq1.idx_int
    wp_walk using AutoSeq1.wpAny_loadPart' hl
    repeat (first
      | (refine wpAny_ite_false (decide_eq_false hc0) ?_; wp_walk using AutoSeq1.wpAny_loadPart' hl)
      | (refine wpAny_ite_false (decide_eq_false hc1) ?_; wp_walk using AutoSeq1.wpAny_loadPart' hl)
      | (refine wpAny_ite_false (decide_eq_false hc2) ?_; wp_walk using AutoSeq1.wpAny_loadPart' hl)
      | (refine wpAny_ite_false (decide_eq_false (Nat.not_lt.mpr hsz)) ?_; wp_walk using AutoSeq1.wpAny_loadPart' hl))
    exact ⟨_, rfl, h⟩
def rRepT0 (K : PySem.W.Frag) : R2 := fun x y H Q => ∃ l k xs, x = .ref l ∧ y = .int k ∧ SqT K H l xs ∧ xs ≠ [] ∧ k ≤ 0 ∧ -100000 ≤ k ∧ ∀ p, H p = none → Q (.ref p) (upd H p (.tup []))
def rRepT1 (K : PySem.W.Frag) : R2 := fun x y H Q => ∃ l k xs, x = .ref l ∧ y = .int k ∧ SqT K H l xs ∧ (xs = [] ∨ k = 1) ∧ k ≤ 1000 ∧ -100000 ≤ k ∧ Q (.ref l) H
theorem tuple_mulW0 (l : Addr) (items : Array Value) (n : Nat) (dd : Option Addr) (sl : Array (Option Value)) (x : Int) (u : Tok) (c0 : (decide (x < -(2 ^ 63)) || decide (x ≥ 2 ^ 63)) = false) (c1 : (items.isEmpty || x == 1) = false) (c2 : (decide (x ≤ 0) || items.isEmpty) = true) :
    Meets (Builtin.«tuple.__mul__» ⟨[.ref l, .int x u], []⟩) (fun _ R s => s.heap.get? l = some { cls := .type "tuple", dict := dd, data := .seq items n, slots := sl } ∧
      R (.ok (.ret (Value.ref s.heap.objs.size))) { s with heap := s.heap.push { cls := Value.type "tuple", data := Data.seq #[] }, toks := s.toks }) :=
  .of_wp fun prog w A R s h => by
    obtain ⟨hp, g, d, tk, os⟩ := s
    obtain ⟨hl, h⟩ := h
    have f1 := AutoSeq1.idx_int
    wp_walk using wpAny_loadPart' hl
    repeat (first
      | (refine wpAny_ite_false (decide_eq_false (by rw [c0]; exact Bool.false_ne_true)) ?_; wp_walk using wpAny_loadPart' hl)
      | (refine wpAny_ite_false (decide_eq_false (by rw [c1]; exact Bool.false_ne_true)) ?_; wp_walk using wpAny_loadPart' hl)
      | (refine wpAny_ite_true (decide_eq_true (by rw [c2])) ?_; wp_walk using wpAny_loadPart' hl))
    exact ⟨_, rfl, h⟩
theorem tuple_mulW1 (l : Addr) (items : Array Value) (n : Nat) (dd : Option Addr) (sl : Array (Option Value)) (x : Int) (u : Tok) (c0 : (decide (x < -(2 ^ 63)) || decide (x ≥ 2 ^ 63)) = false) (c1 : (items.isEmpty || x == 1) = true) :
    Meets (Builtin.«tuple.__mul__» ⟨[.ref l, .int x u], []⟩) (fun _ R s => s.heap.get? l = some { cls := .type "tuple", dict := dd, data := .seq items n, slots := sl } ∧
      R (.ok (.ret (Value.ref l))) s) :=
  .of_wp fun prog w A R s h => by
    obtain ⟨hp, g, d, tk, os⟩ := s
    obtain ⟨hl, h⟩ := h
    have f1 := AutoSeq1.idx_int
    wp_walk using wpAny_loadPart' hl
    repeat (first
      | (refine wpAny_ite_false (decide_eq_false (by rw [c0]; exact Bool.false_ne_true)) ?_; wp_walk using wpAny_loadPart' hl)
      | (refine wpAny_ite_true (decide_eq_true (by rw [c1])) ?_; wp_walk using wpAny_loadPart' hl))
    exact ⟨_, rfl, h⟩
section
variable {X : Cx}
theorem op_repT0 : OpR X (binaryOp .Mult) (rRepT0 X.K) := by
  intro pins s σ H x y v u Q I rx ry h
  obtain ⟨l, k, xs, rfl, rfl, hT, hne, h1, h2, q⟩ := h
  cases rx
  obtain ⟨t, rfl⟩ := ry
  obtain ⟨its, r, ⟨⟨cls, dd, data, sl⟩, ho, hc, n, hd⟩, hs⟩ := I.tuple hT
  simp only at hc hd
  subst hc hd
  have hle : its.length = xs.length := r.length.symm
  have hn : its ≠ [] := fun e => hne (by
    rw [e] at hle
    exact List.eq_nil_of_length_eq_zero hle.symm)
  have hi : its.toArray.isEmpty = false := by
    cases its with
    | nil => exact absurd rfl hn
    | cons a b => rfl
  have c0 : (decide (k < -(2 ^ 63)) || decide (k ≥ 2 ^ 63)) = false := by
    rw [decide_eq_false (by omega), decide_eq_false (by omega)] <;> rfl
  have c1 : (its.toArray.isEmpty || k == 1) = false := by
    rw [hi, Bool.false_or]
    exact beq_eq_false_iff_ne.mpr (by omega)
  have c2 : (decide (k ≤ 0) || its.toArray.isEmpty) = true := by
    rw [hi, Bool.or_false]
    exact decide_eq_true (by omega)
  refine wpAny_binaryOp_repeat_ref (T := "tuple") (U := "int") (by decide) ⟨_, ho, rfl⟩ (fun s' => typeIs_int s' k t) noFill_tuple_mul PySem.F.fills_int_mul PySem.F.slot_int_rmul repeat_tuple PySem.F.slot_int_index.lookup
    (call_meets PySem.F.slot_int_rmul (typeIs_int s k t) PySem.F.entry_int_rmul (PySem.F.args_int_rmul_2 _ _) (int_rmul_tuple k t l its.toArray n dd sl)
      ⟨ho, rfl, ⟨_, ho, rfl⟩, call_meets PySem.F.slot_tuple_mul ⟨_, ho, rfl⟩ PySem.F.entry_tuple_mul (PySem.F.args_tuple_mul_2 _ _) (tuple_mulW0 l its.toArray n dd sl k t c0 c1 c2) ⟨ho, ?_⟩⟩)
  refine ⟨.ref s.heap.objs.size, _, I.laid (t' := s.toks) (o := .tup []) (fun b ob q => Heap.get?_push_of_some _ q) (Nat.le_refl _) ?_, rfl, q _ (I.hok.fresh (Nat.le_refl _))⟩
  exact ⟨by simp, [], .nil, IsTup.new _ _⟩
theorem op_repT1 : OpR X (binaryOp .Mult) (rRepT1 X.K) := by
  intro pins s σ H x y v u Q I rx ry h
  obtain ⟨l, k, xs, rfl, rfl, hT, hne, h1, h2, q⟩ := h
  cases rx
  obtain ⟨t, rfl⟩ := ry
  obtain ⟨its, r, ⟨⟨cls, dd, data, sl⟩, ho, hc, n, hd⟩, hs⟩ := I.tuple hT
  simp only at hc hd
  subst hc hd
  have hle : its.length = xs.length := r.length.symm
  have c0 : (decide (k < -(2 ^ 63)) || decide (k ≥ 2 ^ 63)) = false := by
    rw [decide_eq_false (by omega), decide_eq_false (by omega)] <;> rfl
  have c1 : (its.toArray.isEmpty || k == 1) = true := by
    rcases hne with e | rfl
    · subst e
      rw [List.eq_nil_of_length_eq_zero hle]
      rfl
    · simp
  refine wpAny_binaryOp_repeat_ref (T := "tuple") (U := "int") (by decide) ⟨_, ho, rfl⟩ (fun s' => typeIs_int s' k t) noFill_tuple_mul PySem.F.fills_int_mul PySem.F.slot_int_rmul repeat_tuple PySem.F.slot_int_index.lookup
    (call_meets PySem.F.slot_int_rmul (typeIs_int s k t) PySem.F.entry_int_rmul (PySem.F.args_int_rmul_2 _ _) (int_rmul_tuple k t l its.toArray n dd sl)
      ⟨ho, rfl, ⟨_, ho, rfl⟩, call_meets PySem.F.slot_tuple_mul ⟨_, ho, rfl⟩ PySem.F.entry_tuple_mul (PySem.F.args_tuple_mul_2 _ _) (tuple_mulW1 l its.toArray n dd sl k t c0 c1) ⟨ho, ?_⟩⟩)
  exact ⟨.ref l, _, I, rfl, q⟩
end
theorem od_mul0 : OpD X cl W (binaryOp .Mult) (fun x y S => match x, y with
    | .int i, .int j => mulD (.int i) (.int j) S
    | .tup xs, .int k => mulD (.tup xs) (.int k) S
    | _, _ => .bad) := by
  refine (((op_mul.or op_mulW).or op_repT).or (op_repT0.or op_repT1)).weak ?_
  rintro x y H Q ⟨ρ, F, S, σ, dx, dy, R, r1, r2, h⟩
  dsimp only at h
  split at h
  · cases r1; cases r2
    unfold mulD at h
    simp only at h
    split at h
    · next hk =>
      unfold mulOk at hk
      rw [Bool.or_eq_true, Bool.or_eq_true] at hk
      have fin := h.now R (.int _)
      rcases hk with (hk | hk) | hk
      · have := of_decide_eq_true hk
        exact .inl (.inl (.inl ⟨_, _, rfl, rfl, .inl ⟨by omega, by omega⟩, fin⟩))
      · have := of_decide_eq_true hk
        exact .inl (.inl (.inl ⟨_, _, rfl, rfl, .inr ⟨by omega, by omega⟩, fin⟩))
      · have hk' := of_decide_eq_true hk
        exact .inl (.inl (.inr ⟨_, _, rfl, rfl, hk', fin⟩))
    · exact h.elim
  · rename_i xs k
    unfold mulD at h
    simp only at h
    split at h
    · next hz =>
      cases r2
      obtain ⟨a, vs, rfl, ha, ra⟩ := rep_tup R r1
      have l1 := ra.len
      have fl : ∀ m : Nat, (List.replicate m ([] : List D)).flatten = [] := fun m => by simp
      by_cases he : xs = []
      · subst he
        rw [fl] at h
        have e2 : vs = [] := by cases ra; rfl
        exact .inr (.inr ⟨a, _, vs, rfl, rfl, ha, .inl e2, by omega, by omega, h.now R r1⟩)
      · have hv : vs ≠ [] := fun e => he (by subst e; cases ra; rfl)
        by_cases h1 : k = 1
        · have e3 : (List.replicate k.toNat xs).flatten = xs := by subst h1; simp
          rw [e3] at h
          exact .inr (.inr ⟨a, _, vs, rfl, rfl, ha, .inr h1, by omega, by omega, h.now R r1⟩)
        · by_cases h0 : k ≤ 0
          · have e4 : (List.replicate k.toNat xs).flatten = [] := by rw [show k.toNat = 0 by omega]; rfl
            rw [e4] at h
            exact .inr (.inl ⟨a, _, vs, rfl, rfl, ha, hv, h0, by omega, fun p hp => h.newT R .nil hp⟩)
          · exact .inl (.inr ⟨a, _, vs, rfl, rfl, ha, hv, by omega, by omega, by omega, fun p hp => h.newT R (ra.rep _) hp⟩)
    · exact h.elim
  · exact h.elim
theorem op_repL : OpR X (binaryOp .Mult) (rRepL X.K) := by
  intro pins s σ H x y v u Q I rx ry h
  obtain ⟨l, k, xs, rfl, rfl, hH, h1, h2, hz, q⟩ := h
  cases rx
  obtain ⟨t, rfl⟩ := ry
  obtain ⟨its, r, pl, _⟩ := I.list hH
  obtain ⟨⟨cls, dd, data, sls⟩, n, ho, hc, hdd, hd⟩ := pl
  simp only at hc hdd hd
  subst hc hdd hd
  have hl := r.length
  have hlen : its.toArray.size * k.toNat ≤ sizeLine := by rw [List.size_toArray, ← hl]; exact hz
  have hcap : ¬ its.toArray.size * k.toNat > (2 ^ 63 - 1) / 8 := by
    have : (sizeLine : Nat) ≤ (2 ^ 63 - 1) / 8 := by decide
    omega
  have hfit : ¬ (!Builtin.List.listFitsIndex k) = true := by
    rw [fitsIndex_both h1 h2]
    exact Bool.false_ne_true
  have hlong : ¬ Builtin.List.listTooLong (its.toArray.size * k.toNat) = true := by
    rw [notLongL hlen]
    exact Bool.false_ne_true
  have hnew : List.foldl (fun x1 x2 => x1 ++ x2) #[] (List.replicate (if its.toArray.isEmpty = true then 0 else k.toNat) its.toArray) = (List.replicate k.toNat its).flatten.toArray := by
    have f0 : ∀ m : Nat, List.foldl (fun x1 x2 => x1 ++ x2) #[] (List.replicate m its.toArray) = (List.replicate m its).flatten.toArray := fun m => by
      have := foldl_rep its m []
      rw [List.nil_append] at this
      exact this
    rw [f0]
    cases its with
    | nil => simp
    | cons a r' => rw [if_neg (by simp)]
  refine wpAny_binaryOp_repeat_ref (T := "list") (U := "int") (by decide) ⟨_, ho, rfl⟩ (fun s' => typeIs_int s' k t) noFill_list_mul PySem.F.fills_int_mul PySem.F.slot_int_rmul repeat_list PySem.F.slot_int_index.lookup
    (call_meets PySem.F.slot_int_rmul (typeIs_int s k t) PySem.F.entry_int_rmul (PySem.F.args_int_rmul_2 _ _) (int_rmul_listW k t l its.toArray n none sls)
      ⟨ho, rfl, ⟨_, ho, rfl⟩, call_meets PySem.F.slot_list_mul ⟨_, ho, rfl⟩ PySem.F.entry_list_mul (PySem.F.args_list_mul_2 _ _) (list_mulW l its.toArray n none sls k t hfit hcap hlong) ⟨ho, ?_⟩⟩)
  rw [hnew]
  exact ⟨.ref _, _, I.lnew (t' := s.toks) (r.rep k.toNat) (by rw [PyProof.Rows.lm_len_rep_flat, Nat.mul_comm]; exact hz), rfl, q _ I.fresh⟩
theorem od_mul : OpD X cl W (binaryOp .Mult) mulD := by
  refine ((od_mul0 (X := X) (cl := cl) (W := W)).or op_repL).weak ?_
  rintro x y H Q ⟨ρ, F, S, σ, dx, dy, R, r1, r2, h⟩
  cases dx <;> cases dy <;> first
    | exact .inl ⟨ρ, F, S, σ, _, _, R, r1, r2, h⟩
    | exact h.elim
    | skip
  next xs k =>
    unfold mulD at h
    simp only at h
    split at h
    · next hz =>
      cases r2
      obtain ⟨a, vs, rfl, ha, ra⟩ := rep_list (S := S) (xs := xs) R r1 rfl
      have l1 := ra.len
      exact .inr ⟨a, _, vs, rfl, rfl, ha, by omega, by omega, by rw [l1]; exact hz.2.1, fun p hp => h.newL R (ra.rep _) hp⟩
    · exact h.elim
theorem od_fdiv : OpD X cl W (binaryOp .FloorDiv) fdivD := op_fdivW.weak fun x y H Q ⟨ρ, F, S, σ, dx, dy, R, r1, r2, h⟩ => by
  unfold fdivD at h
  split at h
  · cases r1; cases r2
    split at h
    · next hk =>
      unfold divOk at hk
      rw [Bool.and_eq_true] at hk
      exact ⟨_, _, rfl, rfl, ⟨of_decide_eq_true hk.1, of_decide_eq_true hk.2⟩, h.now R (.int _)⟩
    · exact h.elim
  · exact h.elim
theorem od_mod : OpD X cl W (binaryOp .Mod) modD := op_mod.weak fun x y H Q ⟨ρ, F, S, σ, dx, dy, R, r1, r2, h⟩ => by
  unfold modD at h
  split at h
  · cases r1; cases r2
    split at h
    · next hk => exact ⟨_, _, rfl, rfl, hk, h.now R (.int _)⟩
    · exact h.elim
  · exact h.elim
theorem od_pow : OpD X cl W (binaryOp .Pow) powD := op_pow.weak fun x y H Q ⟨ρ, F, S, σ, dx, dy, R, r1, r2, h⟩ => by
  unfold powD at h
  split at h
  · cases r1; cases r2
    split at h
    · next hk => exact ⟨_, _, rfl, rfl, hk, h.now R (.int _)⟩
    · exact h.elim
  · exact h.elim
/-- x op= e -/
theorem od_iadd : OpD X cl W (inplaceOp .Add) (fun x y S => match x, y with | .int i, .int j => .ok (.int (i + j)) S | _, _ => .bad) := iop_add.weak fun x y H Q ⟨ρ, F, S, σ, dx, dy, R, r1, r2, h⟩ => by
  dsimp only at h
  split at h
  · cases r1; cases r2
    exact ⟨_, _, rfl, rfl, h.now R (.int _)⟩
  · exact h.elim
theorem od_isub : OpD X cl W (inplaceOp .Sub) subD := iop_sub.weak fun x y H Q ⟨ρ, F, S, σ, dx, dy, R, r1, r2, h⟩ => by
  unfold subD at h
  split at h
  · cases r1; cases r2
    exact ⟨_, _, rfl, rfl, h.now R (.int _)⟩
  · exact h.elim
/-! ### the sign ahead -/
def negD : D → Sto → Res D
  | .int i, S => .ok (.int (-i)) S
  | _, _ => .bad
theorem ud_neg : UnR X (unaryOp .USub) (rD1 (cxt X cl) W negD) := un_neg.weak fun x H Q ⟨ρ, F, S, σ, dx, R, r1, h⟩ => by
  unfold negD at h
  split at h
  · cases r1
    exact ⟨_, rfl, h.now R (.int _)⟩
  · exact h.elim
theorem de_neg {A : E} {a : Expr} {pos : Pos} (ha : DE X cl W a A) : DE X cl W (.UnaryOp .USub a pos) (eOp1 negD A) := (pe_un ud_neg ha).imp fun _ _ _ h => tE_op1 h
/-! ### order of whole numbers -/
def ordD (p : Int → Int → Bool) : D → D → Sto → Res D
  | .int i, .int j, S => .ok (.bl (p i j)) S
  | _, _, _ => .bad
abbrev ltD := ordD fun i j => decide (i < j)
abbrev leD := ordD fun i j => decide (i ≤ j)
abbrev gtD := ordD fun i j => decide (j < i)
abbrev geD := ordD fun i j => decide (j ≤ i)
theorem od_ord {op : CmpOp} {p : Int → Int → Bool} (h : OpR X (compareOp op) (rI0 fun i j => .bl (p i j))) : OpD X cl W (compareOp op) (ordD p) := h.weak fun x y H Q ⟨ρ, F, S, σ, dx, dy, R, r1, r2, h⟩ => by
  unfold ordD at h
  split at h
  · cases r1; cases r2
    exact ⟨_, _, rfl, rfl, h.now R (.bl _)⟩
  · exact h.elim
theorem od_lt : OpD X cl W (compareOp .Lt) ltD := od_ord op_lt
theorem od_le : OpD X cl W (compareOp .LtE) leD := od_ord op_le
theorem od_gt : OpD X cl W (compareOp .Gt) gtD := od_ord op_gt
theorem od_ge : OpD X cl W (compareOp .GtE) geD := od_ord op_ge
/-! ### is -/
def isNon : D → Bool
  | .non => true
  | _ => false
def isD : D → D → Sto → Res D
  | x, .non, S => .ok (.bl (isNon x)) S
  | .bl a, .bl b, S => .ok (.bl (decide (a = b))) S
  | _, _, _ => .bad
def isntD : D → D → Sto → Res D
  | x, .non, S => .ok (.bl (!isNon x)) S
  | .bl a, .bl b, S => .ok (.bl (!decide (a = b))) S
  | _, _, _ => .bad
theorem rep_nn {C : Ct} {ρ : List Addr} {F : Hp} {v : V} {d : D} (r : RepD C ρ F v d) : decide (v = .non) = isNon d := by
  cases r <;> simp [isNon]
theorem od_is : OpD X cl W (compareOp .Is) isD := (op_isN.or op_isBl).weak fun x y H Q ⟨ρ, F, S, σ, dx, dy, R, r1, r2, h⟩ => by
  unfold isD at h
  split at h
  · cases r2
    exact .inl ⟨rfl, by rw [rep_nn r1]; exact h.now R (.bl _)⟩
  · cases r1; cases r2
    exact .inr ⟨_, _, rfl, rfl, h.now R (.bl _)⟩
  · exact h.elim
theorem od_isnt : OpD X cl W (compareOp .IsNot) isntD := (op_notN.or op_notBl).weak fun x y H Q ⟨ρ, F, S, σ, dx, dy, R, r1, r2, h⟩ => by
  unfold isntD at h
  split at h
  · cases r2
    exact .inl ⟨rfl, by rw [rep_nn r1]; exact h.now R (.bl _)⟩
  · cases r1; cases r2
    exact .inr ⟨_, _, rfl, rfl, h.now R (.bl _)⟩
  · exact h.elim
end
end DL

/-! DL3: equality at any depth. -/
namespace DL
open PySem PySem.Spec PyProof.Rows L2

/-- data as the abstract heap holds it, no live cell within -/
inductive HD (K : PySem.W.Frag) (H : Hp) : V → D → Prop
  | non : HD K H .non .non
  | bl (b : Bool) : HD K H (.bl b) (.bl b)
  | int (i : Int) : HD K H (.int i) (.int i)
  | str (s : Str) : HD K H (.str s) (.str s)
  | tup {a : Addr} {vs : List V} {xs : List D} : SqT K H a vs → vs.length = xs.length → (∀ (i : Nat) (v : V) (d : D), vs[i]? = some v → xs[i]? = some d → HD K H v d) → HD K H (.ref a) (.tup xs)
  | lst {a : Addr} {vs : List V} {xs : List D} : SqL K H a vs → vs.length = xs.length → (∀ (i : Nat) (v : V) (d : D), vs[i]? = some v → xs[i]? = some d → HD K H v d) → HD K H (.ref a) (.lst xs)

mutual
/-- the live cells' contents put in their places (no cell within a cell) -/
def dr (S : Sto) : D → D
  | .ref n => (match S[n]? with
    | some (.lst xs) => .lst xs
    | _ => .ref n)
  | .tup xs => .tup (drs S xs)
  | .lst xs => .lst (drs S xs)
  | d => d
def drs (S : Sto) : List D → List D
  | [] => []
  | d :: ds => dr S d :: drs S ds
end
mutual
/-- how deep; 1000 where a cell, a dict, an error stands in it -/
def dp : D → Nat
  | .non => 0
  | .bl _ => 0
  | .int _ => 0
  | .str _ => 0
  | .tup xs => dps xs + 1
  | .lst xs => dps xs + 1
  | .dic _ _ => 1000
  | .ref _ => 1000
  | .exc _ => 1000
def dps : List D → Nat
  | [] => 0
  | d :: ds => max (dp d) (dps ds)
end
mutual
def eqD : D → D → Bool
  | .non, .non => true
  | .bl a, .bl b => a == b
  | .bl a, .int j => (if a then 1 else 0) == j
  | .int i, .bl b => i == (if b then 1 else 0)
  | .int i, .int j => i == j
  | .str x, .str y => x == y
  | .tup xs, .tup ys => eqDs xs ys
  | .lst xs, .lst ys => eqDs xs ys
  | _, _ => false
def eqDs : List D → List D → Bool
  | [], [] => true
  | x :: xs, y :: ys => eqD x y && eqDs xs ys
  | _, _ => false
end
mutual
theorem eqD_refl : ∀ d : D, dp d < 1000 → eqD d d = true
  | .non, _ => by unfold eqD; rfl
  | .bl b, _ => by unfold eqD; simp
  | .int i, _ => by unfold eqD; simp
  | .str s, _ => by unfold eqD; simp
  | .tup xs, h => by
    unfold dp at h
    unfold eqD; exact eqDs_refl xs (by omega)
  | .lst xs, h => by
    unfold dp at h
    unfold eqD; exact eqDs_refl xs (by omega)
  | .dic _ _, h => by unfold dp at h; omega
  | .ref _, h => by unfold dp at h; omega
  | .exc _, h => by unfold dp at h; omega
theorem eqDs_refl : ∀ ds : List D, dps ds < 1000 → eqDs ds ds = true
  | [], _ => by unfold eqDs; rfl
  | d :: ds, h => by
    unfold dps at h
    unfold eqDs
    rw [eqD_refl d (by omega), eqDs_refl ds (by omega)]; rfl
end
theorem dps_get : ∀ {ds : List D} {i : Nat} {d : D}, ds[i]? = some d → dp d ≤ dps ds
  | [], i, d, h => by simp at h
  | e :: ds, 0, d, h => by simp at h; subst h; unfold dps; omega
  | e :: ds, i + 1, d, h => by
    have := dps_get (ds := ds) (i := i) (d := d) (by simpa using h)
    unfold dps; omega
theorem eqDs_len : ∀ {xs ys : List D}, xs.length ≠ ys.length → eqDs xs ys = false
  | [], [], h => absurd rfl h
  | [], _ :: _, _ => by unfold eqDs; rfl
  | _ :: _, [], _ => by unfold eqDs; rfl
  | x :: xs, y :: ys, h => by
    unfold eqDs
    rw [eqDs_len (xs := xs) (ys := ys) (fun e => h (by simp [e])), Bool.and_false]
theorem eqDs_range : ∀ (xs ys : List D), xs.length = ys.length → (List.range xs.length).all (fun j => eqD (xs.getD j .non) (ys.getD j .non)) = eqDs xs ys
  | [], [], _ => by unfold eqDs; rfl
  | x :: xs, y :: ys, h => by
    unfold eqDs
    rw [← eqDs_range xs ys (by simpa using h), List.length_cons, List.range_succ_eq_map, List.all_cons, List.all_map]
    rfl
  | [], _ :: _, h => by simp at h
  | _ :: _, [], h => by simp at h

section
variable {C : Ct} {ρ : List Addr} {F H : Hp} {S : Sto}
theorem RepAll.toHD (ih : ∀ (v : V) (d : D), RepD C ρ F v d → dp (dr S d) < 1000 → HD C.K H v (dr S d)) : ∀ {vs : List V} {ds : List D}, RepAll C ρ F vs ds → dps (drs S ds) < 1000 →
    vs.length = (drs S ds).length ∧ ∀ (i : Nat) (v : V) (d : D), vs[i]? = some v → (drs S ds)[i]? = some d → HD C.K H v d
  | _, _, .nil, _ => ⟨by unfold drs; rfl, fun i v d h _ => by simp at h⟩
  | _, _, .cons (v := v) (d := d) (vs := vs) (ds := ds) h t, hd => by
    unfold drs dps at hd
    obtain ⟨h1, h2⟩ := RepAll.toHD ih t (by omega)
    unfold drs
    refine ⟨by simp [h1], fun i v' d' e1 e2 => ?_⟩
    cases i with
    | zero =>
      simp at e1 e2
      subst e1 e2
      exact ih _ _ h (by omega)
    | succ i => exact h2 i v' d' (by simpa using e1) (by simpa using e2)
end
/-- data without cells: as the frozen part holds it -/
theorem rep_HD0 {C : Ct} {ρ : List Addr} {F H : Hp} (hF : Le F H) : ∀ (n : Nat) (v : V) (d : D), sizeOf d < n → RepD C ρ F v d → dp d < 1000 → HD C.K H v d
  | 0, _, _, hn, _, _ => by omega
  | n + 1, v, d, hn, r, hd => by
    cases r with
    | non => exact .non
    | bl b => exact .bl b
    | int i => exact .int i
    | str s => exact .str s
    | @tup a vs xs hq ra =>
      refine .tup (sqT_mono hF hq) ra.len fun i v d e1 e2 => ?_
      obtain ⟨v', e3, r'⟩ := ra.get e2
      rw [e1] at e3; cases e3
      have hs : sizeOf d < sizeOf xs := List.sizeOf_lt_of_mem (List.mem_of_getElem? e2)
      have := dps_get e2
      unfold dp at hd
      exact rep_HD0 hF n v d (by simp at hn; omega) r' (by omega)
    | @lst a vs xs hq ra =>
      refine .lst (sqL_mono hF hq) ra.len fun i v d e1 e2 => ?_
      obtain ⟨v', e3, r'⟩ := ra.get e2
      rw [e1] at e3; cases e3
      have hs : sizeOf d < sizeOf xs := List.sizeOf_lt_of_mem (List.mem_of_getElem? e2)
      have := dps_get e2
      unfold dp at hd
      exact rep_HD0 hF n v d (by simp at hn; omega) r' (by omega)
    | dicK => unfold dp at hd; omega
    | dicT => unfold dp at hd; omega
    | exc => unfold dp at hd; omega
    | ref => unfold dp at hd; omega
theorem rep_HD {C : Ct} {ρ : List Addr} {F H : Hp} {S : Sto} (R : Rel C ρ F S H) : ∀ (n : Nat) (v : V) (d : D), sizeOf d < n → RepD C ρ F v d → dp (dr S d) < 1000 → HD C.K H v (dr S d)
  | 0, _, _, hn, _, _ => by omega
  | n + 1, v, d, hn, r, hd => by
    cases r with
    | non => unfold dr; exact .non
    | bl b => unfold dr; exact .bl b
    | int i => unfold dr; exact .int i
    | str s => unfold dr; exact .str s
    | @tup a vs xs hq ra =>
      unfold dr at hd ⊢
      unfold dp at hd
      have : vs.length = (drs S xs).length ∧ ∀ (i : Nat) (v : V) (d : D), vs[i]? = some v → (drs S xs)[i]? = some d → HD C.K H v d := by
        have hs : sizeOf xs < n := by simp at hn; omega
        clear hn hq
        induction xs generalizing vs with
        | nil => cases ra; exact ⟨by unfold drs; rfl, fun i v d h _ => by simp at h⟩
        | cons x xs ih =>
          cases ra with
          | cons h t =>
            unfold drs dps at hd
            obtain ⟨h1, h2⟩ := ih t (by omega) (by simp at hs; omega)
            unfold drs
            refine ⟨by simp [h1], fun i v' d' e1 e2 => ?_⟩
            cases i with
            | zero =>
              simp at e1 e2
              subst e1 e2
              exact rep_HD R n _ _ (by simp at hs; omega) h (by omega)
            | succ i => exact h2 i v' d' (by simpa using e1) (by simpa using e2)
      exact .tup (sqT_mono R.fz hq) this.1 this.2
    | @lst a vs xs hq ra =>
      unfold dr at hd ⊢
      unfold dp at hd
      have : vs.length = (drs S xs).length ∧ ∀ (i : Nat) (v : V) (d : D), vs[i]? = some v → (drs S xs)[i]? = some d → HD C.K H v d := by
        have hs : sizeOf xs < n := by simp at hn; omega
        clear hn hq
        induction xs generalizing vs with
        | nil => cases ra; exact ⟨by unfold drs; rfl, fun i v d h _ => by simp at h⟩
        | cons x xs ih =>
          cases ra with
          | cons h t =>
            unfold drs dps at hd
            obtain ⟨h1, h2⟩ := ih t (by omega) (by simp at hs; omega)
            unfold drs
            refine ⟨by simp [h1], fun i v' d' e1 e2 => ?_⟩
            cases i with
            | zero =>
              simp at e1 e2
              subst e1 e2
              exact rep_HD R n _ _ (by simp at hs; omega) h (by omega)
            | succ i => exact h2 i v' d' (by simpa using e1) (by simpa using e2)
      exact .lst (sqL_mono R.fz hq) this.1 this.2
    | dicK => unfold dr dp at hd; omega
    | dicT => unfold dr dp at hd; omega
    | exc => unfold dr dp at hd; omega
    | @ref a m e =>
      cases hS : S[m]? with
      | none => simp [dr, hS, dp] at hd
      | some c =>
        cases c with
        | lst xs =>
          have e2 : dr S (.ref m) = .lst xs := by simp [dr, hS]
          rw [e2] at hd ⊢
          obtain ⟨vs, hv, ra⟩ := R.cell m a _ e hS
          unfold dp at hd
          refine .lst (SqL.of hv) ra.len fun i v d e1 e2 => ?_
          obtain ⟨v', e3, r'⟩ := ra.get e2
          rw [e1] at e3; cases e3
          have := dps_get e2
          exact rep_HD0 R.fz _ v d (Nat.lt_succ_self _) r' (by omega)
        | _ => simp [dr, hS, dp] at hd

theorem ext3 {vs : List V} {xs ys : List D} (hl : vs.length = xs.length) (hl' : vs.length = ys.length) (h : ∀ (i : Nat) (v : V) (d e : D), vs[i]? = some v → xs[i]? = some d → ys[i]? = some e → d = e) : xs = ys := by
  refine List.ext_getElem (by omega) fun i h1 h2 => ?_
  exact h i (vs[i]'(by omega)) _ _ (List.getElem?_eq_getElem _) (List.getElem?_eq_getElem _) (List.getElem?_eq_getElem _)
section
variable {X : Cx} {pins : List (Addr × Obj)} {σ : L2.St} {H : Hp} {s : Shared}
theorem Inv.sqL_inj (I : Inv X pins σ H s) {a : Addr} {vs ws : List V} (h : SqL X.K H a vs) (h' : SqL X.K H a ws) : vs = ws := by
  obtain ⟨its, r, ⟨o, n, ho, _, _, hd⟩, _⟩ := I.list h
  obtain ⟨its', r', ⟨o', n', ho', _, _, hd'⟩, _⟩ := I.list h'
  rw [ho] at ho'; cases ho'
  rw [hd] at hd'
  injection hd' with e _
  have : its = its' := by simpa using e
  subst this
  exact r.inj r'
theorem Inv.sqT_inj (I : Inv X pins σ H s) {a : Addr} {vs ws : List V} (h : SqT X.K H a vs) (h' : SqT X.K H a ws) : vs = ws := by
  obtain ⟨its, r, ⟨o, ho, _, n, hd⟩, _⟩ := I.tuple h
  obtain ⟨its', r', ⟨o', ho', _, n', hd'⟩, _⟩ := I.tuple h'
  rw [ho] at ho'; cases ho'
  rw [hd] at hd'
  injection hd' with e _
  have : its = its' := by simpa using e
  subst this
  exact r.inj r'
theorem Inv.sq_apart (I : Inv X pins σ H s) {a : Addr} {vs ws : List V} (h : SqL X.K H a vs) (h' : SqT X.K H a ws) : False := by
  obtain ⟨its, r, ⟨o, n, ho, hc, _, hd⟩, _⟩ := I.list h
  obtain ⟨its', r', ⟨o', ho', hc', n', hd'⟩, _⟩ := I.tuple h'
  rw [ho] at ho'; cases ho'
  rw [hc] at hc'
  exact absurd hc' (by decide)
theorem HD.inj (I : Inv X pins σ H s) {v : V} {d : D} (h : HD X.K H v d) : ∀ {e : D}, HD X.K H v e → d = e := by
  induction h with
  | non => intro e h; cases h; rfl
  | bl b => intro e h; cases h; rfl
  | int i => intro e h; cases h; rfl
  | str s => intro e h; cases h; rfl
  | tup hq hl _ ih =>
    intro e h
    cases h with
    | tup hq' hl' h' =>
      have := Inv.sqT_inj I hq hq'
      subst this
      rw [ext3 hl hl' fun i v d e e1 e2 e3 => ih i v d e1 e2 (h' i v e e1 e3)]
    | lst hq' => exact (Inv.sq_apart I hq' hq).elim
  | lst hq hl _ ih =>
    intro e h
    cases h with
    | lst hq' hl' h' =>
      have := Inv.sqL_inj I hq hq'
      subst this
      rw [ext3 hl hl' fun i v d e e1 e2 e3 => ih i v d e1 e2 (h' i v e e1 e3)]
    | tup hq' => exact (Inv.sq_apart I hq hq').elim
end
end DL

/-! DL3b: == of two data, as the machine does it. -/
namespace DL
open PySem PySem.Spec PyProof.Rows L2

theorem eqD_tup (xs ys : List D) : eqD (.tup xs) (.tup ys) = eqDs xs ys := by unfold eqD; rfl
theorem eqD_lst (xs ys : List D) : eqD (.lst xs) (.lst ys) = eqDs xs ys := by unfold eqD; rfl
def RcIn (prog : Program) (w : World) (A : Around) (s : Shared) (y x : Value) (b : Bool) : Prop :=
  ∀ (E : Value → Shared → Prop) (Q : Value → Shared → Prop), Q (.bool b) s → wpAny (model prog w) A (richCompare .Eq y x) Q E s
theorem ofAt {prog : Program} {w : World} {A : Around} {s : Shared} {y x : Value} {b : Bool} (h1 : SeqAt.EqAt A s y x b) (h2 : SeqAt.RcAt A s y x b) : SeqAt.EqIn prog w A s y x b ∧ RcIn prog w A s y x b :=
  ⟨h1.inModel prog w, fun E Q q => h2 prog w E Q q⟩
section
variable {X : Cx} {pins : List (Addr × Obj)} {σ : L2.St} {H : Hp} {s : Shared}
theorem eq_both (I : Inv X pins σ H s) {v : V} {d : D} (h : HD X.K H v d) : ∀ {y : V} {e : D} {u u' : Value} {A : Around}, HD X.K H y e → RelV v u → RelV y u' → dp d < 1000 → A.units + dp d < cLine →
    SeqAt.EqIn X.prog X.w A s u u' (eqD d e) ∧ RcIn X.prog X.w A s u u' (eqD d e) := by
  induction h with
  | non =>
    intro y e u u' A he ru ru' hd hu
    cases ru
    unfold dp at hu
    cases he with
    | non => cases ru'; unfold eqD; exact ⟨(SeqAt.EqAt.same _).inModel _ _, fun E Q q => SeqAt.RcAt.none_none _ _ E Q q⟩
    | bl b => cases ru'; unfold eqD; exact ofAt (.none_bool b) (.none_bool b)
    | int i => obtain ⟨t, rfl⟩ := ru'; unfold eqD; exact ofAt (.none_int i t) (.none_int i t)
    | str z => obtain ⟨t, rfl⟩ := ru'; unfold eqD; exact ofAt (.none_str z t) (.none_str z t)
    | tup hq => cases ru'; obtain ⟨its, _, p, _⟩ := I.tuple hq; unfold eqD; exact ofAt (.none_tuple p (by omega)) (.none_tuple p (by omega))
    | lst hq => cases ru'; obtain ⟨its, _, p, _⟩ := I.list hq; unfold eqD; exact ofAt (.none_list p.isList (by omega)) (.none_list p.isList (by omega))
  | bl a =>
    intro y e u u' A he ru ru' hd hu
    cases ru
    unfold dp at hu
    cases he with
    | non => cases ru'; unfold eqD; exact ofAt (.bool_none a) (.bool_none a)
    | bl b => cases ru'; unfold eqD; exact ofAt (.bool_bool a b) (.bool_bool a b)
    | int i => obtain ⟨t, rfl⟩ := ru'; unfold eqD; exact ofAt (.bool_int a i t) (.bool_int a i t)
    | str z => obtain ⟨t, rfl⟩ := ru'; unfold eqD; exact ofAt (.bool_str a z t) (.bool_str a z t)
    | tup hq => cases ru'; obtain ⟨its, _, p, _⟩ := I.tuple hq; unfold eqD; exact ofAt (.bool_tuple a p (by omega)) (.bool_tuple a p (by omega))
    | lst hq => cases ru'; obtain ⟨its, _, p, _⟩ := I.list hq; unfold eqD; exact ofAt (.bool_list a p.isList (by omega)) (.bool_list a p.isList (by omega))
  | int a =>
    intro y e u u' A he ru ru' hd hu
    obtain ⟨ta, rfl⟩ := ru
    unfold dp at hu
    cases he with
    | non => cases ru'; unfold eqD; exact ofAt (.int_none a ta) (.int_none a ta)
    | bl b => cases ru'; unfold eqD; exact ofAt (.int_bool a ta b) (.int_bool a ta b)
    | int i => obtain ⟨t, rfl⟩ := ru'; unfold eqD; exact ofAt (.int_int a ta i t) (.int_int a ta i t)
    | str z => obtain ⟨t, rfl⟩ := ru'; unfold eqD; exact ofAt (.int_str a ta z t) (.int_str a ta z t)
    | tup hq => cases ru'; obtain ⟨its, _, p, _⟩ := I.tuple hq; unfold eqD; exact ofAt (.int_tuple a ta p (by omega)) (.int_tuple a ta p (by omega))
    | lst hq => cases ru'; obtain ⟨its, _, p, _⟩ := I.list hq; unfold eqD; exact ofAt (.int_list a ta p.isList (by omega)) (.int_list a ta p.isList (by omega))
  | str a =>
    intro y e u u' A he ru ru' hd hu
    obtain ⟨ta, rfl⟩ := ru
    unfold dp at hu
    cases he with
    | non => cases ru'; unfold eqD; exact ofAt (.str_none a ta) (.str_none a ta)
    | bl b => cases ru'; unfold eqD; exact ofAt (.str_bool a ta b) (.str_bool a ta b)
    | int i => obtain ⟨t, rfl⟩ := ru'; unfold eqD; exact ofAt (.str_int a ta i t) (.str_int a ta i t)
    | str z => obtain ⟨t, rfl⟩ := ru'; unfold eqD; exact ofAt (.str_str a ta z t) (.str_str a ta z t)
    | tup hq => cases ru'; obtain ⟨its, _, p, _⟩ := I.tuple hq; unfold eqD; exact ofAt (.str_tuple a ta p (by omega)) (.str_tuple a ta p (by omega))
    | lst hq => cases ru'; obtain ⟨its, _, p, _⟩ := I.list hq; unfold eqD; exact ofAt (.str_list a ta p.isList (by omega)) (.str_list a ta p.isList (by omega))
  | @tup a vs xs hq hl hx ih =>
    intro y e u u' A he ru ru' hd hu
    cases ru
    obtain ⟨its, ri, p, _⟩ := I.tuple hq
    unfold dp at hd hu
    have hun : A.units < cLine := by omega
    cases he with
    | non => cases ru'; unfold eqD; exact ofAt (.tuple_none p hun) (.tuple_none p hun)
    | bl b => cases ru'; unfold eqD; exact ofAt (.tuple_bool b p hun) (.tuple_bool b p hun)
    | int i => obtain ⟨t, rfl⟩ := ru'; unfold eqD; exact ofAt (.tuple_int i t p hun) (.tuple_int i t p hun)
    | str z => obtain ⟨t, rfl⟩ := ru'; unfold eqD; exact ofAt (.tuple_str z t p hun) (.tuple_str z t p hun)
    | lst hq' => cases ru'; obtain ⟨its', _, p', _⟩ := I.list hq'; unfold eqD; exact ofAt (.tuple_list p p'.isList hun) (.tuple_list p p'.isList hun)
    | @tup b ws ys hq' hl' hy =>
      cases ru'
      obtain ⟨its', ri', p', _⟩ := I.tuple hq'
      have l1 := ri.length
      have l2 := ri'.length
      have rc : RcIn X.prog X.w A s (.ref a) (.ref b) (eqD (.tup xs) (.tup ys)) := fun E Q q => by
        refine SeqAt.rcIn_tuples (e := fun j => eqD (xs.getD j .non) (ys.getD j .non)) p p' hun (fun j h1 h2 => ?_) ?_
        · have j1 : j < vs.length := by simpa [l1] using h1
          have j2 : j < ws.length := by simpa [l2] using h2
          obtain ⟨uj, e1, r1⟩ := ri.get (List.getElem?_eq_getElem j1)
          obtain ⟨uj', e2, r2⟩ := ri'.get (List.getElem?_eq_getElem j2)
          have g1 : its.toArray[j] = uj := by
            have : its[j]? = some its.toArray[j] := by simp
            rw [this] at e1; exact Option.some.inj e1
          have g2 : its'.toArray[j] = uj' := by
            have : its'[j]? = some its'.toArray[j] := by simp
            rw [this] at e2; exact Option.some.inj e2
          have d1 : xs[j]? = some (xs.getD j .non) := by rw [List.getD_eq_getElem?_getD, List.getElem?_eq_getElem (hl ▸ j1)]; rfl
          have d2 : ys[j]? = some (ys.getD j .non) := by rw [List.getD_eq_getElem?_getD, List.getElem?_eq_getElem (hl' ▸ j2)]; rfl
          have hd1 := dps_get d1
          rw [g1, g2]
          exact (ih j _ _ (List.getElem?_eq_getElem j1) d1 (A := A.in1) (hy j _ _ (List.getElem?_eq_getElem j2) d2) r1 r2 (by omega) (by show A.units + 1 + _ < cLine; omega)).1
        · have e3 : ((List.range (min its.toArray.size its'.toArray.size)).all (fun j => eqD (xs.getD j .non) (ys.getD j .non)) && its.toArray.size == its'.toArray.size) = eqD (.tup xs) (.tup ys) := by
            rw [eqD_tup]
            have s1 : its.toArray.size = xs.length := by simp; omega
            have s2 : its'.toArray.size = ys.length := by simp; omega
            rw [s1, s2]
            by_cases hxy : xs.length = ys.length
            · rw [← eqDs_range xs ys hxy, hxy, Nat.min_self, beq_self_eq_true, Bool.and_true]
            · rw [eqDs_len hxy, beq_false_of_ne hxy, Bool.and_false]
          rw [e3]; exact q
      refine ⟨?_, rc⟩
      by_cases hab : a = b
      · subst hab
        have hxy := HD.inj I (HD.tup hq hl hx) (HD.tup hq' hl' hy)
        rw [← hxy, eqD_refl _ (by unfold dp; omega)]
        exact (SeqAt.EqAt.same _).inModel _ _
      · exact SeqAt.EqIn.of_refs hab rc
  | @lst a vs xs hq hl hx ih =>
    intro y e u u' A he ru ru' hd hu
    cases ru
    obtain ⟨its, ri, pl, _⟩ := I.list hq
    have p := pl.isList
    unfold dp at hd hu
    have hun : A.units < cLine := by omega
    cases he with
    | non => cases ru'; unfold eqD; exact ofAt (.list_none p hun) (.list_none p hun)
    | bl b => cases ru'; unfold eqD; exact ofAt (.list_bool b p hun) (.list_bool b p hun)
    | int i => obtain ⟨t, rfl⟩ := ru'; unfold eqD; exact ofAt (.list_int i t p hun) (.list_int i t p hun)
    | str z => obtain ⟨t, rfl⟩ := ru'; unfold eqD; exact ofAt (.list_str z t p hun) (.list_str z t p hun)
    | tup hq' => cases ru'; obtain ⟨its', _, p', _⟩ := I.tuple hq'; unfold eqD; exact ofAt (.list_tuple p p' hun) (.list_tuple p p' hun)
    | @lst b ws ys hq' hl' hy =>
      cases ru'
      obtain ⟨its', ri', pl', _⟩ := I.list hq'
      have p' := pl'.isList
      have l1 := ri.length
      have l2 := ri'.length
      have rc : RcIn X.prog X.w A s (.ref a) (.ref b) (eqD (.lst xs) (.lst ys)) := fun E Q q => by
        have s1 : its.toArray.size = xs.length := by simp; omega
        have s2 : its'.toArray.size = ys.length := by simp; omega
        by_cases hxy : xs.length = ys.length
        · refine SeqAt.rcIn_lists (e := fun j => eqD (xs.getD j .non) (ys.getD j .non)) p p' (by omega) hun (fun j h1 h2 => ?_) ?_
          · have j1 : j < vs.length := by simpa [l1] using h1
            have j2 : j < ws.length := by simpa [l2] using h2
            obtain ⟨uj, e1, r1⟩ := ri.get (List.getElem?_eq_getElem j1)
            obtain ⟨uj', e2, r2⟩ := ri'.get (List.getElem?_eq_getElem j2)
            have g1 : its.toArray[j] = uj := by
              have : its[j]? = some its.toArray[j] := by simp
              rw [this] at e1; exact Option.some.inj e1
            have g2 : its'.toArray[j] = uj' := by
              have : its'[j]? = some its'.toArray[j] := by simp
              rw [this] at e2; exact Option.some.inj e2
            have d1 : xs[j]? = some (xs.getD j .non) := by rw [List.getD_eq_getElem?_getD, List.getElem?_eq_getElem (hl ▸ j1)]; rfl
            have d2 : ys[j]? = some (ys.getD j .non) := by rw [List.getD_eq_getElem?_getD, List.getElem?_eq_getElem (hl' ▸ j2)]; rfl
            have hd1 := dps_get d1
            rw [g1, g2]
            exact (ih j _ _ (List.getElem?_eq_getElem j1) d1 (A := A.in1) (hy j _ _ (List.getElem?_eq_getElem j2) d2) r1 r2 (by omega) (by show A.units + 1 + _ < cLine; omega)).1
          · have e3 : ((List.range its.toArray.size).all (fun j => eqD (xs.getD j .non) (ys.getD j .non))) = eqD (.lst xs) (.lst ys) := by
              rw [eqD_lst, s1, eqDs_range xs ys hxy]
            rw [e3]; exact q
        · have e3 : eqD (.lst xs) (.lst ys) = false := by rw [eqD_lst]; exact eqDs_len hxy
          rw [e3] at q
          exact SeqAt.RcAt.lists_lengths p p' (by rw [s1, s2]; simpa using hxy) hun _ _ E Q q
      refine ⟨?_, rc⟩
      by_cases hab : a = b
      · subst hab
        have hxy := HD.inj I (HD.lst hq hl hx) (HD.lst hq' hl' hy)
        rw [← hxy, eqD_refl _ (by unfold dp; omega)]
        exact (SeqAt.EqAt.same _).inModel _ _
      · exact SeqAt.EqIn.of_refs hab rc
end
end DL

/-! DL4: tests, argument lists, displays, statements. -/
namespace DL
open PySem PySem.Spec PyProof.Rows L2

/-! ### a step on with a test, with an argument list -/
section
variable {C : Ct} {W : WX} {A : E} {c : T} {As' : As}
def satX {α : Type} (C : Ct) (W : WX) (ρ : List Addr) (F : Hp) (σ : L2.St) (r : Res α) (ok : α → Sto → Prop) : Prop := match r with
  | .ok d S' => ok d S'
  | .exc x S' => ∀ ρ' F' H' (dd : Unit), Rel C ρ' F' S' H' → ρ <+: ρ' → Le F F' → W (.ref (C.cl x)) none σ H'
  | .bad => False
theorem tE_stepX {σ : L2.St} {H : Hp} {l : Loc} {S : Sto} {ρ : List Addr} {F : Hp} {ok : D → Sto → Prop} (hl : LRel C ρ F σ l) (R : Rel C ρ F S H) (h : satX C W ρ F σ (A l S) ok) {Q1 : VK}
    (hk : ∀ d S1 ρ1 F1 H1 v, Rel C ρ1 F1 S1 H1 → LRel C ρ1 F1 σ l → RepD C ρ1 F1 v d → ρ <+: ρ1 → Le F F1 → ok d S1 → Q1 v H1) : tE C W A σ H Q1 := by
  refine ⟨l, S, ρ, F, hl, R, ?_⟩
  cases e : A l S with
  | ok d S1 => rw [e] at h; exact fun ρ1 F1 H1 v R1 p1 f1 r1 => hk d S1 ρ1 F1 H1 v R1 (hl.mono p1 f1) r1 p1 f1 h
  | exc x S1 => rw [e] at h; exact h
  | bad => rw [e] at h; exact h
theorem tT_stepX {σ : L2.St} {H : Hp} {l : Loc} {S : Sto} {ρ : List Addr} {F : Hp} {ok : Bool → Sto → Prop} (hl : LRel C ρ F σ l) (R : Rel C ρ F S H) (h : satX C W ρ F σ (c l S) ok) {Q1 : Bool → Hp → Prop}
    (hk : ∀ d S1 ρ1 F1 H1, Rel C ρ1 F1 S1 H1 → LRel C ρ1 F1 σ l → ρ <+: ρ1 → Le F F1 → ok d S1 → Q1 d H1) : tT C W c σ H Q1 := by
  refine ⟨l, S, ρ, F, hl, R, ?_⟩
  cases e : c l S with
  | ok d S1 => rw [e] at h; exact fun ρ1 F1 H1 R1 p1 f1 => hk d S1 ρ1 F1 H1 R1 (hl.mono p1 f1) p1 f1 h
  | exc x S1 => rw [e] at h; exact h
  | bad => rw [e] at h; exact h
theorem tA_stepX {σ : L2.St} {H : Hp} {l : Loc} {S : Sto} {ρ : List Addr} {F : Hp} {ok : List D → Sto → Prop} (hl : LRel C ρ F σ l) (R : Rel C ρ F S H) (h : satX C W ρ F σ (As' l S) ok) {Q1 : List V → Hp → Prop}
    (hk : ∀ ds S1 ρ1 F1 H1 vs, Rel C ρ1 F1 S1 H1 → LRel C ρ1 F1 σ l → RepAll C ρ1 F1 vs ds → ρ <+: ρ1 → Le F F1 → ok ds S1 → Q1 vs H1) : tAs C W As' σ H Q1 := by
  refine ⟨l, S, ρ, F, hl, R, ?_⟩
  cases e : As' l S with
  | ok d S1 => rw [e] at h; exact fun ρ1 F1 H1 v R1 p1 f1 r1 => hk d S1 ρ1 F1 H1 v R1 (hl.mono p1 f1) r1 p1 f1 h
  | exc x S1 => rw [e] at h; exact h
  | bad => rw [e] at h; exact h
section
variable {α : Type} {ρ : List Addr} {F : Hp} {σ : L2.St} {r : Res α}
theorem satE.x {k : α → Sto → Res D} {Q : VK} (h : satE C W ρ F σ (r.bind k) Q) : satX C W ρ F σ r fun d S => satE C W ρ F σ (k d S) Q := by
  cases r <;> exact h
theorem satT.x {k : α → Sto → Res Bool} {Q : Bool → Hp → Prop} (h : satT C W ρ F σ (r.bind k) Q) : satX C W ρ F σ r fun d S => satT C W ρ F σ (k d S) Q := by
  cases r <;> exact h
theorem satA.x {k : α → Sto → Res (List D)} {Q : List V → Hp → Prop} (h : satA C W ρ F σ (r.bind k) Q) : satX C W ρ F σ r fun d S => satA C W ρ F σ (k d S) Q := by
  cases r <;> exact h
/-- a statement's step: an exception keeps the locals -/
def _root_.DL.Res.toS (r : Res α) (l : Loc) (k : α → Sto → Out) : Out := match r with
  | .ok d S => k d S
  | .exc x S => .exc x l S
  | .bad => .bad
theorem satS.x {l : Loc} {k : α → Sto → Out} {D : Ends} (hl : LRel C ρ F σ l) (h : satS C W ρ F (r.toS l k) D) : satX C W ρ F σ r fun d S => satS C W ρ F (k d S) D := by
  cases r with
  | ok d S => exact h
  | exc x S => exact fun ρ' F' H' dd R p f => h ρ' F' H' σ dd R p f (hl.mono p f)
  | bad => exact h
theorem satE.nowS {S : Sto} {H : Hp} {d : D} {v : V} {Q : VK} (h : satE C W ρ F σ (.ok d S) Q) (R : Rel C ρ F S H) (rd : RepD C ρ F v d) : Q v H := h ρ F H v R (List.prefix_refl _) (Le.refl _) rd
theorem satT.now {S : Sto} {H : Hp} {b : Bool} {Q : Bool → Hp → Prop} (h : satT C W ρ F σ (.ok b S) Q) (R : Rel C ρ F S H) : Q b H := h ρ F H R (List.prefix_refl _) (Le.refl _)
theorem satA.now {S : Sto} {H : Hp} {ds : List D} {vs : List V} {Q : List V → Hp → Prop} (h : satA C W ρ F σ (.ok ds S) Q) (R : Rel C ρ F S H) (rd : RepAll C ρ F vs ds) : Q vs H := h ρ F H vs R (List.prefix_refl _) (Le.refl _) rd
end
end

/-! ### tests -/
def isBl : D → Sto → Res Bool
  | .bl b, S => .ok b S
  | _, _ => .bad
/-- truth of a value -/
def truD : D → Sto → Res Bool
  | .non, S => .ok false S
  | .bl b, S => .ok b S
  | .int i, S => .ok (i != 0) S
  | .str s, S => if s.length ≤ sizeLine then .ok ((s.length : Int) != 0) S else .bad
  | .tup xs, S => .ok (!xs.isEmpty) S
  | d, S => match listOf S d with
    | some xs => .ok (!xs.isEmpty) S
    | none => .bad
def tVal (A : E) : T := fun l S => (A l S).bind isBl
def tTruth (A : E) : T := fun l S => (A l S).bind truD
def tAndD (a b : T) : T := fun l S => (a l S).bind fun c S1 => if c = true then b l S1 else .ok false S1
def tOrD (a b : T) : T := fun l S => (a l S).bind fun c S1 => if c = true then .ok true S1 else b l S1
def tNotD (a : T) : T := fun l S => (a l S).bind fun c S1 => .ok (!c) S1
def eAnd (a b : E) : E := fun l S => (a l S).bind fun d S1 => (isBl d S1).bind fun c S2 => if c = true then b l S2 else .ok (.bl false) S2
def eOr (a b : E) : E := fun l S => (a l S).bind fun d S1 => (isBl d S1).bind fun c S2 => if c = true then .ok (.bl true) S2 else b l S2
def eNot (a : E) : E := fun l S => (a l S).bind fun d S1 => (truD d S1).bind fun c S2 => .ok (.bl (!c)) S2
def eIf (c : T) (a b : E) : E := fun l S => (c l S).bind fun k S1 => if k = true then a l S1 else b l S1
section
variable {C : Ct} {W : WX} {ρ : List Addr} {F H : Hp} {S S' : Sto} {v : V} {d : D} {b : Bool}
theorem RepAll.isEmpty {vs : List V} {ds : List D} (r : RepAll C ρ F vs ds) : vs.isEmpty = ds.isEmpty := by cases r <;> rfl
theorem isBl_cases (d : D) (S : Sto) : (∃ b, d = .bl b ∧ isBl d S = .ok b S) ∨ isBl d S = .bad := by
  cases d <;> first
    | exact .inl ⟨_, rfl, rfl⟩
    | exact .inr rfl
theorem rep_tru (R : Rel C ρ F S H) (r : RepD C ρ F v d) (e : truD d S = .ok b S') : TruV C.K v H b ∧ S' = S := by
  unfold truD at e
  split at e
  · cases r; injection e with e1 e2; subst e1 e2; exact ⟨rfl, rfl⟩
  · cases r; injection e with e1 e2; subst e1 e2; exact ⟨rfl, rfl⟩
  · cases r; injection e with e1 e2; subst e1 e2; exact ⟨rfl, rfl⟩
  · cases r
    split at e
    · next hz => injection e with e1 e2; subst e1 e2; exact ⟨⟨hz, rfl⟩, rfl⟩
    · exact nomatch e
  · obtain ⟨a, vs, rfl, hq, ra⟩ := rep_tup R r
    injection e with e1 e2; subst e1 e2
    exact ⟨.inr (.inl ⟨vs, hq, by rw [ra.isEmpty]⟩), rfl⟩
  · split at e
    · next xs hx =>
      obtain ⟨a, vs, rfl, hq, ra⟩ := rep_list R r hx
      injection e with e1 e2; subst e1 e2
      exact ⟨.inl ⟨vs, hq, by rw [ra.isEmpty]⟩, rfl⟩
    · exact nomatch e
theorem truD_noexc {x : Nat} (e : truD d S = .exc x S') : False := by
  unfold truD at e
  split at e
  · cases e
  · cases e
  · cases e
  · split at e <;> cases e
  · cases e
  · split at e <;> cases e
end
section
variable {X : Cx} {cl : Nat → Addr} {W : WX} {A B : E} {c t u : T} {a b e : Expr} {pos : Pos} {rest : List Expr}
theorem tB_of {σ : L2.St} {H : Hp} {Q : Bool → Hp → Prop} (h : tT (cxt X cl) W (tVal A) σ H Q) : tE (cxt X cl) W A σ H fun x H1 => ∃ k, x = .bl k ∧ Q k H1 := by
  obtain ⟨l, S, ρ, F, hl, R, h⟩ := h
  refine tE_stepX hl R (satT.x h) fun d S1 ρ1 F1 H1 v R1 hl1 r1 p1 f1 h1 => ?_
  rcases isBl_cases d S1 with ⟨k, rfl, e⟩ | e
  · rw [e] at h1
    cases r1
    exact ⟨k, rfl, (h1.mono p1 f1).now R1⟩
  · rw [e] at h1; exact h1.elim
theorem dt_cmp {op : CmpOp} {g : D → D → Sto → Res D} (ho : OpD X cl W (compareOp op) g) (ha : DE X cl W a A) (hb : DE X cl W b B) (hm : behindInMarks op b = false := by first | exact nobehind _ (by decide) (by decide) | rfl) :
    DT X cl W (.Compare a [op] [b] pos) (tVal (eOp2 g A B)) := (pt_cmpR ho ha hb hm).imp fun σ H Q h => by
  obtain ⟨l, S, ρ, F, hl, R, h⟩ := h
  have := tB_of (X := X) (cl := cl) (W := W) (A := eOp2 g A B) ⟨l, S, ρ, F, hl, R, h⟩
  exact tE_op2 this
theorem dt_val (h : DE X cl W e A) (he : ∀ whole, isTrue e X.env whole = (do let v ← whole; standAt e.pos; holding [v] (truthy v)) := by intro _; rfl) : DT X cl W e (tVal A) := (pt_val h he).imp fun _ _ _ q => tB_of q
theorem dt_truth (h : DE X cl W e A) (he : ∀ whole, isTrue e X.env whole = (do let v ← whole; standAt e.pos; holding [v] (truthy v)) := by intro _; rfl) : DT X cl W e (tTruth A) := (pt_truth h he).imp fun σ H Q h => by
  obtain ⟨l, S, ρ, F, hl, R, h⟩ := h
  refine tE_stepX hl R (satT.x h) fun d S1 ρ1 F1 H1 v R1 hl1 r1 p1 f1 h1 => ?_
  cases e : truD d S1 with
  | ok k S2 =>
    rw [e] at h1
    obtain ⟨q, rfl⟩ := rep_tru R1 r1 e
    exact ⟨k, q, (h1.mono p1 f1).now R1⟩
  | exc x S2 => exact (truD_noexc e).elim
  | bad => rw [e] at h1; exact h1.elim
theorem dw_and1 (h : DT X cl W a c) : DW X cl W (.BoolOp .And [a] pos) c := pw_and1 h
theorem dw_or1 (h : DT X cl W a c) : DW X cl W (.BoolOp .Or [a] pos) c := pw_or1 h
theorem dw_and (ha : DT X cl W a t) (hb : DW X cl W (.BoolOp .And (b :: rest) pos) u) : DW X cl W (.BoolOp .And (a :: b :: rest) pos) (tAndD t u) := (pw_and ha hb).imp fun σ H Q ⟨l, S, ρ, F, hl, R, h⟩ => by
  refine tT_stepX hl R (satT.x h) fun d S1 ρ1 F1 H1 R1 hl1 p1 f1 h1 => ?_
  have h2 := h1.mono p1 f1
  cases d with
  | true => rw [if_pos rfl] at h2 ⊢; exact ⟨l, S1, ρ1, F1, hl1, R1, h2⟩
  | false => rw [if_neg Bool.false_ne_true] at h2 ⊢; exact h2.now R1
theorem dw_or (ha : DT X cl W a t) (hb : DW X cl W (.BoolOp .Or (b :: rest) pos) u) : DW X cl W (.BoolOp .Or (a :: b :: rest) pos) (tOrD t u) := (pw_or ha hb).imp fun σ H Q ⟨l, S, ρ, F, hl, R, h⟩ => by
  refine tT_stepX hl R (satT.x h) fun d S1 ρ1 F1 H1 R1 hl1 p1 f1 h1 => ?_
  have h2 := h1.mono p1 f1
  cases d with
  | true => rw [if_pos rfl] at h2 ⊢; exact h2.now R1
  | false => rw [if_neg Bool.false_ne_true] at h2 ⊢; exact ⟨l, S1, ρ1, F1, hl1, R1, h2⟩
theorem dt_w (h : DW X cl W e c) : DT X cl W e c := PW.pt h
theorem dt_not (ha : DT X cl W a t) : DT X cl W (.UnaryOp .Not a pos) (tNotD t) := (pt_not ha).imp fun σ H Q ⟨l, S, ρ, F, hl, R, h⟩ => by
  refine tT_stepX hl R (satT.x h) fun d S1 ρ1 F1 H1 R1 hl1 p1 f1 h1 => ?_
  exact (h1.mono p1 f1).now R1
theorem de_one {op} (h : DE X cl W a A) : DE X cl W (.BoolOp op [a] pos) A := pe_one h
theorem de_and (ha : DE X cl W a A) (hb : DE X cl W (.BoolOp .And (b :: rest) pos) B) : DE X cl W (.BoolOp .And (a :: b :: rest) pos) (eAnd A B) := (pe_and ha hb).imp fun σ H Q ⟨l, S, ρ, F, hl, R, h⟩ => by
  refine tE_stepX hl R (satE.x h) fun d S1 ρ1 F1 H1 v R1 hl1 r1 p1 f1 h1 => ?_
  rcases isBl_cases d S1 with ⟨k, rfl, e⟩ | e
  · rw [e] at h1
    cases r1
    refine ⟨k, rfl, ?_⟩
    have h2 : satE (cxt X cl) W ρ1 F1 σ (if k = true then B l S1 else .ok (.bl false) S1) Q := satE.mono p1 f1 h1
    cases k with
    | true => rw [if_pos rfl] at h2 ⊢; exact ⟨l, S1, ρ1, F1, hl1, R1, h2⟩
    | false => rw [if_neg Bool.false_ne_true] at h2 ⊢; exact h2.now R1 (.bl false)
  · rw [e] at h1; exact h1.elim
theorem de_or (ha : DE X cl W a A) (hb : DE X cl W (.BoolOp .Or (b :: rest) pos) B) : DE X cl W (.BoolOp .Or (a :: b :: rest) pos) (eOr A B) := (pe_or ha hb).imp fun σ H Q ⟨l, S, ρ, F, hl, R, h⟩ => by
  refine tE_stepX hl R (satE.x h) fun d S1 ρ1 F1 H1 v R1 hl1 r1 p1 f1 h1 => ?_
  rcases isBl_cases d S1 with ⟨k, rfl, e⟩ | e
  · rw [e] at h1
    cases r1
    refine ⟨k, rfl, ?_⟩
    have h2 : satE (cxt X cl) W ρ1 F1 σ (if k = true then .ok (.bl true) S1 else B l S1) Q := satE.mono p1 f1 h1
    cases k with
    | true => rw [if_pos rfl] at h2 ⊢; exact h2.now R1 (.bl true)
    | false => rw [if_neg Bool.false_ne_true] at h2 ⊢; exact ⟨l, S1, ρ1, F1, hl1, R1, h2⟩
  · rw [e] at h1; exact h1.elim
theorem de_not (ha : DE X cl W a A) : DE X cl W (.UnaryOp .Not a pos) (eNot A) := (pe_notT ha).imp fun σ H Q ⟨l, S, ρ, F, hl, R, h⟩ => by
  refine tE_stepX hl R (satE.x h) fun d S1 ρ1 F1 H1 v R1 hl1 r1 p1 f1 h1 => ?_
  cases e : truD d S1 with
  | ok k S2 =>
    rw [e] at h1
    obtain ⟨q, rfl⟩ := rep_tru R1 r1 e
    exact ⟨k, q, satE.now (satE.mono p1 f1 h1) R1 (.bl _)⟩
  | exc x S2 => exact (truD_noexc e).elim
  | bad => rw [e] at h1; exact h1.elim
theorem de_if (hc : DT X cl W e c) (ha : DE X cl W a A) (hb : DE X cl W b B) : DE X cl W (.IfExp e a b pos) (eIf c A B) := (pe_ifExp hc ha hb).imp fun σ H Q ⟨l, S, ρ, F, hl, R, h⟩ => by
  refine tT_stepX hl R (satE.x h) fun d S1 ρ1 F1 H1 R1 hl1 p1 f1 h1 => ?_
  have h2 := satE.mono p1 f1 h1
  cases d with
  | true => rw [if_pos rfl] at h2 ⊢; exact ⟨l, S1, ρ1, F1, hl1, R1, h2⟩
  | false => rw [if_neg Bool.false_ne_true] at h2 ⊢; exact ⟨l, S1, ρ1, F1, hl1, R1, h2⟩
end

/-! ### argument lists, displays -/
def aNil : As := fun _ S => .ok [] S
def aCons (A : E) (r : As) : As := fun l S => (A l S).bind fun d S1 => (r l S1).bind fun ds S2 => .ok (d :: ds) S2
def eTup (r : As) : E := fun l S => (r l S).bind fun ds S1 => if ds.length ≤ sizeLine then .ok (.tup ds) S1 else .bad
def eLst (r : As) : E := fun l S => (r l S).bind fun ds S1 => if ds.length ≤ sizeLine then .ok (.lst ds) S1 else .bad
def eApp (g : List D → Sto → Res D) (r : As) : E := fun l S => (r l S).bind fun ds S1 => g ds S1
/-- a new live list -/
def newCell (ds : List D) (S : Sto) : Res D := .ok (.ref S.length) (S ++ [.lst ds])
def eLstM (r : As) : E := fun l S => (r l S).bind fun ds S1 => if ds.length ≤ sizeLine then newCell ds S1 else .bad
def rDs (C : Ct) (W : WX) (g : List D → Sto → Res D) : List V → Hp → VK → Prop := fun xs H Q => ∃ ρ F S σ ds, Rel C ρ F S H ∧ RepAll C ρ F xs ds ∧ satE C W ρ F σ (g ds S) Q
abbrev CallD (X : Cx) (cl : Nat → Addr) (W : WX) (f : Value) (g : List D → Sto → Res D) : Prop := CallR X f (rDs (cxt X cl) W g)
theorem _root_.L2.CallR.weak {X : Cx} {f : Value} {r r' : List V → Hp → VK → Prop} (h : CallR X f r) (i : ∀ xs H Q, r' xs H Q → r xs H Q) : CallR X f r' := fun pins s σ H xs us Q I r q => h pins s σ H xs us Q I r (i _ _ _ q)
section
variable {C : Ct} {W : WX} {ρ : List Addr} {F H : Hp} {S : Sto}
theorem satE.newM {σ : L2.St} {Q : VK} {vs : List V} {xs : List D} (h : satE C W ρ F σ (newCell xs S) Q) (R : Rel C ρ F S H) (r : RepAll C ρ F vs xs) {p : Addr} (hp : H p = none) : Q (.ref p) (upd H p (.lst vs)) := by
  have pr : ρ <+: ρ ++ [p] := List.prefix_append _ _
  refine h (ρ ++ [p]) F _ _ (R.lay hp ⟨vs, upd_same, r.mono pr (Le.refl _)⟩ (by intro z; cases z)) pr (Le.refl _) (.ref ?_)
  rw [← R.len]; exact ref_last
end
section
variable {X : Cx} {cl : Nat → Addr} {W : WX} {A : E} {r : As} {e : Expr} {es : List Expr} {pos : Pos} {g : List D → Sto → Res D}
theorem da_nil : DA X cl W [] aNil := pa_nil.imp fun σ H Q ⟨l, S, ρ, F, hl, R, h⟩ => h.now R .nil
theorem da_cons (ha : DE X cl W e A) (hr : DA X cl W es r) (hs : starEach (e :: es) X.env = (false, eval e X.env) :: starEach es X.env := by rfl) : DA X cl W (e :: es) (aCons A r) := (pa_cons ha hr hs).imp fun σ H Q ⟨l, S, ρ, F, hl, R, h⟩ => by
  refine tE_stepX hl R (satA.x h) fun d S1 ρ1 F1 H1 v R1 hl1 r1 p1 f1 h1 => ?_
  have h2 := satA.mono p1 f1 h1
  refine tA_stepX hl1 R1 (satA.x h2) fun ds S2 ρ2 F2 H2 vs R2 hl2 r2 p2 f2 h3 => ?_
  exact satA.now (satA.mono p2 f2 h3) R2 (.cons (r1.mono p2 f2) r2)
theorem de_tup {k : Nat} (h : DA X cl W es r) : DE X cl W (.Tuple es k pos) (eTup r) := (pe_tup h).imp fun σ H Q ⟨l, S, ρ, F, hl, R, h⟩ => by
  refine tA_stepX hl R (satE.x h) fun ds S1 ρ1 F1 H1 vs R1 hl1 r1 p1 f1 h1 => ?_
  have h2 := satE.mono p1 f1 h1
  split at h2
  · next hz => exact ⟨by rw [r1.len]; exact hz, fun p hp => h2.newT R1 r1 hp⟩
  · exact h2.elim
theorem de_lst (h : DA X cl W es r) : DE X cl W (.List es pos) (eLst r) := (pe_lst h).imp fun σ H Q ⟨l, S, ρ, F, hl, R, h⟩ => by
  refine tA_stepX hl R (satE.x h) fun ds S1 ρ1 F1 H1 vs R1 hl1 r1 p1 f1 h1 => ?_
  have h2 := satE.mono p1 f1 h1
  split at h2
  · next hz => exact ⟨by rw [r1.len]; exact hz, fun p hp => h2.newL R1 r1 hp⟩
  · exact h2.elim
theorem de_lstM (h : DA X cl W es r) : DE X cl W (.List es pos) (eLstM r) := (pe_lst h).imp fun σ H Q ⟨l, S, ρ, F, hl, R, h⟩ => by
  refine tA_stepX hl R (satE.x h) fun ds S1 ρ1 F1 H1 vs R1 hl1 r1 p1 f1 h1 => ?_
  have h2 := satE.mono p1 f1 h1
  split at h2
  · next hz => exact ⟨by rw [r1.len]; exact hz, fun p hp => h2.newM R1 r1 hp⟩
  · exact h2.elim
theorem tCB_of {σ : L2.St} {H : Hp} {Q : VK} (h : tE (cxt X cl) W (eApp g r) σ H Q) : tCB (rDs (cxt X cl) W g) (tAs (cxt X cl) W r) σ H Q := by
  obtain ⟨l, S, ρ, F, hl, R, h⟩ := h
  exact tA_stepX hl R (satE.x h) fun ds S1 ρ1 F1 H1 vs R1 hl1 r1 p1 f1 h1 => ⟨ρ1, F1, S1, σ, ds, R1, r1, satE.mono p1 f1 h1⟩
theorem de_callB {x : Str} {p : Pos} {id : String} (hc : CallD X cl W (.builtin id) g) (hg : Gl X x) (hm : X.mg x = none) (hv : bootBuiltins x = some (.builtin id)) (ha : DA X cl W (e :: es) r) (hn : x ≠ "__name__" := by decide) (hdb : (x == ("__debug__" : Str)) = false := by decide)
    (he : starEach (e :: es) X.env = (false, eval e X.env) :: starEach es X.env := by rfl) (hpl : (backTo pos (starEach es X.env)).any (·.1) = false := by rfl) : DE X cl W (.Call (.Name x p) (e :: es) [] pos) (eApp g r) :=
  (pe_callB hc hg hm hv ha hn hdb he hpl).imp fun _ _ _ h => tCB_of h
theorem de_callTy {x : Str} {p : Pos} {id : String} (hc : CallD X cl W (.type id) g) (hg : Gl X x) (hm : X.mg x = none) (hv : bootBuiltins x = some (.type id)) (ha : DA X cl W (e :: es) r) (hn : x ≠ "__name__" := by decide) (hdb : (x == ("__debug__" : Str)) = false := by decide)
    (he : starEach (e :: es) X.env = (false, eval e X.env) :: starEach es X.env := by rfl) (hpl : (backTo pos (starEach es X.env)).any (·.1) = false := by rfl) : DE X cl W (.Call (.Name x p) (e :: es) [] pos) (eApp g r) :=
  (pe_callTy hc hg hm hv ha hn hdb he hpl).imp fun _ _ _ h => tCB_of h
end

/-! ### statements -/
def sNil : Stm := fun l S => .next l S
def sSeq (a b : Stm) : Stm := fun l S => match a l S with
  | .next l1 S1 => b l1 S1
  | o => o
def sBrk : Stm := fun l S => .brk l S
def sCont : Stm := fun l S => .cont l S
def sExpr (A : E) : Stm := fun l S => (A l S).toS l fun _ S1 => .next l S1
def sRet (A : E) : Stm := fun l S => (A l S).toS l fun d S1 => .ret d S1
def sRetN : Stm := fun _ S => .ret .non S
def sIf (c : T) (a b : Stm) : Stm := fun l S => (c l S).toS l fun k S1 => if k = true then a l S1 else b l S1
def sBad : Stm := fun _ _ => .bad
def sSet (i : Nat) (A : E) : Stm := fun l S => (A l S).toS l fun d S1 => .next (l.set i (some d)) S1
section
variable {X : Cx} {cl : Nat → Addr} {W : WX} {A : E} {c : T} {a b : Stm} {e : Expr} {st : Stmt} {sts st2 : List Stmt} {pos : Pos}
theorem dss_nil : DSs X cl W [] sNil := pss_nil.imp fun D σ H ⟨l, S, ρ, F, hl, R, h⟩ => h ρ F H σ R (List.prefix_refl _) (Le.refl _) hl
theorem dss_one (h : DS X cl W st a) : DSs X cl W [st] a := pss_one h
theorem dss_cons (h1 : DS X cl W st a) (h2 : DSs X cl W sts b) : DSs X cl W (st :: sts) (sSeq a b) := (pss_cons h1 h2).imp fun D σ H ⟨l, S, ρ, F, hl, R, h⟩ => by
  refine ⟨l, S, ρ, F, hl, R, ?_⟩
  unfold sSeq at h
  cases e : a l S with
  | next l1 S1 =>
    rw [e] at h
    exact fun ρ' F' H' σ' R' p f hl' => ⟨l1, S1, ρ', F', hl', R', satS.mono p f h⟩
  | ret d S1 => rw [e] at h; exact h
  | brk l1 S1 => rw [e] at h; exact h
  | cont l1 S1 => rw [e] at h; exact h
  | exc x l1 S1 => rw [e] at h; exact h
  | bad => rw [e] at h; exact h
theorem ds_pass : DS X cl W (.Pass pos) sNil := ps_pass.imp fun D σ H ⟨l, S, ρ, F, hl, R, h⟩ => h ρ F H σ R (List.prefix_refl _) (Le.refl _) hl
theorem ds_brk : DS X cl W (.Break pos) sBrk := ps_break.imp fun D σ H ⟨l, S, ρ, F, hl, R, h⟩ => h ρ F H σ R (List.prefix_refl _) (Le.refl _) hl
theorem ds_cont : DS X cl W (.Continue pos) sCont := ps_continue.imp fun D σ H ⟨l, S, ρ, F, hl, R, h⟩ => h ρ F H σ R (List.prefix_refl _) (Le.refl _) hl
theorem ds_doc {x j pos'} : DS X cl W (.Expr (.Constant (.str x) j pos) pos') sNil := ps_doc.imp fun D σ H ⟨l, S, ρ, F, hl, R, h⟩ => h ρ F H σ R (List.prefix_refl _) (Le.refl _) hl
theorem ds_bad : DS X cl W st sBad := ps_never.imp fun D σ H ⟨l, S, ρ, F, hl, R, h⟩ => h
theorem dss_bad : DSs X cl W sts sBad := pss_never.imp fun D σ H ⟨l, S, ρ, F, hl, R, h⟩ => h
theorem ds_expr (h : DE X cl W e A) (hs : swapsWith e none pos.line X.env = pure false := by rfl) : DS X cl W (.Expr e pos) (sExpr A) := (ps_expr h hs).imp fun D σ H ⟨l, S, ρ, F, hl, R, h⟩ => by
  refine tE_stepX hl R (satS.x hl h) fun d S1 ρ1 F1 H1 v R1 hl1 r1 p1 f1 h1 => ?_
  exact h1 ρ1 F1 H1 σ R1 p1 f1 hl1
theorem ds_ret (h : DE X cl W e A) : DS X cl W (.Return (some e) pos) (sRet A) := (ps_ret h).imp fun D σ H ⟨l, S, ρ, F, hl, R, h⟩ => by
  refine tE_stepX hl R (satS.x hl h) fun d S1 ρ1 F1 H1 v R1 hl1 r1 p1 f1 h1 => ?_
  exact h1 ρ1 F1 H1 v R1 p1 f1 r1
theorem ds_retN : DS X cl W (.Return none pos) sRetN := ps_retN.imp fun D σ H ⟨l, S, ρ, F, hl, R, h⟩ => h ρ F H .non R (List.prefix_refl _) (Le.refl _) .non
theorem ds_if (hc : DT X cl W e c) (ha : DSs X cl W sts a) (hb : DSs X cl W st2 b) : DS X cl W (.If e sts st2 pos) (sIf c a b) := (ps_if hc ha hb).imp fun D σ H ⟨l, S, ρ, F, hl, R, h⟩ => by
  refine tT_stepX hl R (satS.x hl h) fun d S1 ρ1 F1 H1 R1 hl1 p1 f1 h1 => ?_
  have h2 := satS.mono p1 f1 h1
  cases d with
  | true => rw [if_pos rfl] at h2 ⊢; exact ⟨l, S1, ρ1, F1, hl1, R1, h2⟩
  | false => rw [if_neg Bool.false_ne_true] at h2 ⊢; exact ⟨l, S1, ρ1, F1, hl1, R1, h2⟩
theorem ds_set {i : Nat} {x : Str} {pos' : Pos} (he : DE X cl W e A) (hN : X.N.Nodup) (hi : X.N[i]? = some x := by rfl) (hx : L2.Loc X.env.scope x := by first | exact Or.inl rfl | exact Or.inr rfl) (hs : swapsWith e (some (.Name x pos')) pos.line X.env = pure false := by rfl) (hf : X.fn x = true ∨ X.env.scope.names.lookup x = some .local := by first | exact .inl rfl | exact .inr rfl | assumption) :
    DS X cl W (.Assign [.Name x pos'] e pos) (sSet i A) := (ps_set hN hi hx he hs hf).imp fun D σ H ⟨l, S, ρ, F, hl, R, h⟩ => by
  refine tE_stepX hl R (satS.x hl h) fun d S1 ρ1 F1 H1 v R1 hl1 r1 p1 f1 h1 => ?_
  exact h1 ρ1 F1 H1 _ R1 p1 f1 (hl1.set i r1)
end
end DL

/-! DL5: ==, !=, in, not in; items, slices. -/
namespace DL
open PySem PySem.Spec PyProof.Rows L2

/-! ### data as the kit's data -/
mutual
def pd : D → PyData
  | .non => .none
  | .bl b => .bool b
  | .int i => .int i
  | .str s => .str s
  | .tup xs => .tuple (pds xs)
  | .lst xs => .list (pds xs)
  | .dic _ _ => .dict []
  | .ref _ => .dict []
  | .exc _ => .dict []
def pds : List D → List PyData
  | [] => []
  | d :: ds => pd d :: pds ds
end
mutual
theorem pd_plain : ∀ d : D, dp d < 1000 → PyData.plain (pd d) = true ∧ (pd d).depth ≤ dp d
  | .non, _ => ⟨rfl, Nat.le_refl _⟩
  | .bl b, _ => ⟨rfl, Nat.le_refl _⟩
  | .int i, _ => ⟨rfl, Nat.le_refl _⟩
  | .str s, _ => ⟨rfl, Nat.le_refl _⟩
  | .tup xs, h => by
    unfold dp at h
    obtain ⟨a, b⟩ := pds_plain xs (by omega)
    unfold pd dp
    exact ⟨a, by show PyData.depthAll (pds xs) + 1 ≤ _; omega⟩
  | .lst xs, h => by
    unfold dp at h
    obtain ⟨a, b⟩ := pds_plain xs (by omega)
    unfold pd dp
    exact ⟨a, by show PyData.depthAll (pds xs) + 1 ≤ _; omega⟩
  | .dic _ _, h => by unfold dp at h; omega
  | .ref _, h => by unfold dp at h; omega
  | .exc _, h => by unfold dp at h; omega
theorem pds_plain : ∀ ds : List D, dps ds < 1000 → PyData.plainAll (pds ds) = true ∧ PyData.depthAll (pds ds) ≤ dps ds
  | [], _ => ⟨rfl, Nat.le_refl _⟩
  | d :: ds, h => by
    unfold dps at h
    obtain ⟨a, b⟩ := pd_plain d (by omega)
    obtain ⟨a', b'⟩ := pds_plain ds (by omega)
    unfold pds dps
    refine ⟨?_, ?_⟩
    · show (PyData.plain (pd d) && PyData.plainAll (pds ds)) = true
      rw [a, a']; rfl
    · show max (pd d).depth (PyData.depthAll (pds ds)) ≤ _
      omega
end
mutual
theorem eqv_pd : ∀ d e : D, dp d < 1000 → dp e < 1000 → PyData.eqv (pd d) (pd e) = eqD d e
  | d, e, hd, he => by
    cases d with
    | tup xs =>
      cases e with
      | tup ys =>
        unfold dp at hd he
        show PyData.eqvAll (pds xs) (pds ys) = eqD (.tup xs) (.tup ys)
        rw [eqD_tup]
        exact eqv_pds xs ys (by omega) (by omega)
      | dic _ _ => unfold dp at he; omega
      | ref _ => unfold dp at he; omega
      | exc _ => unfold dp at he; omega
      | _ => rfl
    | lst xs =>
      cases e with
      | lst ys =>
        unfold dp at hd he
        show PyData.eqvAll (pds xs) (pds ys) = eqD (.lst xs) (.lst ys)
        rw [eqD_lst]
        exact eqv_pds xs ys (by omega) (by omega)
      | dic _ _ => unfold dp at he; omega
      | ref _ => unfold dp at he; omega
      | exc _ => unfold dp at he; omega
      | _ => rfl
    | dic _ _ => unfold dp at hd; omega
    | ref _ => unfold dp at hd; omega
    | exc _ => unfold dp at hd; omega
    | _ =>
      cases e with
      | dic _ _ => unfold dp at he; omega
      | ref _ => unfold dp at he; omega
      | exc _ => unfold dp at he; omega
      | _ => rfl
theorem eqv_pds : ∀ xs ys : List D, dps xs < 1000 → dps ys < 1000 → PyData.eqvAll (pds xs) (pds ys) = eqDs xs ys
  | [], [], _, _ => rfl
  | [], _ :: _, _, _ => rfl
  | _ :: _, [], _, _ => rfl
  | x :: xs, y :: ys, h, h' => by
    unfold dps at h h'
    show (PyData.eqv (pd x) (pd y) && PyData.eqvAll (pds xs) (pds ys)) = eqDs (x :: xs) (y :: ys)
    unfold eqDs
    rw [eqv_pd x y (by omega) (by omega), eqv_pds xs ys (by omega) (by omega)]
end
section
variable {C : Ct} {ρ : List Addr} {F H : Hp} {S : Sto}
theorem rep_Dp0 (hF : Le F H) : ∀ (n : Nat) (v : V) (d : D), sizeOf d < n → RepD C ρ F v d → dp d < 1000 → Dp C.K H v (pd d)
  | 0, _, _, hn, _, _ => by omega
  | n + 1, v, d, hn, r, hd => by
    have all : ∀ (xs : List D) (vs : List V), sizeOf xs < n → RepAll C ρ F vs xs → dps xs < 1000 → DpAll C.K H vs (pds xs) := by
      intro xs
      induction xs with
      | nil => intro vs _ ra _; cases ra; exact .nil
      | cons x xs ih =>
        intro vs hs ra hd
        cases ra with
        | cons h t =>
          unfold dps at hd
          exact .cons (rep_Dp0 hF n _ _ (by simp at hs; omega) h (by omega)) (ih _ (by simp at hs; omega) t (by omega))
    cases r with
    | non => exact .non
    | bl b => exact .bl b
    | int i => exact .int i
    | str s => exact .str s
    | @tup a vs xs hq ra => unfold dp at hd; exact .tup (sqT_mono hF hq) (all xs vs (by simp at hn; omega) ra (by omega))
    | @lst a vs xs hq ra => unfold dp at hd; exact .lst (sqL_mono hF hq) (all xs vs (by simp at hn; omega) ra (by omega))
    | dicK => unfold dp at hd; omega
    | dicT => unfold dp at hd; omega
    | exc => unfold dp at hd; omega
    | ref => unfold dp at hd; omega
theorem rep_DpAll0 (hF : Le F H) {xs : List D} {vs : List V} (ra : RepAll C ρ F vs xs) (hd : dps xs < 1000) : DpAll C.K H vs (pds xs) := by
  induction xs generalizing vs with
  | nil => cases ra; exact .nil
  | cons x xs ih =>
    cases ra with
    | cons h t =>
      unfold dps at hd
      exact .cons (rep_Dp0 hF _ _ _ (Nat.lt_succ_self _) h (by omega)) (ih t (by omega))
theorem rep_Dp (R : Rel C ρ F S H) : ∀ (n : Nat) (v : V) (d : D), sizeOf d < n → RepD C ρ F v d → dp (dr S d) < 1000 → Dp C.K H v (pd (dr S d))
  | 0, _, _, hn, _, _ => by omega
  | n + 1, v, d, hn, r, hd => by
    have all : ∀ (xs : List D) (vs : List V), sizeOf xs < n → RepAll C ρ F vs xs → dps (drs S xs) < 1000 → DpAll C.K H vs (pds (drs S xs)) := by
      intro xs
      induction xs with
      | nil => intro vs _ ra _; cases ra; unfold drs; exact .nil
      | cons x xs ih =>
        intro vs hs ra hd
        cases ra with
        | cons h t =>
          unfold drs dps at hd
          unfold drs
          exact .cons (rep_Dp R n _ _ (by simp at hs; omega) h (by omega)) (ih _ (by simp at hs; omega) t (by omega))
    cases r with
    | non => unfold dr; exact .non
    | bl b => unfold dr; exact .bl b
    | int i => unfold dr; exact .int i
    | str s => unfold dr; exact .str s
    | @tup a vs xs hq ra =>
      unfold dr at hd ⊢
      unfold dp at hd
      exact .tup (sqT_mono R.fz hq) (all xs vs (by simp at hn; omega) ra (by omega))
    | @lst a vs xs hq ra =>
      unfold dr at hd ⊢
      unfold dp at hd
      exact .lst (sqL_mono R.fz hq) (all xs vs (by simp at hn; omega) ra (by omega))
    | dicK => unfold dr dp at hd; omega
    | dicT => unfold dr dp at hd; omega
    | exc => unfold dr dp at hd; omega
    | @ref a m e =>
      cases hS : S[m]? with
      | none => simp [dr, hS, dp] at hd
      | some c =>
        cases c with
        | lst xs =>
          have e2 : dr S (.ref m) = .lst xs := by simp [dr, hS]
          rw [e2] at hd ⊢
          obtain ⟨vs, hv, ra⟩ := R.cell m a _ e hS
          unfold dp at hd
          exact .lst (SqL.of hv) (rep_DpAll0 R.fz ra (by omega))
        | _ => simp [dr, hS, dp] at hd
end
/-! ### == and != -/
def flatOk (S : Sto) (x : D) : Bool := decide (dp (dr S x) ≤ 60)
def eqvD (x y : D) (S : Sto) : Res D := if (flatOk S x && flatOk S y) = true then .ok (.bl (eqD (dr S x) (dr S y))) S else .bad
def nevD (x y : D) (S : Sto) : Res D := if (flatOk S x && flatOk S y) = true then .ok (.bl (!eqD (dr S x) (dr S y))) S else .bad
/-- x in a list or a tuple -/
def inL (S : Sto) (x : D) (ys : List D) : Bool := (drs S ys).any fun y => eqD y (dr S x)
def isSub (x y : Str) : Bool := !(Builtin.Str.occurrences y x 0 y.length 1).isEmpty
def inD (x y : D) (S : Sto) : Res D := match x, y with
  | .str i, .str j => .ok (.bl (isSub i j)) S
  | x, y => match seqOf S y with
    | some ys => if (flatOk S x && decide (dps (drs S ys) ≤ 60)) = true then .ok (.bl (inL S x ys)) S else .bad
    | none => .bad
def ninD (x y : D) (S : Sto) : Res D := match x, y with
  | .str i, .str j => .ok (.bl (!isSub i j)) S
  | x, y => match seqOf S y with
    | some ys => if (flatOk S x && decide (dps (drs S ys) ≤ 60)) = true then .ok (.bl (!inL S x ys)) S else .bad
    | none => .bad
theorem any_pds {S : Sto} {x : D} (hx : dp (dr S x) < 1000) : ∀ {ys : List D}, dps (drs S ys) < 1000 → ((pds (drs S ys)).any fun y => PyData.eqv y (pd (dr S x))) = inL S x ys
  | [], _ => by unfold inL drs pds; rfl
  | y :: ys, h => by
    unfold drs dps at h
    unfold inL drs pds
    rw [List.any_cons, List.any_cons, eqv_pd _ _ (by omega) hx, any_pds hx (by omega)]
    rfl
section
variable {C : Ct} {ρ : List Addr} {F H : Hp} {S : Sto}
theorem drs_len : ∀ ds : List D, (drs S ds).length = ds.length
  | [] => by unfold drs; rfl
  | d :: ds => by unfold drs; simp [drs_len ds]
end
/-- the items of a sequence, as data -/
theorem rep_DpAll {C : Ct} {ρ : List Addr} {F H : Hp} {S : Sto} (R : Rel C ρ F S H) {vs : List V} {ds : List D} (ra : RepAll C ρ F vs ds) (hd : dps (drs S ds) < 1000) : DpAll C.K H vs (pds (drs S ds)) := by
  induction ds generalizing vs with
  | nil => cases ra; unfold drs; exact .nil
  | cons x xs ih =>
    cases ra with
    | cons h t =>
      unfold drs dps at hd
      unfold drs
      exact .cons (rep_Dp R _ _ _ (Nat.lt_succ_self _) h (by omega)) (ih t (by omega))
section
variable {X : Cx} {cl : Nat → Addr} {W : WX}
theorem od_eq (hu : X.A.units + 64 < cLine) : OpD X cl W (compareOp .Eq) eqvD := by
  rintro pins s σ H x y v u Q I rx ry ⟨ρ, F, S, σ', dx, dy, R, r1, r2, h⟩
  unfold eqvD at h
  split at h
  · next hk =>
    rw [Bool.and_eq_true] at hk
    have h1 := of_decide_eq_true hk.1
    have h2 := of_decide_eq_true hk.2
    obtain ⟨as, q1⟩ := Dp.reads I _ _ _ (rep_Dp R _ _ _ (Nat.lt_succ_self _) r1 (by omega)) rx
    obtain ⟨bs, q2⟩ := Dp.reads I _ _ _ (rep_Dp R _ _ _ (Nat.lt_succ_self _) r2 (by omega)) ry
    obtain ⟨p1, l1⟩ := pd_plain (dr S dx) (by omega)
    obtain ⟨p2, l2⟩ := pd_plain (dr S dy) (by omega)
    refine SeqAt.eq_plain q1 q2 p1 p2 (by omega) ?_
    rw [eqv_pd _ _ (by omega) (by omega)]
    exact ⟨.bl _, H, I, rfl, h.now R (.bl _)⟩
  · exact h.elim
theorem od_ne (hu : X.A.units + 64 < cLine) : OpD X cl W (compareOp .NotEq) nevD := by
  rintro pins s σ H x y v u Q I rx ry ⟨ρ, F, S, σ', dx, dy, R, r1, r2, h⟩
  unfold nevD at h
  split at h
  · next hk =>
    rw [Bool.and_eq_true] at hk
    have h1 := of_decide_eq_true hk.1
    have h2 := of_decide_eq_true hk.2
    obtain ⟨as, q1⟩ := Dp.reads I _ _ _ (rep_Dp R _ _ _ (Nat.lt_succ_self _) r1 (by omega)) rx
    obtain ⟨bs, q2⟩ := Dp.reads I _ _ _ (rep_Dp R _ _ _ (Nat.lt_succ_self _) r2 (by omega)) ry
    obtain ⟨p1, l1⟩ := pd_plain (dr S dx) (by omega)
    obtain ⟨p2, l2⟩ := pd_plain (dr S dy) (by omega)
    refine SeqAt.ne_plain q1 q2 p1 p2 (by omega) ?_
    rw [eqv_pd _ _ (by omega) (by omega)]
    exact ⟨.bl _, H, I, rfl, h.now R (.bl _)⟩
  · exact h.elim
theorem seq_reads {C : Ct} {ρ : List Addr} {F : Hp} {S : Sto} {H : Hp} {y : V} {dy : D} {ys : List D} (R : Rel C ρ F S H) (r : RepD C ρ F y dy) (hs : seqOf S dy = some ys) (hd : dps (drs S ys) ≤ 60) :
    Dp C.K H y (.list (pds (drs S ys))) ∨ Dp C.K H y (.tuple (pds (drs S ys))) := by
  obtain ⟨a, vs, rfl, hq, ra⟩ := rep_seq R r hs
  have := rep_DpAll R ra (by omega)
  rcases hq with hq | hq
  · exact .inl (.lst hq this)
  · exact .inr (.tup hq this)
theorem od_in (hu : X.A.units + 64 < cLine) : OpD X cl W (compareOp .In) inD := by
  rintro pins s σ H x y v u Q I rx ry ⟨ρ, F, S, σ', dx, dy, R, r1, r2, h⟩
  unfold inD at h
  split at h
  · cases r1; cases r2
    exact op_in_str pins s σ H _ _ v u Q I rx ry ⟨_, _, rfl, rfl, h.now R (.bl _)⟩
  · split at h
    · next ys hs =>
      split at h
      · next hk =>
        rw [Bool.and_eq_true] at hk
        have h1 := of_decide_eq_true hk.1
        have h2 := of_decide_eq_true hk.2
        obtain ⟨as, q1⟩ := Dp.reads I _ _ _ (rep_Dp R _ _ _ (Nat.lt_succ_self _) r1 (by omega)) rx
        obtain ⟨p1, l1⟩ := pd_plain (dr S dx) (by omega)
        obtain ⟨p2, l2⟩ := pds_plain (drs S ys) (by omega)
        have fin : EP X pins σ Q (.bool ((pds (drs S ys)).any fun y => PyData.eqv y (pd (dr S dx)))) s := by
          rw [any_pds (by omega) (by omega)]
          exact ⟨.bl _, H, I, rfl, h.now R (.bl _)⟩
        rcases seq_reads R r2 hs h2 with q | q
        · obtain ⟨bs, q2⟩ := Dp.reads I _ _ _ q ry
          exact SeqAt.in_list_data q2 q1 p2 p1 (by omega) fin
        · obtain ⟨bs, q2⟩ := Dp.reads I _ _ _ q ry
          exact SeqAt.in_tuple_data q2 q1 p2 p1 (by omega) fin
      · exact h.elim
    · exact h.elim
theorem od_nin (hu : X.A.units + 64 < cLine) : OpD X cl W (compareOp .NotIn) ninD := by
  rintro pins s σ H x y v u Q I rx ry ⟨ρ, F, S, σ', dx, dy, R, r1, r2, h⟩
  unfold ninD at h
  split at h
  · cases r1; cases r2
    exact op_notin_str pins s σ H _ _ v u Q I rx ry ⟨_, _, rfl, rfl, h.now R (.bl _)⟩
  · split at h
    · next ys hs =>
      split at h
      · next hk =>
        rw [Bool.and_eq_true] at hk
        have h1 := of_decide_eq_true hk.1
        have h2 := of_decide_eq_true hk.2
        obtain ⟨as, q1⟩ := Dp.reads I _ _ _ (rep_Dp R _ _ _ (Nat.lt_succ_self _) r1 (by omega)) rx
        obtain ⟨p1, l1⟩ := pd_plain (dr S dx) (by omega)
        obtain ⟨p2, l2⟩ := pds_plain (drs S ys) (by omega)
        have fin : EP X pins σ Q (.bool (!(pds (drs S ys)).any fun y => PyData.eqv y (pd (dr S dx)))) s := by
          rw [any_pds (by omega) (by omega)]
          exact ⟨.bl _, H, I, rfl, h.now R (.bl _)⟩
        rcases seq_reads R r2 hs h2 with q | q
        · obtain ⟨bs, q2⟩ := Dp.reads I _ _ _ q ry
          exact SeqAt.notIn_list_data q2 q1 p2 p1 (by omega) fin
        · obtain ⟨bs, q2⟩ := Dp.reads I _ _ _ q ry
          exact SeqAt.notIn_tuple_data q2 q1 p2 p1 (by omega) fin
      · exact h.elim
    · exact h.elim
end
/-! ### items -/
theorem _root_.L2.IxR.weak {X : Cx} {r r' : R2} (h : IxR X r) (i : ∀ x y H Q, r' x y H Q → r x y H Q) : IxR X r' := by
  intro pins s σ H x y v u Q T id I rx ry q
  exact h pins s σ H x y v u Q T id I rx ry (i _ _ _ _ q)
theorem atI_rep {C : Ct} {ρ : List Addr} {F : Hp} {vs : List V} {ds : List D} (r : RepAll C ρ F vs ds) {i : Int} {d : D} (h : atI ds i = some d) : ∃ v, atI vs i = some v ∧ RepD C ρ F v d := by
  unfold atI at h ⊢
  rw [r.len]
  cases e : ixN ds.length i with
  | none => rw [e] at h; cases h
  | some j => rw [e] at h; exact r.get h
def ixD (x y : D) (S : Sto) : Res D := match x, y with
  | .str z, .int i => if z.length ≤ sizeLine then (match atI z.cps.toList i with | some c => .ok (.str ⟨#[c]⟩) S | none => .bad) else .bad
  | x, .int i => match seqOf S x with
    | some xs => (match atI xs i with | some d => .ok d S | none => .bad)
    | none => .bad
  | _, _ => .bad
/-- o[lo:hi] -/
def slD (x : D) (lo hi : Option Int) (S : Sto) : Res D := match x with
  | .tup xs => .ok (.tup (cutL xs lo hi)) S
  | x => match listOf S x with
    | some xs => .ok (.lst (cutL xs lo hi)) S
    | none => .bad
where cutL (xs : List D) (lo hi : Option Int) : List D := (xs.drop (HT.sIx xs.length 0 lo)).take (HT.sIx xs.length xs.length hi - HT.sIx xs.length 0 lo)
abbrev TP := Loc → Sto → Res (Option Int)
def pNo : TP := fun _ S => .ok none S
def toI : D → Sto → Res (Option Int)
  | .int i, S => .ok (some i) S
  | _, _ => .bad
def pAt (A : E) : TP := fun l S => (A l S).bind toI
def eSl (A : E) (p q : TP) : E := fun l S => (A l S).bind fun x S1 => (p l S1).bind fun lo S2 => (q l S2).bind fun hi S3 => slD x lo hi S3
def tPO (C : Ct) (W : WX) (p : TP) : TO := fun σ H Q => ∃ l S ρ F, LRel C ρ F σ l ∧ Rel C ρ F S H ∧ satX C W ρ F σ (p l S) fun o S' => ∀ ρ' F' H', Rel C ρ' F' S' H' → ρ <+: ρ' → Le F F' → Q o H'
theorem _root_.L2.PO.imp {X : Cx} {e : Option Expr} {t t' : TO} (h : PO X e t) (i : ∀ σ H Q, t' σ H Q → t σ H Q) : PO X e t' := ⟨fun pins s σ H Q I q => h.run pins s σ H Q I (i _ _ _ q)⟩
abbrev DP (X : Cx) (cl : Nat → Addr) (W : WX) (e : Option Expr) (p : TP) : Prop := PO X e (tPO (cxt X cl) W p)
theorem satX.mono {α : Type} {C : Ct} {W : WX} {ρ ρ1 : List Addr} {F F1 : Hp} {σ : L2.St} {r : Res α} {ok ok' : α → Sto → Prop} (hr : ρ <+: ρ1) (hF : Le F F1) (h : satX C W ρ F σ r ok) (i : ∀ d S, ok d S → ok' d S) : satX C W ρ1 F1 σ r ok' := by
  cases r with
  | ok d S => exact i d S h
  | exc x S => exact fun ρ' F' H' dd a b c => h ρ' F' H' dd a (hr.trans b) (hF.trans c)
  | bad => exact h
theorem tP_stepX {C : Ct} {W : WX} {p : TP} {σ : L2.St} {H : Hp} {l : Loc} {S : Sto} {ρ : List Addr} {F : Hp} {ok : Option Int → Sto → Prop} (hl : LRel C ρ F σ l) (R : Rel C ρ F S H) (h : satX C W ρ F σ (p l S) ok) {Q1 : Option Int → Hp → Prop}
    (hk : ∀ o S1 ρ1 F1 H1, Rel C ρ1 F1 S1 H1 → LRel C ρ1 F1 σ l → ρ <+: ρ1 → Le F F1 → ok o S1 → Q1 o H1) : tPO C W p σ H Q1 := by
  refine ⟨l, S, ρ, F, hl, R, h.mono (List.prefix_refl _) (Le.refl _) fun d S1 q ρ1 F1 H1 R1 p1 f1 => hk d S1 ρ1 F1 H1 R1 (hl.mono p1 f1) p1 f1 q⟩
section
variable {X : Cx} {cl : Nat → Addr} {W : WX} {A B : E} {a b e : Expr} {p q : TP} {pos p2 : Pos} {lo hi : Option Expr}
theorem xd_ix : IxR X (rD2 (cxt X cl) W ixD) := by
  refine ix_seq.weak ?_
  rintro x y H Q ⟨ρ, F, S, σ', dx, dy, R, r1, r2, h⟩
  unfold ixD at h
  split at h
  · cases r1; cases r2
    split at h
    · next hz =>
      split at h
      · next c e => exact .inr (.inr ⟨_, _, c, rfl, rfl, hz, e, h.now R (.str _)⟩)
      · exact h.elim
    · exact h.elim
  · cases r2
    split at h
    · next xs hs =>
      split at h
      · next d e =>
        obtain ⟨a, vs, rfl, hq, ra⟩ := rep_seq R r1 hs
        obtain ⟨v', e', r'⟩ := atI_rep ra e
        rcases hq with hq | hq
        · exact .inl ⟨a, vs, _, v', rfl, rfl, hq, e', h.now R r'⟩
        · exact .inr (.inl ⟨a, vs, _, v', rfl, rfl, hq, e', h.now R r'⟩)
      · exact h.elim
    · exact h.elim
  · exact h.elim
theorem de_ix (ha : DE X cl W a A) (hb : DE X cl W b B) (hs : PlainIx b := by intro _ _; rfl) : DE X cl W (.Subscript a b pos) (eOp2 ixD A B) := (pe_ix xd_ix ha hb hs).imp fun _ _ _ h => tE_op2 h
theorem dp_no : DP X cl W none pNo := po_none.imp fun σ H Q ⟨l, S, ρ, F, hl, R, h⟩ => h ρ F H R (List.prefix_refl _) (Le.refl _)
theorem dp_at (h : DE X cl W e A) : DP X cl W (some e) (pAt A) := (po_some h).imp fun σ H Q ⟨l, S, ρ, F, hl, R, h⟩ => by
  unfold pAt at h
  have hx : satX (cxt X cl) W ρ F σ (A l S) fun d S1 => satX (cxt X cl) W ρ F σ (toI d S1) fun o S' => ∀ ρ' F' H', Rel (cxt X cl) ρ' F' S' H' → ρ <+: ρ' → Le F F' → Q o H' := by
    cases e : A l S <;> rw [e] at h <;> exact h
  refine tE_stepX hl R hx fun d S1 ρ1 F1 H1 v R1 hl1 r1 p1 f1 h1 => ?_
  cases r1 with
  | int i => exact ⟨i, rfl, h1 ρ1 F1 H1 R1 p1 f1⟩
  | _ => exact h1.elim
theorem cutL_len (xs : List D) (lo hi : Option Int) : (slD.cutL xs lo hi).length ≤ xs.length := by
  unfold slD.cutL
  rw [List.length_take, List.length_drop]
  omega
theorem de_sl (he : DE X cl W e A) (hl : DP X cl W lo p) (hu : DP X cl W hi q) : DE X cl W (.Subscript e (.Slice lo hi none p2) pos) (eSl A p q) := by
  refine (pe_slice (sl_tupA.or sl_list) he hl hu).imp fun σ H Q ⟨l, S, ρ, F, hl, R, h⟩ => ?_
  refine tE_stepX hl R (satE.x h) fun d S1 ρ1 F1 H1 v R1 hl1 r1 p1 f1 h1 => ?_
  refine tP_stepX hl1 R1 (satE.x (satE.mono p1 f1 h1)) fun o1 S2 ρ2 F2 H2 R2 hl2 p2 f2 h2 => ?_
  refine tP_stepX hl2 R2 (satE.x (satE.mono p2 f2 h2)) fun o2 S3 ρ3 F3 H3 R3 hl3 p3 f3 h3 => ?_
  have h4 := satE.mono p3 f3 h3
  have r3 := (r1.mono p2 f2).mono p3 f3
  clear h1 h2 h3 h
  unfold slD at h4
  split at h4
  · next xs =>
    obtain ⟨a, vs, rfl, hq, ra⟩ := rep_tup R3 r3
    refine .inl ⟨a, vs, rfl, hq, ?_⟩
    have rc : RepAll (cxt X cl) ρ3 F3 (cutV vs o1 o2) (slD.cutL xs o1 o2) := by
      unfold cutV slD.cutL
      rw [ra.len]
      exact (ra.drop _).take _
    refine ⟨fun e => ?_, fun _ p hp => h4.newT R3 rc hp⟩
    rw [ra.len] at e
    have e2 : slD.cutL xs o1 o2 = xs := by
      unfold slD.cutL
      rw [e.1, e.2, List.drop_zero, Nat.sub_zero, List.take_length]
    rw [e2] at h4
    exact h4.now R3 r3
  · split at h4
    · next xs hs =>
      obtain ⟨a, vs, rfl, hq, ra⟩ := rep_list R3 r3 hs
      refine .inr ⟨a, vs, rfl, hq, fun p hp => h4.newL R3 ?_ hp⟩
      unfold cutV slD.cutL
      rw [ra.len]
      exact (ra.drop _).take _
    · exact h4.elim
end
end DL

/-! DL6: leaving a scope: the live cells laid in it are frozen and forgotten. -/
namespace DL
open PySem PySem.Spec PyProof.Rows L2

mutual
/-- every cell named is below n -/
def rlt (n : Nat) : D → Bool
  | .ref k => decide (k < n)
  | .tup xs => rlts n xs
  | .lst xs => rlts n xs
  | .dic _ es => rlts n es
  | .exc _ => true
  | _ => true
def rlts (n : Nat) : List D → Bool
  | [] => true
  | d :: ds => rlt n d && rlts n ds
end
mutual
/-- every cell named is put in by f -/
def sbD (f : Nat → Option D) : D → Option D
  | .non => some .non
  | .bl b => some (.bl b)
  | .int i => some (.int i)
  | .str s => some (.str s)
  | .ref i => f i
  | .tup xs => (sbDs f xs).map .tup
  | .lst xs => (sbDs f xs).map .lst
  | .dic t es => (sbDs f es).map (.dic t)
  | .exc k => some (.exc k)
def sbDs (f : Nat → Option D) : List D → Option (List D)
  | [] => some []
  | d :: ds => (sbD f d).bind fun e => (sbDs f ds).map (e :: ·)
end
/-- a cell as a value, its items by g -/
def cellV (S : Sto) (g : List D → Option (List D)) (i : Nat) : Option D := match S[i]? with
  | some (.lst xs) => (g xs).map .lst
  | some (.dic t es) => (g es).map (.dic t)
  | _ => none
/-- the cells from n on as values (k: how deep cells stand in cells) -/
def fzR (n : Nat) (S : Sto) : Nat → Nat → Option D
  | 0, i => if i < n then some (.ref i) else none
  | k + 1, i => if i < n then some (.ref i) else cellV S (sbDs (fzR n S k)) i
abbrev fzD (k n : Nat) (S : Sto) : D → Option D := sbD (fzR n S k)
abbrev fzDs (k n : Nat) (S : Sto) : List D → Option (List D) := sbDs (fzR n S k)
theorem fzs_nil {f : Nat → Option D} : sbDs f [] = some [] := by unfold sbDs; rfl
theorem fzs_cons {f : Nat → Option D} {d : D} {ds : List D} : sbDs f (d :: ds) = (sbD f d).bind fun e => (sbDs f ds).map (e :: ·) := by rw [sbDs]
theorem fzR_lt {n : Nat} {S : Sto} {i : Nat} (h : i < n) : ∀ k, fzR n S k i = some (.ref i)
  | 0 => by unfold fzR; rw [if_pos h]
  | k + 1 => by unfold fzR; rw [if_pos h]
-- what has no cells from n on stays
mutual
theorem fz_rlt (k n : Nat) (S : Sto) : ∀ d : D, rlt n d = true → fzD k n S d = some d
  | .non, _ => by unfold fzD sbD; rfl
  | .bl _, _ => by unfold fzD sbD; rfl
  | .int _, _ => by unfold fzD sbD; rfl
  | .str _, _ => by unfold fzD sbD; rfl
  | .tup xs, h => by unfold rlt at h; unfold fzD sbD; rw [fzs_rlt k n S xs h]; rfl
  | .lst xs, h => by unfold rlt at h; unfold fzD sbD; rw [fzs_rlt k n S xs h]; rfl
  | .dic t xs, h => by unfold rlt at h; unfold fzD sbD; rw [fzs_rlt k n S xs h]; rfl
  | .ref i, h => by unfold rlt at h; unfold fzD sbD; exact fzR_lt (of_decide_eq_true h) k
  | .exc _, _ => by unfold fzD sbD; rfl
theorem fzs_rlt (k n : Nat) (S : Sto) : ∀ ds : List D, rlts n ds = true → sbDs (fzR n S k) ds = some ds
  | [], _ => fzs_nil
  | d :: ds, h => by
    unfold rlts at h
    rw [Bool.and_eq_true] at h
    rw [fzs_cons, show sbD (fzR n S k) d = some d from fz_rlt k n S d h.1, fzs_rlt k n S ds h.2]; rfl
end
theorem rlt_keyD (n : Nat) (k : Key) : rlt n (keyD k) = true := by cases k <;> (unfold keyD; unfold rlt; rfl)
theorem rlts_keys (n : Nat) : ∀ ks : List Key, rlts n (ks.map keyD) = true
  | [] => by rw [List.map_nil]; unfold rlts; rfl
  | k :: ks => by rw [List.map_cons]; unfold rlts; rw [rlt_keyD, rlts_keys n ks]; rfl
theorem rlt_keyT (n : Nat) (ks : List Key) : rlt n (keyT ks) = true := by unfold keyT rlt; exact rlts_keys n ks
theorem sb_keyD (f : Nat → Option D) (k : Key) : sbD f (keyD k) = some (keyD k) := by cases k <;> (unfold keyD; unfold sbD; rfl)
theorem sbs_keys (f : Nat → Option D) : ∀ ks : List Key, sbDs f (ks.map keyD) = some (ks.map keyD)
  | [] => fzs_nil
  | k :: ks => by rw [List.map_cons, fzs_cons, sb_keyD, sbs_keys f ks]; rfl
theorem sb_keyT (f : Nat → Option D) (ks : List Key) : sbD f (keyT ks) = some (keyT ks) := by unfold keyT sbD; rw [sbs_keys]; rfl
def cellRlt (n : Nat) : Cell → Bool
  | .lst xs => rlts n xs
  | .dic _ es => rlts n es
  | .ins _ fs => rlts n (fs.map (·.2))
  | .dead => true
/-- the old cells are as they were, or name old cells only -/
def TrOk (S S' : Sto) : Prop := S.length ≤ S'.length ∧ ∀ i, i < S.length → S'[i]? = S[i]? ∨ ∃ c, S'[i]? = some c ∧ cellRlt S.length c = true
open Classical in
/-- out of the scope that began at S -/
noncomputable def exitD (S : Sto) (d : D) (S' : Sto) : Res D := if TrOk S S' then (match fzD 4 S.length S' d with
  | some e => .ok e (S'.take S.length)
  | none => .bad) else .bad
open Classical in
/-- the same by an exception -/
noncomputable def exitX (S : Sto) (x : Nat) (S' : Sto) : Res D := if TrOk S S' then .exc x (S'.take S.length) else .bad
open Classical in
/-- .. the answer is one new live list -/
noncomputable def exitN (S : Sto) (d : D) (S' : Sto) : Res D := if TrOk S S' then (match d with
  | .ref k => if k < S.length then .bad else (match S'[k]? with
    | some (.lst xs) => (match fzDs 4 S.length (S'.set k .dead) xs with
      | some ys => .ok (.ref S.length) (S'.take S.length ++ [.lst ys])
      | none => .bad)
    | _ => .bad)
  | _ => .bad) else .bad

section
variable {C : Ct} {ρ : List Addr} {F H : Hp} {S : Sto}
-- what is told of old cells holds by them alone
mutual
theorem RepD.cut {ρ' : List Addr} {n : Nat} (hp : ρ'.take n = ρ) : ∀ {v : V} {d : D}, RepD C ρ' F v d → rlt n d = true → RepD C ρ F v d
  | _, _, .non, _ => .non
  | _, _, .bl b, _ => .bl b
  | _, _, .int b, _ => .int b
  | _, _, .str b, _ => .str b
  | _, _, .tup q r, h => by unfold rlt at h; exact .tup q (RepAll.cut hp r h)
  | _, _, .lst q r, h => by unfold rlt at h; exact .lst q (RepAll.cut hp r h)
  | _, _, .dicK q r, h => by unfold rlt at h; exact .dicK q (RepKV.cut hp r h)
  | _, _, .dicT q r, h => by unfold rlt at h; exact .dicT q (RepKT.cut hp r h)
  | _, _, .exc e, _ => .exc e
  | _, _, .ref e, h => by
    unfold rlt at h
    refine .ref ?_
    rw [← hp, List.getElem?_take_of_lt (of_decide_eq_true h)]
    exact e
theorem RepAll.cut {ρ' : List Addr} {n : Nat} (hp : ρ'.take n = ρ) : ∀ {vs : List V} {ds : List D}, RepAll C ρ' F vs ds → rlts n ds = true → RepAll C ρ F vs ds
  | _, _, .nil, _ => .nil
  | _, _, .cons r t, h => by
    unfold rlts at h
    rw [Bool.and_eq_true] at h
    exact .cons (RepD.cut hp r h.1) (RepAll.cut hp t h.2)
theorem RepKV.cut {ρ' : List Addr} {n : Nat} (hp : ρ'.take n = ρ) : ∀ {vs : List (Key × V)} {ds : List D}, RepKV C ρ' F vs ds → rlts n ds = true → RepKV C ρ F vs ds
  | _, _, .nil, _ => .nil
  | _, _, .cons r t, h => by
    unfold rlts at h
    rw [Bool.and_eq_true] at h
    have h1 := h.1
    unfold rlt rlts rlts rlts at h1
    simp only [Bool.and_eq_true] at h1
    exact .cons (RepD.cut hp r h1.2.1) (RepKV.cut hp t h.2)
theorem RepKT.cut {ρ' : List Addr} {n : Nat} (hp : ρ'.take n = ρ) : ∀ {vs : List (List Key × V)} {ds : List D}, RepKT C ρ' F vs ds → rlts n ds = true → RepKT C ρ F vs ds
  | _, _, .nil, _ => .nil
  | _, _, .cons r t, h => by
    unfold rlts at h
    rw [Bool.and_eq_true] at h
    have h1 := h.1
    unfold rlt rlts rlts rlts at h1
    simp only [Bool.and_eq_true] at h1
    exact .cons (RepD.cut hp r h1.2.1) (RepKT.cut hp t h.2)
end
mutual
theorem RepD.rlt : ∀ {v : V} {d : D}, RepD C ρ F v d → DL.rlt ρ.length d = true
  | _, _, .non => by unfold DL.rlt; rfl
  | _, _, .bl b => by unfold DL.rlt; rfl
  | _, _, .int b => by unfold DL.rlt; rfl
  | _, _, .str b => by unfold DL.rlt; rfl
  | _, _, .tup q r => by unfold DL.rlt; exact RepAll.rlts r
  | _, _, .lst q r => by unfold DL.rlt; exact RepAll.rlts r
  | _, _, .dicK q r => by unfold DL.rlt; exact RepKV.rlts r
  | _, _, .dicT q r => by unfold DL.rlt; exact RepKT.rlts r
  | _, _, .exc e => by unfold DL.rlt; rfl
  | _, _, .ref e => by unfold DL.rlt; exact decide_eq_true (List.getElem?_eq_some_iff.mp e).1
theorem RepAll.rlts : ∀ {vs : List V} {ds : List D}, RepAll C ρ F vs ds → DL.rlts ρ.length ds = true
  | _, _, .nil => by unfold DL.rlts; rfl
  | _, _, .cons r t => by unfold DL.rlts; rw [RepD.rlt r, RepAll.rlts t]; rfl
theorem RepKV.rlts : ∀ {vs : List (Key × V)} {ds : List D}, RepKV C ρ F vs ds → DL.rlts ρ.length ds = true
  | _, _, .nil => by unfold DL.rlts; rfl
  | _, _, .cons (k := k) r t => by
    unfold DL.rlts; rw [RepKV.rlts t]
    have : DL.rlt ρ.length (keyD k) = true := by cases k <;> (show DL.rlt _ _ = true; unfold keyD; unfold DL.rlt; rfl)
    unfold DL.rlt DL.rlts DL.rlts DL.rlts; rw [this, RepD.rlt r]; rfl
theorem RepKT.rlts : ∀ {vs : List (List Key × V)} {ds : List D}, RepKT C ρ F vs ds → DL.rlts ρ.length ds = true
  | _, _, .nil => by unfold DL.rlts; rfl
  | _, _, .cons (k := k) r t => by
    unfold DL.rlts; rw [RepKT.rlts t]
    unfold DL.rlt DL.rlts DL.rlts DL.rlts; rw [rlt_keyT ρ.length k, RepD.rlt r]; rfl
end
theorem RepF.rlts {vs : List (Str × V)} {ds : List (Str × D)} (r : RepF C ρ F vs ds) : DL.rlts ρ.length (ds.map (·.2)) = true := by
  induction r with
  | nil => show DL.rlts _ [] = true; unfold DL.rlts; rfl
  | cons h _ ih => show DL.rlts _ (_ :: _) = true; unfold DL.rlts; rw [h.rlt, ih]; rfl
theorem RepF.cut {ρ' : List Addr} {n : Nat} (hp : ρ'.take n = ρ) {vs : List (Str × V)} {ds : List (Str × D)} (r : RepF C ρ' F vs ds) (h : DL.rlts n (ds.map (·.2)) = true) : RepF C ρ F vs ds := by
  induction r with
  | nil => exact .nil
  | cons q _ ih =>
    rw [List.map_cons] at h
    unfold DL.rlts at h
    rw [Bool.and_eq_true] at h
    exact .cons (q.cut hp h.1) (ih h.2)
theorem CellRep.rlt {a : Addr} : ∀ {c : Cell}, CellRep C ρ F H a c → cellRlt ρ.length c = true
  | .lst xs, ⟨vs, _, r⟩ => r.rlts
  | .dic false es, ⟨kvs, _, r⟩ => r.rlts
  | .dic true es, ⟨kvs, _, r⟩ => r.rlts
  | .ins c fs, ⟨dx, vfs, _, r⟩ => r.rlts
  | .dead, _ => rfl
theorem CellRep.cut {ρ' : List Addr} {n : Nat} (hp : ρ'.take n = ρ) {a : Addr} : ∀ {c : Cell}, CellRep C ρ' F H a c → cellRlt n c = true → CellRep C ρ F H a c
  | .lst xs, ⟨vs, h, r⟩, q => ⟨vs, h, r.cut hp q⟩
  | .dic false es, ⟨kvs, h, r⟩, q => ⟨kvs, h, r.cut hp q⟩
  | .dic true es, ⟨kvs, h, r⟩, q => ⟨kvs, h, r.cut hp q⟩
  | .ins c fs, ⟨dx, vfs, h, r⟩, q => ⟨dx, vfs, h, r.cut hp q⟩
  | .dead, _, _ => trivial
end
open Classical in
/-- the frozen part behind the scope: the cells laid since are in it -/
noncomputable def fzF (ρ' : List Addr) (n : Nat) (S' : Sto) (F' H' : Hp) : Hp := fun b => if ∃ k c, n ≤ k ∧ ρ'[k]? = some b ∧ S'[k]? = some c ∧ c ≠ .dead then H' b else F' b
section
variable {C : Ct} {ρ ρ' : List Addr} {F F' H H' : Hp} {S S' : Sto}
theorem fzF_le (R : Rel C ρ' F' S' H') (n : Nat) : Le F' (fzF ρ' n S' F' H') := fun a o e => by
  unfold fzF
  split
  · exact R.fz a o e
  · exact e
theorem fzF_sub (R : Rel C ρ' F' S' H') (n : Nat) : Le (fzF ρ' n S' F' H') H' := fun a o e => by
  unfold fzF at e
  split at e
  · exact e
  · exact R.fz a o e
theorem fzF_at {n k : Nat} {b : Addr} {c : Cell} (hk : n ≤ k) (e : ρ'[k]? = some b) (e2 : S'[k]? = some c) (h : c ≠ .dead) : fzF ρ' n S' F' H' b = H' b := by
  unfold fzF
  rw [if_pos ⟨k, c, hk, e, e2, h⟩]
-- what is told is told of the values
mutual
theorem RepD.sb {G G' : Hp} {f : Nat → Option D} (hle : Le G G') (hf : ∀ i a e, ρ'[i]? = some a → f i = some e → RepD C ρ G' (.ref a) e) : ∀ {v : V} {d e : D}, RepD C ρ' G v d → sbD f d = some e → RepD C ρ G' v e
  | _, _, e, .non, h => by unfold sbD at h; cases h; exact .non
  | _, _, e, .bl b, h => by unfold sbD at h; cases h; exact .bl b
  | _, _, e, .int b, h => by unfold sbD at h; cases h; exact .int b
  | _, _, e, .str b, h => by unfold sbD at h; cases h; exact .str b
  | _, _, e, .tup (xs := xs) hq ra, h => by
    unfold sbD at h
    cases e2 : sbDs f xs with
    | none => rw [e2] at h; cases h
    | some es => rw [e2] at h; cases h; exact .tup (sqT_mono hle hq) (RepAll.sb hle hf ra e2)
  | _, _, e, .lst (xs := xs) hq ra, h => by
    unfold sbD at h
    cases e2 : sbDs f xs with
    | none => rw [e2] at h; cases h
    | some es => rw [e2] at h; cases h; exact .lst (sqL_mono hle hq) (RepAll.sb hle hf ra e2)
  | _, _, e, .dicK (es := xs) hq ra, h => by
    unfold sbD at h
    cases e2 : sbDs f xs with
    | none => rw [e2] at h; cases h
    | some es => rw [e2] at h; cases h; exact .dicK (rd_mono hle hq) (RepKV.sb hle hf ra e2)
  | _, _, e, .dicT (es := xs) hq ra, h => by
    unfold sbD at h
    cases e2 : sbDs f xs with
    | none => rw [e2] at h; cases h
    | some es => rw [e2] at h; cases h; exact .dicT (rd_mono hle hq) (RepKT.sb hle hf ra e2)
  | _, _, e, .exc he, h => by unfold sbD at h; cases h; exact .exc (rd_mono hle he)
  | _, _, e, .ref he, h => by unfold sbD at h; exact hf _ _ _ he h
theorem RepAll.sb {G G' : Hp} {f : Nat → Option D} (hle : Le G G') (hf : ∀ i a e, ρ'[i]? = some a → f i = some e → RepD C ρ G' (.ref a) e) : ∀ {vs : List V} {ds es : List D}, RepAll C ρ' G vs ds → sbDs f ds = some es → RepAll C ρ G' vs es
  | _, _, es, .nil, h => by rw [fzs_nil] at h; cases h; exact .nil
  | _, _, es, .cons (d := d) (ds := ds) r t, h => by
    rw [fzs_cons] at h
    cases e1 : sbD f d with
    | none => rw [e1] at h; cases h
    | some e =>
      cases e2 : sbDs f ds with
      | none => rw [e1, e2] at h; cases h
      | some es' =>
        rw [e1, e2] at h
        cases h
        exact .cons (RepD.sb hle hf r e1) (RepAll.sb hle hf t e2)
theorem RepKV.sb {G G' : Hp} {f : Nat → Option D} (hle : Le G G') (hf : ∀ i a e, ρ'[i]? = some a → f i = some e → RepD C ρ G' (.ref a) e) : ∀ {vs : List (Key × V)} {ds es : List D}, RepKV C ρ' G vs ds → sbDs f ds = some es → RepKV C ρ G' vs es
  | _, _, es, .nil, h => by rw [fzs_nil] at h; cases h; exact .nil
  | _, _, es, .cons (k := kk) (d := d) (ds := ds) r t, h => by
    have hk : sbD f (keyD kk) = some (keyD kk) := by
      cases kk with
      | inl i => show sbD f (.int i) = _; unfold sbD; rfl
      | inr x => show sbD f (.str x) = _; unfold sbD; rfl
    rw [fzs_cons] at h
    unfold sbD at h
    rw [fzs_cons, fzs_cons, fzs_nil, hk] at h
    cases e1 : sbD f d with
    | none => rw [e1] at h; cases h
    | some e =>
      cases e2 : sbDs f ds with
      | none => rw [e1, e2] at h; cases h
      | some es' =>
        rw [e1, e2] at h
        cases h
        exact .cons (RepD.sb hle hf r e1) (RepKV.sb hle hf t e2)
theorem RepKT.sb {G G' : Hp} {f : Nat → Option D} (hle : Le G G') (hf : ∀ i a e, ρ'[i]? = some a → f i = some e → RepD C ρ G' (.ref a) e) : ∀ {vs : List (List Key × V)} {ds es : List D}, RepKT C ρ' G vs ds → sbDs f ds = some es → RepKT C ρ G' vs es
  | _, _, es, .nil, h => by rw [fzs_nil] at h; cases h; exact .nil
  | _, _, es, .cons (k := kk) (d := d) (ds := ds) r t, h => by
    have hk := sb_keyT f kk
    rw [fzs_cons] at h
    unfold sbD at h
    rw [fzs_cons, fzs_cons, fzs_nil, hk] at h
    cases e1 : sbD f d with
    | none => rw [e1] at h; cases h
    | some e =>
      cases e2 : sbDs f ds with
      | none => rw [e1, e2] at h; cases h
      | some es' =>
        rw [e1, e2] at h
        cases h
        exact .cons (RepD.sb hle hf r e1) (RepKT.sb hle hf t e2)
end
theorem rep_fzR {n : Nat} (hp : ρ'.take n = ρ) (R : Rel C ρ' F' S' H') : ∀ (k : Nat) (i : Nat) (a : Addr) (e : D), ρ'[i]? = some a → fzR n S' k i = some e → RepD C ρ (fzF ρ' n S' F' H') (.ref a) e := by
  have low : ∀ (i : Nat) (a : Addr), i < n → ρ'[i]? = some a → RepD C ρ (fzF ρ' n S' F' H') (.ref a) (.ref i) := fun i a hi he => .ref (by rw [← hp, List.getElem?_take_of_lt hi]; exact he)
  intro k
  induction k with
  | zero =>
    intro i a e he h
    unfold fzR at h
    split at h
    · next hi => cases h; exact low i a hi he
    · cases h
  | succ k ih =>
    intro i a e he h
    unfold fzR at h
    split at h
    · next hi => cases h; exact low i a hi he
    · next hi =>
      unfold cellV at h
      split at h
      · next xs hS =>
        obtain ⟨vs, hv, ra⟩ := R.cell i a _ he hS
        cases e2 : sbDs (fzR n S' k) xs with
        | none => rw [e2] at h; cases h
        | some es =>
          rw [e2] at h; cases h
          exact .lst (SqL.of ((fzF_at (Nat.le_of_not_lt hi) he hS (by intro z; cases z)).trans hv)) (RepAll.sb (fzF_le R n) ih ra e2)
      · next t xs hS =>
        cases e2 : sbDs (fzR n S' k) xs with
        | none => rw [e2] at h; cases h
        | some es =>
          rw [e2] at h; cases h
          cases t with
          | false =>
            obtain ⟨vs, hv, ra⟩ := R.cell i a _ he hS
            exact .dicK (.inl ((fzF_at (Nat.le_of_not_lt hi) he hS (by intro z; cases z)).trans hv)) (RepKV.sb (fzF_le R n) ih ra e2)
          | true =>
            obtain ⟨vs, hv, ra⟩ := R.cell i a _ he hS
            exact .dicT (.inl ((fzF_at (Nat.le_of_not_lt hi) he hS (by intro z; cases z)).trans hv)) (RepKT.sb (fzF_le R n) ih ra e2)
      · cases h
theorem rep_fz {n k : Nat} (hp : ρ'.take n = ρ) (R : Rel C ρ' F' S' H') {v : V} {d e : D} (r : RepD C ρ' F' v d) (h : fzD k n S' d = some e) : RepD C ρ (fzF ρ' n S' F' H') v e :=
  RepD.sb (fzF_le R n) (rep_fzR hp R k) r h
/-- the relation behind the scope -/
theorem Rel.exit (R0 : Rel C ρ F S H) (hpre : ρ <+: ρ') (R : Rel C ρ' F' S' H') (t : TrOk S S') : Rel C ρ (fzF ρ' S.length S' F' H') (S'.take S.length) H' ∧ ρ'.take S.length = ρ ∧ Le F' (fzF ρ' S.length S' F' H') := by
  have hp : ρ'.take S.length = ρ := by
    obtain ⟨x, rfl⟩ := hpre
    rw [← R0.len, List.take_left]
  have hget : ∀ i a, ρ[i]? = some a → ρ'[i]? = some a ∧ i < S.length := fun i a e => ⟨pre_get hpre e, by rw [← R0.len]; exact (List.getElem?_eq_some_iff.mp e).1⟩
  have hS : ∀ i c, i < S.length → (S'.take S.length)[i]? = some c → S'[i]? = some c := fun i c hi e => by rw [List.getElem?_take_of_lt hi] at e; exact e
  refine ⟨⟨fzF_sub R _, ?_, fun i a c e1 e2 => ?_, fun i a c e1 e2 hc => ?_, fun i j a ci cj h1 h2 h3 h4 hi hj => ?_⟩, hp, fzF_le R _⟩
  · rw [List.length_take, R0.len, Nat.min_eq_left t.1]
  · obtain ⟨e3, hi⟩ := hget i a e1
    have e4 := hS i c hi e2
    have cr := R.cell i a c e3 e4
    have hr : cellRlt S.length c = true := by
      rcases t.2 i hi with h | ⟨c', h, h'⟩
      · rw [e4] at h
        have := (R0.cell i a c e1 h.symm).rlt
        rw [R0.len] at this; exact this
      · rw [e4] at h; cases h; exact h'
    exact (cr.cut hp hr).mono (List.prefix_refl _) (fzF_le R _) fun o e => e
  · obtain ⟨e3, hi⟩ := hget i a e1
    have e4 := hS i c hi e2
    unfold fzF
    rw [if_neg]
    · exact R.apart i a c e3 e4 hc
    · rintro ⟨k, ck, hk, k1, k2, k3⟩
      have := R.inj i k a c ck e3 k1 e4 k2 hc k3
      omega
  · obtain ⟨e3, l1⟩ := hget i a h1
    obtain ⟨e4, l2⟩ := hget j a h2
    exact R.inj i j a ci cj e3 e4 (hS i ci l1 h3) (hS j cj l2 h4) hi hj
/-- leaving with a value -/
theorem exit_ok {v : V} {d e : D} {S2 : Sto} (R0 : Rel C ρ F S H) (hpre : ρ <+: ρ') (R : Rel C ρ' F' S' H') (hF : Le F F') (r : RepD C ρ' F' v d) (h : exitD S d S' = .ok e S2) :
    ∃ F2, Rel C ρ F2 S2 H' ∧ Le F F2 ∧ RepD C ρ F2 v e := by
  unfold exitD at h
  split at h
  · next t =>
    split at h
    · next e' he =>
      injection h with h1 h2
      subst h1 h2
      obtain ⟨R2, hp, hl⟩ := Rel.exit R0 hpre R t
      exact ⟨_, R2, hF.trans hl, rep_fz hp R r he⟩
    · cases h
  · cases h
theorem exit_x {x y : Nat} {S2 : Sto} (R0 : Rel C ρ F S H) (hpre : ρ <+: ρ') (R : Rel C ρ' F' S' H') (hF : Le F F') (h : exitX S x S' = .exc y S2) :
    x = y ∧ ∃ F2, Rel C ρ F2 S2 H' ∧ Le F F2 := by
  unfold exitX at h
  split at h
  · next t =>
    injection h with h1 h2
    subst h1 h2
    obtain ⟨R2, hp, hl⟩ := Rel.exit R0 hpre R t
    exact ⟨rfl, _, R2, hF.trans hl⟩
  · cases h
theorem exitD_cases (S : Sto) (d : D) (S' : Sto) : (∃ e S2, exitD S d S' = .ok e S2) ∨ exitD S d S' = .bad := by
  unfold exitD
  split
  · split
    · exact .inl ⟨_, _, rfl⟩
    · exact .inr rfl
  · exact .inr rfl
theorem exitX_cases (S : Sto) (x : Nat) (S' : Sto) : (∃ S2, exitX S x S' = .exc x S2) ∨ exitX S x S' = .bad := by
  unfold exitX
  split
  · exact .inl ⟨_, rfl⟩
  · exact .inr rfl
/-- a live cell is given up -/
theorem Rel.die (R : Rel C ρ F S H) (k : Nat) : Rel C ρ F (S.set k .dead) H := by
  have get : ∀ (i : Nat) (c : Cell), (S.set k .dead)[i]? = some c → c = .dead ∨ S[i]? = some c := fun i c e => by
    rw [List.getElem?_set] at e
    split at e
    · split at e
      · exact .inl (Option.some.inj e).symm
      · cases e
    · exact .inr e
  refine ⟨R.fz, by simp [R.len], fun i a c e1 e2 => ?_, fun i a c e1 e2 hc => ?_, fun i j a ci cj h1 h2 h3 h4 hi hj => ?_⟩
  · rcases get i c e2 with rfl | e
    · trivial
    · exact R.cell i a c e1 e
  · rcases get i c e2 with rfl | e
    · exact absurd rfl hc
    · exact R.apart i a c e1 e hc
  · rcases get i ci h3 with rfl | e3
    · exact absurd rfl hi
    · rcases get j cj h4 with rfl | e4
      · exact absurd rfl hj
      · exact R.inj i j a ci cj h1 h2 e3 e4 hi hj
/-- a thing that is tracked, no live cell: a cell again -/
theorem Rel.add (R : Rel C ρ F S H) {p : Addr} {c : Cell} (hF : F p = none) (hno : ∀ (i : Nat) (ci : Cell), ρ[i]? = some p → S[i]? = some ci → ci = .dead) (hn : CellRep C (ρ ++ [p]) F H p c) : Rel C (ρ ++ [p]) F (S ++ [c]) H := by
  have pr : ρ <+: ρ ++ [p] := List.prefix_append _ _
  have gρ : ∀ j b, (ρ ++ [p])[j]? = some b → (ρ[j]? = some b ∧ j < ρ.length) ∨ (j = ρ.length ∧ b = p) := fun j b e => by
    by_cases hj : j < ρ.length
    · rw [List.getElem?_append_left hj] at e; exact .inl ⟨e, hj⟩
    · have hl : j < (ρ ++ [p]).length := (List.getElem?_eq_some_iff.mp e).1
      have hj' : j = ρ.length := by simp at hl; omega
      subst hj'
      simp at e
      exact .inr ⟨rfl, e.symm⟩
  have gS : ∀ j cj, j < ρ.length → (S ++ [c])[j]? = some cj → S[j]? = some cj := fun j cj hj e => by
    rw [List.getElem?_append_left (by rw [← R.len]; exact hj)] at e; exact e
  have gL : ∀ cj, (S ++ [c])[ρ.length]? = some cj → cj = c := fun cj e => by
    rw [R.len] at e; simp at e; exact e.symm
  refine ⟨R.fz, by simp [R.len], fun j b cj h1 h2 => ?_, fun j b cj h1 h2 hc => ?_, fun j k b cj ck h1 h2 h3 h4 hj hk => ?_⟩
  · rcases gρ j b h1 with ⟨h1, hl⟩ | ⟨rfl, rfl⟩
    · exact (R.cell j b cj h1 (gS j cj hl h2)).mono pr (Le.refl _) fun u e => e
    · have hc := gL cj h2; subst hc; exact hn
  · rcases gρ j b h1 with ⟨h1, hl⟩ | ⟨rfl, rfl⟩
    · exact R.apart j b cj h1 (gS j cj hl h2) hc
    · exact hF
  · rcases gρ j b h1 with ⟨g1, hl⟩ | ⟨e1, e2⟩ <;> rcases gρ k b h2 with ⟨g2, hl'⟩ | ⟨e3, e4⟩
    · exact R.inj j k b cj ck g1 g2 (gS j cj hl h3) (gS k ck hl' h4) hj hk
    · subst e4; exact absurd (hno j cj g1 (gS j cj hl h3)) hj
    · subst e2; exact absurd (hno k ck g2 (gS k ck hl' h4)) hk
    · rw [e1, e3]
/-- leaving with a new live list -/
theorem exit_nw {v : V} {d e : D} {S2 : Sto} (R0 : Rel C ρ F S H) (hpre : ρ <+: ρ') (R : Rel C ρ' F' S' H') (hF : Le F F') (r : RepD C ρ' F' v d) (h : exitN S d S' = .ok e S2) :
    ∃ ρ2 F2, Rel C ρ2 F2 S2 H' ∧ ρ <+: ρ2 ∧ Le F F2 ∧ RepD C ρ2 F2 v e := by
  unfold exitN at h
  split at h
  · next t =>
    split at h
    · next k =>
      split at h
      · cases h
      · next hk =>
        split at h
        · next xs hS =>
          split at h
          · next ys he =>
            injection h with h1 h2
            subst h1 h2
            cases r with
            | @ref a _ ea =>
            have hk' : S.length ≤ k := Nat.le_of_not_lt hk
            have Rd := R.die k
            have t' : TrOk S (S'.set k .dead) := ⟨by simpa using t.1, fun i hi => by
              rw [List.getElem?_set_ne (by omega)]; exact t.2 i hi⟩
            obtain ⟨R2, hp, hl⟩ := Rel.exit R0 hpre Rd t'
            have e1 : (S'.set k .dead).take S.length = S'.take S.length := by
              refine List.ext_getElem? fun i => ?_
              by_cases hi : i < S.length
              · rw [List.getElem?_take_of_lt hi, List.getElem?_take_of_lt hi, List.getElem?_set_ne (by omega)]
              · rw [List.getElem?_eq_none (by simp; omega), List.getElem?_eq_none (by simp; omega)]
            rw [e1] at R2
            have hne : (Cell.lst xs) ≠ .dead := by intro z; cases z
            have hFa : F' a = none := R.apart k a _ ea hS hne
            have hno : ∀ (i : Nat) (ci : Cell), ρ'[i]? = some a → (S'.set k .dead)[i]? = some ci → ci = .dead := fun i ci h1 h2 => by
              by_cases hi : k = i
              · subst hi
                rw [List.getElem?_set_self (List.getElem?_eq_some_iff.mp hS).1] at h2
                exact (Option.some.inj h2).symm
              · rw [List.getElem?_set_ne hi] at h2
                by_cases hd : ci = .dead
                · exact hd
                · exact absurd (R.inj k i a _ ci ea h1 hS h2 hne hd) hi
            have hfa : fzF ρ' S.length (S'.set k .dead) F' H' a = none := by
              unfold fzF
              rw [if_neg]
              · exact hFa
              · rintro ⟨j, c, _, j1, j2, j3⟩
                exact j3 (hno j c j1 j2)
            obtain ⟨vs, hv, ra⟩ := R.cell k a _ ea hS
            have ra' := RepAll.sb (fzF_le Rd S.length) (rep_fzR hp Rd 4) ra he
            have pr : ρ <+: ρ ++ [a] := List.prefix_append _ _
            refine ⟨ρ ++ [a], _, Rel.add R2 hfa (fun i ci h1 h2 => ?_) ⟨vs, hv, ra'.mono pr (Le.refl _)⟩, pr, hF.trans hl, .ref ?_⟩
            · have hi : i < S.length := by rw [← R0.len]; exact (List.getElem?_eq_some_iff.mp h1).1
              rw [List.getElem?_take_of_lt hi] at h2
              exact hno i ci (pre_get hpre h1) (by rw [List.getElem?_set_ne (by omega)]; exact h2)
            · rw [← R0.len]; exact ref_last
          · cases h
        · cases h
    · cases h
  · cases h
/-- how a def's live cells end: frozen and forgotten; one new list; all of them stay -/
inductive _root_.DL.Mode where
  | fr | nw | rw
noncomputable def _root_.DL.exitM : Mode → Sto → D → Sto → Res D
  | .fr, S, d, S' => exitD S d S'
  | .nw, S, d, S' => exitN S d S'
  | .rw, _, d, S' => .ok d S'
noncomputable def _root_.DL.exitMX : Mode → Sto → Nat → Sto → Res D
  | .rw, _, x, S' => .exc x S'
  | _, S, x, S' => exitX S x S'
theorem exitN_cases (S : Sto) (d : D) (S' : Sto) : (∃ e S2, exitN S d S' = .ok e S2) ∨ exitN S d S' = .bad := by
  unfold exitN
  split
  · split
    · split
      · exact .inr rfl
      · split
        · split
          · exact .inl ⟨_, _, rfl⟩
          · exact .inr rfl
        · exact .inr rfl
    · exact .inr rfl
  · exact .inr rfl
theorem exitM_cases (m : Mode) (S : Sto) (d : D) (S' : Sto) : (∃ e S2, exitM m S d S' = .ok e S2) ∨ exitM m S d S' = .bad := by
  cases m with
  | fr => exact exitD_cases S d S'
  | nw => exact exitN_cases S d S'
  | rw => exact .inl ⟨_, _, rfl⟩
theorem exitM_ok {m : Mode} {v : V} {d e : D} {S2 : Sto} (R0 : Rel C ρ F S H) (hpre : ρ <+: ρ') (R : Rel C ρ' F' S' H') (hF : Le F F') (r : RepD C ρ' F' v d) (h : exitM m S d S' = .ok e S2) :
    ∃ ρ2 F2, Rel C ρ2 F2 S2 H' ∧ ρ <+: ρ2 ∧ Le F F2 ∧ RepD C ρ2 F2 v e := by
  cases m with
  | fr =>
    obtain ⟨F2, a, b, c⟩ := exit_ok R0 hpre R hF r h
    exact ⟨ρ, F2, a, List.prefix_refl _, b, c⟩
  | nw => exact exit_nw R0 hpre R hF r h
  | rw =>
    injection h with h1 h2
    subst h1 h2
    exact ⟨ρ', F', R, hpre, hF, r⟩
/-! how one sees that a scope is left well -/
theorem TrOk.ext (S E : Sto) : TrOk S (S ++ E) := ⟨by simp, fun i hi => .inl (by rw [List.getElem?_append_left hi])⟩
theorem exit_ext {S E : Sto} {d e : D} (h : fzD 4 S.length (S ++ E) d = some e) : exitD S d (S ++ E) = .ok e S := by
  unfold exitD
  rw [if_pos (TrOk.ext S E), h, List.take_left]
theorem exit_same {S : Sto} {d : D} (h : rlt S.length d = true) : exitD S d S = .ok d S := by
  have := exit_ext (S := S) (E := []) (d := d) (e := d) (by rw [List.append_nil]; exact fz_rlt _ _ _ d h)
  rwa [List.append_nil] at this
theorem exitN_ext {S : Sto} {xs : List D} (h : rlts S.length xs = true) : exitN S (.ref S.length) (S ++ [.lst xs]) = .ok (.ref S.length) (S ++ [.lst xs]) := by
  unfold exitN
  rw [if_pos (TrOk.ext S _)]
  simp only [Nat.lt_irrefl, if_false]
  rw [List.getElem?_append_right (Nat.le_refl _), Nat.sub_self]
  simp only [List.getElem?_cons_zero]
  have e : fzDs 4 S.length ((S ++ [Cell.lst xs]).set S.length .dead) xs = some xs := fzs_rlt _ _ _ xs h
  unfold fzDs at e ⊢
  rw [e]
  simp only [List.take_left]
theorem exitX_ext {S E : Sto} {x : Nat} : exitX S x (S ++ E) = .exc x S := by
  unfold exitX
  rw [if_pos (TrOk.ext S E), List.take_left]
theorem exitX_same {S : Sto} {x : Nat} : exitX S x S = .exc x S := by
  have := exitX_ext (S := S) (E := []) (x := x)
  rwa [List.append_nil] at this
end
end DL

/-! DL7: targets, loops, comprehensions. -/
namespace DL
open PySem PySem.Spec PyProof.Rows L2

/-! ### targets -/
/-- what storing does: the slots it may change are named beside -/
abbrev GD := D → Loc → Sto → Option (Loc × Sto)
def Keep (ix : List Nat) (σ σ' : L2.St) : Prop := ∀ vs : List Nat, (∀ i ∈ ix, i ∈ vs) → wipe σ' vs = wipe σ vs
def satG (C : Ct) (ix : List Nat) (ρ : List Addr) (F : Hp) (σ : L2.St) (r : Option (Loc × Sto)) (Q : L2.St → Hp → Prop) : Prop := match r with
  | some (l', S') => ∀ ρ' F' H' σ', Rel C ρ' F' S' H' → ρ <+: ρ' → Le F F' → LRel C ρ' F' σ' l' → Keep ix σ σ' → Q σ' H'
  | none => False
def tG (C : Ct) (ix : List Nat) (G : GD) : TG := fun v σ H Q => ∃ l S ρ F d, LRel C ρ F σ l ∧ Rel C ρ F S H ∧ RepD C ρ F v d ∧ satG C ix ρ F σ (G d l S) Q
theorem _root_.L2.PG.imp {X : Cx} {e : Expr} {t t' : TG} (h : PG X e t) (i : ∀ v σ H Q, t' v σ H Q → t v σ H Q) : PG X e t' := ⟨fun pins s σ H v u Q I r q => h.run pins s σ H v u Q I r (i _ _ _ _ q)⟩
abbrev DG (X : Cx) (cl : Nat → Addr) (ix : List Nat) (e : Expr) (G : GD) : Prop := PG X e (tG (cxt X cl) ix G)
def gNm (i : Nat) : GD := fun d l S => some (l.set i (some d), S)
/-- names, one after another, of a tuple's items -/
def gNms : List Nat → List D → Loc → Option Loc
  | [], [], l => some l
  | i :: is, d :: ds, l => gNms is ds (l.set i (some d))
  | _, _, _ => none
def gTp (is : List Nat) : GD := fun d l S => match d with
  | .tup xs => (gNms is xs l).map fun l' => (l', S)
  | _ => none
theorem wipe_set {σ : L2.St} {i : Nat} {v : Option V} : ∀ {vs : List Nat}, i ∈ vs → wipe (σ.set i v) vs = wipe σ vs
  | [], h => by cases h
  | j :: vs, h => by
    unfold wipe
    by_cases hj : i ∈ vs
    · rw [wipe_set hj]
    · have hij : i = j := by
        rcases List.mem_cons.mp h with e | e
        · exact e
        · exact absurd e hj
      subst hij
      have : ∀ {vs : List Nat} {σ : L2.St}, i ∉ vs → wipe (σ.set i v) vs = (wipe σ vs).set i v := by
        intro vs
        induction vs with
        | nil => intro σ _; rfl
        | cons k vs ih =>
          intro σ hn
          simp only [List.mem_cons, not_or] at hn
          unfold wipe
          rw [ih hn.2, List.set_comm _ _ hn.1]
      rw [this hj, List.set_set]
theorem Keep.refl {ix : List Nat} {σ : L2.St} : Keep ix σ σ := fun _ _ => rfl
theorem Keep.trans {ix : List Nat} {σ σ1 σ2 : L2.St} (a : Keep ix σ σ1) (b : Keep ix σ1 σ2) : Keep ix σ σ2 := fun vs h => (b vs h).trans (a vs h)
theorem Keep.set {ix : List Nat} {σ : L2.St} {i : Nat} {v : Option V} (h : i ∈ ix) : Keep ix σ (σ.set i v) := fun vs hv => wipe_set (hv i h)
section
variable {X : Cx} {cl : Nat → Addr} {pos : Pos}
theorem dg_name {i : Nat} {x : Str} (hN : X.N.Nodup) (hi : X.N[i]? = some x := by rfl) (hx : L2.Loc X.env.scope x := by first | exact Or.inl rfl | exact Or.inr rfl) (hf : X.fn x = true ∨ X.env.scope.names.lookup x = some .local := by first | exact .inl rfl | exact .inr rfl | assumption) :
    DG X cl [i] (.Name x pos) (gNm i) := (pg_name hN hi hx hf).imp fun v σ H Q ⟨l, S, ρ, F, d, hl, R, r, h⟩ => h ρ F H _ R (List.prefix_refl _) (Le.refl _) (hl.set i r) (Keep.set List.mem_cons_self)
/-- several plain names -/
def tGs (C : Ct) (is : List Nat) : TGs := fun vs σ H Q => ∃ ρ F ds l l', LRel C ρ F σ l ∧ RepAll C ρ F vs ds ∧ gNms is ds l = some l' ∧ ∀ σ', LRel C ρ F σ' l' → Keep is σ σ' → Q σ' H
abbrev DGs (X : Cx) (cl : Nat → Addr) (is : List Nat) (es : List Expr) : Prop := PGs X es (tGs (cxt X cl) is)
theorem dgs_nil : DGs X cl [] [] := ⟨fun pins s σ H vs us Q I r h => by
  obtain ⟨ρ, F, ds, l, l', hl, ra, e, q⟩ := h
  refine pgs_nil.run pins s σ H vs us Q I r ?_
  cases ds with
  | nil =>
    cases ra
    obtain rfl := Option.some.inj (show some l = some l' from e)
    exact ⟨rfl, q σ hl Keep.refl⟩
  | cons _ _ => exact nomatch e⟩
theorem dgs_cons {i : Nat} {is : List Nat} {x : Str} {es : List Expr} (h2 : DGs X cl is es) (hN : X.N.Nodup) (hi : X.N[i]? = some x := by rfl) (hx : L2.Loc X.env.scope x := by first | exact Or.inl rfl | exact Or.inr rfl)
    (hf : X.fn x = true ∨ X.env.scope.names.lookup x = some .local := by first | exact .inl rfl | exact .inr rfl | assumption)
    (hs : (assignEach (.Name x pos :: es) X.env).map (·.2) = assign (.Name x pos) X.env :: (assignEach es X.env).map (·.2) := by rfl) : DGs X cl (i :: is) (.Name x pos :: es) := ⟨fun pins s σ H vs us Q I r h => by
  obtain ⟨ρ, F, ds, l, l', hl, ra, e, q⟩ := h
  refine (pgs_cons (pg_name hN hi hx hf) h2 hs).run pins s σ H vs us Q I r ?_
  cases ra with
  | nil => exact nomatch e
  | cons rv rs =>
    refine ⟨_, _, rfl, ρ, F, _, _, l', hl.set i rv, rs, e, fun σ' hl' k => q σ' hl' ?_⟩
    exact (Keep.set (ix := i :: is) List.mem_cons_self).trans fun vs hv => k vs fun j hj => hv j (List.mem_cons_of_mem _ hj)⟩
theorem gNms_len : ∀ {is : List Nat} {ds : List D} {l l' : Loc}, gNms is ds l = some l' → ds.length = is.length
  | [], [], _, _, _ => rfl
  | [], _ :: _, _, _, h => nomatch h
  | _ :: _, [], _, _, h => nomatch h
  | i :: is, d :: ds, l, l', h => by
    have := gNms_len (is := is) (ds := ds) h
    simp [this]
theorem dg_tup {es : List Expr} {k n : Nat} {is : List Nat} (hc : X.calm = true) (h : DGs X cl is es) (hi : is.length = n := by rfl)
    (hn : (assignEach es X.env).length = n := by rfl) (hst : (assignEach es X.env).findIdx? (·.1) = none := by rfl) : DG X cl is (.Tuple es k pos) (gTp is) := (pg_tup hc h hn hst).imp fun v σ H Q ⟨l, S, ρ, F, d, hl, R, r, h⟩ => by
  unfold gTp at h
  split at h
  · next xs =>
    obtain ⟨a, vs, rfl, hq, ra⟩ := rep_tup R r
    cases e : gNms is xs l with
    | none => rw [e] at h; exact h.elim
    | some l' =>
      rw [e] at h
      refine ⟨a, vs, rfl, hq, by rw [ra.len, gNms_len e, hi], ρ, F, xs, l, l', hl, ra, e, fun σ' hl' k => h ρ F H σ' R (List.prefix_refl _) (Le.refl _) hl' k⟩
  · exact h.elim
end

/-! ### target = value -/
def sAsg (A : E) (G : GD) : Stm := fun l S => (A l S).toS l fun d S1 => match G d l S1 with
  | some (l1, S2) => .next l1 S2
  | none => .bad
theorem satG.of {C : Ct} {W : WX} {ix : List Nat} {ρ : List Addr} {F : Hp} {σ : L2.St} {r : Option (Loc × Sto)} {D : Ends} (h : satS C W ρ F (match r with
    | some (l1, S2) => .next l1 S2
    | none => .bad) D) : satG C ix ρ F σ r D.nx := by
  cases r with
  | none => exact h
  | some p => exact fun ρ' F' H' σ' a b c d _ => h ρ' F' H' σ' a b c d
section
variable {X : Cx} {cl : Nat → Addr} {W : WX} {A : E} {G : GD} {e tg : Expr} {pos : Pos} {ix : List Nat}
theorem ds_asg (he : DE X cl W e A) (hg : DG X cl ix tg G) (hs : swapsWithSole [tg] e pos.line X.env = pure false := by rfl) (hw : swappedStores [tg] e X.env = pure none := by rfl)
    (h1 : (assignEach [tg] X.env).map (·.2) = [assign tg X.env] := by rfl) : DS X cl W (.Assign [tg] e pos) (sAsg A G) := (ps_asg he hg hs hw h1).imp fun D σ H ⟨l, S, ρ, F, hl, R, h⟩ => by
  refine tE_stepX hl R (satS.x hl h) fun d S1 ρ1 F1 H1 v R1 hl1 r1 p1 f1 h1 => ?_
  exact ⟨l, S1, ρ1, F1, d, hl1, R1, r1, satG.of (satS.mono p1 f1 h1)⟩
end

/-! ### what is walked -/
/-- the items, and what must stay so while they are walked -/
structure Seqn where
  items : List D
  gd : Sto → Prop
def ItOk (C : Ct) (J : It) (ρ1 : List Addr) (F1 : Hp) (q : Seqn) : Prop := ∀ ρ F S H i, ρ1 <+: ρ → Le F1 F → Rel C ρ F S H → q.gd S →
  (q.items.length ≤ i → J.stop i H) ∧ ∀ d, q.items[i]? = some d → J.go i H ∧ ∀ x H', J.yld i H x H' → ∃ F', Le F F' ∧ Rel C ρ F' S H' ∧ RepD C ρ F' x d
abbrev I := Loc → Sto → Res Seqn
def tI (C : Ct) (W : WX) (A : I) : TI := fun σ H R => ∃ l S ρ F, LRel C ρ F σ l ∧ Rel C ρ F S H ∧ satX C W ρ F σ (A l S) fun q S1 => ∀ ρ1 F1 H1 J, Rel C ρ1 F1 S1 H1 → ρ <+: ρ1 → Le F F1 → ItOk C J ρ1 F1 q → R J H1
abbrev DI (X : Cx) (cl : Nat → Addr) (W : WX) (tg e : Expr) (A : I) : Prop := PI X tg e (tI (cxt X cl) W A)
theorem _root_.L2.PI.imp {X : Cx} {tg e : Expr} {t t' : TI} (h : PI X tg e t) (i : ∀ σ H Q, t' σ H Q → t σ H Q) : PI X tg e t' := ⟨fun pins s σ H R I q => h.run pins s σ H R I (i _ _ _ q)⟩
theorem satX.of {α β : Type} {C : Ct} {W : WX} {ρ : List Addr} {F : Hp} {σ : L2.St} {r : Res α} {k : α → Sto → Res β} {ok : β → Sto → Prop} (h : satX C W ρ F σ (r.bind k) ok) : satX C W ρ F σ r fun d S => satX C W ρ F σ (k d S) ok := by
  cases r <;> exact h
/-- a list, a tuple -/
def iSeq (A : E) : I := fun l S => (A l S).bind fun d S1 => match seqOf S1 d with
  | some xs => .ok ⟨xs, fun S' => seqOf S' d = some xs⟩ S1
  | none => .bad
def rangeI (lo : Int) (n : Nat) : List D := (List.range n).map fun (i : Nat) => D.int (lo + i)
@[irreducible] def small62 (i : Int) : Bool := decide (-(2 ^ 62) ≤ i) && decide (i < 2 ^ 62)
def iR1 (r : As) : I := fun l S => (r l S).bind fun ds S1 => match ds with
  | [.int j] => if small62 j = true then .ok ⟨rangeI 0 j.toNat, fun _ => True⟩ S1 else .bad
  | _ => .bad
def iR2 (r : As) : I := fun l S => (r l S).bind fun ds S1 => match ds with
  | [.int i, .int j] => if (small62 i && small62 j) = true then .ok ⟨rangeI i (j - i).toNat, fun _ => True⟩ S1 else .bad
  | _ => .bad
theorem rangeI_get {lo : Int} {n i : Nat} {d : D} (h : (rangeI lo n)[i]? = some d) : i < n ∧ d = .int (lo + i) := by
  unfold rangeI at h
  rw [List.getElem?_map] at h
  by_cases hi : i < n
  · rw [List.getElem?_range hi] at h
    exact ⟨hi, (Option.some.inj h).symm⟩
  · rw [List.getElem?_eq_none (by simpa using hi)] at h; cases h
theorem rangeI_len (lo : Int) (n : Nat) : (rangeI lo n).length = n := by simp [rangeI]
theorem itOk_range {C : Ct} {ρ : List Addr} {F : Hp} (lo : Int) (n : Nat) : ItOk C (Itr lo n) ρ F ⟨rangeI lo n, fun _ => True⟩ := fun ρ1 F1 S H i _ _ R _ => by
  refine ⟨fun h => by rw [rangeI_len] at h; exact h, fun d hd => ?_⟩
  obtain ⟨hi, rfl⟩ := rangeI_get hd
  exact ⟨hi, fun x H' ⟨e1, e2⟩ => by subst e1 e2; exact ⟨F1, Le.refl _, R, .int _⟩⟩
/-- the same sequence, told twice -/
theorem RepAll.get2 {C : Ct} {ρ : List Addr} {F : Hp} {vs : List V} {ds : List D} (r : RepAll C ρ F vs ds) {i : Nat} {d : D} {v : V} (h : ds[i]? = some d) (h' : vs[i]? = some v) : RepD C ρ F v d := by
  obtain ⟨v', e, r'⟩ := r.get h
  rw [h'] at e; cases e; exact r'
section
variable {X : Cx} {cl : Nat → Addr} {W : WX} {A : E} {r : As} {e a b tg : Expr} {pos p : Pos}
theorem di_seqL (he : DE X cl W e A) : PI X tg e (iList X.K (tE (cxt X cl) W A)) := pi_list he
theorem itOk_list {C : Ct} {ρ1 : List Addr} {F1 : Hp} {ad : Addr} {d : D} {xs : List D} (r1 : RepD C ρ1 F1 (.ref ad) d) (hne : ∀ ys, d ≠ .tup ys) : ItOk C (Itl C.K ad) ρ1 F1 ⟨xs, fun S => seqOf S d = some xs⟩ := fun ρ F S H i p f R g => by
  have g' : seqOf S d = some xs := g
  have gl : listOf S d = some xs := by
    cases d with
    | tup ys => exact absurd rfl (hne ys)
    | _ => exact g'
  obtain ⟨a', vs, ea, hq, ra⟩ := rep_list R (r1.mono p f) gl
  cases ea
  refine ⟨fun h => ⟨vs, hq, by rw [ra.len]; exact h⟩, fun dd hd => ?_⟩
  obtain ⟨v, hv, rv⟩ := ra.get hd
  exact ⟨⟨vs, v, hq, hv⟩, fun x H' ⟨e1, e2⟩ => by subst e1; exact ⟨F, Le.refl _, R, ra.get2 hd (e2 vs hq)⟩⟩
theorem itOk_tup {C : Ct} {ρ1 : List Addr} {F1 : Hp} {ad : Addr} {xs : List D} (r1 : RepD C ρ1 F1 (.ref ad) (.tup xs)) : ItOk C (Itt C.K ad) ρ1 F1 ⟨xs, fun S => seqOf S (.tup xs) = some xs⟩ := fun ρ F S H i p f R g => by
  obtain ⟨a', vs, ea, hq, ra⟩ := rep_tup R (r1.mono p f)
  cases ea
  refine ⟨fun h => ⟨vs, hq, by rw [ra.len]; exact h⟩, fun dd hd => ?_⟩
  obtain ⟨v, hv, rv⟩ := ra.get hd
  exact ⟨⟨vs, v, hq, hv⟩, fun x H' ⟨e1, e2⟩ => by subst e1; exact ⟨F, Le.refl _, R, ra.get2 hd (e2 vs hq)⟩⟩
/-- list or tuple: by what comes -/
theorem di_seq (he : DE X cl W e A) : DI X cl W tg e (iSeq A) := ⟨fun pins s σ H R I h => by
  obtain ⟨l, S, ρ, F, hl, RR, h⟩ := h
  -- what comes, with its relation
  have h' := satX.of h
  refine thn (he.run pins s σ H (fun x H1 => ∃ d S1 ρ1 F1, Rel (cxt X cl) ρ1 F1 S1 H1 ∧ RepD (cxt X cl) ρ1 F1 x d ∧ ρ <+: ρ1 ∧ Le F F1 ∧ satX (cxt X cl) W ρ F σ (match seqOf S1 d with
      | some xs => .ok ⟨xs, fun S' => seqOf S' d = some xs⟩ S1
      | none => .bad) fun q S1 => ∀ ρ1 F1 H1 J, Rel (cxt X cl) ρ1 F1 S1 H1 → ρ <+: ρ1 → Le F F1 → ItOk (cxt X cl) J ρ1 F1 q → R J H1) I (tE_stepX hl RR h' fun d S1 ρ1 F1 H1 v R1 hl1 r1 p1 f1 h1 => ⟨d, S1, ρ1, F1, R1, r1, p1, f1, h1⟩)) fun v s1 ⟨x, H1, I1, rv, d, S1, ρ1, F1, R1, r1, p1, f1, h1⟩ => ?_
  split at h1
  · next xs hs =>
    have h2 := h1 ρ1 F1 H1
    obtain ⟨a, vs, rfl, hq, ra⟩ := rep_seq R1 r1 hs
    cases rv
    by_cases hne : ∃ ys, d = .tup ys
    · obtain ⟨ys, rfl⟩ := hne
      have hq' : SqT X.K H1 a vs := by
        obtain ⟨a', vs', ea, hq', ra'⟩ := rep_tup R1 r1
        cases ea
        rcases hq with hq | hq
        · exact (Inv.sq_apart I1 hq hq').elim
        · exact hq
      obtain rfl := Option.some.inj (show some ys = some xs from hs)
      obtain ⟨its, rvv, pl, hz⟩ := I1.tuple hq'
      refine wpAny_pyIter_tuple (show s1.heap.IsTuple a its.toArray from pl) ?_
      refine ⟨s1.heap.objs.size, [s1.heap.objs.size], _, _, H1, rfl, I1.kept (t' := s1.toks) fun b o e => Heap.get?_push_of_some _ e, turn_tuple a _, ⟨_, Heap.get?_push_size _ rfl, rfl, rfl⟩, fun b hb => ?_, h2 _ R1 p1 f1 (itOk_tup r1)⟩
      have e : b = s1.heap.objs.size := by simpa using hb
      subst e
      exact I1.fpOk (Nat.le_refl _) (I1.hok.fresh (Nat.le_refl _))
    · have hne' : ∀ ys, d ≠ .tup ys := fun ys e => hne ⟨ys, e⟩
      have hl' : listOf S1 d = some xs := by
        cases d with
        | tup ys => exact absurd rfl (hne' ys)
        | _ => exact hs
      obtain ⟨a', vs', ea, hq', ra'⟩ := rep_list R1 r1 hl'
      cases ea
      obtain ⟨its, rvv, pl, hz⟩ := I1.list hq'
      refine wpAny_pyIter_list pl.isList ?_
      refine ⟨s1.heap.objs.size, [s1.heap.objs.size], _, _, H1, rfl, I1.kept (t' := s1.toks) fun b o e => Heap.get?_push_of_some _ e, turn_list a _, ⟨_, Heap.get?_push_size _ rfl, rfl, rfl⟩, fun b hb => ?_, h2 _ R1 p1 f1 (itOk_list r1 hne')⟩
      have e : b = s1.heap.objs.size := by simpa using hb
      subst e
      exact I1.fpOk (Nat.le_refl _) (I1.hok.fresh (Nat.le_refl _))
  · exact h1.elim⟩
theorem s62 {i : Int} (h : small62 i = true) : -(2 ^ 62) ≤ i ∧ i < 2 ^ 62 := by
  unfold small62 at h
  rw [Bool.and_eq_true] at h
  exact ⟨of_decide_eq_true h.1, of_decide_eq_true h.2⟩
theorem di_r1 (hg : Gl X "range") (hm : X.mg "range" = none) (ha : DA X cl W [a] r) (hs : starEach [a] X.env = [(false, eval a X.env)] := by rfl) : DI X cl W tg (.Call (.Name "range" p) [a] [] pos) (iR1 r) := (pi_range1 hg hm ha hs).imp fun σ H Q ⟨l, S, ρ, F, hl, R, h⟩ => by
  refine tA_stepX hl R (satX.of h) fun ds S1 ρ1 F1 H1 vs R1 hl1 r1 p1 f1 h1 => ?_
  split at h1
  · next j =>
    split at h1
    · next hj =>
      obtain ⟨b1, b2⟩ := s62 hj
      cases r1 with
      | cons q t =>
        cases q; cases t
        exact ⟨j, rfl, b1, b2, h1 ρ1 F1 H1 _ R1 p1 f1 (itOk_range 0 _)⟩
    · exact h1.elim
  · exact h1.elim
theorem di_r2 (hg : Gl X "range") (hm : X.mg "range" = none) (ha : DA X cl W [a, b] r) (hs : starEach [a, b] X.env = [(false, eval a X.env), (false, eval b X.env)] := by rfl) (hs2 : starEach [b] X.env = [(false, eval b X.env)] := by rfl) :
    DI X cl W tg (.Call (.Name "range" p) [a, b] [] pos) (iR2 r) := (pi_range2 hg hm ha hs hs2).imp fun σ H Q ⟨l, S, ρ, F, hl, R, h⟩ => by
  refine tA_stepX hl R (satX.of h) fun ds S1 ρ1 F1 H1 vs R1 hl1 r1 p1 f1 h1 => ?_
  split at h1
  · next i j =>
    split at h1
    · next hj =>
      rw [Bool.and_eq_true] at hj
      obtain ⟨b1, b2⟩ := s62 hj.1
      obtain ⟨b3, b4⟩ := s62 hj.2
      cases r1 with
      | cons q t =>
        cases t with
        | cons q' t' =>
          cases q; cases q'; cases t'
          exact ⟨i, j, rfl, ⟨b1, b2, b3, b4⟩, h1 ρ1 F1 H1 _ R1 p1 f1 (itOk_range i _)⟩
    · exact h1.elim
  · exact h1.elim
end

/-! ### for -/
open Classical in
noncomputable def forL (gd : Sto → Prop) (G : GD) (body : Stm) : List D → Stm
  | [], l, S => if gd S then .next l S else .bad
  | d :: ds, l, S => if gd S then (match G d l S with
    | none => .bad
    | some (l1, S1) => match body l1 S1 with
      | .next l2 S2 => forL gd G body ds l2 S2
      | .cont l2 S2 => forL gd G body ds l2 S2
      | .brk l2 S2 => .next l2 S2
      | .ret d S2 => .ret d S2
      | .exc x l2 S2 => .exc x l2 S2
      | .bad => .bad) else .bad
noncomputable def sFor (A : I) (G : GD) (body : Stm) : Stm := fun l S => (A l S).toS l fun q S1 => forL q.gd G body q.items l S1
theorem drop_at {α : Type} {xs : List α} {i : Nat} {d : α} (h : xs[i]? = some d) : xs.drop i = d :: xs.drop (i + 1) := by
  obtain ⟨hi, e⟩ := List.getElem?_eq_some_iff.mp h
  rw [List.drop_eq_getElem_cons hi, e]
section
variable {X : Cx} {cl : Nat → Addr} {W : WX} {A : I} {G : GD} {body : Stm} {tg iter : Expr} {sts : List Stmt} {pos : Pos} {ix : List Nat}
theorem ds_for (hp : PassesOwn (model X.prog X.w) X.A X.env X.xe) (hc : X.calm = true) (hi : DI X cl W tg iter A) (hg : DG X cl ix tg G) (hb : DSs X cl W sts body) (hs : ∀ x, foldedSetIterable iter X.env x = pure x := by intro _; rfl) :
    DS X cl W (.For tg iter sts [] pos) (sFor A G body) := (ps_for hp hc hi hg hb hs).imp fun D σ H ⟨l, S, ρ, F, hl, R, h⟩ => by
  refine ⟨l, S, ρ, F, hl, R, ?_⟩
  have hx := satS.x hl h
  refine hx.mono (List.prefix_refl _) (Le.refl _) fun q S1 h1 ρ1 F1 H1 J R1 p1 f1 ok => ?_
  refine ⟨fun i m σ H => m = q.items.length - i ∧ i ≤ q.items.length ∧ ∃ l S ρ F, LRel (cxt X cl) ρ F σ l ∧ Rel (cxt X cl) ρ F S H ∧ ρ1 <+: ρ ∧ Le F1 F ∧ satS (cxt X cl) W ρ F (forL q.gd G body (q.items.drop i) l S) D, ⟨_, rfl, Nat.zero_le _, l, S1, ρ1, F1, hl.mono p1 f1, R1, List.prefix_refl _, Le.refl _, h1.mono p1 f1⟩, ?_⟩
  rintro i m σ H ⟨rfl, hi, l, S, ρ, F, hl, R, p, f, h⟩
  by_cases hlt : i < q.items.length
  · obtain ⟨d, hd⟩ : ∃ d, q.items[i]? = some d := ⟨_, List.getElem?_eq_getElem hlt⟩
    rw [drop_at hd] at h
    unfold forL at h
    split at h
    · next g =>
      obtain ⟨_, ok2⟩ := ok ρ F S H i p f R g
      obtain ⟨go, yl⟩ := ok2 d hd
      refine .inr ⟨go, _, fun σ' H' h' => ⟨q.items.length - (i + 1), by omega, rfl, hlt, h'⟩, fun x H' y => ?_⟩
      obtain ⟨F', f', R', r'⟩ := yl x H' y
      refine ⟨l, S, ρ, F', d, hl.mono (List.prefix_refl _) f', R', r', ?_⟩
      have h2 := h.mono (List.prefix_refl _) f'
      cases e : G d l S with
      | none => rw [e] at h2; exact h2.elim
      | some q2 =>
        obtain ⟨l1, S2⟩ := q2
        rw [e] at h2
        intro ρ2 F2 H2 σ2 R2 p2 f2 hl2 _
        refine ⟨l1, S2, ρ2, F2, hl2, R2, ?_⟩
        have h3 := h2.mono p2 f2
        dsimp only at h3
        have hle : Le F1 F2 := (f.trans f').trans f2
        cases e2 : body l1 S2 with
        | next l3 S3 =>
          rw [e2] at h3
          exact fun ρ' F'' H'' σ' R'' p' f'' hl' => ⟨l3, S3, ρ', F'', hl', R'', (p.trans p2).trans p', hle.trans f'', h3.mono p' f''⟩
        | cont l3 S3 =>
          rw [e2] at h3
          exact fun ρ' F'' H'' σ' R'' p' f'' hl' => ⟨l3, S3, ρ', F'', hl', R'', (p.trans p2).trans p', hle.trans f'', h3.mono p' f''⟩
        | brk l3 S3 => rw [e2] at h3; exact h3
        | ret v S3 => rw [e2] at h3; exact h3
        | exc x l3 S3 => rw [e2] at h3; exact h3
        | bad => rw [e2] at h3; exact h3
    · exact h.elim
  · have hdr : q.items.drop i = [] := List.drop_eq_nil_of_le (by omega)
    rw [hdr] at h
    unfold forL at h
    split at h
    · next g =>
      obtain ⟨st, _⟩ := ok ρ F S H i p f R g
      exact .inl ⟨st (by omega), h ρ F H σ R (List.prefix_refl _) (Le.refl _) hl⟩
    · exact h.elim
end

/-! ### while -/
def whF (c : T) (body : Stm) : Nat → Stm
  | 0 => fun _ _ => .bad
  | n + 1 => fun l S => (c l S).toS l fun k S1 => if k = true then (match body l S1 with
    | .next l2 S2 => whF c body n l2 S2
    | .cont l2 S2 => whF c body n l2 S2
    | .brk l2 S2 => .next l2 S2
    | .ret d S2 => .ret d S2
    | .exc x l2 S2 => .exc x l2 S2
    | .bad => .bad) else .next l S1
open Classical in
noncomputable def sWhile (c : T) (body : Stm) : Stm := fun l S => if h : ∃ n, whF c body n l S ≠ .bad then whF c body (choose h) l S else .bad
theorem whF_up (c : T) (body : Stm) : ∀ (n : Nat) (l : Loc) (S : Sto), whF c body n l S ≠ .bad → ∀ m, n ≤ m → whF c body m l S = whF c body n l S
  | 0, l, S, h, _, _ => absurd rfl h
  | n + 1, l, S, h, 0, hm => by omega
  | n + 1, l, S, h, m + 1, hm => by
    unfold whF at h ⊢
    cases e : c l S with
    | exc x S1 => rfl
    | bad => rfl
    | ok k S1 =>
      rw [e] at h
      cases k with
      | false => rfl
      | true =>
        simp only [if_true, Res.toS] at h ⊢
        cases e2 : body l S1 with
        | next l2 S2 => rw [e2] at h; exact whF_up c body n l2 S2 h m (by omega)
        | cont l2 S2 => rw [e2] at h; exact whF_up c body n l2 S2 h m (by omega)
        | _ => rfl
theorem sWhile_of {c : T} {body : Stm} {n : Nat} {l : Loc} {S : Sto} {o : Out} (h : whF c body n l S = o) (ho : o ≠ .bad) : sWhile c body l S = o := by
  have hx : ∃ n, whF c body n l S ≠ .bad := ⟨n, by rw [h]; exact ho⟩
  unfold sWhile
  rw [dif_pos hx]
  have h1 := Classical.choose_spec hx
  rcases Nat.le_total n (Classical.choose hx) with hle | hle
  · rw [whF_up c body n l S (by rw [h]; exact ho) _ hle, h]
  · rw [← whF_up c body _ l S h1 _ hle, h]
theorem whF_mk {c : T} {body : Stm} {l : Loc} {S : Sto} (h : sWhile c body l S ≠ .bad) : ∃ n, whF c body n l S = sWhile c body l S ∧ whF c body n l S ≠ .bad := by
  unfold sWhile at h ⊢
  split at h
  · next hx => exact ⟨_, by rw [dif_pos hx], Classical.choose_spec hx⟩
  · exact absurd rfl h
section
variable {X : Cx} {cl : Nat → Addr} {W : WX} {c : T} {body : Stm} {e : Expr} {sts : List Stmt} {pos : Pos}
theorem ds_while (hp : PassesOwn (model X.prog X.w) X.A X.env X.xe) (hc : DT X cl W e c) (hb : DSs X cl W sts body) : DS X cl W (.While e sts [] pos) (sWhile c body) := (ps_while hp hc hb).imp fun D σ H ⟨l, S, ρ, F, hl, R, h⟩ => by
  have hne : sWhile c body l S ≠ .bad := fun z => by rw [z] at h; exact h
  obtain ⟨n0, hn0, _⟩ := whF_mk hne
  rw [← hn0] at h
  refine ⟨fun n σ H => ∃ l S ρ F, LRel (cxt X cl) ρ F σ l ∧ Rel (cxt X cl) ρ F S H ∧ satS (cxt X cl) W ρ F (whF c body n l S) D, ⟨n0, l, S, ρ, F, hl, R, h⟩, ?_⟩
  rintro m σ H ⟨l, S, ρ, F, hl, R, h⟩
  cases m with
  | zero => exact h.elim
  | succ m =>
    unfold whF at h
    refine tT_stepX hl R (satS.x hl h) fun k S1 ρ1 F1 H1 R1 hl1 p1 f1 h1 => ?_
    have h2 := satS.mono p1 f1 h1
    cases k with
    | false =>
      rw [if_neg Bool.false_ne_true] at h2 ⊢
      exact h2 ρ1 F1 H1 σ R1 (List.prefix_refl _) (Le.refl _) hl1
    | true =>
      rw [if_pos rfl] at h2 ⊢
      refine ⟨_, fun σ' H' h' => ⟨m, Nat.lt_succ_self _, h'⟩, l, S1, ρ1, F1, hl1, R1, ?_⟩
      cases e2 : body l S1 with
      | next l3 S3 => rw [e2] at h2; exact fun ρ' F'' H'' σ' R'' p' f'' hl' => ⟨l3, S3, ρ', F'', hl', R'', h2.mono p' f''⟩
      | cont l3 S3 => rw [e2] at h2; exact fun ρ' F'' H'' σ' R'' p' f'' hl' => ⟨l3, S3, ρ', F'', hl', R'', h2.mono p' f''⟩
      | brk l3 S3 => rw [e2] at h2; exact h2
      | ret v S3 => rw [e2] at h2; exact h2
      | exc x l3 S3 => rw [e2] at h2; exact h2
      | bad => rw [e2] at h2; exact h2
end

/-! ### comprehensions (no exception leaves their elements) -/
abbrev W0 : WX := fun _ _ _ _ => False
def wipeL (l : Loc) : List Nat → Loc
  | [] => l
  | i :: is => (wipeL l is).set i none
theorem LRel.wipe {C : Ct} {ρ : List Addr} {F : Hp} {σ : L2.St} {l : Loc} (h : LRel C ρ F σ l) : ∀ vs : List Nat, LRel C ρ F (L2.wipe σ vs) (wipeL l vs)
  | [] => h
  | i :: vs => by
    unfold L2.wipe wipeL
    have q := LRel.wipe h vs
    refine ⟨by simp [q.1], fun j d e => ?_⟩
    by_cases hj : i = j
    · subst hj
      rw [List.getElem?_set] at e
      split at e
      · split at e <;> cases e
      · exact absurd rfl (by assumption)
    · rw [List.getElem?_set_ne hj] at e ⊢
      exact q.2 j d e
/-- an item put behind, in the cell n -/
def pushC (n : Nat) (y : D) (S : Sto) : Option Sto := match S[n]? with
  | some (.lst acc) => if acc.length < sizeLine then some (S.set n (.lst (acc ++ [y]))) else none
  | _ => none
open Classical in
noncomputable def lcL (gd : Sto → Prop) (G : GD) (tt : T) (el : E) (n : Nat) : List D → Loc → Sto → Res Unit
  | [], l, S => if gd S then .ok () S else .bad
  | d :: ds, l, S => if gd S then (match G d l S with
    | none => .bad
    | some (l1, S1) => (tt l1 S1).bind fun k S2 => if k = true then ((el l1 S2).bind fun y S3 => match pushC n y S3 with
        | some S4 => lcL gd G tt el n ds l S4
        | none => .bad) else lcL gd G tt el n ds l S2) else .bad
def nox {α : Type} (r : Res α) : Res α := match r with
  | .exc _ _ => .bad
  | r => r
noncomputable def eLcX (m : Mode) (A : I) (G : GD) (tt : T) (el : E) (own : List Nat) : E := fun l S => (A l S).bind fun q S1 =>
  (nox (lcL q.gd G tt el S1.length q.items (wipeL l own) (S1 ++ [.lst []]))).bind fun _ S2 => exitM m S1 (.ref S1.length) S2
noncomputable abbrev eLc := eLcX .fr
noncomputable abbrev eLcM := eLcX .nw
def tTrue : T := fun _ S => .ok true S
section
variable {X : Cx} {cl : Nat → Addr}
abbrev DTs (X : Cx) (cl : Nat → Addr) (W : WX) (ifs : List Expr) (c : T) : Prop := PTs X ifs (tT (cxt X cl) W c)
theorem dts_nil {W : WX} : DTs X cl W [] tTrue := ⟨fun pins s σ H Q I ⟨l, S, ρ, F, hl, R, h⟩ => pts_nil.run pins s σ H Q I (h ρ F H R (List.prefix_refl _) (Le.refl _))⟩
theorem dts_one {W : WX} {e : Expr} {c : T} (h : DT X cl W e c) : DTs X cl W [e] c := pts_one h
theorem satX.nx {α : Type} {C : Ct} {ρ : List Addr} {F : Hp} {σ : L2.St} {r : Res α} {ok : α → Sto → Prop} (h : ∀ d S, r = .ok d S → ok d S) (hx : ∀ x S, r ≠ .exc x S) (hb : r ≠ .bad) : satX C W0 ρ F σ r ok := by
  cases r with
  | ok d S => exact h d S rfl
  | exc x S => exact absurd rfl (hx x S)
  | bad => exact absurd rfl hb
theorem pushC_some {n : Nat} {y : D} {S S' : Sto} (h : pushC n y S = some S') : ∃ acc, S[n]? = some (.lst acc) ∧ acc.length < sizeLine ∧ S' = S.set n (.lst (acc ++ [y])) := by
  unfold pushC at h
  split at h
  · next acc e =>
    split at h
    · next hz => exact ⟨acc, e, hz, (Option.some.inj h).symm⟩
    · cases h
  · cases h
/-- the kit's term of a list's walk, from this layer's -/
theorem lc_term {W : WX} {m : Mode} {A : I} {G : GD} {tt : T} {el : E} {ix : List Nat} {own : List Nat} (hix : ∀ i ∈ ix, i ∈ own) {σ : L2.St} {H : Hp} {Q : VK} (h : tE (cxt X cl) W (eLcX m A G tt el own) σ H Q) :
    tLc (tI (cxt X cl) W A) (tG (cxt X cl) ix G) (tT (cxt X cl) W0 tt) (tE (cxt X cl) W0 el) own σ H Q := by
  obtain ⟨l, S, ρ, F, hl, R, h⟩ := h
  refine ⟨l, S, ρ, F, hl, R, ?_⟩
  have hx := satE.x h
  refine hx.mono (List.prefix_refl _) (Le.refl _) fun q S1 h1 ρ1 F1 H1 J R1 p1 f1 ok' D hD => ?_
  have pr : ρ1 <+: ρ1 ++ [D] := List.prefix_append _ _
  have R2 : Rel (cxt X cl) (ρ1 ++ [D]) F1 (S1 ++ [.lst []]) (upd H1 D (.lst [])) := R1.lay hD ⟨[], upd_same, .nil⟩ (by intro z; cases z)
  have hDn : (ρ1 ++ [D])[S1.length]? = some D := by rw [← R1.len]; exact ref_last
  have hlw := (hl.mono p1 f1).wipe own
  -- the loop from turn i on
  let P := fun (i : Nat) (H : Hp) => ∃ l' S ρ F, LRel (cxt X cl) ρ F (L2.wipe σ own) l' ∧ Rel (cxt X cl) ρ F S H ∧ (ρ1 ++ [D]) <+: ρ ∧ Le F1 F ∧ l' = wipeL l own ∧
    ∃ S2, lcL q.gd G tt el S1.length (q.items.drop i) l' S = .ok () S2 ∧ satE (cxt X cl) W ρ1 F1 σ (exitM m S1 (.ref S1.length) S2) Q
  have P0 : P 0 (upd H1 D (.lst [])) := by
    cases e : lcL q.gd G tt el S1.length q.items (wipeL l own) (S1 ++ [.lst []]) with
    | ok u S2 =>
      rw [e] at h1
      exact ⟨_, _, _, _, hlw.mono pr (Le.refl _), R2, List.prefix_refl _, Le.refl _, rfl, S2, e, satE.mono p1 f1 h1⟩
    | exc x S2 => rw [e] at h1; exact h1.elim
    | bad => rw [e] at h1; exact h1.elim
  refine ⟨fun i m H => m = q.items.length - i ∧ i ≤ q.items.length ∧ P i H, ⟨_, rfl, Nat.zero_le _, P0⟩, ?_⟩
  rintro i m H ⟨rfl, hi, l', S, ρ, F, hl', R, p, f, el', S2, e, fin⟩
  by_cases hlt : i < q.items.length
  · obtain ⟨d, hd⟩ : ∃ d, q.items[i]? = some d := ⟨_, List.getElem?_eq_getElem hlt⟩
    rw [drop_at hd] at e
    unfold lcL at e
    split at e
    · next g =>
      obtain ⟨_, ok2⟩ := ok' ρ F S H i (pr.trans p) f R g
      obtain ⟨go, yl⟩ := ok2 d hd
      refine .inr ⟨go, fun H => P (i + 1) H, fun H' h' => ⟨q.items.length - (i + 1), by omega, rfl, hlt, h'⟩, fun x H' y => ?_⟩
      obtain ⟨F', f', R', r'⟩ := yl x H' y
      refine ⟨l', S, ρ, F', d, hl'.mono (List.prefix_refl _) f', R', r', ?_⟩
      cases e1 : G d l' S with
      | none => rw [e1] at e; cases e
      | some q2 =>
        obtain ⟨l1, S3⟩ := q2
        rw [e1] at e
        intro ρ2 F2 H2 σ2 R2' p2 f2 hl2 kp
        have e' : ((tt l1 S3).bind fun k S2 => if k = true then ((el l1 S2).bind fun y S3 => match pushC S1.length y S3 with
          | some S4 => lcL q.gd G tt el S1.length (q.items.drop (i + 1)) l' S4
          | none => .bad) else lcL q.gd G tt el S1.length (q.items.drop (i + 1)) l' S2) = .ok () S2 := e
        have wk : L2.wipe σ2 own = L2.wipe (L2.wipe σ own) own := kp _ hix
        have ww : ∀ (vs : List Nat) (σ : L2.St), L2.wipe (L2.wipe σ vs) vs = L2.wipe σ vs := by
          intro vs σ
          refine List.ext_getElem? fun j => ?_
          have l1 := wipe_length (L2.wipe σ vs) vs
          have l2 := wipe_length σ vs
          by_cases hj : j ∈ vs
          · cases e3 : (L2.wipe (L2.wipe σ vs) vs)[j]? with
            | none =>
              rw [List.getElem?_eq_none_iff] at e3
              rw [List.getElem?_eq_none_iff.mpr (by omega)]
            | some o =>
              cases o with
              | some x => exact absurd hj (wipe_some e3).2
              | none =>
                have hlt := (List.getElem?_eq_some_iff.mp e3).1
                cases e4 : (L2.wipe σ vs)[j]? with
                | none => rw [List.getElem?_eq_none_iff] at e4; omega
                | some o2 =>
                  cases o2 with
                  | none => rfl
                  | some x => exact absurd hj (wipe_some e4).2
          · rw [wipe_out hj]
        refine ⟨by rw [wk, ww], ?_⟩
        cases e2 : tt l1 S3 with
        | exc x S4 => rw [e2] at e'; cases e'
        | bad => rw [e2] at e'; cases e'
        | ok k S4 =>
          rw [e2] at e'
          have e'' : (if k = true then ((el l1 S4).bind fun y S3 => match pushC S1.length y S3 with
            | some S4 => lcL q.gd G tt el S1.length (q.items.drop (i + 1)) l' S4
            | none => .bad) else lcL q.gd G tt el S1.length (q.items.drop (i + 1)) l' S4) = .ok () S2 := e'
          refine tT_stepX hl2 R2' (ok := fun k' S' => k' = k ∧ S' = S4) (satX.nx (by rw [e2]; intro d S z; cases z; exact ⟨rfl, rfl⟩) (by rw [e2]; intro _ _ z; cases z) (by rw [e2]; intro z; cases z)) fun k' S5 ρ3 F3 H3 R3 hl3 p3 f3 hk => ?_
          obtain ⟨rfl, rfl⟩ := hk
          have hle : Le F1 F3 := ((f.trans f').trans f2).trans f3
          have hpp := (p.trans p2).trans p3
          have back : LRel (cxt X cl) ρ3 F3 (L2.wipe σ own) l' := hl'.mono (p2.trans p3) ((f'.trans f2).trans f3)
          cases k' with
          | false =>
            rw [if_neg Bool.false_ne_true] at e'' ⊢
            exact ⟨l', S5, ρ3, F3, back, R3, hpp, hle, el', S2, e'', fin⟩
          | true =>
            rw [if_pos rfl] at e'' ⊢
            cases e3 : el l1 S5 with
            | exc x S4 => rw [e3] at e''; cases e''
            | bad => rw [e3] at e''; cases e''
            | ok y0 S6 =>
              rw [e3] at e''
              refine tE_stepX hl3 R3 (ok := fun y' S' => y' = y0 ∧ S' = S6) (satX.nx (by rw [e3]; intro d S z; cases z; exact ⟨rfl, rfl⟩) (by rw [e3]; intro _ _ z; cases z) (by rw [e3]; intro z; cases z)) fun y' S7 ρ4 F4 H4 vy R4 hl4 ry p4 f4 hk => ?_
              obtain ⟨rfl, rfl⟩ := hk
              have e4 : (match pushC S1.length y' S7 with
                | some S4 => lcL q.gd G tt el S1.length (q.items.drop (i + 1)) l' S4
                | none => .bad) = .ok () S2 := e''
              cases e5 : pushC S1.length y' S7 with
              | none => rw [e5] at e4; cases e4
              | some S8 =>
                rw [e5] at e4
                obtain ⟨acc, ha, hz, rfl⟩ := pushC_some e5
                have hp4 := hpp.trans p4
                have hD4 := pre_get hp4 hDn
                obtain ⟨vs, hv, ra⟩ := R4.cell _ _ _ hD4 ha
                refine ⟨vs, hv, by rw [ra.len]; exact hz, l', _, ρ4, F4, back.mono p4 f4, R4.put (c' := .lst (acc ++ [y'])) hD4 ha (by intro z; cases z) ⟨vs ++ [vy], upd_same, ra.snoc ry⟩ (by intro z; cases z), hp4, hle.trans f4, el', S2, e4, fin⟩
    · cases e
  · have hdr : q.items.drop i = [] := List.drop_eq_nil_of_le (by omega)
    rw [hdr] at e
    unfold lcL at e
    split at e
    · next g =>
      obtain ⟨st, _⟩ := ok' ρ F S H i (pr.trans p) f R g
      cases e
      refine .inl ⟨st (by omega), ?_⟩
      rcases exitM_cases m S1 (.ref S1.length) S with ⟨e0, S3, e1⟩ | e1
      · rw [e1] at fin
        obtain ⟨ρ2, F2, R5, p5, f5, r5⟩ := exitM_ok R1 (pr.trans p) R f (.ref (pre_get p hDn)) e1
        exact fin ρ2 F2 H (.ref D) R5 p5 f5 r5
      · rw [e1] at fin; exact fin.elim
    · cases e
theorem de_lc {W : WX} (m : Mode) {A : I} {G : GD} {tt : T} {el : E} {ix : List Nat} {elt tg iter : Expr} {ifs : List Expr} {scope : Scope} {own : List (Str × Nat)} {pos : Pos} (hc : X.calm = true) (hN : X.N.Nodup) (hi : DI X cl W tg iter A) (ok : BlkOk X.N X.env.scope scope own) (hix : ∀ i ∈ ix, i ∈ own.map (·.2))
    (hg : ∀ (s : Shared) (H : Hp) (C : Addr) (c : List (Str × Addr)) (fp : List Addr), DG (X.blk s H scope (compEnvC scope c C X.env) fp) cl ix tg G)
    (ht : ∀ (s : Shared) (H : Hp) (C : Addr) (c : List (Str × Addr)) (fp : List Addr), DTs (X.blk s H scope (compEnvC scope c C X.env) fp) cl W0 ifs tt)
    (he : ∀ (s : Shared) (H : Hp) (C : Addr) (c : List (Str × Addr)) (fp : List Addr), DE (X.blk s H scope (compEnvC scope c C X.env) fp) cl W0 elt el) (hs : ∀ x, foldedSetIterable iter X.env x = pure x := by intro _; rfl) :
    DE X cl W (.ListComp elt [⟨tg, iter, ifs, 0⟩] scope pos) (eLcX m A G tt el (own.map (·.2))) :=
  (pe_lc (g := tG (cxt X cl) ix G) (tt := tT (cxt X cl) W0 tt) (te := tE (cxt X cl) W0 el) hc hN hi ok hg ht he hs).imp fun _ _ _ h => lc_term hix h
/-- name = [..] on one line -/
theorem ds_setLc {W : WX} (m : Mode) {A : I} {G : GD} {tt : T} {el : E} {ix : List Nat} {i : Nat} {y : Str} {py : Pos} {elt tg iter : Expr} {ifs : List Expr} {scope : Scope} {own : List (Str × Nat)} {pos spos : Pos} (hc : X.calm = true) (hN : X.N.Nodup) (hy : X.N[i]? = some y) (hyl : X.env.scope.names.lookup y = some .local)
    (hsw : swapsWith (.ListComp elt [⟨tg, iter, ifs, 0⟩] scope pos) (some (.Name y py)) spos.line X.env = pure true) (hi : DI X cl W tg iter A) (ok : BlkOk X.N X.env.scope scope own) (hix : ∀ i ∈ ix, i ∈ own.map (·.2))
    (hg : ∀ (s : Shared) (H : Hp) (C : Addr) (c : List (Str × Addr)) (fp : List Addr), DG (X.blk s H scope (compEnvC scope c C X.env) fp) cl ix tg G)
    (ht : ∀ (s : Shared) (H : Hp) (C : Addr) (c : List (Str × Addr)) (fp : List Addr), DTs (X.blk s H scope (compEnvC scope c C X.env) fp) cl W0 ifs tt)
    (he : ∀ (s : Shared) (H : Hp) (C : Addr) (c : List (Str × Addr)) (fp : List Addr), DE (X.blk s H scope (compEnvC scope c C X.env) fp) cl W0 elt el) (hs : ∀ x, foldedSetIterable iter X.env x = pure x := by intro _; rfl) :
    DS X cl W (.Assign [.Name y py] (.ListComp elt [⟨tg, iter, ifs, 0⟩] scope pos) spos) (sSet i (eLcX m A G tt el (own.map (·.2)))) :=
  (ps_setLc (g := tG (cxt X cl) ix G) (tt := tT (cxt X cl) W0 tt) (te := tE (cxt X cl) W0 el) hc hN hy hyl hsw hi ok hg ht he hs).imp fun D σ H ⟨l, S, ρ, F, hl, R, h⟩ => by
  have q : tE (cxt X cl) W (eLcX m A G tt el (own.map (·.2))) σ H fun x H1 => gName i x σ H1 D.nx := tE_stepX hl R (satS.x hl h) fun d S1 ρ1 F1 H1 v R1 hl1 r1 p1 f1 h1 => h1 ρ1 F1 H1 _ R1 p1 f1 (hl1.set i r1)
  exact lc_term hix q
end
end DL

/-! DL8: chains, built-in functions, methods of lists, storing an item, calls of defs. -/
namespace DL
open PySem PySem.Spec PyProof.Rows L2

/-! ### a op1 b op2 c -/
def eChain (g g' : D → D → Sto → Res D) (A B Cc : E) : E := fun l S => (A l S).bind fun x S1 => (B l S1).bind fun y S2 => (g x y S2).bind fun z S3 => (isBl z S3).bind fun k S4 =>
  if k = true then (Cc l S4).bind fun u S5 => g' y u S5 else .ok (.bl false) S4
section
variable {X : Cx} {cl : Nat → Addr} {W : WX} {A B Cc : E} {a b c : Expr} {pos : Pos} {op op' : CmpOp} {g g' : D → D → Sto → Res D}
/-- a rule whose answer never raises and keeps the store -/
def Calm2 (g : D → D → Sto → Res D) : Prop := ∀ x y S, (∃ d, g x y S = .ok d S) ∨ g x y S = .bad
theorem calm_ord (p : Int → Int → Bool) : Calm2 (ordD p) := fun x y S => by
  unfold ordD
  split
  · exact .inl ⟨_, rfl⟩
  · exact .inr rfl
theorem tChain_of (hg : Calm2 g) {σ : L2.St} {H : Hp} {Q : VK} (h : tE (cxt X cl) W (eChain g g' A B Cc) σ H Q) : tChain (rD2 (cxt X cl) W g) (rD2 (cxt X cl) W g') (tE (cxt X cl) W A) (tE (cxt X cl) W B) (tE (cxt X cl) W Cc) σ H Q := by
  obtain ⟨l, S, ρ, F, hl, R, h⟩ := h
  refine tE_stepX hl R (satE.x h) fun x S1 ρ1 F1 H1 v R1 hl1 r1 p1 f1 h1 => ?_
  refine tE_stepX hl1 R1 (satE.x (satE.mono p1 f1 h1)) fun y S2 ρ2 F2 H2 u R2 hl2 r2 p2 f2 h2 => ?_
  have h3 := satE.mono p2 f2 h2
  rcases hg x y S2 with ⟨d, e⟩ | e
  · rw [e] at h3
    refine ⟨ρ2, F2, S2, σ, x, y, R2, r1.mono p2 f2, r2, ?_⟩
    rw [e]
    intro ρ3 F3 H3 z R3 p3 f3 rz
    rcases isBl_cases d S2 with ⟨k, rfl, e2⟩ | e2
    · cases rz
      refine ⟨k, rfl, ?_⟩
      have h4 : satE (cxt X cl) W ρ2 F2 σ ((isBl (.bl k) S2).bind fun k S4 => if k = true then (Cc l S4).bind fun u S5 => g' y u S5 else .ok (.bl false) S4) Q := h3
      rw [e2] at h4
      have h5 : satE (cxt X cl) W ρ3 F3 σ (if k = true then (Cc l S2).bind fun u S5 => g' y u S5 else .ok (.bl false) S2) Q := satE.mono p3 f3 h4
      cases k with
      | false => rw [if_neg Bool.false_ne_true] at h5 ⊢; exact satE.now h5 R3 (.bl false)
      | true =>
        rw [if_pos rfl] at h5 ⊢
        refine tE_stepX (hl2.mono p3 f3) R3 (satE.x h5) fun u' S5 ρ4 F4 H4 w' R4 hl4 r4 p4 f4 h6 => ?_
        exact ⟨ρ4, F4, S5, σ, y, u', R4, (r2.mono p3 f3).mono p4 f4, r4, satE.mono p4 f4 h6⟩
    · have h4 : satE (cxt X cl) W ρ2 F2 σ ((isBl d S2).bind fun k S4 => if k = true then (Cc l S4).bind fun u S5 => g' y u S5 else .ok (.bl false) S4) Q := h3
      rw [e2] at h4; exact h4.elim
  · rw [e] at h3; exact h3.elim
theorem de_chain (ho : OpD X cl W (compareOp op) g) (ho' : OpD X cl W (compareOp op') g') (hg : Calm2 g) (ha : DE X cl W a A) (hb : DE X cl W b B) (hc : DE X cl W c Cc)
    (hm : lastMarks [op, op'] [b, c] = false := by with_unfolding_all rfl) : DE X cl W (.Compare a [op, op'] [b, c] pos) (eChain g g' A B Cc) := (pe_chain ho ho' ha hb hc hm).imp fun _ _ _ h => tChain_of hg h
theorem dt_chain (ho : OpD X cl W (compareOp op) g) (ho' : OpD X cl W (compareOp op') g') (hg : Calm2 g) (ha : DE X cl W a A) (hb : DE X cl W b B) (hc : DE X cl W c Cc)
    (hm : lastMarks [op, op'] [b, c] = false := by with_unfolding_all rfl) : DT X cl W (.Compare a [op, op'] [b, c] pos) (tVal (eChain g g' A B Cc)) := (pt_chain ho ho' ha hb hc hm).imp fun σ H Q h => tChain_of hg (tB_of h)
end

/-! ### built-in functions -/
def lenD (ds : List D) (S : Sto) : Res D := match ds with
  | [.str s] => if s.length ≤ sizeLine then .ok (.int s.length) S else .bad
  | [d] => (match seqOf S d with | some xs => .ok (.int xs.length) S | none => .bad)
  | _ => .bad
def absD (ds : List D) (S : Sto) : Res D := match ds with
  | [.int i] => .ok (.int (if i < 0 then -i else i)) S
  | _ => .bad
def divmodD (ds : List D) (S : Sto) : Res D := match ds with
  | [.int i, .int j] => if divOk j = true then .ok (.tup [.int (i / j), .int (i % j)]) S else .bad
  | _ => .bad
def maxD (ds : List D) (S : Sto) : Res D := match ds with
  | [.int i, .int j] => .ok (.int (if j > i then j else i)) S
  | _ => .bad
def minD (ds : List D) (S : Sto) : Res D := match ds with
  | [.int i, .int j] => .ok (.int (if j < i then j else i)) S
  | _ => .bad
def intD (ds : List D) (S : Sto) : Res D := match ds with
  | [.int i] => .ok (.int i) S
  | [.bl b] => .ok (.int (if b then 1 else 0)) S
  | _ => .bad
def strD (ds : List D) (S : Sto) : Res D := match ds with
  | [.int i] => if i.natAbs.log2 < 1920 then .ok (.str (toString i)) S else .bad
  | _ => .bad
def listD (ds : List D) (S : Sto) : Res D := match ds with
  | [d] => (match seqOf S d with | some xs => .ok (.lst xs) S | none => .bad)
  | _ => .bad
def listDM (ds : List D) (S : Sto) : Res D := match ds with
  | [d] => (match seqOf S d with | some xs => newCell xs S | none => .bad)
  | _ => .bad
def tupleD (ds : List D) (S : Sto) : Res D := match ds with
  | [d] => (match seqOf S d with | some xs => .ok (.tup xs) S | none => .bad)
  | _ => .bad
def asBls : List D → Option (List Bool)
  | [] => some []
  | .bl b :: ds => (asBls ds).map (b :: ·)
  | _ => none
def asInts : List D → Option (List Int)
  | [] => some []
  | .int b :: ds => (asInts ds).map (b :: ·)
  | _ => none
def allD (ds : List D) (S : Sto) : Res D := match ds with
  | [d] => (match (listOf S d).bind asBls with | some bs => .ok (.bl (bs.all id)) S | none => .bad)
  | _ => .bad
def sumD (ds : List D) (S : Sto) : Res D := match ds with
  | [d] => (match (listOf S d).bind asInts with | some bs => .ok (.int bs.sum) S | none => .bad)
  | _ => .bad
section
variable {C : Ct} {ρ : List Addr} {F : Hp}
theorem rep_bls : ∀ {vs : List V} {ds : List D} {bs : List Bool}, RepAll C ρ F vs ds → asBls ds = some bs → vs = bs.map V.bl
  | _, _, bs, .nil, e => by cases e; rfl
  | _, _, bs, .cons (d := d) (ds := ds) r t, e => by
    cases r with
    | bl b =>
      unfold asBls at e
      cases e2 : asBls ds with
      | none => rw [e2] at e; cases e
      | some cs => rw [e2] at e; cases e; rw [rep_bls t e2]; rfl
    | _ => exact nomatch e
theorem rep_ints : ∀ {vs : List V} {ds : List D} {bs : List Int}, RepAll C ρ F vs ds → asInts ds = some bs → vs = bs.map V.int
  | _, _, bs, .nil, e => by cases e; rfl
  | _, _, bs, .cons (d := d) (ds := ds) r t, e => by
    cases r with
    | int b =>
      unfold asInts at e
      cases e2 : asInts ds with
      | none => rw [e2] at e; cases e
      | some cs => rw [e2] at e; cases e; rw [rep_ints t e2]; rfl
    | _ => exact nomatch e
end
section
variable {X : Cx} {cl : Nat → Addr} {W : WX}
theorem cd_len : CallD X cl W (.builtin "len") lenD := call_len.weak fun xs H Q ⟨ρ, F, S, σ, ds, R, ra, h⟩ => by
  unfold lenD at h
  split at h
  · cases ra with
    | cons r t =>
      cases r; cases t
      split at h
      · next hz => exact ⟨_, _, rfl, ⟨hz, rfl⟩, h.now R (.int _)⟩
      · exact h.elim
  · split at h
    · next xs' hs =>
      cases ra with
      | cons r t =>
        cases t
        obtain ⟨a, vs, rfl, hq, ra⟩ := rep_seq R r hs
        have fin := h.now R (.int _)
        rw [← ra.len] at fin
        rcases hq with hq | hq
        · exact ⟨_, _, rfl, .inl ⟨vs, hq, rfl⟩, fin⟩
        · exact ⟨_, _, rfl, .inr ⟨vs, hq, rfl⟩, fin⟩
    · exact h.elim
  · exact h.elim
theorem cd_abs : CallD X cl W (.builtin "abs") absD := call_abs.weak fun xs H Q ⟨ρ, F, S, σ, ds, R, ra, h⟩ => by
  unfold absD at h
  split at h
  · cases ra with
    | cons r t => cases r; cases t; exact ⟨_, rfl, h.now R (.int _)⟩
  · exact h.elim
theorem divOk_p {i j : Int} (h : divOk j = true) : CDivP i j := by
  unfold divOk at h
  rw [Bool.and_eq_true] at h
  exact ⟨of_decide_eq_true h.1, PyProof.noPylong_of_log2 (of_decide_eq_true h.2)⟩
theorem cd_divmod : CallD X cl W (.builtin "divmod") divmodD := call_divmodW.weak fun xs H Q ⟨ρ, F, S, σ, ds, R, ra, h⟩ => by
  unfold divmodD at h
  split at h
  · cases ra with
    | cons r t => cases t with
      | cons r' t' =>
        cases r; cases r'; cases t'
        split at h
        · next hk => exact ⟨_, _, rfl, divOk_p hk, fun p hp => h.newT R (.cons (.int _) (.cons (.int _) .nil)) hp⟩
        · exact h.elim
  · exact h.elim
theorem cd_max (hc : X.calm = true) : CallD X cl W (.builtin "max") maxD := (call_max2 hc).weak fun xs H Q ⟨ρ, F, S, σ, ds, R, ra, h⟩ => by
  unfold maxD at h
  split at h
  · cases ra with
    | cons r t => cases t with
      | cons r' t' => cases r; cases r'; cases t'; exact ⟨_, _, rfl, h.now R (.int _)⟩
  · exact h.elim
theorem cd_min (hc : X.calm = true) : CallD X cl W (.builtin "min") minD := (call_min2 hc).weak fun xs H Q ⟨ρ, F, S, σ, ds, R, ra, h⟩ => by
  unfold minD at h
  split at h
  · cases ra with
    | cons r t => cases t with
      | cons r' t' => cases r; cases r'; cases t'; exact ⟨_, _, rfl, h.now R (.int _)⟩
  · exact h.elim
theorem cd_int : CallD X cl W (.type "int") intD := call_int1.weak fun xs H Q ⟨ρ, F, S, σ, ds, R, ra, h⟩ => by
  unfold intD at h
  split at h
  · cases ra with
    | cons r t => cases r; cases t; exact .inl ⟨_, rfl, h.now R (.int _)⟩
  · cases ra with
    | cons r t => cases r; cases t; exact .inr ⟨_, rfl, h.now R (.int _)⟩
  · exact h.elim
theorem cd_str : CallD X cl W (.type "str") strD := call_str_int.weak fun xs H Q ⟨ρ, F, S, σ, ds, R, ra, h⟩ => by
  unfold strD at h
  split at h
  · cases ra with
    | cons r t =>
      cases r; cases t
      split at h
      · next hk => exact ⟨_, rfl, hk, h.now R (.str _)⟩
      · exact h.elim
  · exact h.elim
theorem cd_list : CallD X cl W (.type "list") listD := call_list_of.weak fun xs H Q ⟨ρ, F, S, σ, ds, R, ra, h⟩ => by
  unfold listD at h
  split at h
  · split at h
    · next xs' hs =>
      cases ra with
      | cons r t =>
        cases t
        obtain ⟨a, vs, rfl, hq, ra⟩ := rep_seq R r hs
        exact ⟨a, vs, rfl, hq, fun p hp => h.newL R ra hp⟩
    · exact h.elim
  · exact h.elim
theorem cd_listM : CallD X cl W (.type "list") listDM := call_list_of.weak fun xs H Q ⟨ρ, F, S, σ, ds, R, ra, h⟩ => by
  unfold listDM at h
  split at h
  · split at h
    · next xs' hs =>
      cases ra with
      | cons r t =>
        cases t
        obtain ⟨a, vs, rfl, hq, ra⟩ := rep_seq R r hs
        exact ⟨a, vs, rfl, hq, fun p hp => h.newM R ra hp⟩
    · exact h.elim
  · exact h.elim
theorem cd_tuple : CallD X cl W (.type "tuple") tupleD := call_tuple_of.weak fun xs H Q ⟨ρ, F, S, σ, ds, R, ra, h⟩ => by
  unfold tupleD at h
  split at h
  · next d =>
    split at h
    · next xs' hs =>
      cases ra with
      | cons r t =>
        cases t
        by_cases hd : ∃ ys, d = .tup ys
        · obtain ⟨ys, rfl⟩ := hd
          obtain rfl := Option.some.inj (show some ys = some xs' from hs)
          obtain ⟨a, vs, rfl, hq, ra⟩ := rep_tup R r
          exact ⟨a, vs, rfl, .inr ⟨hq, h.now R r⟩⟩
        · have hl : listOf S d = some xs' := by
            cases d with
            | tup ys => exact absurd ⟨ys, rfl⟩ hd
            | _ => exact hs
          obtain ⟨a, vs, rfl, hq, ra⟩ := rep_list R r hl
          exact ⟨a, vs, rfl, .inl ⟨hq, fun p hp => h.newT R ra hp⟩⟩
    · exact h.elim
  · exact h.elim
theorem cd_all (hc : X.calm = true) : CallD X cl W (.builtin "all") allD := (cr_all hc).weak fun xs H Q ⟨ρ, F, S, σ, ds, R, ra, h⟩ => by
  unfold allD at h
  split at h
  · next d =>
    cases e : listOf S d with
    | none => rw [e] at h; exact h.elim
    | some ys =>
      rw [e] at h
      cases e2 : asBls ys with
      | none => simp only [Option.bind, e2] at h; exact h.elim
      | some bs =>
        simp only [Option.bind, e2] at h
        cases ra with
        | cons r t =>
          cases t
          obtain ⟨a, vs, rfl, hq, ra⟩ := rep_list R r e
          rw [rep_bls ra e2] at hq
          exact ⟨a, bs, rfl, hq, h.now R (.bl _)⟩
  · exact h.elim
theorem cd_sum (hc : X.calm = true) : CallD X cl W (.builtin "sum") sumD := (cr_sum hc).weak fun xs H Q ⟨ρ, F, S, σ, ds, R, ra, h⟩ => by
  unfold sumD at h
  split at h
  · next d =>
    cases e : listOf S d with
    | none => rw [e] at h; exact h.elim
    | some ys =>
      rw [e] at h
      cases e2 : asInts ys with
      | none => simp only [Option.bind, e2] at h; exact h.elim
      | some bs =>
        simp only [Option.bind, e2] at h
        cases ra with
        | cons r t =>
          cases t
          obtain ⟨a, vs, rfl, hq, ra⟩ := rep_list R r e
          rw [rep_ints ra e2] at hq
          exact ⟨a, bs, rfl, hq, h.now R (.int _)⟩
  · exact h.elim
end

/-! ### isinstance -/
def tyD (S : Sto) : D → Option String
  | .non => some "NoneType"
  | .bl _ => some "bool"
  | .int _ => some "int"
  | .str _ => some "str"
  | .tup _ => some "tuple"
  | .lst _ => some "list"
  | .dic _ _ => some "dict"
  | .ref n => (match S[n]? with
    | some (.lst _) => some "list"
    | some (.dic _ _) => some "dict"
    | _ => none)
  | .exc _ => none
def isiD (T : String) (d : D) (S : Sto) : Res D := match (tyD S d).bind fun t => kitB t T with
  | some b => .ok (.bl b) S
  | none => .bad
section
variable {X : Cx} {cl : Nat → Addr} {W : WX} {A : E} {e : Expr} {T : String}
theorem kit_ofD {pins : List (Addr × Obj)} {σ : L2.St} {s : Shared} {ρ : List Addr} {F H : Hp} {S : Sto} {v : V} {u : Value} {d : D} {t : String} (I : Inv X pins σ H s) (R : Rel (cxt X cl) ρ F S H) (rv : RelV v u) (r : RepD (cxt X cl) ρ F v d) (h : tyD S d = some t) :
    ∃ P : Heap → Prop, PySem.W.KitX X.K u (.type t) P ∧ P s.heap ∧ u ≠ .builtin "__main__.__loader__#opaque" := by
  have lst : ∀ {a : Addr} {vs : List V}, SqL X.K H a vs → ∃ P : Heap → Prop, PySem.W.KitX X.K (.ref a) (.type "list") P ∧ P s.heap ∧ Value.ref a ≠ .builtin "__main__.__loader__#opaque" := fun hq => by
    obtain ⟨its, _, ⟨o, n, ho, hc, _, _⟩, _⟩ := I.list hq
    exact ⟨_, PySem.W.kitx_list, ⟨o, ho, hc⟩, fun z => nomatch z⟩
  have dic : ∀ {a : Addr} {kvs : List (Key × V)}, Rd H a (.dK kvs) → ∃ P : Heap → Prop, PySem.W.KitX X.K (.ref a) (.type "dict") P ∧ P s.heap ∧ Value.ref a ≠ .builtin "__main__.__loader__#opaque" := fun {a kvs} ea => by
    obtain ⟨_, _, vs, _, o, es, ep, h1, h2, _⟩ : kvs.length ≤ sizeLine ∧ (a == sysModules) = false ∧ ∃ vs, KV kvs vs ∧ s.heap.DictOf (mixKind X.prog X.w) a vs := by
      rcases ea with ea | ⟨ob, ea⟩
      · exact I.hok _ _ ea
      · exact (I.hok _ _ ea).2
    exact ⟨_, PySem.W.kitx_dict, ⟨o, h1, h2.1⟩, fun z => nomatch z⟩
  have dicT : ∀ {a : Addr} {kvs : List (List Key × V)}, Rd H a (.dT kvs) → ∃ P : Heap → Prop, PySem.W.KitX X.K (.ref a) (.type "dict") P ∧ P s.heap ∧ Value.ref a ≠ .builtin "__main__.__loader__#opaque" := fun {a kvs} ea => by
    have hk : ObjOk X.prog X.w H s.heap a (.dT kvs) := by
      rcases ea with ea | ⟨ob, ea⟩
      · exact I.hok _ _ ea
      · exact (I.hok _ _ ea).2
    obtain ⟨_, _, xs, _, o, es, ep, h1, h2, _⟩ := hk
    exact ⟨_, PySem.W.kitx_dict, ⟨o, h1, h2.1⟩, fun z => nomatch z⟩
  cases r with
  | non => cases h; cases rv; exact ⟨_, PySem.W.kitx_none, True.intro, fun z => nomatch z⟩
  | bl y => cases h; cases rv; exact ⟨_, PySem.W.kitx_bool, True.intro, fun z => nomatch z⟩
  | int i => cases h; obtain ⟨t, rfl⟩ := rv; exact ⟨_, PySem.W.kitx_int, True.intro, fun z => nomatch z⟩
  | str y => cases h; obtain ⟨t, rfl⟩ := rv; exact ⟨_, PySem.W.kitx_str, True.intro, fun z => nomatch z⟩
  | tup hq ra =>
    cases h; cases rv
    obtain ⟨its, _, ⟨o, ho, hc, _⟩, _⟩ := I.tuple (sqT_mono R.fz hq)
    exact ⟨_, PySem.W.kitx_tuple, ⟨o, ho, hc⟩, fun z => nomatch z⟩
  | lst hq ra => cases h; cases rv; exact lst (sqL_mono R.fz hq)
  | dicK hq ra => cases h; cases rv; exact dic (rd_mono R.fz hq)
  | dicT hq ra => cases h; cases rv; exact dicT (rd_mono R.fz hq)
  | exc _ => cases h
  | @ref a n he =>
    cases rv
    have h' : (match S[n]? with
      | some (.lst _) => some "list"
      | some (.dic _ _) => some "dict"
      | _ => none) = some t := h
    split at h'
    · next xs es =>
      cases h'
      obtain ⟨vs, hv, _⟩ := R.cell n a _ he es
      exact lst (SqL.of hv)
    · next t' xs es =>
      cases h'
      cases t' with
      | true =>
        obtain ⟨vs, hv, _⟩ := R.cell n a _ he es
        exact dicT (.inl hv)
      | false =>
        obtain ⟨vs, hv, _⟩ := R.cell n a _ he es
        exact dic (.inl hv)
    · cases h'
theorem de_isi {p p2 pos : Pos} (he : DE X cl W e A) (hg : Gl X "isinstance") (hm : X.mg "isinstance" = none) (T : String) {x : Str} (hgT : Gl X x) (hmT : X.mg x = none) (hv : bootBuiltins x = some (.type T) := by rfl) (hn : x ≠ "__name__" := by decide) (hdb : (x == ("__debug__" : Str)) = false := by decide)
    (hi : bootBuiltins "isinstance" = some (.builtin "isinstance") := by rfl) (hs : starEach [e, .Name x p2] X.env = [(false, eval e X.env), (false, eval (.Name x p2) X.env)] := by rfl) (hs1 : starEach [.Name x p2] X.env = [(false, eval (.Name x p2) X.env)] := by rfl) :
    DE X cl W (.Call (.Name "isinstance" p) [e, .Name x p2] [] pos) (eOp1 (isiD T) A) := ⟨fun pins s σ H Q I ⟨l, S, ρ, F, hl, R, h⟩ => by
  refine (pe_callB (r := fun xs H' Q' => ∃ v S1 ρ1 F1 d, xs = [v, .ty T] ∧ Rel (cxt X cl) ρ1 F1 S1 H' ∧ RepD (cxt X cl) ρ1 F1 v d ∧ satE (cxt X cl) W ρ1 F1 σ (isiD T d S1) Q') (fun pins s σ' H xs us Q I r hh => ?_) hg hm hi (pa_cons he (pa_cons (pe_bltn (v := .ty T) hgT hmT hv rfl hn hdb) pa_nil (by rw [hs1]; rfl)) (by rw [hs, hs1])) (by decide) (by decide) (by rw [hs, hs1]) (by rw [hs1]; rfl)).run pins s σ H Q I ?_
  · obtain ⟨v, S1, ρ1, F1, d, rfl, R1, rd, hh⟩ := hh
    obtain ⟨u1, u2, rfl, r1, r2⟩ := vals2 r
    cases (show u2 = Value.type T from r2)
    unfold isiD at hh
    cases e1 : tyD S1 d with
    | none => rw [e1] at hh; exact hh.elim
    | some t =>
      rw [e1] at hh
      cases e2 : kitB t T with
      | none => simp only [Option.bind, e2] at hh; exact hh.elim
      | some b =>
        simp only [Option.bind, e2] at hh
        obtain ⟨P, Z, pp, hx⟩ := kit_ofD I R1 r1 rd e1
        exact PySem.W.kia_one Z I.kIn pp (kit_ty e2) hx fun tk => ⟨.bl b, H, I.tok tk, rfl, hh.now R1 (.bl b)⟩
  · refine tE_stepX hl R (satE.x h) fun d S1 ρ1 F1 H1 v R1 hl1 r1 p1 f1 h1 => ?_
    exact ⟨v, S1, ρ1, F1, d, rfl, R1, r1, satE.mono p1 f1 h1⟩⟩
end

/-! ### calls of defs -/
def spF (C : Ct) (n : Nat) (Fm : List D → Sto → Res D) : Sp := fun vs H Q E => vs.length = n ∧ ∃ S ρ F ds, Rel C ρ F S H ∧ RepAll C ρ F vs ds ∧ satE C (fun c d _ H' => E c d H') ρ F [] (Fm ds S) Q
/-- a def as its callers see it -/
structure Cal (P : Program) (w : World) (K : PySem.W.Frag) (mg : Str → Option Value) (base : Heap) (cl : Nat → Addr) (k : Nat) (x : Str) (Fm : List D → Sto → Res D) : Prop where
  ex : ∃ (f : Addr) (fd : FuncData) (ps : List Str), FnOk P w K mg base (L2.CX P w) k f fd ps (spF ⟨P, w, K, cl⟩ ps.length Fm) ∧ Binds K fd ps [] ∧ mg x = some (.ref f) ∧ PySem.W.keepIn K (.ref f) = true ∧ ∀ ds S, Fm ds S ≠ .bad → ds.length = ps.length
theorem Cal.up {P : Program} {w : World} {K : PySem.W.Frag} {mg : Str → Option Value} {base : Heap} {cl : Nat → Addr} {k k' : Nat} {x : Str} {Fm : List D → Sto → Res D} (c : Cal P w K mg base cl k x Fm) (h : k ≤ k') : Cal P w K mg base cl k' x Fm := by
  obtain ⟨f, fd, ps, F, b, g, kp, ln⟩ := c.ex
  exact ⟨f, fd, ps, F.mono h, b, g, kp, ln⟩
theorem tkNo {X : Cx} : Takes X W0 := fun u s' ⟨_, _, _, _, _, _, _, _, _, _, _, _, _, _, _, _, w⟩ => w.elim
theorem satE.wish {C : Ct} {W W' : WX} {ρ : List Addr} {F : Hp} {σ σ' : L2.St} {r : Res D} {Q : VK} (h : satE C W ρ F σ r Q) (i : ∀ c d H, W c d σ H → W' c d σ' H) : satE C W' ρ F σ' r Q := by
  cases r with
  | ok d S => exact h
  | exc x S => exact fun ρ' F' H' dd a b c => i _ _ _ (h ρ' F' H' dd a b c)
  | bad => exact h
section
variable {X : Cx} {cl : Nat → Addr} {W : WX} {r : As} {e : Expr} {es : List Expr} {p pos : Pos} {k : Nat} {x : Str} {Fm : List D → Sto → Res D}
theorem de_call (c : Cal X.prog X.w X.K X.mg X.base cl k x Fm) (hr : Room k X.A) (tk : Takes X W) (hg : Gl X x) (ha : DA X cl W (e :: es) r) (hdb : (x == ("__debug__" : Str)) = false := by decide) (he : starEach (e :: es) X.env = (false, eval e X.env) :: starEach es X.env := by rfl) (hpl : (backTo pos (starEach es X.env)).any (·.1) = false := by rfl) :
    DE X cl W (.Call (.Name x p) (e :: es) [] pos) (eApp Fm r) := by
  obtain ⟨f, fd, ps, F, b, g, kp, ln⟩ := c.ex
  refine (pe_callS (E := WE W) F hr hg g kp b (fun σ => passAt tk σ) ha hdb he hpl).imp fun σ H Q ⟨l, S, ρ, F', hl, R, h⟩ => ?_
  refine tA_stepX hl R (satE.x h) fun ds S1 ρ1 F1 H1 vs R1 hl1 r1 p1 f1 h1 => ?_
  have hb : Fm ds S1 ≠ .bad := fun z => by rw [z] at h1; exact h1
  exact ⟨by rw [r1.len]; exact ln ds S1 hb, S1, ρ1, F1, ds, R1, r1, satE.wish (satE.mono p1 f1 h1) fun c d H w => w⟩
end

/-! ### the rule for a def -/
/-- a def, run: n its parameters, N its names -/
noncomputable def runF (n N : Nat) (m : Mode) (B : Stm) : List D → Sto → Res D := fun ds S => if ds.length = n then (match B (ds.map some ++ List.replicate (N - n) none) S with
  | .next _ S' => exitM m S .non S'
  | .ret d S' => exitM m S d S'
  | .exc x _ S' => exitMX m S x S'
  | _ => .bad) else .bad
theorem runF_len {n N : Nat} {m : Mode} {B : Stm} {ds : List D} {S : Sto} (h : runF n N m B ds S ≠ .bad) : ds.length = n := by
  unfold runF at h
  split at h
  · assumption
  · exact absurd rfl h
/-- the rule: the body's derivation in the def's own context -/
theorem fn_rule {P : Program} {w : World} {K : PySem.W.Frag} {mg : Str → Option Value} {base : Heap} {cl : Nat → Addr} {k : Nat} {x qual : Str} {params : Arguments} {body : List Stmt} {scope : Scope} {f : Addr} {fd : FuncData} {N ps : List Str} {m : Mode} {B : Stm}
    (Fd : FunD K x qual params body scope [] [] f fd) (Sc : FnScope N ps scope)
    (hbody : ∀ (cdv : Value) (A : Around) (outer : List Env) (s : Shared) (H : Hp) (E : XK), Room k (A.deeper (envOfC qual scope s.heap.objs.size f cdv)) →
      DSs (cxOf (L2.CX P w) P w K mg base N qual scope f cdv A outer s H E) cl (fun c d _ H' => E c d H') body B) :
    FnOk P w K mg base (L2.CX P w) (k + 1) f fd ps (spF ⟨P, w, K, cl⟩ ps.length (runF ps.length N.length m B)) := by
  refine Fd.ok Sc (fun vs H Q E h => h.1) fun cdv A outer s H vs Q E hr h => ⟨_, hbody cdv A outer s H E hr, ?_⟩
  obtain ⟨hlen, S, ρ, F, ds, R, ra, h⟩ := h
  have hpn : ps.length ≤ N.length := by have := congrArg List.length Sc.pre; rw [List.length_take] at this; omega
  have hl : LRel ⟨P, w, K, cl⟩ ρ F (L2.start N vs) (ds.map some ++ List.replicate (N.length - ps.length) none) := by
    unfold L2.start
    have hdl : ds.length = ps.length := by rw [← ra.len, hlen]
    refine ⟨by simp [hlen, hdl], fun i d e => ?_⟩
    by_cases hi : i < ds.length
    · rw [List.getElem?_append_left (by simpa using hi), List.getElem?_map] at e
      cases e2 : ds[i]? with
      | none => rw [e2] at e; cases e
      | some d' =>
        rw [e2] at e; cases e
        obtain ⟨v, hv, rv⟩ := ra.get e2
        exact ⟨v, by rw [List.getElem?_append_left (by simpa [ra.len] using hi), List.getElem?_map, hv]; rfl, rv⟩
    · rw [List.getElem?_append_right (by simpa using hi), List.getElem?_replicate] at e
      split at e <;> cases e
  refine ⟨_, S, ρ, F, hl, R, ?_⟩
  unfold runF at h
  split at h
  · cases e : B (ds.map some ++ List.replicate (N.length - ps.length) none) S with
    | next l' S' =>
      rw [e] at h
      intro ρ' F' H' σ' R' p f' _
      have h' : satE (⟨P, w, K, cl⟩ : Ct) (fun c d _ H' => E c d H') ρ F [] (exitM m S .non S') Q := h
      rcases exitM_cases m S .non S' with ⟨d, S2, e2⟩ | e2
      · rw [e2] at h'
        obtain ⟨ρ2, F2, R2, p2, f2, r2⟩ := exitM_ok R p R' f' .non e2
        exact h' ρ2 F2 H' _ R2 p2 f2 r2
      · rw [e2] at h'; exact h'.elim
    | ret d S' =>
      rw [e] at h
      intro ρ' F' H' v R' p f' r'
      have h' : satE (⟨P, w, K, cl⟩ : Ct) (fun c d _ H' => E c d H') ρ F [] (exitM m S d S') Q := h
      rcases exitM_cases m S d S' with ⟨d2, S2, e2⟩ | e2
      · rw [e2] at h'
        obtain ⟨ρ2, F2, R2, p2, f2, r2⟩ := exitM_ok R p R' f' r' e2
        exact h' ρ2 F2 H' _ R2 p2 f2 r2
      · rw [e2] at h'; exact h'.elim
    | exc x l' S' =>
      rw [e] at h
      intro ρ' F' H' σ' dd R' p f' _
      have go : ∀ (h' : satE (⟨P, w, K, cl⟩ : Ct) (fun c d _ H' => E c d H') ρ F [] (exitX S x S') Q), E (.ref (cl x)) none H' := fun h' => by
        rcases exitX_cases S x S' with ⟨S2, e2⟩ | e2
        · rw [e2] at h'
          obtain ⟨_, F2, R2, f2⟩ := exit_x R p R' f' e2
          exact h' ρ F2 H' dd R2 (List.prefix_refl _) f2
        · rw [e2] at h'; exact h'.elim
      cases m with
      | fr => exact go h
      | nw => exact go h
      | rw => exact h ρ' F' H' dd R' p f'
    | brk l' S' => rw [e] at h; exact h.elim
    | cont l' S' => rw [e] at h; exact h.elim
    | bad => rw [e] at h; exact h.elim
  · exact h.elim
theorem cal_of {P : Program} {w : World} {K : PySem.W.Frag} {mg : Str → Option Value} {base : Heap} {cl : Nat → Addr} {k N : Nat} {x : Str} {f : Addr} {fd : FuncData} {ps : List Str} {m : Mode} {B : Stm} (F : FnOk P w K mg base (L2.CX P w) k f fd ps (spF ⟨P, w, K, cl⟩ ps.length (runF ps.length N m B)))
    (b : Binds K fd ps []) (g : mg x = some (.ref f)) (kp : PySem.W.keepIn K (.ref f) = true) : Cal P w K mg base cl k x (runF ps.length N m B) := ⟨f, fd, ps, F, b, g, kp, fun _ _ h => runF_len h⟩
/-- in a def's own context -/
theorem takesF {P : Program} {w : World} {K : PySem.W.Frag} {mg : Str → Option Value} {base : Heap} {N : List Str} {qual : Str} {scope : Scope} {f : Addr} {cdv : Value} {A : Around} {outer : List Env} {s : Shared} {H : Hp} {E : XK} :
    Takes (cxOf (L2.CX P w) P w K mg base N qual scope f cdv A outer s H E) (fun c d _ H' => E c d H') := takes_of rfl rfl rfl rfl
theorem ownsF {P : Program} {w : World} {K : PySem.W.Frag} {mg : Str → Option Value} {base : Heap} {N : List Str} {qual : Str} {scope : Scope} {f : Addr} {cdv : Value} {A : Around} {outer : List Env} {s : Shared} {H : Hp} {E : XK} :
    PassesOwn (model P w) (cxOf (L2.CX P w) P w K mg base N qual scope f cdv A outer s H E).A (cxOf (L2.CX P w) P w K mg base N qual scope f cdv A outer s H E).env (cxOf (L2.CX P w) P w K mg base N qual scope f cdv A outer s H E).xe := passes_of rfl
end DL

/-! DL9: methods of lists, storing an item, op=. -/
namespace DL
open PySem PySem.Spec PyProof.Rows L2

/-! ### o.m(..) of a built-in type -/
def eMt (T : String) (g : D → List D → Sto → Res D) (A : E) (r : As) : E := fun l S => (A l S).bind fun x S1 => if tyD S1 x = some T then (r l S1).bind fun ds S2 => g x ds S2 else .bad
def rMt (C : Ct) (W : WX) (g : D → List D → Sto → Res D) : V → List V → Hp → VK → Prop := fun x xs H Q => ∃ ρ F S σ d ds, Rel C ρ F S H ∧ RepD C ρ F x d ∧ RepAll C ρ F xs ds ∧ satE C W ρ F σ (g d ds S) Q
abbrev MtD (X : Cx) (cl : Nat → Addr) (W : WX) (id : String) (g : D → List D → Sto → Res D) : Prop := MtR X id (rMt (cxt X cl) W g)
theorem _root_.L2.MtR.weak {X : Cx} {id : String} {r r' : V → List V → Hp → VK → Prop} (h : MtR X id r) (i : ∀ x xs H Q, r' x xs H Q → r x xs H Q) : MtR X id r' := fun pins s σ H x xs v us Q I rx rs q => h pins s σ H x xs v us Q I rx rs (i _ _ _ _ q)
section
variable {C : Ct} {W : WX} {ρ : List Addr} {F H : Hp} {S : Sto} {v : V} {d : D} {T : String}
theorem rep_ty (R : Rel C ρ F S H) (r : RepD C ρ F v d) (h : tyD S d = some T) (hT : T = "list" ∨ T = "str") : tyV C.K T v H := by
  cases r with
  | str s => cases h; rfl
  | lst hq _ => cases h; exact .inl ⟨rfl, _, sqL_mono R.fz hq⟩
  | dicK hq _ => cases h; rcases hT with h | h <;> exact absurd h (by decide)
  | dicT hq _ => cases h; rcases hT with h | h <;> exact absurd h (by decide)
  | exc _ => cases h
  | non => cases h; rcases hT with h | h <;> exact absurd h (by decide)
  | bl _ => cases h; rcases hT with h | h <;> exact absurd h (by decide)
  | int _ => cases h; rcases hT with h | h <;> exact absurd h (by decide)
  | tup _ _ => cases h; rcases hT with h | h <;> exact absurd h (by decide)
  | @ref a n he =>
    have h' : (match S[n]? with
      | some (.lst _) => some "list"
      | some (.dic _ _) => some "dict"
      | _ => none) = some T := h
    split at h'
    · next xs es =>
      cases h'
      obtain ⟨vs, hv, _⟩ := R.cell n a _ he es
      exact .inl ⟨rfl, vs, SqL.of hv⟩
    · cases h'; rcases hT with h | h <;> exact absurd h (by decide)
    · cases h'
end
section
variable {X : Cx} {cl : Nat → Addr} {W : WX} {A : E} {r : As} {o e : Expr} {es : List Expr} {T id : String} {name : Str} {apos cpos : Pos} {g : D → List D → Sto → Res D}
theorem de_mt0 (pa : PlainAttrs T) (slot : Slot T name id) (hty : typeOf (.builtin id) = pure (.type "method_descriptor")) (hm : MtD X cl W id g) (hT : T = "list" ∨ T = "str") (ho : DE X cl W o A)
    (hbase : attributeBase o name X.env (eval o X.env) = eval o X.env := by rfl) (hline : (apos.endLine == cpos.line) = true := by rfl) : DE X cl W (.Call (.Attribute o name apos) [] [] cpos) (eMt T g A aNil) := (pe_bm0 pa slot hty hm ho hbase hline).imp fun σ H Q ⟨l, S, ρ, F, hl, R, h⟩ => by
  refine tE_stepX hl R (satE.x h) fun d S1 ρ1 F1 H1 v R1 hl1 r1 p1 f1 h1 => ?_
  split at h1
  · next ht => exact ⟨rep_ty R1 r1 ht hT, ρ1, F1, S1, σ, d, [], R1, r1, .nil, satE.mono p1 f1 h1⟩
  · exact h1.elim
theorem de_mt (pa : PlainAttrs T) (slot : Slot T name id) (hty : typeOf (.builtin id) = pure (.type "method_descriptor")) (hm : MtD X cl W id g) (hT : T = "list" ∨ T = "str") (ho : DE X cl W o A) (ha : DA X cl W (e :: es) r)
    (hbase : attributeBase o name X.env (eval o X.env) = eval o X.env := by rfl)
    (hfew : ((backTo cpos (starEach (e :: es) X.env)).all (fun x => !x.1) && (backToKw cpos (keywordEach [] X.env)).all (fun x => x.1.isSome)
      && decide ((e :: es).length + ([] : List Keyword).length + (if ([] : List Keyword).isEmpty then 0 else 1) < 30)) = true := by rfl)
    (hline : (apos.endLine == cpos.line) = true := by rfl) (hs : starEach (e :: es) X.env = (false, eval e X.env) :: starEach es X.env := by rfl) (hplain : (backTo cpos (starEach es X.env)).any (·.1) = false := by rfl) :
    DE X cl W (.Call (.Attribute o name apos) (e :: es) [] cpos) (eMt T g A r) := (pe_bm pa slot hty hm ho ha hbase hfew hline hs hplain).imp fun σ H Q ⟨l, S, ρ, F, hl, R, h⟩ => by
  refine tE_stepX hl R (satE.x h) fun d S1 ρ1 F1 H1 v R1 hl1 r1 p1 f1 h1 => ?_
  split at h1
  · next ht =>
    refine ⟨rep_ty R1 r1 ht hT, ?_⟩
    refine tA_stepX hl1 R1 (satE.x (satE.mono p1 f1 h1)) fun ds S2 ρ2 F2 H2 vs R2 hl2 r2 p2 f2 h2 => ?_
    exact ⟨ρ2, F2, S2, σ, d, ds, R2, r1.mono p2 f2, r2, satE.mono p2 f2 h2⟩
  · exact h1.elim
end
/-! ### of lists -/
/-- the live list -/
def cellL (S : Sto) : D → Option (Nat × List D)
  | .ref n => (match S[n]? with
    | some (.lst xs) => some (n, xs)
    | _ => none)
  | _ => none
theorem cellL_some {S : Sto} {d : D} {n : Nat} {xs : List D} (h : cellL S d = some (n, xs)) : d = .ref n ∧ S[n]? = some (.lst xs) := by
  cases d with
  | ref m =>
    have h' : (match S[m]? with
      | some (.lst xs) => some (m, xs)
      | _ => none) = some (n, xs) := h
    split at h'
    · next ys es => cases h'; exact ⟨rfl, es⟩
    · cases h'
  | _ => exact nomatch h
theorem rep_cell {C : Ct} {ρ : List Addr} {F H : Hp} {S : Sto} {v : V} {d : D} {n : Nat} {xs : List D} (R : Rel C ρ F S H) (r : RepD C ρ F v d) (h : cellL S d = some (n, xs)) : ∃ a vs, v = .ref a ∧ ρ[n]? = some a ∧ S[n]? = some (.lst xs) ∧ H a = some (.lst vs) ∧ RepAll C ρ F vs xs := by
  obtain ⟨rfl, hS⟩ := cellL_some h
  cases r with
  | ref he =>
    obtain ⟨vs, hv, ra⟩ := R.cell n _ _ he hS
    exact ⟨_, vs, rfl, he, hS, hv, ra⟩
theorem satE.putL {C : Ct} {W : WX} {ρ : List Addr} {F H : Hp} {S : Sto} {σ : L2.St} {n : Nat} {a : Addr} {xs ys : List D} {vs : List V} {d : D} {v : V} {Q : VK} (h : satE C W ρ F σ (.ok d (S.set n (.lst ys))) Q) (R : Rel C ρ F S H) (he : ρ[n]? = some a) (hS : S[n]? = some (.lst xs)) (ra : RepAll C ρ F vs ys) (rd : RepD C ρ F v d) : Q v (upd H a (.lst vs)) :=
  h ρ F _ v (R.put (c' := .lst ys) he hS (by intro z; cases z) ⟨vs, upd_same, ra⟩ (by intro z; cases z)) (List.prefix_refl _) (Le.refl _) rd
def appendD (x : D) (ds : List D) (S : Sto) : Res D := match ds with
  | [y] => (match cellL S x with | some (n, xs) => if xs.length < sizeLine then .ok .non (S.set n (.lst (xs ++ [y]))) else .bad | none => .bad)
  | _ => .bad
def popD (x : D) (ds : List D) (S : Sto) : Res D := match ds with
  | [] => (match cellL S x with | some (n, xs) => (match xs[xs.length - 1]? with | some y => .ok y (S.set n (.lst xs.dropLast)) | none => .bad) | none => .bad)
  | _ => .bad
def popAtD (x : D) (ds : List D) (S : Sto) : Res D := match ds with
  | [.int i] => (match cellL S x with | some (n, xs) => if -(2 ^ 63) ≤ i ∧ i < 2 ^ 63 then (match seqIndex? i xs.length with | some k => (match xs[k]? with | some y => .ok y (S.set n (.lst (xs.eraseIdx k))) | none => .bad) | none => .bad) else .bad | none => .bad)
  | _ => .bad
def reverseD (x : D) (ds : List D) (S : Sto) : Res D := match ds with
  | [] => (match cellL S x with | some (n, xs) => .ok .non (S.set n (.lst xs.reverse)) | none => .bad)
  | _ => .bad
def clearD (x : D) (ds : List D) (S : Sto) : Res D := match ds with
  | [] => (match cellL S x with | some (n, xs) => .ok .non (S.set n (.lst [])) | none => .bad)
  | _ => .bad
def insertD (x : D) (ds : List D) (S : Sto) : Res D := match ds with
  | [.int i, y] => (match cellL S x with | some (n, xs) => if xs.length < sizeLine ∧ 0 ≤ i ∧ i < 2 ^ 63 then .ok .non (S.set n (.lst (xs.take i.toNat ++ [y] ++ xs.drop i.toNat))) else .bad | none => .bad)
  | _ => .bad
def flatD : D → Bool
  | .non => true
  | .bl _ => true
  | .int _ => true
  | .str _ => true
  | _ => false
def indexD (x : D) (ds : List D) (S : Sto) : Res D := match ds with
  | [y] => (match listOf S x with | some xs => if (flatD y && xs.all flatD && decide (xs.findIdx (fun z => eqD z y) < xs.length)) = true then .ok (.int (xs.findIdx fun z => eqD z y)) S else .bad | none => .bad)
  | _ => .bad
section
variable {C : Ct} {ρ : List Addr} {F : Hp}
theorem flat_rep {v : V} {d : D} (r : RepD C ρ F v d) (h : flatD d = true) : flatV v = true := by
  cases r <;> first | rfl | cases h
theorem flat_all : ∀ {vs : List V} {ds : List D}, RepAll C ρ F vs ds → ds.all flatD = true → vs.all flatV = true
  | _, _, .nil, _ => rfl
  | _, _, .cons r t, h => by
    rw [List.all_cons, Bool.and_eq_true] at h ⊢
    exact ⟨flat_rep r h.1, flat_all t h.2⟩
theorem flat_eq {v u : V} {d e : D} (r : RepD C ρ F v d) (r' : RepD C ρ F u e) (h : flatD d = true) (h' : flatD e = true) : eqV v u = eqD d e := by
  cases r <;> first
    | (cases h; done)
    | (cases r' <;> first | (cases h'; done) | (unfold eqV eqD; rfl) | (unfold eqV eqD; simp) | (unfold eqV eqD; rename_i b _; cases b <;> simp))
end
section
variable {X : Cx} {cl : Nat → Addr} {W : WX}
theorem md_append : MtD X cl W "list.append" appendD := MtR.weak mt_append fun x xs H Q ⟨ρ, F, S, σ, d, ds, R, r, ra, h⟩ => by
  unfold appendD at h
  split at h
  · next y =>
    split at h
    · next n ys hc =>
      split at h
      · next hz =>
        obtain ⟨a, vs, rfl, he, hS, hH, rv⟩ := rep_cell R r hc
        cases ra with
        | cons ry t =>
          cases t
          exact ⟨a, vs, _, rfl, rfl, hH, by rw [rv.len]; exact hz, h.putL R he hS (rv.snoc ry) .non⟩
      · exact h.elim
    · exact h.elim
  · exact h.elim
theorem md_pop0 : MtD X cl W "list.pop" popD := MtR.weak mt_pop fun x xs H Q ⟨ρ, F, S, σ, d, ds, R, r, ra, h⟩ => by
  unfold popD at h
  split at h
  · split at h
    · next n ys hc =>
      split at h
      · next y hy =>
        obtain ⟨a, vs, rfl, he, hS, hH, rv⟩ := rep_cell R r hc
        cases ra
        obtain ⟨v, hv, ry⟩ := rv.get hy
        exact ⟨a, vs, v, rfl, rfl, hH, by rw [rv.len]; exact hv, h.putL R he hS rv.dropLast ry⟩
      · exact h.elim
    · exact h.elim
  · exact h.elim
theorem md_popAt : MtD X cl W "list.pop" popAtD := MtR.weak mt_popAt fun x xs H Q ⟨ρ, F, S, σ, d, ds, R, r, ra, h⟩ => by
  unfold popAtD at h
  split at h
  · next i =>
    split at h
    · next n ys hc =>
      split at h
      · next hi =>
        split at h
        · next k hk =>
          split at h
          · next y hy =>
            obtain ⟨a, vs, rfl, he, hS, hH, rv⟩ := rep_cell R r hc
            cases ra with
            | cons ri t =>
              cases ri; cases t
              obtain ⟨v, hv, ry⟩ := rv.get hy
              exact ⟨a, vs, i, k, v, rfl, rfl, hH, hi.1, hi.2, by rw [rv.len]; exact hk, hv, h.putL R he hS (rv.erase k) ry⟩
          · exact h.elim
        · exact h.elim
      · exact h.elim
    · exact h.elim
  · exact h.elim
theorem md_reverse : MtD X cl W "list.reverse" reverseD := MtR.weak mt_reverse fun x xs H Q ⟨ρ, F, S, σ, d, ds, R, r, ra, h⟩ => by
  unfold reverseD at h
  split at h
  · split at h
    · next n ys hc =>
      obtain ⟨a, vs, rfl, he, hS, hH, rv⟩ := rep_cell R r hc
      cases ra
      exact ⟨a, vs, rfl, rfl, hH, h.putL R he hS rv.rev .non⟩
    · exact h.elim
  · exact h.elim
theorem md_clear : MtD X cl W "list.clear" clearD := MtR.weak mt_clear fun x xs H Q ⟨ρ, F, S, σ, d, ds, R, r, ra, h⟩ => by
  unfold clearD at h
  split at h
  · split at h
    · next n ys hc =>
      obtain ⟨a, vs, rfl, he, hS, hH, rv⟩ := rep_cell R r hc
      cases ra
      exact ⟨a, vs, rfl, rfl, hH, h.putL R he hS .nil .non⟩
    · exact h.elim
  · exact h.elim
theorem md_insert : MtD X cl W "list.insert" insertD := MtR.weak mt_insert fun x xs H Q ⟨ρ, F, S, σ, d, ds, R, r, ra, h⟩ => by
  unfold insertD at h
  split at h
  · next i y =>
    split at h
    · next n ys hc =>
      split at h
      · next hz =>
        obtain ⟨a, vs, rfl, he, hS, hH, rv⟩ := rep_cell R r hc
        cases ra with
        | cons ri t =>
          cases t with
          | cons ry t =>
            cases ri; cases t
            exact ⟨a, vs, i, _, rfl, rfl, hH, by rw [rv.len]; exact hz.1, hz.2.1, hz.2.2, h.putL R he hS (((rv.take _).snoc ry).app (rv.drop _)) .non⟩
      · exact h.elim
    · exact h.elim
  · exact h.elim
theorem md_index : MtD X cl W "list.index" indexD := MtR.weak mt_index fun x xs H Q ⟨ρ, F, S, σ, d, ds, R, r, ra, h⟩ => by
  unfold indexD at h
  split at h
  · next y =>
    split at h
    · next ys hs =>
      split at h
      · next hk =>
        rw [Bool.and_eq_true, Bool.and_eq_true] at hk
        obtain ⟨⟨fy, fs⟩, hlt⟩ := hk
        have hlt := of_decide_eq_true hlt
        obtain ⟨a, vs, rfl, hq, rv⟩ := rep_list R r hs
        cases ra with
        | @cons u _ _ _ ry t =>
          cases t
          have hj := List.getElem?_eq_getElem hlt
          obtain ⟨z, hz, rz⟩ := rv.get hj
          have fz : ∀ {m : Nat} {w : D}, ys[m]? = some w → flatD w = true := fun e => List.all_eq_true.mp fs _ (List.mem_of_getElem? e)
          refine ⟨a, vs, u, _, z, rfl, rfl, hq, flat_rep ry fy, flat_all rv fs, hz, ?_, fun m z' hm hz' => ?_, h.now R (.int _)⟩
          · rw [flat_eq rz ry (fz hj) fy]
            exact List.findIdx_getElem (w := hlt)
          · obtain ⟨w, hw, rw'⟩ := rv.getV hz'
            rw [flat_eq rw' ry (fz hw) fy]
            have := List.not_of_lt_findIdx hm
            obtain ⟨h1, h2⟩ := List.getElem?_eq_some_iff.mp hw
            rw [h2] at this
            simpa using this
      · exact h.elim
    · exact h.elim
  · exact h.elim
end

/-! ### o[i] = v -/
abbrev SetD := D → D → D → Sto → Option Sto
def satU (C : Ct) (ρ : List Addr) (F : Hp) (r : Option Sto) (Q : Hp → Prop) : Prop := match r with
  | some S' => ∀ ρ' F' H', Rel C ρ' F' S' H' → ρ <+: ρ' → Le F F' → Q H'
  | none => False
def tSetD (C : Ct) (g : SetD) : TSet := fun o i v H Q => ∃ ρ F S x y z, Rel C ρ F S H ∧ RepD C ρ F o x ∧ RepD C ρ F i y ∧ RepD C ρ F v z ∧ satU C ρ F (g x y z S) Q
abbrev PSD (X : Cx) (cl : Nat → Addr) (g : SetD) : Prop := PSet X (tSetD (cxt X cl) g)
def setLD : SetD := fun x y z S => match y with
  | .int k => (match cellL S x with | some (n, xs) => (match ixN xs.length k with | some j => some (S.set n (.lst (xs.set j z))) | none => none) | none => none)
  | _ => none
def gSubD (A B : E) (g : SetD) : GD := fun d l S => match A l S with
  | .ok x S1 => (match B l S1 with
    | .ok y S2 => (g x y d S2).map fun S3 => (l, S3)
    | _ => none)
  | _ => none
section
variable {X : Cx} {cl : Nat → Addr} {A B : E} {o i : Expr} {pos : Pos} {g : SetD}
theorem sd_list : PSD X cl setLD := fun pins s σ H o i v ov iv u Q I ro ri rv ⟨ρ, F, S, x, y, z, R, rx, ry, rz, h⟩ => by
  refine set_list pins s σ H o i v ov iv u Q I ro ri rv ?_
  unfold setLD at h
  split at h
  · next k =>
    split at h
    · next n xs hc =>
      split at h
      · next j hj =>
        obtain ⟨a, vs, rfl, he, hS, hH, rr⟩ := rep_cell R rx hc
        cases ry
        exact ⟨a, vs, k, j, rfl, rfl, hH, by rw [rr.len]; exact hj, h ρ F _ (R.put (c' := .lst (xs.set j z)) he hS (by intro z; cases z) ⟨_, upd_same, rr.set rz j⟩ (by intro z; cases z)) (List.prefix_refl _) (Le.refl _)⟩
      · exact h.elim
    · exact h.elim
  · exact h.elim
theorem dg_sub (ho : DE X cl W0 o A) (hi : DE X cl W0 i B) (hs : PSD X cl g) (ha : ∀ v, assign (.Subscript o i pos) X.env v = (do
      let ov ← holding [v] (eval o X.env)
      let iv ← holding [v, ov] (eval i X.env)
      standAt pos
      holding [v, ov, iv] (setItem ov iv v)
      release [v, ov, iv] []) := by intro _; rfl) : DG X cl [] (.Subscript o i pos) (gSubD A B g) := (pg_sub ho hi hs ha).imp fun v σ H Q ⟨l, S, ρ, F, d, hl, R, r, h⟩ => by
  unfold gSubD at h
  refine tE_stepX (ok := fun x S1 => satG (cxt X cl) [] ρ F σ (match B l S1 with
    | .ok y S2 => (g x y d S2).map fun S3 => (l, S3)
    | _ => none) Q) hl R (by cases e : A l S <;> rw [e] at h <;> first | exact h | exact h.elim) fun x S1 ρ1 F1 H1 o1 R1 hl1 r1 p1 f1 h1 => ?_
  refine tE_stepX (ok := fun y S2 => satG (cxt X cl) [] ρ F σ ((g x y d S2).map fun S3 => (l, S3)) Q) hl1 R1 (by cases e : B l S1 <;> rw [e] at h1 <;> first | exact h1 | exact h1.elim) fun y S2 ρ2 F2 H2 i1 R2 hl2 r2 p2 f2 h2 => ?_
  refine ⟨ρ2, F2, S2, x, y, d, R2, r1.mono p2 f2, r2, (r.mono p1 f1).mono p2 f2, ?_⟩
  cases e : g x y d S2 with
  | none => rw [e] at h2; exact h2
  | some S3 =>
    rw [e] at h2
    exact fun ρ' F' H' R' p f => h2 ρ' F' H' σ R' ((p1.trans p2).trans p) ((f1.trans f2).trans f) (hl2.mono p f) Keep.refl
end

/-! ### name op= e -/
def sAug (i : Nat) (g : D → D → Sto → Res D) (A : E) : Stm := fun l S => match l[i]? with
  | some (some x) => (A l S).toS l fun y S1 => (g x y S1).toS l fun z S2 => .next (l.set i (some z)) S2
  | _ => .bad
section
variable {X : Cx} {cl : Nat → Addr} {W : WX} {A : E} {e : Expr} {pos : Pos} {g : D → D → Sto → Res D}
theorem ds_aug {i : Nat} {x : Str} {op : Operator} {pos' : Pos} (ho : OpD X cl W (inplaceOp op) g) (he : DE X cl W e A) (hN : X.N.Nodup) (hi : X.N[i]? = some x := by rfl) (hx : L2.Loc X.env.scope x := by first | exact Or.inl rfl | exact Or.inr rfl) (hf : X.fn x = true ∨ X.env.scope.names.lookup x = some .local := by first | exact .inl rfl | exact .inr rfl | assumption) :
    DS X cl W (.AugAssign (.Name x pos') op e pos) (sAug i g A) := (ps_aug hN hi hx he (ti := rD2 (cxt X cl) W g) ho hf).imp fun D σ H ⟨l, S, ρ, F, hl, R, h⟩ => by
  unfold sAug at h
  split at h
  · next x hx =>
    obtain ⟨v, ev, rx⟩ := hl.2 i x hx
    refine ⟨v, ev, ?_⟩
    refine tE_stepX hl R (satS.x hl h) fun y S1 ρ1 F1 H1 u R1 hl1 r1 p1 f1 h1 => ?_
    refine ⟨ρ1, F1, S1, σ, x, y, R1, rx.mono p1 f1, r1, ?_⟩
    have h2 := satS.mono p1 f1 h1
    cases e2 : g x y S1 with
    | ok z S2 => rw [e2] at h2; exact fun ρ2 F2 H2 w R2 p2 f2 r2 => h2 ρ2 F2 H2 _ R2 p2 f2 ((hl1.mono p2 f2).set i r2)
    | exc c S2 => rw [e2] at h2; exact fun ρ2 F2 H2 dd R2 p2 f2 => h2 ρ2 F2 H2 σ dd R2 p2 f2 (hl1.mono p2 f2)
    | bad => rw [e2] at h2; exact h2
  · exact h.elim
end
end DL

/-! DL10: constants of the module, a comprehension given a name, pairs of names. -/
namespace DL
open PySem PySem.Spec PyProof.Rows L2

/-- a tuple of the module -/
def GTup (K : PySem.W.Frag) (mg : Str → Option Value) (x : Str) (d : D) : Prop := ∃ a vs xs, mg x = some (.ref a) ∧ d = .tup xs ∧ (∀ H, SqT K H a vs) ∧ ∀ P w cl ρ F, RepAll ⟨P, w, K, cl⟩ ρ F vs xs
section
variable {X : Cx} {cl : Nat → Addr} {W : WX}
theorem de_gint {x : Str} {i : Int} {pos : Pos} (h : ∃ t, X.mg x = some (.int i t)) (hg : Gl X x) (hd : (x == ("__debug__" : Str)) = false := by decide) : DE X cl W (.Name x pos) (eC (.int i)) := by
  obtain ⟨t, h⟩ := h
  exact de_const (pe_glob (v := .int i) hg h ⟨t, rfl⟩ hd) fun _ _ => .int i
theorem de_gstr {x : Str} {z : Str} {pos : Pos} (h : ∃ t, X.mg x = some (.str z t)) (hg : Gl X x) (hd : (x == ("__debug__" : Str)) = false := by decide) : DE X cl W (.Name x pos) (eC (.str z)) := by
  obtain ⟨t, h⟩ := h
  exact de_const (pe_glob (v := .str z) hg h ⟨t, rfl⟩ hd) fun _ _ => .str z
theorem de_gtup {x : Str} {d : D} {pos : Pos} (h : GTup X.K X.mg x d) (hg : Gl X x) (hd : (x == ("__debug__" : Str)) = false := by decide) : DE X cl W (.Name x pos) (eC d) := by
  obtain ⟨a, vs, xs, h, rfl, hq, ra⟩ := h
  exact de_const (pe_glob (v := .ref a) hg h rfl hd) fun ρ F => .tup (hq F) (ra _ _ _ ρ F)
end
/-- plain items of such a tuple -/
def dvD : He.Dv → Option D
  | .str z => some (.str z)
  | .int i => some (.int i)
  | _ => none
theorem gtup_of {K : PySem.W.Frag} {mg : Str → Option Value} {x : Str} {vs : List He.Dv} {xs : List D} (g : mg x = some (.ref (He.ga K x))) (h : He.tupB K x vs = true) (e : vs.map dvD = xs.map some) : GTup K mg x (.tup xs) := by
  refine ⟨_, _, xs, g, rfl, fun H => He.tupB_ok h H, fun P w cl ρ F => ?_⟩
  clear h g
  induction vs generalizing xs with
  | nil => cases xs with
    | nil => exact .nil
    | cons _ _ => cases e
  | cons v vs ih => cases xs with
    | nil => cases e
    | cons y ys =>
      rw [List.map_cons, List.map_cons] at e
      injection e with e1 e2
      refine .cons ?_ (ih e2)
      cases v with
      | str z => cases e1; exact .str z
      | int i => cases e1; exact .int i
      | _ => cases e1
def iaddD : D → D → Sto → Res D := fun x y S => match x, y with | .int i, .int j => .ok (.int (i + j)) S | _, _ => .bad

/-! ### a, b = x, y -/
def sPar (i j : Nat) (r : As) : Stm := fun l S => (r l S).toS l fun ds S1 => match ds with
  | [x, y] => .next ((l.set i (some x)).set j (some y)) S1
  | _ => .bad
section
variable {X : Cx} {cl : Nat → Addr} {W : WX} {r : As}
theorem ds_par {i j : Nat} {x y : Str} {a b : Expr} {px py pt pos : Pos} {kt k2 pt2} (hc : X.calm = true) (ha : DA X cl W [a, b] r) (hN : X.N.Nodup) (hi : X.N[i]? = some x := by rfl) (hj : X.N[j]? = some y := by rfl) (hij : i ≠ j := by decide)
    (hx : X.env.scope.names.lookup x = some .local := by rfl) (hy : X.env.scope.names.lookup y = some .local := by rfl)
    (hw : swappedStores [.Tuple [.Name x px, .Name y py] kt pt] (.Tuple [a, b] k2 pt2) X.env = pure (some [x, y]) := by rfl)
    (hs : swapsWithSole [.Tuple [.Name x px, .Name y py] kt pt] (.Tuple [a, b] k2 pt2) pos.line X.env = pure false := by rfl) :
    DS X cl W (.Assign [.Tuple [.Name x px, .Name y py] kt pt] (.Tuple [a, b] k2 pt2) pos) (sPar i j r) := (ps_par hc hN hi hj hij hx hy ha hw hs).imp fun D σ H ⟨l, S, ρ, F, hl, R, h⟩ => by
  refine tA_stepX hl R (satS.x hl h) fun ds S1 ρ1 F1 H1 vs R1 hl1 r1 p1 f1 h1 => ?_
  split at h1
  · next x y =>
    cases r1 with
    | cons r t => cases t with
      | cons r' t' => cases t'; exact ⟨_, _, rfl, h1 ρ1 F1 H1 _ R1 p1 f1 ((hl1.set i r).set j r')⟩
  · exact h1.elim
end
end DL
namespace DL
open PySem PySem.Spec PyProof.Rows L2
/-! ### the law's own def: nothing leaves it -/
theorem fn_calm {P : Program} {w : World} {K : PySem.W.Frag} {mg : Str → Option Value} {base : Heap} {k : Nat} {f : Addr} {fd : FuncData} {ps : List Str} {sp sp' : Sp} (F : FnOk P w K mg base (L2.CX P w) k f fd ps sp) (h : ∀ vs H Q E, sp' vs H Q E → sp vs H Q E0) : FnOk P w K mg base CX0 k f fd ps sp' :=
  ⟨fun vs H Q E q => F.len vs H Q E0 (h _ _ _ _ q), fun A outer s H args us vs Q E hr he hb hv hs => codeAny_mono (F.run A outer s H args us vs Q E0 hr he hb hv (h _ _ _ _ hs)) fun r s' hq => by
    cases r with
    | error e => obtain ⟨_, _, _, _, _, _, _, _, _, _, _, _, z⟩ := hq; exact z.elim
    | ok fl => cases fl <;> exact hq⟩
/-- what is asked of the law's def -/
def spLaw (K : PySem.W.Frag) : Sp := fun vs H Q _ => ∃ (a : Addr) (ns : List Int), vs = [.ref a] ∧ SqL K H a (ns.map V.int) ∧ ns.length ≤ 63 ∧ ∀ H', Q (.bl true) H'
theorem rep_script {C : Ct} {ρ : List Addr} {F : Hp} : ∀ ns : List Int, RepAll C ρ F (ns.map V.int) (ns.map D.int)
  | [] => .nil
  | n :: ns => .cons (.int n) (rep_script ns)
theorem law_sp {P : Program} {w : World} {K : PySem.W.Frag} {cl : Nat → Addr} {Fm : List D → Sto → Res D} (hm : ∀ ns : List Int, ns.length ≤ 63 → ∃ S', Fm [.lst (ns.map D.int)] [] = .ok (.bl true) S') (vs : List V) (H : Hp) (Q : VK) (E : XK) (h : spLaw K vs H Q E) : spF ⟨P, w, K, cl⟩ 1 Fm vs H Q E0 := by
  obtain ⟨a, ns, rfl, hq, hl, q⟩ := h
  obtain ⟨S', e⟩ := hm ns hl
  refine ⟨rfl, [], [], H, [.lst (ns.map D.int)], ⟨fun _ _ h => h, rfl, fun i a c h => by simp at h, fun i a c h => by simp at h, fun i j a ci cj h => by simp at h⟩, .one (.lst hq (rep_script ns)), ?_⟩
  rw [e]
  intro ρ' F' H' v _ _ _ r
  cases r
  exact q H'
end DL

/-! DL11: reading the abstract functions. -/
namespace DL
open PySem PySem.Spec PyProof.Rows L2
section
variable {α β : Type} {A B Cc : E} {l : Loc} {S : Sto} {r r' : As} {c t u : T} {p q : TP}
theorem bind_ok {a : α} {k : α → Sto → Res β} : (Res.ok a S).bind k = k a S := rfl
theorem bind_exc {x : Nat} {k : α → Sto → Res β} : (Res.exc (α := α) x S).bind k = .exc x S := rfl
theorem toS_ok {a : α} {k : α → Sto → Out} : (Res.ok a S).toS l k = k a S := rfl
theorem toS_exc {x : Nat} {k : α → Sto → Out} : (Res.exc (α := α) x S).toS l k = .exc x l S := rfl
theorem ap_var {i : Nat} : eVar i l S = match l[i]? with
  | some (some d) => .ok d S
  | _ => .bad := rfl
theorem ap_c {d : D} : eC d l S = .ok d S := rfl
theorem ap_op2 {f : D → D → Sto → Res D} : eOp2 f A B l S = (A l S).bind fun x S1 => (B l S1).bind fun y S2 => f x y S2 := rfl
theorem ap_op1 {f : D → Sto → Res D} : eOp1 f A l S = (A l S).bind fun x S1 => f x S1 := rfl
theorem ap_and : eAnd A B l S = (A l S).bind fun d S1 => (isBl d S1).bind fun c S2 => if c = true then B l S2 else .ok (.bl false) S2 := rfl
theorem ap_or : eOr A B l S = (A l S).bind fun d S1 => (isBl d S1).bind fun c S2 => if c = true then .ok (.bl true) S2 else B l S2 := rfl
theorem ap_not : eNot A l S = (A l S).bind fun d S1 => (truD d S1).bind fun c S2 => .ok (.bl (!c)) S2 := rfl
theorem ap_if : eIf c A B l S = (c l S).bind fun k S1 => if k = true then A l S1 else B l S1 := rfl
theorem ap_tval : tVal A l S = (A l S).bind isBl := rfl
theorem ap_ttruth : tTruth A l S = (A l S).bind truD := rfl
theorem ap_tand : tAndD t u l S = (t l S).bind fun c S1 => if c = true then u l S1 else .ok false S1 := rfl
theorem ap_tor : tOrD t u l S = (t l S).bind fun c S1 => if c = true then .ok true S1 else u l S1 := rfl
theorem ap_tnot : tNotD t l S = (t l S).bind fun c S1 => .ok (!c) S1 := rfl
theorem ap_ttrue : tTrue l S = .ok true S := rfl
theorem ap_nil : aNil l S = .ok [] S := rfl
theorem ap_cons : aCons A r l S = (A l S).bind fun d S1 => (r l S1).bind fun ds S2 => .ok (d :: ds) S2 := rfl
theorem ap_tup : eTup r l S = (r l S).bind fun ds S1 => if ds.length ≤ sizeLine then .ok (.tup ds) S1 else .bad := rfl
theorem ap_lst : eLst r l S = (r l S).bind fun ds S1 => if ds.length ≤ sizeLine then .ok (.lst ds) S1 else .bad := rfl
theorem ap_lstM : eLstM r l S = (r l S).bind fun ds S1 => if ds.length ≤ sizeLine then newCell ds S1 else .bad := rfl
theorem ap_app {g : List D → Sto → Res D} : eApp g r l S = (r l S).bind fun ds S1 => g ds S1 := rfl
theorem ap_sl : eSl A p q l S = (A l S).bind fun x S1 => (p l S1).bind fun lo S2 => (q l S2).bind fun hi S3 => slD x lo hi S3 := rfl
theorem ap_pno : pNo l S = .ok none S := rfl
theorem ap_pat : pAt A l S = (A l S).bind toI := rfl
theorem toI_int {i : Int} : toI (.int i) S = .ok (some i) S := rfl
theorem ap_mt {T : String} {g : D → List D → Sto → Res D} : eMt T g A r l S = (A l S).bind fun x S1 => if tyD S1 x = some T then (r l S1).bind fun ds S2 => g x ds S2 else .bad := rfl
theorem ap_chain {g g' : D → D → Sto → Res D} : eChain g g' A B Cc l S = (A l S).bind fun x S1 => (B l S1).bind fun y S2 => (g x y S2).bind fun z S3 => (isBl z S3).bind fun k S4 => if k = true then (Cc l S4).bind fun u S5 => g' y u S5 else .ok (.bl false) S4 := rfl
theorem isBl_bl {b : Bool} : isBl (.bl b) S = .ok b S := rfl
theorem truD_bl {b : Bool} : truD (.bl b) S = .ok b S := rfl
theorem truD_int {b : Int} : truD (.int b) S = .ok (b != 0) S := rfl
variable {a b : Stm}
theorem ap_snil : sNil l S = .next l S := rfl
theorem ap_sbrk : sBrk l S = .brk l S := rfl
theorem ap_scont : sCont l S = .cont l S := rfl
theorem ap_sexpr : sExpr A l S = (A l S).toS l fun _ S1 => .next l S1 := rfl
theorem ap_sret : sRet A l S = (A l S).toS l fun d S1 => .ret d S1 := rfl
theorem ap_sretn : sRetN l S = .ret .non S := rfl
theorem ap_sif : sIf c a b l S = (c l S).toS l fun k S1 => if k = true then a l S1 else b l S1 := rfl
theorem ap_sset {i : Nat} : sSet i A l S = (A l S).toS l fun d S1 => .next (l.set i (some d)) S1 := rfl
theorem ap_sasg {G : GD} : sAsg A G l S = (A l S).toS l fun d S1 => match G d l S1 with
  | some (l1, S2) => .next l1 S2
  | none => .bad := rfl
theorem ap_spar {i j : Nat} : sPar i j r l S = (r l S).toS l fun ds S1 => match ds with
  | [x, y] => .next ((l.set i (some x)).set j (some y)) S1
  | _ => .bad := rfl
theorem ap_saug {i : Nat} {g : D → D → Sto → Res D} : sAug i g A l S = match l[i]? with
  | some (some x) => (A l S).toS l fun y S1 => (g x y S1).toS l fun z S2 => .next (l.set i (some z)) S2
  | _ => .bad := rfl
/-- one statement ahead -/
def seqK (o : Out) (b : Stm) : Out := match o with
  | .next l1 S1 => b l1 S1
  | o => o
theorem ap_seq : sSeq a b l S = seqK (a l S) b := rfl
theorem seqK_next {l1 : Loc} {S1 : Sto} : seqK (.next l1 S1) b = b l1 S1 := rfl
theorem seqK_ret {d : D} {S1 : Sto} : seqK (.ret d S1) b = .ret d S1 := rfl
theorem seqK_brk {l1 : Loc} {S1 : Sto} : seqK (.brk l1 S1) b = .brk l1 S1 := rfl
theorem seqK_cont {l1 : Loc} {S1 : Sto} : seqK (.cont l1 S1) b = .cont l1 S1 := rfl
theorem seqK_exc {x : Nat} {l1 : Loc} {S1 : Sto} : seqK (.exc x l1 S1) b = .exc x l1 S1 := rfl
theorem seqK_ite {p : Prop} [Decidable p] {o o' : Out} : seqK (if p then o else o') b = if p then seqK o b else seqK o' b := by split <;> rfl
theorem ap_for {I0 : I} {G : GD} : sFor I0 G a l S = (I0 l S).toS l fun q S1 => forL q.gd G a q.items l S1 := rfl
theorem ap_iseq : iSeq A l S = (A l S).bind fun d S1 => match seqOf S1 d with
  | some xs => .ok ⟨xs, fun S' => seqOf S' d = some xs⟩ S1
  | none => .bad := rfl
theorem ap_ir1 : iR1 r l S = (r l S).bind fun ds S1 => match ds with
  | [.int j] => if small62 j = true then .ok ⟨rangeI 0 j.toNat, fun _ => True⟩ S1 else .bad
  | _ => .bad := rfl
theorem ap_lc {m : Mode} {I0 : I} {G : GD} {own : List Nat} : eLcX m I0 G t A own l S = (I0 l S).bind fun q S1 =>
  (nox (lcL q.gd G t A S1.length q.items (wipeL l own) (S1 ++ [.lst []]))).bind fun _ S2 => exitM m S1 (.ref S1.length) S2 := rfl
theorem ap_gtp {is : List Nat} {xs : List D} : gTp is (.tup xs) l S = (gNms is xs l).map fun l' => (l', S) := rfl
theorem gnms_nil : gNms [] [] l = some l := rfl
theorem gnms_cons {i : Nat} {is : List Nat} {d : D} {ds : List D} : gNms (i :: is) (d :: ds) l = gNms is ds (l.set i (some d)) := rfl
theorem ap_gsub {g : SetD} {d : D} : gSubD A B g d l S = match A l S with
  | .ok x S1 => (match B l S1 with
    | .ok y S2 => (g x y d S2).map fun S3 => (l, S3)
    | _ => none)
  | _ => none := rfl
/-- a loop's turn: continue is as good as the end -/
def loopN (o : Out) : Out := match o with
  | .cont l S => .next l S
  | o => o
theorem loopN_next : loopN (.next l S) = .next l S := rfl
theorem loopN_cont : loopN (.cont l S) = .next l S := rfl
theorem ap_gnm {i : Nat} {d : D} : gNm i d l S = some (l.set i (some d), S) := rfl
theorem listOf_ref {n : Nat} {xs : List D} (h : S[n]? = some (.lst xs)) : listOf S (.ref n) = some xs := by
  show (match S[n]? with
    | some (.lst xs) => some xs
    | _ => none) = some xs
  rw [h]
theorem seqOf_ref {n : Nat} {xs : List D} (h : S[n]? = some (.lst xs)) : seqOf S (.ref n) = some xs := listOf_ref h
theorem seqOf_lst {xs : List D} : seqOf S (.lst xs) = some xs := rfl
theorem seqOf_tup {xs : List D} : seqOf S (.tup xs) = some xs := rfl
theorem cellL_ref {n : Nat} {xs : List D} (h : S[n]? = some (.lst xs)) : cellL S (.ref n) = some (n, xs) := by
  show (match S[n]? with
    | some (.lst xs) => some (n, xs)
    | _ => none) = some (n, xs)
  rw [h]
/-! operators -/
theorem add_ii {i j : Int} : addD (.int i) (.int j) S = .ok (.int (i + j)) S := rfl
theorem add_ll {xs ys : List D} (h : xs.length + ys.length ≤ sizeLine) : addD (.lst xs) (.lst ys) S = .ok (.lst (xs ++ ys)) S := if_pos h
theorem add_tt {xs ys : List D} (h : xs.length + ys.length ≤ sizeLine) : addD (.tup xs) (.tup ys) S = .ok (.tup (xs ++ ys)) S := if_pos h
theorem sub_ii {i j : Int} : subD (.int i) (.int j) S = .ok (.int (i - j)) S := rfl
theorem mul_ii {i j : Int} (h : mulOk i j = true) : mulD (.int i) (.int j) S = .ok (.int (i * j)) S := if_pos h
theorem mulOk_l {i j : Int} (h : i.natAbs < 2 ^ 64) : mulOk i j = true := by unfold mulOk; simp [h]
theorem mulOk_r {i j : Int} (h : j.natAbs < 2 ^ 64) : mulOk i j = true := by unfold mulOk; simp [h]
theorem fdiv_ii {i j : Int} (h : divOk j = true) : fdivD (.int i) (.int j) S = .ok (.int (i / j)) S := if_pos h
theorem divmod_ii {i j : Int} (h : divOk j = true) : divmodD [.int i, .int j] S = .ok (.tup [.int (i / j), .int (i % j)]) S := if_pos h
theorem mod_ii {i j : Int} (h : 0 < j) : modD (.int i) (.int j) S = .ok (.int (i % j)) S := if_pos h
theorem pow_ii {i j : Int} (h : 0 ≤ j ∧ j ≤ 1000000 ∧ i.natAbs < 2 ^ 64) : powD (.int i) (.int j) S = .ok (.int (i ^ j.toNat)) S := if_pos h
theorem neg_i {i : Int} : negD (.int i) S = .ok (.int (-i)) S := rfl
theorem ord_ii {f : Int → Int → Bool} {i j : Int} : ordD f (.int i) (.int j) S = .ok (.bl (f i j)) S := rfl
theorem is_non {x : D} : isD x .non S = .ok (.bl (isNon x)) S := by cases x <;> rfl
theorem isnt_non {x : D} : isntD x .non S = .ok (.bl (!isNon x)) S := by cases x <;> rfl
theorem is_bl {x y : Bool} : isD (.bl x) (.bl y) S = .ok (.bl (decide (x = y))) S := rfl
theorem isnt_bl {x y : Bool} : isntD (.bl x) (.bl y) S = .ok (.bl (!decide (x = y))) S := rfl
theorem abs_i {i : Int} : absD [.int i] S = .ok (.int (if i < 0 then -i else i)) S := rfl
theorem int_i {i : Int} : intD [.int i] S = .ok (.int i) S := rfl
theorem int_b {i : Bool} : intD [.bl i] S = .ok (.int (if i then 1 else 0)) S := rfl
theorem max_ii {i j : Int} : maxD [.int i, .int j] S = .ok (.int (if j > i then j else i)) S := rfl
theorem min_ii {i j : Int} : minD [.int i, .int j] S = .ok (.int (if j < i then j else i)) S := rfl
theorem str_i {i : Int} (h : i.natAbs.log2 < 1920) : strD [.int i] S = .ok (.str (toString i)) S := if_pos h
theorem len_str {x : Str} (h : x.length ≤ sizeLine) : lenD [.str x] S = .ok (.int x.length) S := if_pos h
theorem len_tup {xs : List D} : lenD [.tup xs] S = .ok (.int xs.length) S := rfl
theorem len_lst {xs : List D} : lenD [.lst xs] S = .ok (.int xs.length) S := rfl
theorem tuple_lst {xs : List D} : tupleD [.lst xs] S = .ok (.tup xs) S := rfl
theorem tuple_tup {xs : List D} : tupleD [.tup xs] S = .ok (.tup xs) S := rfl
theorem list_lst {xs : List D} : listD [.lst xs] S = .ok (.lst xs) S := rfl
theorem list_tup {xs : List D} : listD [.tup xs] S = .ok (.lst xs) S := rfl
theorem ix_lst {xs : List D} {i : Int} {d : D} (h : atI xs i = some d) : ixD (.lst xs) (.int i) S = .ok d S := by
  show (match atI xs i with | some d => Res.ok d S | none => Res.bad) = _
  rw [h]
theorem ix_tup {xs : List D} {i : Int} {d : D} (h : atI xs i = some d) : ixD (.tup xs) (.int i) S = .ok d S := by
  show (match atI xs i with | some d => Res.ok d S | none => Res.bad) = _
  rw [h]
theorem len_ref {n : Nat} : lenD [.ref n] S = match S[n]? with
    | some (.lst xs) => Res.ok (D.int xs.length) S
    | _ => Res.bad := by
  show (match seqOf S (.ref n) with | some xs => Res.ok (D.int xs.length) S | none => Res.bad) = _
  show (match (match S[n]? with
    | some (.lst xs) => some xs
    | _ => none) with | some xs => Res.ok (D.int xs.length) S | none => Res.bad) = _
  split <;> rename_i h <;> (split at h <;> first | (cases h; done) | (cases h; rfl) | rfl)
theorem ty_int {i : Int} : tyD S (.int i) = some "int" := rfl
theorem ty_bl {i : Bool} : tyD S (.bl i) = some "bool" := rfl
theorem ty_str {i : Str} : tyD S (.str i) = some "str" := rfl
theorem ty_non : tyD S .non = some "NoneType" := rfl
theorem ty_tup {i : List D} : tyD S (.tup i) = some "tuple" := rfl
theorem ty_lst {i : List D} : tyD S (.lst i) = some "list" := rfl
theorem ty_ref {n : Nat} : tyD S (.ref n) = match S[n]? with
    | some (.lst _) => some "list"
    | some (.dic _ _) => some "dict"
    | _ => none := rfl
theorem isi_ap {T : String} {d : D} : isiD T d S = match (tyD S d).bind fun t => kitB t T with
  | some b => .ok (.bl b) S
  | none => .bad := rfl
end
theorem atI_lit {xs : List D} {i : Int} {j : Nat} (h : i = (j : Int)) (hj : j < xs.length) : atI xs i = xs[j]? := by
  subst h
  unfold atI ixN
  rw [if_pos (by omega), if_pos (by omega)]
  rfl
theorem divOk_of {j : Int} (h : 0 < j) (h2 : j < 2 ^ 1000) : divOk j = true := by
  unfold divOk
  rw [Bool.and_eq_true]
  refine ⟨decide_eq_true h, decide_eq_true ?_⟩
  have : j.natAbs < 2 ^ 1000 := by omega
  exact Nat.lt_of_lt_of_le (Nat.log2_lt (by omega) |>.mpr this) (by decide)
theorem small62_of {j : Int} (h : 0 ≤ j) (h2 : j < 2 ^ 62) : small62 j = true := by
  unfold small62
  rw [Bool.and_eq_true]
  exact ⟨decide_eq_true (by omega), decide_eq_true h2⟩
/-- a def run, its answer from a return -/
theorem run_ret {n N : Nat} {m : Mode} {B : Stm} {ds : List D} {S S' S2 : Sto} {d e : D} (hl : ds.length = n) (h : B (ds.map some ++ List.replicate (N - n) none) S = .ret d S') (hx : exitM m S d S' = .ok e S2) : runF n N m B ds S = .ok e S2 := by
  unfold runF; rw [if_pos hl, h]; exact hx
theorem run_none {n N : Nat} {m : Mode} {B : Stm} {ds : List D} {l' : Loc} {S S' S2 : Sto} {e : D} (hl : ds.length = n) (h : B (ds.map some ++ List.replicate (N - n) none) S = .next l' S') (hx : exitM m S .non S' = .ok e S2) : runF n N m B ds S = .ok e S2 := by
  unfold runF; rw [if_pos hl, h]; exact hx
theorem run_flat {n N : Nat} {B : Stm} {ds : List D} {S : Sto} {d : D} (hl : ds.length = n) (h : B (ds.map some ++ List.replicate (N - n) none) S = .ret d S) (hx : rlt S.length d = true) : runF n N .fr B ds S = .ok d S :=
  run_ret hl h (exit_same hx)
end DL

/-! DL12: loops and comprehensions, read. -/
namespace DL
open PySem PySem.Spec PyProof.Rows L2
theorem set_none_some {l : Loc} {i : Nat} {d : D} : (l.set i none).set i (some d) = l.set i (some d) := by rw [List.set_set]
theorem push_last {S : Sto} {acc : List D} {y : D} (h : acc.length < sizeLine) : pushC S.length y (S ++ [.lst acc]) = some (S ++ [.lst (acc ++ [y])]) := by
  unfold pushC
  rw [List.getElem?_append_right (Nat.le_refl _), Nat.sub_self]
  simp only [List.getElem?_cons_zero]
  rw [if_pos h, List.set_append_right _ _ (Nat.le_refl _), Nat.sub_self]
  rfl
section
variable {gd : Sto → Prop} {i : Nat} {el : E} {l : Loc} {S : Sto} {f : D → D} {A : I} {items : List D}
theorem lcL_map (hg : ∀ acc, gd (S ++ [.lst acc])) : ∀ (items acc : List D), (∀ d ∈ items, ∀ acc, el (l.set i (some d)) (S ++ [.lst acc]) = .ok (f d) (S ++ [.lst acc])) → acc.length + items.length ≤ sizeLine →
    lcL gd (gNm i) tTrue el S.length items (wipeL l [i]) (S ++ [.lst acc]) = .ok () (S ++ [.lst (acc ++ items.map f)])
  | [], acc, _, _ => by unfold lcL; rw [if_pos (hg acc), List.map_nil, List.append_nil]
  | d :: ds, acc, h, hz => by
    unfold lcL
    rw [if_pos (hg acc)]
    have e : (wipeL l [i]).set i (some d) = l.set i (some d) := set_none_some
    simp only [gNm, tTrue, Res.bind, if_true, e]
    rw [h d List.mem_cons_self acc]
    simp only
    rw [push_last (by simp at hz; omega)]
    simp only
    rw [lcL_map hg ds (acc ++ [f d]) (fun d' hd' => h d' (List.mem_cons_of_mem _ hd')) (by simp at hz ⊢; omega)]
    simp
theorem lc_map (hA : A l S = .ok ⟨items, gd⟩ S) (hg : ∀ acc, gd (S ++ [.lst acc])) (h : ∀ d ∈ items, ∀ acc, el (l.set i (some d)) (S ++ [.lst acc]) = .ok (f d) (S ++ [.lst acc])) (hz : items.length ≤ sizeLine) (hr : rlts S.length (items.map f) = true) :
    eLcX .fr A (gNm i) tTrue el [i] l S = .ok (.lst (items.map f)) S := by
  rw [ap_lc, hA]
  simp only [Res.bind]
  rw [lcL_map hg items [] h (by simpa using hz)]
  simp only [nox, List.nil_append]
  show exitD S (.ref S.length) (S ++ [.lst (items.map f)]) = _
  refine exit_ext ?_
  unfold fzD sbD fzR
  rw [if_neg (Nat.lt_irrefl _)]
  unfold cellV
  rw [List.getElem?_append_right (Nat.le_refl _), Nat.sub_self]
  simp only [List.getElem?_cons_zero]
  rw [fzs_rlt _ _ _ _ hr]
  rfl
end
/-- a sequence that does not change -/
theorem seq_keep {S E : Sto} {d : D} {xs : List D} (h : seqOf S d = some xs) : seqOf (S ++ E) d = some xs := by
  cases d with
  | ref n =>
    have h' : (match S[n]? with
      | some (.lst xs) => some xs
      | _ => none) = some xs := h
    split at h'
    · next ys es =>
      cases h'
      exact seqOf_ref (by rw [List.getElem?_append_left (List.getElem?_eq_some_iff.mp es).1]; exact es)
    · cases h'
  | _ => exact h
theorem get_last {S : Sto} {c : Cell} : (S ++ [c])[S.length]? = some c := by
  rw [List.getElem?_append_right (Nat.le_refl _), Nat.sub_self]; rfl
theorem set_last {S : Sto} {c c' : Cell} : (S ++ [c]).set S.length c' = S ++ [c'] := by
  rw [List.set_append_right _ _ (Nat.le_refl _), Nat.sub_self]; rfl
theorem rlts_nil {n : Nat} : rlts n [] = true := by unfold rlts; rfl
theorem rlts_cons {n : Nat} {d : D} {ds : List D} : rlts n (d :: ds) = (rlt n d && rlts n ds) := by rw [rlts]
theorem rlts_app {n : Nat} {xs ys : List D} : rlts n (xs ++ ys) = (rlts n xs && rlts n ys) := by
  induction xs with
  | nil => rw [List.nil_append, rlts_nil, Bool.true_and]
  | cons x xs ih => rw [List.cons_append, rlts_cons, rlts_cons, ih, Bool.and_assoc]
theorem rlts_all {n : Nat} : ∀ {xs : List D}, (∀ x ∈ xs, rlt n x = true) → rlts n xs = true
  | [], _ => by unfold rlts; rfl
  | x :: xs, h => by
    unfold rlts
    rw [h x List.mem_cons_self, rlts_all fun y hy => h y (List.mem_cons_of_mem _ hy)]; rfl
/-- a live list of the scope, answered -/
theorem exit_last {S : Sto} {xs : List D} (hr : rlts S.length xs = true) : exitD S (.ref S.length) (S ++ [.lst xs]) = .ok (.lst xs) S := by
  refine exit_ext ?_
  unfold fzD sbD fzR
  rw [if_neg (Nat.lt_irrefl _)]
  unfold cellV
  rw [get_last]
  simp only
  rw [fzs_rlt _ _ _ _ hr]
  rfl
/-- data that names no cell: it is below any bound -/
def pureD (d : D) : Prop := ∀ n, rlt n d = true
theorem pure_int (i : Int) : pureD (.int i) := fun n => by unfold rlt; rfl
theorem pure_bl (i : Bool) : pureD (.bl i) := fun n => by unfold rlt; rfl
theorem pure_str (i : Str) : pureD (.str i) := fun n => by unfold rlt; rfl
theorem pure_non : pureD .non := fun n => by unfold rlt; rfl
theorem pure_tup {xs : List D} (h : ∀ x ∈ xs, pureD x) : pureD (.tup xs) := fun n => by unfold rlt; exact rlts_all fun x hx => h x hx n
theorem pure_lst {xs : List D} (h : ∀ x ∈ xs, pureD x) : pureD (.lst xs) := fun n => by unfold rlt; exact rlts_all fun x hx => h x hx n
theorem pures {xs : List D} (h : ∀ x ∈ xs, pureD x) (n : Nat) : rlts n xs = true := rlts_all fun x hx => h x hx n
/-- depth -/
theorem dps_le {k : Nat} : ∀ {xs : List D}, (∀ x ∈ xs, dp x ≤ k) → dps xs ≤ k
  | [], _ => by unfold dps; omega
  | x :: xs, h => by
    have h1 := h x List.mem_cons_self
    have h2 := dps_le fun y hy => h y (List.mem_cons_of_mem _ hy)
    unfold dps; omega
-- cells put in change nothing where none stands
mutual
theorem dr_pure (S : Sto) : ∀ d : D, rlt 0 d = true → dr S d = d
  | .non, _ => by unfold dr; rfl
  | .bl _, _ => by unfold dr; rfl
  | .int _, _ => by unfold dr; rfl
  | .str _, _ => by unfold dr; rfl
  | .tup xs, h => by unfold rlt at h; unfold dr; rw [drs_pure S xs h]
  | .lst xs, h => by unfold rlt at h; unfold dr; rw [drs_pure S xs h]
  | .dic _ _, _ => by unfold dr; rfl
  | .ref n, h => by unfold rlt at h; exact absurd (of_decide_eq_true h) (Nat.not_lt_zero _)
  | .exc _, _ => by unfold dr; rfl
theorem drs_pure (S : Sto) : ∀ ds : List D, rlts 0 ds = true → drs S ds = ds
  | [], _ => by unfold drs; rfl
  | d :: ds, h => by
    unfold rlts at h
    rw [Bool.and_eq_true] at h
    unfold drs
    rw [dr_pure S d h.1, drs_pure S ds h.2]
end
theorem dr_ref {S : Sto} {n : Nat} {xs : List D} (h : S[n]? = some (.lst xs)) : dr S (.ref n) = .lst xs := by unfold dr; rw [h]
theorem eqv_of {S : Sto} {x y x' y' : D} (hx : dr S x = x') (hy : dr S y = y') (h1 : dp x' ≤ 60) (h2 : dp y' ≤ 60) : eqvD x y S = .ok (.bl (eqD x' y')) S := by
  unfold eqvD flatOk; rw [hx, hy, decide_eq_true h1, decide_eq_true h2]; rfl
theorem nev_of {S : Sto} {x y x' y' : D} (hx : dr S x = x') (hy : dr S y = y') (h1 : dp x' ≤ 60) (h2 : dp y' ≤ 60) : nevD x y S = .ok (.bl (!eqD x' y')) S := by
  unfold nevD flatOk; rw [hx, hy, decide_eq_true h1, decide_eq_true h2]; rfl
theorem eqv_ii {S : Sto} {i j : Int} : eqvD (.int i) (.int j) S = .ok (.bl (i == j)) S := by
  have := eqv_of (S := S) (x := .int i) (y := .int j) (by unfold dr; rfl) (by unfold dr; rfl) (by unfold dp; decide) (by unfold dp; decide)
  rw [this]; unfold eqD; rfl
theorem nev_ii {S : Sto} {i j : Int} : nevD (.int i) (.int j) S = .ok (.bl (!(i == j))) S := by
  have := nev_of (S := S) (x := .int i) (y := .int j) (by unfold dr; rfl) (by unfold dr; rfl) (by unfold dp; decide) (by unfold dp; decide)
  rw [this]; unfold eqD; rfl
theorem eqv_bb {S : Sto} {i j : Bool} : eqvD (.bl i) (.bl j) S = .ok (.bl (i == j)) S := by
  have := eqv_of (S := S) (x := .bl i) (y := .bl j) (by unfold dr; rfl) (by unfold dr; rfl) (by unfold dp; decide) (by unfold dp; decide)
  rw [this]; unfold eqD; rfl
theorem nev_bb {S : Sto} {i j : Bool} : nevD (.bl i) (.bl j) S = .ok (.bl (!(i == j))) S := by
  have := nev_of (S := S) (x := .bl i) (y := .bl j) (by unfold dr; rfl) (by unfold dr; rfl) (by unfold dp; decide) (by unfold dp; decide)
  rw [this]; unfold eqD; rfl
theorem eqv_ss {S : Sto} {i j : Str} : eqvD (.str i) (.str j) S = .ok (.bl (i == j)) S := by
  have := eqv_of (S := S) (x := .str i) (y := .str j) (by unfold dr; rfl) (by unfold dr; rfl) (by unfold dp; decide) (by unfold dp; decide)
  rw [this]; unfold eqD; rfl
theorem nev_ss {S : Sto} {i j : Str} : nevD (.str i) (.str j) S = .ok (.bl (!(i == j))) S := by
  have := nev_of (S := S) (x := .str i) (y := .str j) (by unfold dr; rfl) (by unfold dr; rfl) (by unfold dp; decide) (by unfold dp; decide)
  rw [this]; unfold eqD; rfl
theorem eqDs_nil {xs : List D} : eqDs xs [] = xs.isEmpty := by cases xs <;> (unfold eqDs; rfl)
/-- found != [] -/
theorem nev_empty {S : Sto} {n : Nat} {xs : List D} (h : S[n]? = some (.lst xs)) (hd : dps xs ≤ 50) : nevD (.ref n) (.lst []) S = .ok (.bl (!xs.isEmpty)) S := by
  rw [nev_of (dr_ref h) (by unfold dr drs; rfl) (by unfold dp; omega) (by unfold dp dps; decide), eqD_lst, eqDs_nil]
theorem eqv_empty {S : Sto} {n : Nat} {xs : List D} (h : S[n]? = some (.lst xs)) (hd : dps xs ≤ 50) : eqvD (.ref n) (.lst []) S = .ok (.bl xs.isEmpty) S := by
  rw [eqv_of (dr_ref h) (by unfold dr drs; rfl) (by unfold dp; omega) (by unfold dp dps; decide), eqD_lst, eqDs_nil]
/-! the live list n -/
section
variable {S : Sto} {n : Nat} {y d : D} {xs : List D} {i : Int} {ds : List D}
theorem append_last : appendD (.ref S.length) [y] (S ++ [.lst xs]) = if xs.length < sizeLine then .ok .non (S ++ [.lst (xs ++ [y])]) else .bad := by
  unfold appendD
  simp only
  rw [cellL_ref get_last]
  simp only
  rw [set_last]
theorem tuple_last : tupleD [.ref S.length] (S ++ [.lst xs]) = .ok (.tup xs) (S ++ [.lst xs]) := by
  show (match seqOf (S ++ [.lst xs]) (.ref S.length) with | some xs => Res.ok (D.tup xs) _ | none => Res.bad) = _
  rw [seqOf_ref get_last]
theorem list_last : listD [.ref S.length] (S ++ [.lst xs]) = .ok (.lst xs) (S ++ [.lst xs]) := by
  show (match seqOf (S ++ [.lst xs]) (.ref S.length) with | some xs => Res.ok (D.lst xs) _ | none => Res.bad) = _
  rw [seqOf_ref get_last]
theorem ix_last (h : atI xs i = some d) : ixD (.ref S.length) (.int i) (S ++ [.lst xs]) = .ok d (S ++ [.lst xs]) := by
  show (match seqOf (S ++ [.lst xs]) (.ref S.length) with | some xs => (match atI xs i with | some d => Res.ok d _ | none => Res.bad) | none => Res.bad) = _
  rw [seqOf_ref get_last]; simp only; rw [h]
theorem set_lastD {j : Nat} (h : ixN xs.length i = some j) : setLD (.ref S.length) (.int i) y (S ++ [.lst xs]) = some (S ++ [.lst (xs.set j y)]) := by
  unfold setLD
  simp only
  rw [cellL_ref get_last]
  simp only
  rw [h]
  simp only
  rw [set_last]
theorem ixN_in {m : Nat} (h0 : 0 ≤ i) (h : i < m) : ixN m i = some i.toNat := by unfold ixN; rw [if_pos h0, if_pos h]
end
/-- all of a list of truths -/
theorem asBls_map {xs : List D} {f : D → Bool} : asBls (xs.map fun d => .bl (f d)) = some (xs.map f) := by
  induction xs with
  | nil => rfl
  | cons x xs ih => rw [List.map_cons, List.map_cons]; unfold asBls; rw [ih]; rfl
theorem all_map {S : Sto} {xs : List D} {f : D → Bool} : allD [.lst (xs.map fun d => .bl (f d))] S = .ok (.bl (xs.all f)) S := by
  show (match (listOf S (.lst (xs.map fun d => .bl (f d)))).bind asBls with | some bs => Res.ok (D.bl (bs.all id)) S | none => Res.bad) = _
  rw [show listOf S (.lst (xs.map fun d => .bl (f d))) = some (xs.map fun d => .bl (f d)) from rfl]
  simp only [Option.bind]
  rw [asBls_map]
  simp only [List.all_map]
  rfl
/-! a range, walked: by an invariant of the turn -/
theorem forL_range {gd : Sto → Prop} {G : GD} {body : Stm} {lo : Int} {n : Nat} {l : Loc} {S : Sto} (P : Nat → Loc → Sto → Prop) (h0 : P 0 l S) (hg : ∀ i l S, P i l S → gd S)
    (hs : ∀ i l S, i < n → P i l S → ∃ l1 S1, G (.int (lo + i)) l S = some (l1, S1) ∧ ∃ l2 S2, loopN (body l1 S1) = .next l2 S2 ∧ P (i + 1) l2 S2) : ∃ l' S', forL gd G body (rangeI lo n) l S = .next l' S' ∧ P n l' S' := by
  have key : ∀ (m k : Nat), m + k = n → ∀ l S, P m l S → ∃ l' S', forL gd G body ((rangeI lo n).drop m) l S = .next l' S' ∧ P n l' S' := by
    intro m k
    induction k generalizing m with
    | zero =>
      intro hm l S p
      have : m = n := by omega
      subst this
      rw [List.drop_eq_nil_of_le (by rw [rangeI_len]; exact Nat.le_refl _)]
      unfold forL
      rw [if_pos (hg _ _ _ p)]
      exact ⟨l, S, rfl, p⟩
    | succ k ih =>
      intro hm l S p
      have hlt : m < n := by omega
      have hget : (rangeI lo n)[m]? = some (.int (lo + m)) := by
        unfold rangeI
        rw [List.getElem?_map, List.getElem?_range hlt]; rfl
      rw [drop_at hget]
      obtain ⟨l1, S1, e1, l2, S2, e2, p2⟩ := hs m l S hlt p
      obtain ⟨l', S', e3, p3⟩ := ih (m + 1) (by omega) l2 S2 p2
      refine ⟨l', S', ?_, p3⟩
      unfold forL
      rw [if_pos (hg _ _ _ p), e1]
      simp only
      cases e4 : body l1 S1 with
      | next l3 S3 => rw [e4] at e2; cases e2; exact e3
      | cont l3 S3 => rw [e4] at e2; cases e2; exact e3
      | _ => rw [e4] at e2; cases e2
  have := key 0 n (by omega) l S h0
  rwa [List.drop_zero] at this
end DL
namespace DL
open PySem PySem.Spec PyProof.Rows L2
theorem atI_mem {xs : List D} {i : Int} (h0 : 0 ≤ i) (h1 : i < xs.length) : ∃ d, atI xs i = some d ∧ d ∈ xs := by
  obtain ⟨j, rfl⟩ : ∃ j : Nat, i = j := ⟨i.toNat, by omega⟩
  have hj : j < xs.length := by omega
  exact ⟨xs[j], by rw [atI_lit rfl hj]; exact List.getElem?_eq_getElem hj, List.getElem_mem hj⟩
end DL
namespace DL
open PySem PySem.Spec PyProof.Rows L2
theorem sl_lst {xs : List D} {lo hi : Option Int} {S : Sto} : slD (.lst xs) lo hi S = .ok (.lst (slD.cutL xs lo hi)) S := rfl
theorem sl_tup {xs : List D} {lo hi : Option Int} {S : Sto} : slD (.tup xs) lo hi S = .ok (.tup (slD.cutL xs lo hi)) S := rfl
theorem cutL_mem {xs : List D} {lo hi : Option Int} {x : D} (h : x ∈ slD.cutL xs lo hi) : x ∈ xs := by
  unfold slD.cutL at h
  exact List.mem_of_mem_drop (List.mem_of_mem_take h)
/-- a list, walked: by an invariant of the turn -/
theorem forL_list {gd : Sto → Prop} {G : GD} {body : Stm} {items : List D} {l : Loc} {S : Sto} (P : Nat → Loc → Sto → Prop) (h0 : P 0 l S) (hg : ∀ i l S, P i l S → gd S)
    (hs : ∀ i d l S, items[i]? = some d → P i l S → ∃ l1 S1, G d l S = some (l1, S1) ∧ ∃ l2 S2, loopN (body l1 S1) = .next l2 S2 ∧ P (i + 1) l2 S2) : ∃ l' S', forL gd G body items l S = .next l' S' ∧ P items.length l' S' := by
  have key : ∀ (m k : Nat), m + k = items.length → ∀ l S, P m l S → ∃ l' S', forL gd G body (items.drop m) l S = .next l' S' ∧ P items.length l' S' := by
    intro m k
    induction k generalizing m with
    | zero =>
      intro hm l S p
      have : m = items.length := by omega
      subst this
      rw [List.drop_eq_nil_of_le (Nat.le_refl _)]
      unfold forL
      rw [if_pos (hg _ _ _ p)]
      exact ⟨l, S, rfl, p⟩
    | succ k ih =>
      intro hm l S p
      have hlt : m < items.length := by omega
      have hget := List.getElem?_eq_getElem hlt
      rw [drop_at hget]
      obtain ⟨l1, S1, e1, l2, S2, e2, p2⟩ := hs m _ l S hget p
      obtain ⟨l', S', e3, p3⟩ := ih (m + 1) (by omega) l2 S2 p2
      refine ⟨l', S', ?_, p3⟩
      unfold forL
      rw [if_pos (hg _ _ _ p), e1]
      simp only
      cases e4 : body l1 S1 with
      | next l3 S3 => rw [e4] at e2; cases e2; exact e3
      | cont l3 S3 => rw [e4] at e2; cases e2; exact e3
      | _ => rw [e4] at e2; cases e2
  have := key 0 items.length (by omega) l S h0
  rwa [List.drop_zero] at this
theorem ix_tupm {xs : List D} {i : Int} {S : Sto} : ixD (.tup xs) (.int i) S = match atI xs i with | some d => .ok d S | none => .bad := rfl
theorem ix_lstm {xs : List D} {i : Int} {S : Sto} : ixD (.lst xs) (.int i) S = match atI xs i with | some d => .ok d S | none => .bad := rfl
section
variable {a b c d e f : D} {l : List D}
theorem atI_0 : atI (a :: l) 0 = some a := (atI_lit (j := 0) rfl (by simp)).trans rfl
theorem atI_1 : atI (a :: b :: l) 1 = some b := (atI_lit (j := 1) rfl (by simp)).trans rfl
theorem atI_2 : atI (a :: b :: c :: l) 2 = some c := (atI_lit (j := 2) rfl (by simp)).trans rfl
theorem atI_3 : atI (a :: b :: c :: d :: l) 3 = some d := (atI_lit (j := 3) rfl (by simp)).trans rfl
theorem atI_4 : atI (a :: b :: c :: d :: e :: l) 4 = some e := (atI_lit (j := 4) rfl (by simp)).trans rfl
theorem atI_5 : atI (a :: b :: c :: d :: e :: f :: l) 5 = some f := (atI_lit (j := 5) rfl (by simp)).trans rfl
end
end DL

/-! DL13: instances: attributes, methods, constructors. -/
namespace DL
open PySem PySem.Spec PyProof.Rows L2
def putD (f : Str) (v : D) : List (Str × D) → List (Str × D)
  | [] => [(f, v)]
  | (g, u) :: r => if g = f then (g, v) :: r else (g, u) :: putD f v r
/-- the instance, its attributes -/
def insOf (S : Sto) (c : Nat) : D → Option (Nat × List (Str × D))
  | .ref n => (match S[n]? with
    | some (.ins c' fs) => if c' = c then some (n, fs) else none
    | _ => none)
  | _ => none
def attrD (c : Nat) (f : Str) (x : D) (S : Sto) : Res D := match insOf S c x with
  | some (_, fs) => (match fs.lookup f with | some d => .ok d S | none => .bad)
  | none => .bad
def sAttr (c : Nat) (f : Str) (A V : E) : Stm := fun l S => (V l S).toS l fun y S1 => (A l S1).toS l fun x S2 => match insOf S2 c x with
  | some (n, fs) => if fs.length < 1000 then .next l (S2.set n (.ins c (putD f y fs))) else .bad
  | none => .bad
def eMeth (c : Nat) (m : Str) (Fm : List D → Sto → Res D) (A : E) (r : As) : E := fun l S => (A l S).bind fun x S1 => match insOf S1 c x with
  | some (_, fs) => (match fs.lookup m with
    | none => (r l S1).bind fun ds S2 => Fm (x :: ds) S2
    | some _ => .bad)
  | none => .bad
def eNew (c : Nat) (Fm : List D → Sto → Res D) (r : As) : E := fun l S => (r l S).bind fun ds S1 => match Fm (.ref S1.length :: ds) (S1 ++ [.ins c []]) with
  | .ok .non S2 => .ok (.ref S1.length) S2
  | _ => .bad
section
variable {C : Ct} {ρ : List Addr} {F H : Hp} {S : Sto}
theorem RepF.look {f : Str} : ∀ {vs : List (Str × V)} {ds : List (Str × D)}, RepF C ρ F vs ds → (∀ d, ds.lookup f = some d → ∃ v, vs.lookup f = some v ∧ RepD C ρ F v d) ∧ (ds.lookup f = none → vs.lookup f = none)
  | _, _, .nil => ⟨fun d h => (by cases h), fun _ => rfl⟩
  | _, _, .cons (f := g) (v := v) (d := d) (vs := vs) (ds := ds) r t => by
    obtain ⟨h1, h2⟩ := RepF.look (f := f) t
    rw [List.lookup_cons, List.lookup_cons]
    cases f == g with
    | true => exact ⟨fun e h => (by cases h; exact ⟨_, rfl, r⟩), fun h => (by cases h)⟩
    | false => exact ⟨h1, h2⟩
theorem RepF.put {f : Str} {v : V} {d : D} (r : RepD C ρ F v d) : ∀ {vs : List (Str × V)} {ds : List (Str × D)}, RepF C ρ F vs ds → RepF C ρ F (putF f v vs) (putD f d ds)
  | _, _, .nil => .cons r .nil
  | _, _, .cons (f := g) q t => by
    unfold putF putD
    split
    · exact .cons r t
    · exact .cons q (RepF.put r t)
theorem RepF.len {vs : List (Str × V)} {ds : List (Str × D)} (r : RepF C ρ F vs ds) : vs.length = ds.length := by
  induction r with
  | nil => rfl
  | cons _ _ ih => simp [ih]
theorem rep_ins {v : V} {d : D} {c n : Nat} {fs : List (Str × D)} (R : Rel C ρ F S H) (r : RepD C ρ F v d) (h : insOf S c d = some (n, fs)) : ∃ a dx vfs, d = .ref n ∧ v = .ref a ∧ ρ[n]? = some a ∧ S[n]? = some (.ins c fs) ∧ H a = some (.ins (C.cl c) dx vfs) ∧ RepF C ρ F vfs fs := by
  cases r with
  | @ref a m he =>
    have h' : (match S[m]? with
      | some (.ins c' fs) => if c' = c then some (m, fs) else none
      | _ => none) = some (n, fs) := h
    split at h'
    · next c' gs es =>
      split at h'
      · next hc =>
        subst hc
        cases h'
        obtain ⟨dx, vfs, hv, rf⟩ := R.cell n a _ he es
        exact ⟨a, dx, vfs, rfl, rfl, he, es, hv, rf⟩
      · cases h'
    · cases h'
  | _ => exact nomatch h
end
section
variable {X : Cx} {cl : Nat → Addr} {W : WX} {A V' : E} {r : As} {o e value : Expr} {es : List Expr} {f m : Str} {pos pos' apos : Pos} {c k : Nat} {Fm : List D → Sto → Res D}
theorem de_attr (c : Nat) (kc : Cls X.K (cl c)) (kn : NoAttr X.K (cl c) f) (he : DE X cl W e A) (hb : attributeBase e f X.env (eval e X.env) = eval e X.env := by rfl) : DE X cl W (.Attribute e f pos) (eOp1 (attrD c f) A) := (pe_fld he hb).imp fun σ H Q ⟨l, S, ρ, F, hl, R, h⟩ => by
  refine tE_stepX hl R (satE.x h) fun d S1 ρ1 F1 H1 v R1 hl1 r1 p1 f1 h1 => ?_
  have h2 := satE.mono p1 f1 h1
  unfold attrD at h2
  split at h2
  · next n fs hi =>
    split at h2
    · next y hy =>
      obtain ⟨a, dx, vfs, rfl, rfl, ha, hS, hH, rf⟩ := rep_ins R1 r1 hi
      obtain ⟨w, hw, rw'⟩ := rf.look.1 y hy
      exact ⟨a, cl c, dx, vfs, w, rfl, hH, kc, kn, hw, h2.now R1 rw'⟩
    · exact h2.elim
  · exact h2.elim
theorem ds_attr (c : Nat) (kc : Cls X.K (cl c)) (kn : NoAttr X.K (cl c) f) (ha : DE X cl W o A) (hv : DE X cl W value V') (hs : swapsWith value (some (.Attribute o f pos')) pos.line X.env = pure false := by rfl) : DS X cl W (.Assign [.Attribute o f pos'] value pos) (sAttr c f A V') := (ps_fld ha hv hs).imp fun D σ H ⟨l, S, ρ, F, hl, R, h⟩ => by
  refine tE_stepX hl R (satS.x hl h) fun y S1 ρ1 F1 H1 u R1 hl1 r1 p1 f1 h1 => ?_
  refine tE_stepX hl1 R1 (satS.x hl1 (satS.mono p1 f1 h1)) fun x S2 ρ2 F2 H2 v R2 hl2 r2 p2 f2 h2 => ?_
  have h3 := satS.mono p2 f2 h2
  cases hi : insOf S2 c x with
  | none => rw [hi] at h3; exact h3.elim
  | some q =>
    obtain ⟨n, fs⟩ := q
    rw [hi] at h3
    simp only at h3
    split at h3
    · next hz =>
      obtain ⟨a, dx, vfs, rfl, rfl, ea, hS, hH, rf⟩ := rep_ins R2 r2 hi
      refine ⟨a, cl c, dx, vfs, rfl, hH, kc, kn, by rw [rf.len]; exact hz, ?_⟩
      exact h3 ρ2 F2 _ σ (R2.put (c' := .ins c (putD f y fs)) ea hS (by intro z; cases z) ⟨dx, _, upd_same, rf.put (r1.mono p2 f2)⟩ (by intro z; cases z)) (List.prefix_refl _) (Le.refl _) hl2
    · exact h3.elim
/-- a method as its callers see it -/
structure CalM (P : Program) (w : World) (K : PySem.W.Frag) (mg : Str → Option Value) (base : Heap) (cl : Nat → Addr) (k c : Nat) (m : Str) (Fm : List D → Sto → Res D) : Prop where
  ex : ∃ (f : Addr) (fd : FuncData) (ps : List Str), FnOk P w K mg base (L2.CX P w) k f fd ps (spF ⟨P, w, K, cl⟩ ps.length Fm) ∧ Binds K fd ps [] ∧ Meth K (cl c) m f ∧ ∀ ds S, Fm ds S ≠ .bad → ds.length = ps.length
theorem CalM.up {P : Program} {w : World} {K : PySem.W.Frag} {mg : Str → Option Value} {base : Heap} {c k k' : Nat} {m : Str} (q : CalM P w K mg base cl k c m Fm) (h : k ≤ k') : CalM P w K mg base cl k' c m Fm := by
  obtain ⟨f, fd, ps, F, b, g, ln⟩ := q.ex
  exact ⟨f, fd, ps, F.mono h, b, g, ln⟩
def tMethE (C : Addr) (m : Str) (sp : Sp) (E : L2.St → XK) (ta : TE) (t : TA) : TE := fun σ H Q => ta σ H fun x H1 => ∃ a dx fs, x = .ref a ∧ H1 a = some (.ins C dx fs) ∧ fs.lookup m = none ∧ t σ H1 fun vs H2 => sp (.ref a :: vs) H2 Q (E σ)
theorem pe_methE {C f : Addr} {fd : FuncData} {ps : List Str} {sp : Sp} {CX : CXT} {E : L2.St → XK} {ta : TE} {t : TA} {pl : Sem Bool} (he : PE X o ta) (c : Cls X.K C) (hm : Meth X.K C m f) (F : FnOk X.prog X.w X.K X.mg X.base CX k f fd ps sp) (hr : Room k X.A) (hb : Binds X.K fd ps []) (hx : ∀ σ, PassesAt CX X σ (E σ)) (ha : PA X (e :: es) t)
    (hst : starEach (e :: es) X.env = (false, eval e X.env) :: starEach es X.env := by rfl) (hpl : (backTo pos (starEach es X.env)).any (·.1) = false := by rfl)
    (ht : eval (.Call (.Attribute o m apos) (e :: es) [] pos) X.env = (do
      let ov ← eval o X.env
      standAt apos.atName
      let (f, first) ← holding [ov] (getMethod ov m pl)
      callWith pos f first (backTo pos (starEach (e :: es) X.env)) (backToKw pos (keywordEach [] X.env))) := by rfl) :
    PE X (.Call (.Attribute o m apos) (e :: es) [] pos) (tMethE C m sp E ta t) := by
  refine ⟨fun pins s σ H Q I h => ?_⟩
  refine PySem.W.methodCall_KW (pl := pl) (thn (he.run pins s σ H _ I h) fun u s1 ⟨x, H1, I1, rx, a, dx, fs, ex, ea, l, q⟩ => ?_) ht
  subst ex
  obtain rfl : u = Value.ref a := rx
  refine getmeth_ok I1 ea c hm l ?_
  refine PySem.W.callWith_K (first := [.ref a]) (h₀ := X.base) I.ok.mod.kin hm.kp (thn (ha.run pos pins s1 σ H1 _ I1 q) fun us s2 ⟨vs, H2, I2, r, q2⟩ => ⟨I2.kIn, ?_⟩) hst hpl
  exact run_fnS (us := .ref a :: us) (vs := .ref a :: vs) F hr hb (hx σ) I2 (.cons rfl r) q2
theorem pe_methE0 {C f : Addr} {fd : FuncData} {ps : List Str} {sp : Sp} {CX : CXT} {E : L2.St → XK} {ta : TE} {pl : Sem Bool} (he : PE X o ta) (c : Cls X.K C) (hm : Meth X.K C m f) (F : FnOk X.prog X.w X.K X.mg X.base CX k f fd ps sp) (hr : Room k X.A) (hb : Binds X.K fd ps []) (hx : ∀ σ, PassesAt CX X σ (E σ))
    (ht : eval (.Call (.Attribute o m apos) [] [] pos) X.env = (do
      let ov ← eval o X.env
      standAt apos.atName
      let (f, first) ← holding [ov] (getMethod ov m pl)
      callWith pos f first (backTo pos (starEach [] X.env)) (backToKw pos (keywordEach [] X.env))) := by rfl) :
    PE X (.Call (.Attribute o m apos) [] [] pos) (tMethE C m sp E ta tNil) := by
  refine ⟨fun pins s σ H Q I h => ?_⟩
  refine PySem.W.methodCall_KW (pl := pl) (thn (he.run pins s σ H _ I h) fun u s1 ⟨x, H1, I1, rx, a, dx, fs, ex, ea, l, q⟩ => ?_) ht
  subst ex
  obtain rfl : u = Value.ref a := rx
  refine getmeth_ok I1 ea c hm l ?_
  exact PySem.W.callWith_K0 (first := [.ref a]) I1.kIn hm.kp (run_fnS (us := [.ref a]) (vs := [.ref a]) F hr hb (hx σ) I1 (.cons rfl .nil) q)
theorem tMeth_of {ps : List Str} (ln : ∀ ds S, Fm ds S ≠ .bad → ds.length = ps.length) {σ : L2.St} {H : Hp} {Q : VK} (h : tE (cxt X cl) W (eMeth c m Fm A r) σ H Q) : tMethE (cl c) m (spF (cxt X cl) ps.length Fm) (WE W) (tE (cxt X cl) W A) (tAs (cxt X cl) W r) σ H Q := by
  obtain ⟨l, S, ρ, F, hl, R, h⟩ := h
  refine tE_stepX hl R (satE.x h) fun d S1 ρ1 F1 H1 v R1 hl1 r1 p1 f1 h1 => ?_
  have h2 := satE.mono p1 f1 h1
  cases hi : insOf S1 c d with
  | none => rw [hi] at h2; exact h2.elim
  | some q =>
    obtain ⟨n, fs⟩ := q
    rw [hi] at h2
    simp only at h2
    cases hm : fs.lookup m with
    | some y => rw [hm] at h2; exact h2.elim
    | none =>
      rw [hm] at h2
      obtain ⟨a, dx, vfs, rfl, rfl, ea, hS, hH, rf⟩ := rep_ins R1 r1 hi
      refine ⟨a, dx, vfs, rfl, hH, rf.look.2 hm, ?_⟩
      refine tA_stepX hl1 R1 (satE.x h2) fun ds S2 ρ2 F2 H2 vs R2 hl2 r2 p2 f2 h3 => ?_
      have hb : Fm (.ref n :: ds) S2 ≠ .bad := fun z => by rw [z] at h3; exact h3
      have hlen := ln _ _ hb
      exact ⟨by rw [← hlen]; simp [r2.len], S2, ρ2, F2, .ref n :: ds, R2, .cons (r1.mono p2 f2) r2, satE.wish (satE.mono p2 f2 h3) fun c d H w => w⟩
theorem de_meth (c : Nat) (kc : Cls X.K (cl c)) (q : CalM X.prog X.w X.K X.mg X.base cl k c m Fm) (hr : Room k X.A) (tk : Takes X W) (ho : DE X cl W o A) (ha : DA X cl W (e :: es) r) {pl : Sem Bool}
    (hst : starEach (e :: es) X.env = (false, eval e X.env) :: starEach es X.env := by rfl) (hpl : (backTo pos (starEach es X.env)).any (·.1) = false := by rfl)
    (ht : eval (.Call (.Attribute o m apos) (e :: es) [] pos) X.env = (do
      let ov ← eval o X.env
      standAt apos.atName
      let (f, first) ← holding [ov] (getMethod ov m pl)
      callWith pos f first (backTo pos (starEach (e :: es) X.env)) (backToKw pos (keywordEach [] X.env))) := by rfl) :
    DE X cl W (.Call (.Attribute o m apos) (e :: es) [] pos) (eMeth c m Fm A r) := by
  obtain ⟨f, fd, ps, F, b, g, ln⟩ := q.ex
  exact (pe_methE (pl := pl) (E := WE W) ho kc g F hr b (fun σ => passAt tk σ) ha hst hpl ht).imp fun _ _ _ h => tMeth_of ln h
theorem de_meth0 (c : Nat) (kc : Cls X.K (cl c)) (q : CalM X.prog X.w X.K X.mg X.base cl k c m Fm) (hr : Room k X.A) (tk : Takes X W) (ho : DE X cl W o A) {pl : Sem Bool}
    (ht : eval (.Call (.Attribute o m apos) [] [] pos) X.env = (do
      let ov ← eval o X.env
      standAt apos.atName
      let (f, first) ← holding [ov] (getMethod ov m pl)
      callWith pos f first (backTo pos (starEach [] X.env)) (backToKw pos (keywordEach [] X.env))) := by rfl) :
    DE X cl W (.Call (.Attribute o m apos) [] [] pos) (eMeth c m Fm A aNil) := by
  obtain ⟨f, fd, ps, F, b, g, ln⟩ := q.ex
  refine (pe_methE0 (pl := pl) (E := WE W) ho kc g F hr b (fun σ => passAt tk σ) ht).imp fun _ _ _ h => ?_
  have h2 := tMeth_of (X := X) (cl := cl) (W := W) ln h
  obtain ⟨l, S, ρ, F', hl, R, h⟩ := h
  refine tE_stepX hl R (satE.x h) fun d S1 ρ1 F1 H1 v R1 hl1 r1 p1 f1 h1 => ?_
  have h2 := satE.mono p1 f1 h1
  cases hi : insOf S1 c d with
  | none => rw [hi] at h2; exact h2.elim
  | some q =>
    obtain ⟨n, fs⟩ := q
    rw [hi] at h2
    simp only at h2
    cases hm : fs.lookup m with
    | some y => rw [hm] at h2; exact h2.elim
    | none =>
      rw [hm] at h2
      obtain ⟨a, dx, vfs, rfl, rfl, ea, hS, hH, rf⟩ := rep_ins R1 r1 hi
      refine ⟨a, dx, vfs, rfl, hH, rf.look.2 hm, ?_⟩
      have h3 : satE (cxt X cl) W ρ1 F1 _ (Fm [.ref n] S1) _ := h2
      have hb : Fm [.ref n] S1 ≠ .bad := fun z => by rw [z] at h3; exact h3
      have hlen := ln _ _ hb
      exact ⟨by rw [← hlen]; rfl, S1, ρ1, F1, [.ref n], R1, .one r1, satE.wish h3 fun c d H w => w⟩
/-- a class as its makers see it: its constructor lets nothing out -/
structure CalN (P : Program) (w : World) (K : PySem.W.Frag) (mg : Str → Option Value) (base : Heap) (cl : Nat → Addr) (k c : Nat) (x : Str) (Fm : List D → Sto → Res D) : Prop where
  ex : ∃ (f : Addr) (fd : FuncData) (ps : List Str), FnOk P w K mg base (L2.CX P w) k f fd ps (spF ⟨P, w, K, cl⟩ ps.length Fm) ∧ Binds K fd ps [] ∧ Mk K (cl c) f ∧ mg x = some (.ref (cl c)) ∧ ∀ ds S, Fm ds S ≠ .bad → ds.length = ps.length
theorem CalN.up {P : Program} {w : World} {K : PySem.W.Frag} {mg : Str → Option Value} {base : Heap} {c k k' : Nat} {x : Str} (q : CalN P w K mg base cl k c x Fm) (h : k ≤ k') : CalN P w K mg base cl k' c x Fm := by
  obtain ⟨f, fd, ps, F, b, g, mx, ln⟩ := q.ex
  exact ⟨f, fd, ps, F.mono h, b, g, mx, ln⟩
theorem pass_none {CX : CXT} (hcx : CX = L2.CX X.prog X.w) : Passes CX X E0 := fun _ _ _ _ _ _ _ h => by
  subst hcx
  obtain ⟨_, _, _, _, _, _, _, _, _, _, _, _, z⟩ := h
  exact z.elim
theorem new_sp {C : Ct} {ps : List Str} (ln : ∀ ds S, Fm ds S ≠ .bad → ds.length = ps.length) {ρ : List Addr} {F H : Hp} {S : Sto} {σ : L2.St} {ds : List D} {vs : List V} {Q : VK} (R : Rel C ρ F S H) (ra : RepAll C ρ F vs ds)
    (h : satE C W ρ F σ (match Fm (.ref S.length :: ds) (S ++ [.ins c []]) with
      | .ok .non S2 => .ok (.ref S.length) S2
      | _ => .bad) Q) {x dx : Addr} (hx : H x = none) (hd : H dx = none) (hne : dx ≠ x) : spF C ps.length Fm (.ref x :: vs) (upd (upd H dx (.own x)) x (.ins (C.cl c) dx [])) (fun v H2 => v = .non ∧ Q (.ref x) H2) E0 := by
  have R1 : Rel C ρ F S (upd H dx (.own x)) := R.grow (le_upd hd)
  have hx1 : (upd H dx (.own x)) x = none := by rw [upd_ne (Ne.symm hne)]; exact hx
  have pr : ρ <+: ρ ++ [x] := List.prefix_append _ _
  have R2 : Rel C (ρ ++ [x]) F (S ++ [.ins c []]) (upd (upd H dx (.own x)) x (.ins (C.cl c) dx [])) := R1.lay hx1 ⟨dx, [], upd_same, .nil⟩ (by intro z; cases z)
  have rx : RepD C (ρ ++ [x]) F (.ref x) (.ref S.length) := .ref (by rw [← R.len]; exact ref_last)
  cases e : Fm (.ref S.length :: ds) (S ++ [.ins c []]) with
  | ok d S2 =>
    rw [e] at h
    have hb : Fm (.ref S.length :: ds) (S ++ [.ins c []]) ≠ .bad := fun z => by rw [e] at z; cases z
    have hlen := ln _ _ hb
    refine ⟨by rw [← hlen]; simp [ra.len], _, _, F, _, R2, .cons rx (ra.mono pr (Le.refl _)), ?_⟩
    rw [e]
    intro ρ' F' H' v R3 p f r
    cases d with
    | non =>
      cases r
      exact ⟨rfl, h ρ' F' H' _ R3 (pr.trans p) f (rx.mono p f)⟩
    | _ => exact h.elim
  | exc y S2 => rw [e] at h; exact h.elim
  | bad => rw [e] at h; exact h.elim
theorem de_new (c : Nat) {x : Str} {p : Pos} (q : CalN X.prog X.w X.K X.mg X.base cl k c x Fm) (hr : Room (k + 1) X.A) (hg : Gl X x) (ha : DA X cl W (e :: es) r) (hdb : (x == ("__debug__" : Str)) = false := by decide) (he : starEach (e :: es) X.env = (false, eval e X.env) :: starEach es X.env := by rfl) (hpl : (backTo pos (starEach es X.env)).any (·.1) = false := by rfl) :
    DE X cl W (.Call (.Name x p) (e :: es) [] pos) (eNew c Fm r) := by
  obtain ⟨f, fd, ps, F, b, M, mx, ln⟩ := q.ex
  refine (pe_make (dvs := []) (ds := []) (E := E0) M F hr hg mx b .nil (pass_none rfl) ha hdb he hpl).imp fun σ H Q ⟨l, S, ρ, F', hl, R, h⟩ => ?_
  refine tA_stepX hl R (satE.x h) fun ds S1 ρ1 F1 H1 vs R1 hl1 r1 p1 f1 h1 => ?_
  intro x dx hx hd hne
  rw [List.append_nil]
  exact new_sp (C := cxt X cl) ln R1 r1 (satE.mono p1 f1 h1) hx hd hne
theorem de_new0 (c : Nat) {x : Str} {p : Pos} (q : CalN X.prog X.w X.K X.mg X.base cl k c x Fm) (hr : Room (k + 1) X.A) (hg : Gl X x) (hdb : (x == ("__debug__" : Str)) = false := by decide) : DE X cl W (.Call (.Name x p) [] [] pos) (eNew c Fm aNil) := by
  obtain ⟨f, fd, ps, F, b, M, mx, ln⟩ := q.ex
  refine (pe_make0 (dvs := []) (ds := []) (E := E0) M F hr hg mx b .nil (pass_none rfl) hdb).imp fun σ H Q ⟨l, S, ρ, F', hl, R, h⟩ => ?_
  intro x dx hx hd hne
  exact new_sp (C := cxt X cl) (ds := []) (vs := []) ln R .nil h hx hd hne
end
theorem ap_meth {c : Nat} {m : Str} {Fm : List D → Sto → Res D} {A : E} {r : As} {l : Loc} {S : Sto} : eMeth c m Fm A r l S = (A l S).bind fun x S1 => match insOf S1 c x with
  | some (_, fs) => (match fs.lookup m with
    | none => (r l S1).bind fun ds S2 => Fm (x :: ds) S2
    | some _ => .bad)
  | none => .bad := rfl
theorem ap_new {c : Nat} {Fm : List D → Sto → Res D} {r : As} {l : Loc} {S : Sto} : eNew c Fm r l S = (r l S).bind fun ds S1 => match Fm (.ref S1.length :: ds) (S1 ++ [.ins c []]) with
  | .ok .non S2 => .ok (.ref S1.length) S2
  | _ => .bad := rfl
theorem ap_sattr {c : Nat} {f : Str} {A V : E} {l : Loc} {S : Sto} : sAttr c f A V l S = (V l S).toS l fun y S1 => (A l S1).toS l fun x S2 => match insOf S2 c x with
  | some (n, fs) => if fs.length < 1000 then .next l (S2.set n (.ins c (putD f y fs))) else .bad
  | none => .bad := rfl
end DL

/-! DL14: index of a constant tuple of texts; reversed. -/
namespace DL
open PySem PySem.Spec PyProof.Rows L2
/-- a tuple of texts of the module, as its method index asks it -/
def GTupS (K : PySem.W.Frag) (mg : Str → Option Value) (x : Str) (ys : List Str) : Prop := ∃ a o, mg x = some (.ref a) ∧ K.lookup a = some o ∧ o.cls = .type "tuple" ∧ o.dict = none ∧ ∀ H, SqT K H a (ys.map V.str)
def tupDn (K : PySem.W.Frag) (x : Str) : Bool := match K.lookup (He.ga K x) with
  | some ⟨.type "tuple", none, _, _⟩ => true
  | _ => false
theorem gtups_of {K : PySem.W.Frag} {mg : Str → Option Value} {x : Str} {vs : List He.Dv} {ys : List Str} (g : mg x = some (.ref (He.ga K x))) (h : He.tupB K x vs = true) (h2 : tupDn K x = true) (e : vs.map (He.Dv.v K) = ys.map V.str) : GTupS K mg x ys := by
  unfold tupDn at h2
  split at h2
  · next dt sl q => exact ⟨_, _, g, q, rfl, rfl, fun H => by rw [← e]; exact He.tupB_ok h H⟩
  · cases h2
def tixD (ys : List Str) (d : D) (S : Sto) : Res D := match d with
  | .str z => if ys.findIdx (· == z) < ys.length then .ok (.int (ys.findIdx (· == z))) S else .bad
  | _ => .bad
section
variable {X : Cx} {cl : Nat → Addr} {W : WX} {A : E} {e : Expr} {x : Str} {ys : List Str} {p apos cpos : Pos}
theorem de_tix (v : GTupS X.K X.mg x ys) (hg : Gl X x) (ha : DE X cl W e A) (hd : (x == ("__debug__" : Str)) = false := by decide)
    (hbase : attributeBase (.Name x p) "index" X.env (eval (.Name x p) X.env) = eval (.Name x p) X.env := by rfl)
    (hfew : ((backTo cpos (starEach [e] X.env)).all (fun x => !x.1) && (backToKw cpos (keywordEach [] X.env)).all (fun x => x.1.isSome)
      && decide ([e].length + ([] : List Keyword).length + (if ([] : List Keyword).isEmpty then 0 else 1) < 30)) = true := by rfl)
    (hline : (apos.endLine == cpos.line) = true := by rfl) (hs : starEach [e] X.env = (false, eval e X.env) :: starEach [] X.env := by rfl) (hplain : (backTo cpos (starEach [] X.env)).any (·.1) = false := by rfl) :
    DE X cl W (.Call (.Attribute (.Name x p) "index" apos) [e] [] cpos) (eOp1 (tixD ys) A) := by
  obtain ⟨a, o, hm, hk, hc, hdn, hq⟩ := v
  refine (pe_bm PySem.F.plainAttrs_tuple PySem.F.slot_tuple_index PySem.F.type_tuple_index mt_tup_index (pe_glob (v := .ref a) hg hm rfl hd) (pa_cons ha pa_nil hs) hbase hfew hline hs hplain).imp fun σ H Q ⟨l, S, ρ, F, hl, R, h⟩ => ?_
  refine ⟨.inr (.inl ⟨rfl, o, hk, hc, hdn⟩), ?_⟩
  refine tE_stepX hl R (satE.x h) fun d S1 ρ1 F1 H1 v R1 hl1 r1 p1 f1 h1 => ?_
  have h2 := satE.mono p1 f1 h1
  unfold tixD at h2
  split at h2
  · next z =>
    split at h2
    · next hlt =>
      cases r1
      refine ⟨a, ys, z, _, rfl, rfl, hq H1, ?_, fun m hm e => ?_, h2.now R1 (.int _)⟩
      · rw [List.getElem?_eq_getElem hlt]
        have := List.findIdx_getElem (w := hlt)
        rw [eq_of_beq this]
      · have h3 := List.not_of_lt_findIdx hm
        obtain ⟨h4, h5⟩ := List.getElem?_eq_some_iff.mp e
        rw [h5] at h3
        simp at h3
    · exact h2.elim
  · exact h2.elim
end

/-! ### reversed -/
def iRevD (A : E) : I := fun l S => (A l S).bind fun d S1 => match seqOf S1 d with
  | some xs => .ok ⟨xs.reverse, fun S' => seqOf S' d = some xs⟩ S1
  | none => .bad
theorem rev_get {α : Type} {xs : List α} {i : Nat} {d : α} (h : xs.reverse[i]? = some d) : xs[xs.length - 1 - i]? = some d ∧ i < xs.length := by
  have hi := (List.getElem?_eq_some_iff.mp h).1
  rw [List.length_reverse] at hi
  rw [List.getElem?_reverse hi] at h
  exact ⟨h, hi⟩
section
variable {X : Cx} {cl : Nat → Addr} {W : WX} {A : E} {e tg : Expr} {p pos : Pos}
theorem di_rev (hg : Gl X "reversed") (hm : X.mg "reversed" = none) (he : DE X cl W e A) (hs : starEach [e] X.env = (false, eval e X.env) :: starEach [] X.env := by rfl) : DI X cl W tg (.Call (.Name "reversed" p) [e] [] pos) (iRevD A) := (RT.pi_revA hg hm he hs).imp fun σ H Q ⟨l, S, ρ, F, hl, R, h⟩ => by
  refine tE_stepX hl R (satX.of h) fun d S1 ρ1 F1 H1 v R1 hl1 r1 p1 f1 h1 => ?_
  split at h1
  · next xs hs =>
    by_cases hd : ∃ ys, d = .tup ys
    · obtain ⟨ys, rfl⟩ := hd
      obtain rfl := Option.some.inj (show some ys = some xs from hs)
      obtain ⟨a, vs, rfl, hq, ra⟩ := rep_tup R1 r1
      refine ⟨a, vs, rfl, .inr ⟨hq, h1 ρ1 F1 H1 _ R1 p1 f1 fun ρ F S H i p f R g => ?_⟩⟩
      obtain ⟨a', ws, ea, hq', ra'⟩ := rep_tup R (r1.mono p f)
      cases ea
      have hlen : vs.length = ws.length := by rw [ra.len, ra'.len]
      refine ⟨fun h => ?_, fun dd hd => ?_⟩
      · show vs.length ≤ i
        rw [List.length_reverse] at h
        rw [ra.len]; exact h
      · obtain ⟨h3, h4⟩ := rev_get hd
        obtain ⟨v, hv, rv⟩ := ra'.get h3
        rw [← ra'.len, ← hlen] at hv
        exact ⟨⟨by rw [ra.len]; exact h4, ws, v, hq', hv⟩, fun x H' ⟨e1, e2⟩ => by
          subst e1
          have := e2 ws hq'
          rw [hlen, ra'.len] at this
          exact ⟨F, Le.refl _, R, ra'.get2 h3 this⟩⟩
    · have hne : ∀ ys, d ≠ .tup ys := fun ys z => hd ⟨ys, z⟩
      have gl0 : listOf S1 d = some xs := by
        cases d with
        | tup ys => exact absurd rfl (hne ys)
        | _ => exact hs
      obtain ⟨a, vs, rfl, hq, ra⟩ := rep_list R1 r1 gl0
      refine ⟨a, vs, rfl, .inl ⟨hq, h1 ρ1 F1 H1 _ R1 p1 f1 fun ρ F S H i p f R g => ?_⟩⟩
      have g' : seqOf S d = some xs := g
      have gl : listOf S d = some xs := by
        cases d with
        | tup ys => exact absurd rfl (hne ys)
        | _ => exact g'
      obtain ⟨a', ws, ea, hq', ra'⟩ := rep_list R (r1.mono p f) gl
      cases ea
      have hlen : vs.length = ws.length := by rw [ra.len, ra'.len]
      refine ⟨fun h => ?_, fun dd hd => ?_⟩
      · show vs.length ≤ i
        rw [List.length_reverse] at h
        rw [ra.len]; exact h
      · obtain ⟨h3, h4⟩ := rev_get hd
        obtain ⟨v, hv, rv⟩ := ra'.get h3
        rw [← ra'.len, ← hlen] at hv
        exact ⟨⟨by rw [ra.len]; exact h4, ws, v, hq', hv⟩, fun x H' ⟨e1, e2⟩ => by
          subst e1
          have := e2 ws hq'
          rw [hlen, ra'.len] at this
          exact ⟨F, Le.refl _, R, ra'.get2 h3 this⟩⟩
  · exact h1.elim
end
end DL

/-! DL15: enumerate, zip. -/
namespace EN
open PySem PySem.Spec PyProof.Rows L2
theorem meets_new {v : Value} {o : Obj} {H : Heap → Prop} (B : Begins v o H) :
    Meets (Builtin.«enumerate.__new__» ⟨[.type "enumerate", v], []⟩) (fun _ R s => H s.heap ∧
      R (.ok (.ret (.ref (s.heap.push o).objs.size))) { s with heap := (s.heap.push o).push { cls := .type "enumerate", data := .fields #[.none, .bool false, .ref s.heap.objs.size, rawInt 0, .none, .none] } }) :=
  .of_wp fun prog w A R s h => by
    obtain ⟨hp, g, d, tk, os⟩ := s; obtain ⟨h1, h⟩ := h
    have hsub := sub_enumerate
    have q1 : ∀ {A' : Around} {E : Value → Shared → Prop} {Q : Value → Shared → Prop}, Q (.ref hp.objs.size) ⟨hp.push o, g, d, tk, os⟩ → wpAny (model prog w) A' (pyIter v) Q E ⟨hp, g, d, tk, os⟩ :=
      fun q => B.iter prog w _ _ ⟨hp, g, d, tk, os⟩ _ h1 q
    wp_walk using q1
    refine wpAny_stack_any fun st => wpAny_pure ?_
    split
    · rename_i c _ _ _ _ _
      cases (c == Value.type "enumerate")
      · wp_walk using q1
        exact ⟨_, rfl, h⟩
      · wp_walk using q1
        exact ⟨_, rfl, h⟩
    · wp_walk using q1
      exact ⟨_, rfl, h⟩
section
variable {prog : Program} {w : World} {A : Around} {E : Value → Shared → Prop} {s : Shared}
theorem call_enum {v : Value} {o : Obj} {H : Heap → Prop} {Q : Value → Shared → Prop} (B : Begins v o H) (h1 : H s.heap)
    (h : ∀ h', IsEnum h' (s.heap.objs.size + 1) s.heap.objs.size 0 .none → h'.get? s.heap.objs.size = some o → h'.objs.size = s.heap.objs.size + 2 →
      (∀ b o, s.heap.get? b = some o → h'.get? b = some o) → Q (.ref (s.heap.objs.size + 1)) { s with heap := h' }) :
    wpAny (model prog w) A (call (.type "enumerate") [v]) Q E s := by
  refine callType_new F.called_enumerate (by decide) (F.typeCall_enumerate_1 _) (F.newCall_enumerate_1 _) (fun obj => F.args_object_init_2 obj _) F.entry_enumerate_new
    (meets_new B) ⟨h1, ?_⟩
  have hz : (s.heap.push o).objs.size = s.heap.objs.size + 1 := Heap.size_push ..
  show _ ∧ _
  rw [hz]
  have he : IsEnum ((s.heap.push o).push { cls := .type "enumerate", data := .fields #[.none, .bool false, .ref s.heap.objs.size, rawInt 0, .none, .none] }) (s.heap.objs.size + 1) s.heap.objs.size 0 .none := by
    have := Heap.get?_push_size (s.heap.push o) (o := { cls := .type "enumerate", data := .fields #[.none, .bool false, .ref s.heap.objs.size, rawInt 0, .none, .none] }) rfl
    rw [hz] at this; exact this
  refine ⟨⟨_, he, rfl⟩, h _ he (Heap.get?_push_of_some _ (Heap.get?_push_size _ B.free)) (by rw [Heap.size_push, hz]) fun b o x => Heap.get?_push_of_some _ (Heap.get?_push_of_some _ x)⟩
end
/-- the tuple at a, each item in a new pair -/
def IteT (K : PySem.W.Frag) (a : Addr) : It :=
  ⟨fun i H => ∃ (xs : List V) (x : V), SqT K H a xs ∧ xs[i]? = some x, fun i H v H' => ∃ T x, v = .ref T ∧ H T = none ∧ H' = upd H T (.tup [.int (i : Nat), x]) ∧ ∀ xs, SqT K H a xs → xs[i]? = some x, fun i H => ∃ xs : List V, SqT K H a xs ∧ xs.length ≤ i⟩
theorem turn_enumT {P : Program} {w : World} {K : PySem.W.Frag} {elts : List Expr} {kk : Nat} {tpos : Pos} (a e it : Addr) :
    Turn P w K (.Tuple elts kk tpos) (IteT K a) [e, it] e (fun i h => (∃ old, IsEnum h e it ((i : Nat) : Int) old) ∧ h.IsTupleIter it a i ∧ e ≠ it) where
  mem := by simp
  obj := fun i h st b hb => by
    obtain ⟨⟨old, he⟩, ⟨o, ho, hc, hd⟩, _⟩ := st
    have e' : b = e ∨ b = it := by simpa using hb
    rcases e' with z | z
    · rw [z]; exact ⟨_, he, fun v q => nomatch q⟩
    · rw [z]; exact ⟨o, ho, fun v q => by rw [hd] at q; cases q⟩
  keep := fun i h h' st k => let ⟨⟨old, he⟩, hi, hne⟩ := st; ⟨⟨old, k e (by simp) _ he⟩, hi.at fun o q => k it (by simp) o q, hne⟩
  item := by
    intro X hP hw hK hc i pins s σ H E I hf st hg
    subst hP hw hK
    obtain ⟨⟨old, he⟩, hit, hne⟩ := st
    obtain ⟨xs, x, hq, hx⟩ := hg
    obtain ⟨its, rv, p, hz⟩ := I.tuple hq
    obtain ⟨u, hu, ru⟩ := rv.get hx
    have hel : e < s.heap.objs.size := Heap.lt_size he
    have hil : it < s.heap.objs.size := by obtain ⟨_, q, _⟩ := hit; exact Heap.lt_size q
    have pt : s.heap.IsTuple a its.toArray := p
    have hta : a ≠ it := by
      rintro rfl
      obtain ⟨o1, q1, c1, _⟩ := id hit
      obtain ⟨o2, q2, c2, _⟩ := id pt
      rw [q1] at q2
      cases q2
      rw [c1] at c2
      exact absurd c2 (by decide)
    have hae : e ≠ a := by
      rintro rfl
      obtain ⟨o2, q2, c2, _⟩ := id pt
      rw [show s.heap.get? e = some _ from he] at q2
      cases q2
      exact absurd c2 (show ¬ (Value.type "enumerate" = Value.type "tuple") by decide)
    have D := Draws.tuple (prog := X.prog) (w := X.w) (A := X.A.in1) (I.ok.hd hc) it a hta its.toArray
    have hlt : i < its.toArray.size := by
      rw [List.size_toArray]
      exact (List.getElem?_eq_some_iff.mp hu).1
    refine wpAny_pyNext_enum_itemC D he ⟨hit, pt⟩ hlt hne (by simp [hne, hae]) fun y h' tk hP ho hit' hT hsz hk => ?_
    have ey : y = u := by
      have hP : its.toArray[i]? = some y := hP
      rw [show its.toArray[i]? = some u by simpa using hu] at hP
      exact (Option.some.inj hP).symm
    subst ey
    refine ⟨_, rfl, wpAny_letOwnedTupleGo_enum (s := { s with heap := h', toks := tk + 1 }) ho fun h'' he' sb => ?_⟩
    have hT2 : h''.get? s.heap.objs.size = some { cls := .type "tuple", data := .seq #[.int i tk, y] } := (sb.2 _ (Nat.ne_of_gt hel)).trans hT
    have new : ObjOk X.prog X.w (upd H s.heap.objs.size (.tup [.int (i : Nat), x])) h'' s.heap.objs.size (.tup [.int (i : Nat), x]) :=
      ⟨by show 2 ≤ sizeLine; decide, [.int i tk, y], .cons ⟨_, rfl⟩ (.cons ru .nil), ⟨_, hT2, rfl, _, rfl⟩⟩
    have I1 : Inv X pins σ (upd H s.heap.objs.size (.tup [.int (i : Nat), x])) { s with heap := h'', toks := tk + 1 } :=
      I.turnedNew (ch := [e, it]) (fun b ob hb q => (sb.2 b (fun z => hb (by simp [z]))).trans (hk b ob (fun z => hb (by simp [z])) (fun z => hb (by simp [z])) q)) hf (Nat.le_refl _) new
    refine ⟨.ref s.heap.objs.size, _, I1, rfl, ⟨_, x, rfl, I.hok.fresh (Nat.le_refl _), rfl, fun ys hy => by rw [I.tuple_inj hy hq]; exact hx⟩, ⟨⟨y, ?_⟩, hit'.1.at fun o q => (sb.2 it (Ne.symm hne)).trans q, hne⟩, fun b hb => ?_⟩
    · have e1 : ((i + 1 : Nat) : Int) = (i : Int) + 1 := by omega
      rw [e1]; exact he'
    · have hb' : b < s.heap.objs.size := by
        have e' : b = e ∨ b = it := by simpa using hb
        rcases e' with z | z
        · rw [z]; exact hel
        · rw [z]; exact hil
      rw [upd_ne (Nat.ne_of_lt hb')]
      exact (hf b hb).1
  done := by
    intro X hP hw hK hc i pins s σ H E I hf st hg
    subst hP hw hK
    obtain ⟨⟨old, he⟩, hit, hne⟩ := st
    obtain ⟨xs, hq, hx⟩ := hg
    obtain ⟨its, rv, p, hz⟩ := I.tuple hq
    obtain ⟨f0, f1, f2, f3, f4, f5⟩ := hf it (by simp)
    have hl := rv.length
    have pt : s.heap.IsTuple a its.toArray := p
    have hta : a ≠ it := by
      rintro rfl
      obtain ⟨o1, q1, c1, _⟩ := id hit
      obtain ⟨o2, q2, c2, _⟩ := id pt
      rw [q1] at q2
      cases q2
      rw [c1] at c2
      exact absurd c2 (by decide)
    have D : Draws X.prog X.w X.A.in1 it [it, a] i (fun _ _ => True) (fun j h => j = i ∧ h.IsTupleIter it a i ∧ h.IsTuple a its.toArray) :=
      { live := fun _ _ st => let ⟨o, ho, _⟩ := st.2.1; ⟨o, ho⟩
        frame := fun _ _ _ st hk => ⟨st.1, st.2.1.at fun o e => hk it (by simp) o e, st.2.2.at fun o e => hk a (by simp) o e⟩
        item := fun j s Q E hj st hQ => by have := st.1; omega
        done := fun s Q E st hE => wpAny_nextOf_tuple_end (I.ok.hd hc) st.2.1 st.2.2 (by simp; omega) hE }
    exact wpAny_pyNext_enum_endD D he ⟨rfl, hit, pt⟩ fun h' eb => ⟨rfl, I.turned (t' := s.toks) (fun b o hb q => eb b o hb q) f0 f1 f3 f4 f5⟩
  self := fun A i s Q E st h => let ⟨⟨_, he⟩, _⟩ := st; wpAny_pyIter_enum he h
def iEnumA (K : PySem.W.Frag) (ta : TA) : TI := fun σ H R => ta σ H fun vs H1 => ∃ a xs, vs = [.ref a] ∧ ((SqL K H1 a xs ∧ R (Ite K a) H1) ∨ (SqT K H1 a xs ∧ R (IteT K a) H1))
theorem pi_enumA {X : Cx} {e : Expr} {ta : TA} {p pos tpos : Pos} {elts : List Expr} {kk : Nat} (hg : Gl X "enumerate") (hm : X.mg "enumerate" = none) (ha : PA X [e] ta) (hs : starEach [e] X.env = [(false, eval e X.env)] := by rfl) :
    PI X (.Tuple elts kk tpos) (.Call (.Name "enumerate" p) [e] [] pos) (iEnumA X.K ta) := by
  refine ⟨fun pins s σ H R I h => ?_⟩
  refine Call_ (ld_blt I hg hm boot_enumerate (PyProof.Rows.callWith_type1 (thn (ha.run pos pins s σ H _ I h) fun us s1 ⟨vs, H1, I1, r1, q1⟩ => ?_) hs rfl))
  obtain ⟨a, xs, ex, hq⟩ := q1
  subst ex
  cases r1 with
  | cons r rr =>
    cases rr
    cases r
    have fin : ∀ {h' : Heap}, IsEnum h' (s1.heap.objs.size + 1) s1.heap.objs.size 0 .none → True := fun _ => trivial
    rcases hq with ⟨hq, q⟩ | ⟨hq, q⟩
    · obtain ⟨its, rv, p', hz⟩ := I1.list hq
      refine call_enumerate_list p'.isList fun h' he hit hsz hk => wpAny_pyIter_enum he ?_
      have I2 : Inv X pins σ H1 { s1 with heap := h' } := I1.kept (t' := s1.toks) hk
      refine ⟨s1.heap.objs.size + 1, [s1.heap.objs.size + 1, s1.heap.objs.size], _, _, H1, rfl, I2, turn_enum a (s1.heap.objs.size + 1) s1.heap.objs.size, ⟨⟨.none, he⟩, hit, Nat.succ_ne_self _⟩, fun b hb => ?_, q⟩
      have e' : b = s1.heap.objs.size + 1 ∨ b = s1.heap.objs.size := by simpa using hb
      have hle : s1.heap.objs.size ≤ b := by
        rcases e' with z | z
        · rw [z]; exact Nat.le_add_right _ _
        · rw [z]; exact Nat.le_refl _
      exact I1.fpOk hle (I1.hok.fresh hle)
    · obtain ⟨its, rv, p', hz⟩ := I1.tuple hq
      refine call_enum (begins_tuple a its.toArray) p' fun h' he hit hsz hk => wpAny_pyIter_enum he ?_
      have I2 : Inv X pins σ H1 { s1 with heap := h' } := I1.kept (t' := s1.toks) hk
      refine ⟨s1.heap.objs.size + 1, [s1.heap.objs.size + 1, s1.heap.objs.size], _, _, H1, rfl, I2, turn_enumT a (s1.heap.objs.size + 1) s1.heap.objs.size, ⟨⟨.none, he⟩, ⟨_, hit, rfl, rfl⟩, Nat.succ_ne_self _⟩, fun b hb => ?_, q⟩
      have e' : b = s1.heap.objs.size + 1 ∨ b = s1.heap.objs.size := by simpa using hb
      have hle : s1.heap.objs.size ≤ b := by
        rcases e' with z | z
        · rw [z]; exact Nat.le_add_right _ _
        · rw [z]; exact Nat.le_refl _
      exact I1.fpOk hle (I1.hok.fresh hle)
end EN
namespace DL
open PySem PySem.Spec PyProof.Rows L2
/-- the items with their places -/
def enumI : Nat → List D → List D
  | _, [] => []
  | k, x :: xs => .tup [.int (k : Int), x] :: enumI (k + 1) xs
theorem enumI_len : ∀ (k : Nat) (xs : List D), (enumI k xs).length = xs.length
  | _, [] => rfl
  | k, x :: xs => by rw [enumI, List.length_cons, List.length_cons, enumI_len]
theorem enumI_get : ∀ (k : Nat) (xs : List D) (i : Nat) (d : D), (enumI k xs)[i]? = some d → ∃ x, xs[i]? = some x ∧ d = .tup [.int ((k + i : Nat) : Int), x]
  | _, [], i, d, h => by rw [enumI] at h; cases h
  | k, x :: xs, 0, d, h => ⟨x, rfl, (Option.some.inj h).symm⟩
  | k, x :: xs, i + 1, d, h => by
    obtain ⟨y, h1, h2⟩ := enumI_get (k + 1) xs i d h
    exact ⟨y, h1, by rw [h2, show k + 1 + i = k + (i + 1) by omega]⟩
/-- the items of both, two by two -/
def zipI (xs ys : List D) : List D := List.zipWith (fun x y => .tup [x, y]) xs ys
def isTup : D → Option (List D)
  | .tup xs => some xs
  | _ => none
def i_enumerate (r : As) : I := fun l S => (r l S).bind fun ds S1 => match ds with
  | [d] => (match listOf S1 d with
    | some xs => .ok ⟨enumI 0 xs, fun S' => listOf S' d = some xs⟩ S1
    | none => (match isTup d with
      | some xs => .ok ⟨enumI 0 xs, fun _ => True⟩ S1
      | none => .bad))
  | _ => .bad
def i_zip (r : As) : I := fun l S => (r l S).bind fun ds S1 => match ds with
  | [x, y] => (match listOf S1 x, listOf S1 y with
    | some xs, some ys => .ok ⟨zipI xs ys, fun S' => listOf S' x = some xs ∧ listOf S' y = some ys⟩ S1
    | _, _ => (match isTup x, isTup y with
      | some xs, some ys => .ok ⟨zipI xs ys, fun _ => True⟩ S1
      | _, _ => .bad))
  | _ => .bad
section
variable {X : Cx} {cl : Nat → Addr} {W : WX} {r : As} {a b : Expr} {pos p tpos : Pos} {elts : List Expr} {kk : Nat}
theorem rep_pair {C : Ct} {ρ : List Addr} {F : Hp} {S : Sto} {H : Hp} {T : Addr} {u v : V} {x y : D} (R : Rel C ρ F S H) (hT : H T = none) (ru : RepD C ρ F u x) (rv : RepD C ρ F v y) : ∃ F', Le F F' ∧ Rel C ρ F' S (upd H T (.tup [u, v])) ∧ RepD C ρ F' (.ref T) (.tup [x, y]) :=
  ⟨upd F T (.tup [u, v]), le_upd (R.fnone hT), R.new hT, .tup (SqT.of upd_same) ((RepAll.cons ru (RepAll.cons rv .nil)).mono (List.prefix_refl _) (le_upd (R.fnone hT)))⟩
theorem di_enumerate (hg : Gl X "enumerate") (hm : X.mg "enumerate" = none) (ha : DA X cl W [a] r) (hs : starEach [a] X.env = [(false, eval a X.env)] := by rfl) : DI X cl W (.Tuple elts kk tpos) (.Call (.Name "enumerate" p) [a] [] pos) (i_enumerate r) := (EN.pi_enumA hg hm ha hs).imp fun σ H Q ⟨l, S, ρ, F, hl, R, h⟩ => by
  refine tA_stepX hl R (satX.of h) fun ds S1 ρ1 F1 H1 vs R1 hl1 r1 p1 f1 h1 => ?_
  split at h1
  · next d =>
    split at h1
    · next xs hx =>
      cases r1 with
      | cons q t =>
        cases t
        obtain ⟨ad, ws, rfl, hq, ra⟩ := rep_list R1 q hx
        refine ⟨ad, ws, rfl, .inl ⟨hq, h1 ρ1 F1 H1 _ R1 p1 f1 fun ρ2 F2 S2 H2 i p2 f2 R2 g => ?_⟩⟩
        have g' : listOf S2 d = some xs := g
        obtain ⟨a', ws2, ea, hq2, ra2⟩ := rep_list R2 (q.mono p2 f2) g'
        cases ea
        refine ⟨fun hn => ⟨ws2, hq2, by rw [ra2.len, ← enumI_len 0 xs]; exact hn⟩, fun dd hd => ?_⟩
        obtain ⟨x, hx1, rfl⟩ := enumI_get 0 xs i dd hd
        obtain ⟨v, hv, rv⟩ := ra2.get hx1
        refine ⟨⟨ws2, v, hq2, hv⟩, fun w H' hy => ?_⟩
        obtain ⟨T, y, e1, e2, e3, e4⟩ := hy
        subst e1 e3
        have ev := e4 ws2 hq2
        rw [hv] at ev
        cases ev
        rw [Nat.zero_add]
        exact rep_pair R2 e2 (.int _) rv
    · split at h1
      · next xs hx =>
        cases r1 with
        | cons q t =>
          cases t
          have hd : d = .tup xs := by cases d <;> first | (cases hx; rfl) | cases hx
          subst hd
          obtain ⟨ad, ws, rfl, hq, ra⟩ := rep_tup R1 q
          refine ⟨ad, ws, rfl, .inr ⟨hq, h1 ρ1 F1 H1 _ R1 p1 f1 fun ρ2 F2 S2 H2 i p2 f2 R2 g => ?_⟩⟩
          obtain ⟨a', ws2, ea, hq2, ra2⟩ := rep_tup R2 (q.mono p2 f2)
          cases ea
          refine ⟨fun hn => ⟨ws2, hq2, by rw [ra2.len, ← enumI_len 0 xs]; exact hn⟩, fun dd hd => ?_⟩
          obtain ⟨x, hx1, rfl⟩ := enumI_get 0 xs i dd hd
          obtain ⟨v, hv, rv⟩ := ra2.get hx1
          refine ⟨⟨ws2, v, hq2, hv⟩, fun w H' hy => ?_⟩
          obtain ⟨T, y, e1, e2, e3, e4⟩ := hy
          subst e1 e3
          have ev := e4 ws2 hq2
          rw [hv] at ev
          cases ev
          rw [Nat.zero_add]
          exact rep_pair R2 e2 (.int _) rv
      · exact h1.elim
  · exact h1.elim
theorem zipI_get {xs ys : List D} {i : Nat} {d : D} (h : (zipI xs ys)[i]? = some d) : ∃ x y, xs[i]? = some x ∧ ys[i]? = some y ∧ d = .tup [x, y] := by
  unfold zipI at h
  rw [List.getElem?_zipWith] at h
  cases hx : xs[i]? with
  | none => rw [hx] at h; cases h
  | some x =>
    cases hy : ys[i]? with
    | none => rw [hx, hy] at h; cases h
    | some y => rw [hx, hy] at h; exact ⟨x, y, rfl, rfl, (Option.some.inj h).symm⟩
theorem zipI_len (xs ys : List D) : (zipI xs ys).length = min xs.length ys.length := by unfold zipI; simp
theorem di_zip (hg : Gl X "zip") (hm : X.mg "zip" = none) (ha : DA X cl W [a, b] r) (hs : starEach [a, b] X.env = (false, eval a X.env) :: starEach [b] X.env := by rfl) (hpl : (backTo pos (starEach [b] X.env)).any (·.1) = false := by rfl) : DI X cl W (.Tuple elts kk tpos) (.Call (.Name "zip" p) [a, b] [] pos) (i_zip r) := (RZ.pi_zipA hg hm ha hs hpl).imp fun σ H Q ⟨l, S, ρ, F, hl, R, h⟩ => by
  refine tA_stepX hl R (satX.of h) fun ds S1 ρ1 F1 H1 vs R1 hl1 r1 p1 f1 h1 => ?_
  split at h1
  · next x y =>
    cases r1 with
    | cons q t =>
      cases t with
      | cons q2 t2 =>
        cases t2
        split at h1
        · next xs ys hx hy =>
          obtain ⟨ad, ws, rfl, hq, ra⟩ := rep_list R1 q hx
          obtain ⟨bd, zs, rfl, hq2, ra2⟩ := rep_list R1 q2 hy
          refine ⟨ad, bd, ws, zs, rfl, .inl ⟨hq, hq2, h1 ρ1 F1 H1 _ R1 p1 f1 fun ρ2 F2 S2 H2 i p2 f2 R2 g => ?_⟩⟩
          have g' : listOf S2 x = some xs ∧ listOf S2 y = some ys := g
          obtain ⟨a', ws2, ea, hw2, rw2⟩ := rep_list R2 (q.mono p2 f2) g'.1
          cases ea
          obtain ⟨b', zs2, eb, hz2, rz2⟩ := rep_list R2 (q2.mono p2 f2) g'.2
          cases eb
          refine ⟨fun hn => ⟨ws2, zs2, hw2, hz2, by
            have hn : (zipI xs ys).length ≤ i := hn
            rw [zipI_len] at hn
            rw [rw2.len, rz2.len]
            omega⟩, fun dd hd => ?_⟩
          obtain ⟨u, v, hu, hv, rfl⟩ := zipI_get hd
          obtain ⟨u', hu', ru⟩ := rw2.get hu
          obtain ⟨v', hv', rv⟩ := rz2.get hv
          refine ⟨⟨ws2, zs2, u', v', hw2, hz2, hu', hv'⟩, fun w H' hy => ?_⟩
          obtain ⟨T, y1, y2, e1, e2, e3, e4, e5⟩ := hy
          subst e1 e3
          have ev := e4 ws2 hw2
          rw [hu'] at ev
          cases ev
          have ev2 := e5 zs2 hz2
          rw [hv'] at ev2
          cases ev2
          exact rep_pair R2 e2 ru rv
        · split at h1
          · next xs ys hx hy =>
            have ex : x = .tup xs := by cases x <;> first | (cases hx; done) | (cases hx; rfl)
            have ey : y = .tup ys := by cases y <;> first | (cases hy; done) | (cases hy; rfl)
            subst ex ey
            obtain ⟨ad, ws, rfl, hq, ra⟩ := rep_tup R1 q
            obtain ⟨bd, zs, rfl, hq2, ra2⟩ := rep_tup R1 q2
            refine ⟨ad, bd, ws, zs, rfl, .inr ⟨hq, hq2, h1 ρ1 F1 H1 _ R1 p1 f1 fun ρ2 F2 S2 H2 i p2 f2 R2 g => ?_⟩⟩
            obtain ⟨a', ws2, ea, hw2, rw2⟩ := rep_tup R2 (q.mono p2 f2)
            cases ea
            obtain ⟨b', zs2, eb, hz2, rz2⟩ := rep_tup R2 (q2.mono p2 f2)
            cases eb
            refine ⟨fun hn => ⟨ws2, zs2, hw2, hz2, by
              have hn : (zipI xs ys).length ≤ i := hn
              rw [zipI_len] at hn
              rw [rw2.len, rz2.len]
              omega⟩, fun dd hd => ?_⟩
            obtain ⟨u, v, hu, hv, rfl⟩ := zipI_get hd
            obtain ⟨u', hu', ru⟩ := rw2.get hu
            obtain ⟨v', hv', rv⟩ := rz2.get hv
            refine ⟨⟨ws2, zs2, u', v', hw2, hz2, hu', hv'⟩, fun w H' hy => ?_⟩
            obtain ⟨T, y1, y2, e1, e2, e3, e4, e5⟩ := hy
            subst e1 e3
            have ev := e4 ws2 hw2
            rw [hu'] at ev
            cases ev
            have ev2 := e5 zs2 hz2
            rw [hv'] at ev2
            cases ev2
            exact rep_pair R2 e2 ru rv
          · exact h1.elim
  · exact h1.elim
end
end DL

/-! DL16: raise of an own class with a text; try .. except c; try .. except c as e with a row of isinstance. -/
namespace DL
open PySem PySem.Spec PyProof.Rows L2
/-- an own exception class -/
structure ExcK (K : PySem.W.Frag) (mg : Str → Option Value) (C : Addr) (x : Str) : Prop where
  q : PySem.W.excIn K C He.veBase "ValueError.__new__" = true
  kp : PySem.W.keepIn K (.ref C) = true
  g : mg x = some (.ref C)
  s : PySem.W.subIn K (.ref C) (.type "BaseException") = some true
  t : PySem.W.typeIn K (.ref C) = some (.type "type")
def sRaise (c : Nat) : Stm := fun l S => .exc c l S
section
variable {X : Cx} {cl : Nat → Addr} {W : WX}
theorem ds_raise (c : Nat) {x m : Str} {j : Nat} {p p2 pos pos' : Pos} (h : ExcK X.K X.mg (cl c) x) (hc : X.calm = true) (tk : Takes X W) (hg : Gl X x) (hdb : (x == ("__debug__" : Str)) = false := by decide) :
    DS X cl W (.Raise (some (.Call (.Name x p) [.Constant (.str m) j p2] [] pos)) none pos') (sRaise c) :=
  (ps_raise hc tk (pmk_own PySem.F.excBase_ValueError h.q h.g h.kp (raises_own h.s h.t) hg hdb)).imp fun D σ H ⟨l, S, ρ, F, hl, R, q⟩ => q ρ F H σ () R (List.prefix_refl _) (Le.refl _) hl
end
/-! ### try: body; except c: suite. m tells of the classes which the clause takes -/
def sTry (m : Nat → Option Bool) (body suite : Stm) : Stm := fun l S => match body l S with
  | .exc x l' S' => (match m x with
    | some true => (match suite l' S' with
      | .exc _ _ _ => .bad
      | o => o)
    | some false => .exc x l' S'
    | none => .bad)
  | o => o
theorem satS.calm {C : Ct} {W W' : WX} {ρ : List Addr} {F : Hp} {D : Ends} {r : Out} (h : satS C W ρ F (match r with
      | .exc _ _ _ => .bad
      | o => o) D) : satS C W' ρ F r D := by
  cases r <;> first | exact h | exact h.elim
section
variable {X : Cx} {cl : Nat → Addr} {W : WX} {A B : Stm} {body suite : List Stmt} {b₀ : Stmt} {np pos pos' : Pos}
theorem ds_try {c : Value} {x : Str} (m : Nat → Option Bool) (hm : ∀ y b, m y = some b → PySem.W.exmOne X.K (.ref (cl y)) c = some b) (hs : X.stack = X.env :: X.outer) (hf : X.env.frame = some X.env.locals) (hc : Names X x c) (tk : Takes X W)
    (hb : ∀ (W' : WX) (pn : List (Addr × Obj)) (xe : Value → Shared → Prop), Takes (X.tr pn xe) W' → PassesOwn (model X.prog X.w) X.A X.env xe → DSs (X.tr pn xe) cl W' body A)
    (hsu : ∀ (a : Addr) (oe : Obj) (pn : List (Addr × Obj)), DSs (X.suite a ((a, oe) :: pn)) cl W0 (b₀ :: suite) B) :
    DS X cl W (.Try body [.ExceptHandler (some (.Name x np)) none (b₀ :: suite) pos'] [] [] pos) (sTry m A B) :=
  (ps_try_only (tb := fun W' => tS (cxt X cl) W' A) (ts := fun _ _ _ => tS (cxt X cl) W0 B) hs hf hc tk hb (fun a oe cls d pn _ _ => hsu a oe pn)).imp fun D σ H ⟨l, S, ρ, F, hl, R, h⟩ => by
    refine ⟨l, S, ρ, F, hl, R, ?_⟩
    unfold sTry at h
    cases e : A l S with
    | exc y l' S' =>
      rw [e] at h
      intro ρ' F' H' σ' dd R' p f hl'
      simp only at h
      cases q : m y with
      | none => rw [q] at h; exact h.elim
      | some b =>
        refine ⟨b, hm y b q, fun hb => ?_, fun hb => ?_⟩
        · subst hb
          rw [q] at h
          intro a _
          exact ⟨l', S', ρ', F', hl', R', satS.mono p f (satS.calm h)⟩
        · subst hb
          rw [q] at h
          exact h ρ' F' H' σ' () R' p f hl'
    | next l' S' => rw [e] at h; exact h
    | ret d S' => rw [e] at h; exact h
    | brk l' S' => rw [e] at h; exact h
    | cont l' S' => rw [e] at h; exact h
    | bad => rw [e] at h; exact h.elim
end
/-! ### tables of classes -/
def tabB (t : List (Nat × Bool)) (y : Nat) : Option Bool := t.lookup y
theorem tab_nil {P : Nat → Bool → Prop} : ∀ y b, tabB [] y = some b → P y b := fun y b h => by cases h
theorem tab_cons {P : Nat → Bool → Prop} {k : Nat} {v : Bool} {t : List (Nat × Bool)} (h : P k v) (ht : ∀ y b, tabB t y = some b → P y b) : ∀ y b, tabB ((k, v) :: t) y = some b → P y b := fun y b q => by
  unfold tabB at q
  rw [List.lookup_cons] at q
  split at q
  · next e => cases q; rw [beq_iff_eq] at e; rw [e]; exact h
  · exact ht y b q
/-! ### except c as e: y = [isinstance(e, A), ..] -/
def tabL (t : List (Nat × List Bool)) (y : Nat) : Option (List Bool) := t.lookup y
theorem tabl_nil {P : Nat → List Bool → Prop} : ∀ y b, tabL [] y = some b → P y b := fun y b h => by cases h
theorem tabl_cons {P : Nat → List Bool → Prop} {k : Nat} {v : List Bool} {t : List (Nat × List Bool)} (h : P k v) (ht : ∀ y b, tabL t y = some b → P y b) : ∀ y b, tabL ((k, v) :: t) y = some b → P y b := fun y b q => by
  unfold tabL at q
  rw [List.lookup_cons] at q
  split at q
  · next e => cases q; rw [beq_iff_eq] at e; rw [e]; exact h
  · exact ht y b q
def sTryE (m : Nat → Option Bool) (i j : Nat) (bs : List (Nat × List Bool)) (body : Stm) : Stm := fun l S => match body l S with
  | .exc x l' S' => (match m x with
    | some true => (match tabL bs x with
      | some ys => if i < l'.length ∧ ys.length ≤ sizeLine then .next (((l'.set i none).set j (some (.lst (ys.map D.bl)))).set i none) S' else .bad
      | none => .bad)
    | some false => .exc x l' S'
    | none => .bad)
  | o => o
theorem exc_c {K : PySem.W.Frag} {D : Addr} (h : (decide (PySem.W.findIn K (.ref D) "__getattribute__" = some (some (.builtin "BaseException.__getattribute__"))) && (decide (PySem.W.findIn K (.ref D) "__getattr__" = some none) && (decide (PySem.W.subIn K (.ref D) (.type "BaseException") = some true) && (PySem.W.hasDictIn K D && (decide (PySem.W.findIn K (.ref D) "__class__" = some (some (.builtin "object.__class__"))) && (decide (PySem.W.specialIn K (.builtin "object.__class__") "__get__" = some (some (.builtin "getset_descriptor.__get__"))) && (decide (PySem.W.takesIn K (.builtin "object.__class__") = some true) && decide (PySem.W.mroIn K D (.type "object") = some true)))))))) = true) : ExcC K D := by
  simp only [Bool.and_eq_true, decide_eq_true_eq] at h
  obtain ⟨h1, h2, h3, h4, h5, h6, h7, h8⟩ := h
  exact ⟨h1, h2, h3, h4, h5, h6, h7, h8⟩
section
variable {X : Cx} {cl : Nat → Addr} {W : WX} {A : Stm} {body : List Stmt} {np pos pos' : Pos} {a : Addr} {oe : Obj} {pn : List (Addr × Obj)} {i : Nat} {es : List Expr} {ys : List Bool} {b : Bool} {D0 : Addr}
/-- a row of isinstance(e, ..), e the caught exception, at slot i -/
abbrev IE (X : Cx) (a : Addr) (oe : Obj) (pn : List (Addr × Obj)) (i : Nat) (es : List Expr) (ys : List Bool) : Prop := PA (X.suite a ((a, oe) :: pn)) es (fun σ H Q => σ[i]? = some (some (.ref a)) ∧ Q (ys.map V.bl) H)
theorem ie_nil : IE X a oe pn i [] [] := (pa_nil).imp fun σ H Q ⟨_, q⟩ => q
theorem ie_own {p p1 p2 pos : Pos} {n x : Str} {C2 : Addr} (hx : ExcC X.K D0) (hz : Zc (.ref D0) none oe) (hf : ∃ vs, oe.data = .fields vs) (hk : PySem.W.kitOne X.K (.ref D0) (.ref C2) = some b) (hN : X.N[i]? = some n) (hv : Vis X.env.scope n) (gi : Gl X "isinstance") (mi : X.mg "isinstance" = none) (hgx : Gl X x) (hmx : X.mg x = some (.ref C2))
    (ht : IE X a oe pn i es ys) (hd : (n == ("__debug__" : Str)) = false := by decide) (hcd : (n == ("__classdict__" : Str)) = false := by decide) (hdx : (x == ("__debug__" : Str)) = false := by decide)
    (hi : bootBuiltins "isinstance" = some (.builtin "isinstance") := by rfl) :
    IE X a oe pn i (.Call (.Name "isinstance" p) [.Name n p1, .Name x p2] [] pos :: es) (b :: ys) :=
  (pa_cons (pe_callB (X := X.suite a ((a, oe) :: pn)) (call_isE hx hz hf) gi mi hi (pa_cons (pe_var hN hv hd hcd) (pa_cons (pe_glob (v := .ref C2) hgx hmx rfl hdx) pa_nil))) ht).imp fun σ H Q ⟨e, q⟩ => ⟨_, e, .ref C2, .ref C2, b, rfl, fun u r => r, hk, e, q⟩
theorem ie_ty {p p1 p2 pos : Pos} {n x : Str} {T : String} (hx : ExcC X.K D0) (hz : Zc (.ref D0) none oe) (hf : ∃ vs, oe.data = .fields vs) (hk : PySem.W.kitOne X.K (.ref D0) (.type T) = some b) (hN : X.N[i]? = some n) (hv : Vis X.env.scope n) (gi : Gl X "isinstance") (mi : X.mg "isinstance" = none) (hgx : Gl X x) (hmx : X.mg x = none) (hvx : bootBuiltins x = some (.type T))
    (ht : IE X a oe pn i es ys) (hd : (n == ("__debug__" : Str)) = false := by decide) (hcd : (n == ("__classdict__" : Str)) = false := by decide) (hnx : x ≠ "__name__" := by decide) (hdx : (x == ("__debug__" : Str)) = false := by decide)
    (hi : bootBuiltins "isinstance" = some (.builtin "isinstance") := by rfl) :
    IE X a oe pn i (.Call (.Name "isinstance" p) [.Name n p1, .Name x p2] [] pos :: es) (b :: ys) :=
  (pa_cons (pe_callB (X := X.suite a ((a, oe) :: pn)) (call_isE hx hz hf) gi mi hi (pa_cons (pe_var hN hv hd hcd) (pa_cons (pe_bltn (v := .ty T) hgx hmx hvx rfl hnx hdx) pa_nil))) ht).imp fun σ H Q ⟨e, q⟩ => ⟨_, e, .ty T, .type T, b, rfl, fun u r => r, hk, e, q⟩
theorem LRel.drop {C : Ct} {ρ : List Addr} {F : Hp} {σ : L2.St} {l : Loc} (h : LRel C ρ F σ l) (i : Nat) (o : Option V) : LRel C ρ F (σ.set i o) (l.set i Option.none) := by
  refine ⟨by simp [h.1], fun j e he => ?_⟩
  by_cases hj : i = j
  · subst hj
    rw [List.getElem?_set] at he
    split at he
    · split at he <;> cases he
    · exact absurd rfl (by assumption)
  · rw [List.getElem?_set_ne hj] at he ⊢
    exact h.2 j e he
theorem rep_bls' {C : Ct} {ρ : List Addr} {F : Hp} : ∀ ys : List Bool, RepAll C ρ F (ys.map V.bl) (ys.map D.bl)
  | [] => .nil
  | y :: ys => .cons (.bl y) (rep_bls' ys)
theorem ds_tryE {c : Value} {x n y : Str} {els : List Expr} {j : Nat} {bs : List (Nat × List Bool)} {py lp ap : Pos} (m : Nat → Option Bool) (hm : ∀ y b, m y = some b → PySem.W.exmOne X.K (.ref (cl y)) c = some b) (hs : X.stack = X.env :: X.outer) (hf : X.env.frame = some X.env.locals)
    (hN : X.N.Nodup) (hi : X.N[i]? = some n) (hln : X.env.kindOf n = some .local) (hj : X.N[j]? = some y) (hly : X.env.scope.names.lookup y = some .local) (hc : Names X x c) (tk : Takes X W)
    (hb : ∀ (W' : WX) (pn : List (Addr × Obj)) (xe : Value → Shared → Prop), Takes (X.tr pn xe) W' → PassesOwn (model X.prog X.w) X.A X.env xe → DSs (X.tr pn xe) cl W' body A)
    (hel : ∀ (k : Nat) (ys : List Bool), tabL bs k = some ys → ∀ (a : Addr) (oe : Obj) (pn : List (Addr × Obj)), Zc (.ref (cl k)) none oe → (∃ vs, oe.data = .fields vs) → IE X a oe pn i els ys)
    (hsw : swapsWith (.List els lp) (some (.Name y py)) ap.line X.env = pure false := by rfl) :
    DS X cl W (.Try body [.ExceptHandler (some (.Name x np)) (some n) [.Assign [.Name y py] (.List els lp) ap] pos'] [] [] pos) (sTryE m i j bs A) :=
  (ps_try_as (i := i) (tb := fun W' => tS (cxt X cl) W' A) (ts := fun a cls d D σ H => ∃ k ys, cls = .ref (cl k) ∧ d = none ∧ tabL bs k = some ys ∧ σ[i]? = some (some (.ref a)) ∧ ys.length ≤ sizeLine ∧ ∀ p, H p = none → D.nx (σ.set j (some (.ref p))) (upd H p (.lst (ys.map V.bl)))) hs hf hN hi hln hc tk hb
    (fun a oe cls d pn hz hfi => ⟨fun pins s σ H D I ⟨k, ys, e1, e2, ht, hσ, hz2, q⟩ => by
      subst e1 e2
      refine (pss_one (ps_set (X := X.suite a ((a, oe) :: pn)) hN hj (.inl hly) (pe_lst (hel k ys ht a oe pn hz hfi)) hsw (.inr hly))).run pins s σ H D I ?_
      exact ⟨hσ, by rw [List.length_map]; exact hz2, q⟩⟩)).imp fun D σ H ⟨l, S, ρ, F, hl, R, h⟩ => by
    refine ⟨l, S, ρ, F, hl, R, ?_⟩
    unfold sTryE at h
    cases e : A l S with
    | exc y l' S' =>
      rw [e] at h
      intro ρ' F' H' σ' dd R' p f hl'
      simp only at h
      cases q : m y with
      | none => rw [q] at h; exact h.elim
      | some b =>
        refine ⟨b, hm y b q, fun hb => ?_, fun hb => ?_⟩
        · subst hb
          rw [q] at h
          intro a ha
          simp only at h
          cases q2 : tabL bs y with
          | none => rw [q2] at h; exact h.elim
          | some ys =>
            rw [q2] at h
            simp only at h
            split at h
            · next hz =>
              refine ⟨y, ys, rfl, rfl, q2, ?_, hz.2, fun r hr => ?_⟩
              · rw [List.getElem?_set_self (by rw [hl'.1]; exact hz.1)]
              · have R2 : Rel (cxt X cl) ρ' (upd F' r (.lst (ys.map V.bl))) S' (upd H' r (.lst (ys.map V.bl))) := R'.new hr
                have hF := le_upd (o := .lst (ys.map V.bl)) (R'.fnone hr)
                exact h ρ' _ _ _ R2 p (f.trans hF) ((((hl'.mono (List.prefix_refl _) hF).drop i (some (.ref a))).set j (.lst (.inl (.inl upd_same)) (rep_bls' ys))).drop i none)
            · exact h.elim
        · subst hb
          rw [q] at h
          exact h ρ' F' H' σ' () R' p f hl'
    | next l' S' => rw [e] at h; exact h
    | ret d S' => rw [e] at h; exact h
    | brk l' S' => rw [e] at h; exact h
    | cont l' S' => rw [e] at h; exact h
    | bad => rw [e] at h; exact h.elim
end
end DL

/-! DL17: dicts whose keys are whole numbers or texts; tuples ordered. -/
namespace DL
open PySem PySem.Spec PyProof.Rows L2
def keyOf : D → Option Key
  | .int i => some (.inl i)
  | .str s => some (.inr s)
  | _ => none
theorem keyOf_keyD (k : Key) : keyOf (keyD k) = some k := by cases k <;> rfl
def dicOf (S : Sto) : D → Option (List D)
  | .dic false es => some es
  | .ref n => (match S[n]? with
    | some (.dic false es) => some es
    | _ => none)
  | _ => none
def dget : List D → Key → Option D
  | [], _ => none
  | .tup [x, v] :: es, k => if keyOf x = some k then some v else dget es k
  | _ :: es, k => dget es k
def isKey (k : Key) : D → Bool
  | .tup [x, _] => decide (keyOf x = some k)
  | _ => false
def repKey (k : Key) (d : D) : D → D
  | .tup [x, v] => if keyOf x = some k then .tup [x, d] else .tup [x, v]
  | e => e
def dset (es : List D) (k : Key) (d : D) : List D := if es.any (isKey k) = true then es.map (repKey k d) else es ++ [.tup [keyD k, d]]
def keyE : D → D
  | .tup [x, _] => x
  | d => d
section
variable {C : Ct} {ρ : List Addr} {F H : Hp} {S : Sto}
theorem RepKV.look (k : Key) : ∀ {kvs : List (Key × V)} {es : List D}, RepKV C ρ F kvs es → (∀ d, dget es k = some d → ∃ v, valV kvs k = some v ∧ RepD C ρ F v d) ∧ (dget es k = none → valV kvs k = none)
  | _, _, .nil => ⟨fun d h => (by cases h), fun _ => rfl⟩
  | _, _, .cons (k := k') (v := v) (d := d) r t => by
    obtain ⟨h1, h2⟩ := RepKV.look k t
    unfold dget
    rw [keyOf_keyD]
    by_cases e : k' = k
    · rw [if_pos (by rw [e]), valV_pos (by exact e)]
      exact ⟨fun d h => (by cases h; exact ⟨_, rfl, r⟩), fun h => (by cases h)⟩
    · rw [if_neg (fun z => e (Option.some.inj z)), valV_neg (by exact e)]
      exact ⟨h1, h2⟩
theorem RepKV.any (k : Key) : ∀ {kvs : List (Key × V)} {es : List D}, RepKV C ρ F kvs es → es.any (isKey k) = kvs.any fun kv => decide (kv.1 = k)
  | _, _, .nil => rfl
  | _, _, .cons (k := k') (v := v) (d := d) r t => by
    rw [List.any_cons, List.any_cons, RepKV.any k t]
    show (decide (keyOf (keyD k') = some k) || _) = _
    rw [keyOf_keyD]
    congr 1
    by_cases e : k' = k
    · rw [decide_eq_true (by rw [e]), decide_eq_true (by exact e)]
    · rw [decide_eq_false (fun z => e (Option.some.inj z)), decide_eq_false (by exact e)]
theorem RepKV.rep {k : Key} {v' : V} {d' : D} (rv : RepD C ρ F v' d') : ∀ {kvs : List (Key × V)} {es : List D}, RepKV C ρ F kvs es → RepKV C ρ F (kvs.map fun kv => if kv.1 = k then (kv.1, v') else kv) (es.map (repKey k d'))
  | _, _, .nil => .nil
  | _, _, .cons (k := k') (v := v) (d := d) r t => by
    rw [List.map_cons, List.map_cons]
    show RepKV C ρ F _ ((if keyOf (keyD k') = some k then D.tup [keyD k', d'] else .tup [keyD k', d]) :: _)
    rw [keyOf_keyD]
    by_cases e : k' = k
    · rw [if_pos (by exact e), if_pos (by rw [e])]; exact .cons rv (RepKV.rep rv t)
    · rw [if_neg (by exact e), if_neg (fun z => e (Option.some.inj z))]; exact .cons r (RepKV.rep rv t)
theorem RepKV.snoc {k : Key} {v' : V} {d' : D} (rv : RepD C ρ F v' d') : ∀ {kvs : List (Key × V)} {es : List D}, RepKV C ρ F kvs es → RepKV C ρ F (kvs ++ [(k, v')]) (es ++ [.tup [keyD k, d']])
  | _, _, .nil => .cons rv .nil
  | _, _, .cons r t => .cons r (RepKV.snoc rv t)
theorem RepKV.put {k : Key} {v : V} {d : D} (rv : RepD C ρ F v d) {kvs : List (Key × V)} {es : List D} (r : RepKV C ρ F kvs es) : RepKV C ρ F (putK kvs k v) (dset es k d) := by
  unfold putK dset
  rw [r.any k]
  by_cases e : (kvs.any fun kv => decide (kv.1 = k)) = true
  · rw [if_pos e, if_pos e]; exact r.rep rv
  · rw [if_neg e, if_neg e]; exact r.snoc rv
theorem RepKV.len {kvs : List (Key × V)} {es : List D} (r : RepKV C ρ F kvs es) : kvs.length = es.length := by
  induction es generalizing kvs with
  | nil => cases r; rfl
  | cons e es ih => cases r with
    | cons _ t => simp [ih t]
theorem rep_keyD (k : Key) : RepD C ρ F (kV k) (keyD k) := by cases k with
  | inl i => exact .int i
  | inr s => exact .str s
theorem RepKV.keys : ∀ {kvs : List (Key × V)} {es : List D}, RepKV C ρ F kvs es → RepAll C ρ F (kvs.map fun kv => kV kv.1) (es.map keyE)
  | _, _, .nil => .nil
  | _, _, .cons _ t => .cons (rep_keyD _) (RepKV.keys t)
theorem rep_dic {v : V} {d : D} {es : List D} (R : Rel C ρ F S H) (r : RepD C ρ F v d) (h : dicOf S d = some es) : ∃ a kvs, v = .ref a ∧ Rd H a (.dK kvs) ∧ RepKV C ρ F kvs es := by
  cases r with
  | dicK hq rk => cases h; exact ⟨_, _, rfl, rd_mono R.fz hq, rk⟩
  | @ref a n he =>
    have h' : (match S[n]? with
      | some (.dic false es) => some es
      | _ => none) = some es := h
    split at h'
    · next xs es' =>
      cases h'
      obtain ⟨kvs, hv, rk⟩ := R.cell n a _ he es'
      exact ⟨a, kvs, rfl, .inl hv, rk⟩
    · cases h'
  | _ => cases h
theorem rep_key {v : V} {d : D} {k : Key} (r : RepD C ρ F v d) (h : keyOf d = some k) : v = kV k := by
  cases r with
  | int i => cases h; rfl
  | str s => cases h; rfl
  | _ => cases h
theorem satE.imp {W : WX} {σ : L2.St} {r : Res D} {Q Q' : VK} (h : satE C W ρ F σ r Q) (i : ∀ v H, Q v H → Q' v H) : satE C W ρ F σ r Q' := by
  cases r with
  | ok d S => exact fun ρ' F' H' v a b c e => i _ _ (h ρ' F' H' v a b c e)
  | exc x S => exact h
  | bad => exact h
theorem tE_mono {W : WX} {A : E} {σ : L2.St} {Q Q' : VK} (h : tE C W A σ H Q) (i : ∀ v H, Q v H → Q' v H) : tE C W A σ H Q' := by
  obtain ⟨l, S, ρ, F, hl, R, h⟩ := h
  exact ⟨l, S, ρ, F, hl, R, h.imp i⟩
end
def ixdD (x y : D) (S : Sto) : Res D := match dicOf S x, keyOf y with
  | some es, some k => (match dget es k with | some d => .ok d S | none => .bad)
  | _, _ => .bad
def indD (x y : D) (S : Sto) : Res D := match dicOf S y, keyOf x with
  | some es, some k => .ok (.bl (dget es k).isSome) S
  | _, _ => .bad
def nindD (x y : D) (S : Sto) : Res D := match dicOf S y, keyOf x with
  | some es, some k => .ok (.bl (!(dget es k).isSome)) S
  | _, _ => .bad
/-- tuples of whole numbers -/
def lttD (x y : D) (S : Sto) : Res D := match x, y with
  | .tup xs, .tup ys => (match asInts xs, asInts ys with
    | some ns, some ms => .ok (.bl (HT.lexLt ns ms)) S
    | _, _ => .bad)
  | _, _ => .bad
def cellD (S : Sto) : D → Option (Nat × List D)
  | .ref n => (match S[n]? with
    | some (.dic false es) => some (n, es)
    | _ => none)
  | _ => none
theorem cellD_some {S : Sto} {d : D} {n : Nat} {es : List D} (h : cellD S d = some (n, es)) : d = .ref n ∧ S[n]? = some (.dic false es) := by
  cases d with
  | ref m =>
    have h' : (match S[m]? with
      | some (.dic false es) => some (m, es)
      | _ => none) = some (n, es) := h
    split at h'
    · next ys es' => cases h'; exact ⟨rfl, es'⟩
    · cases h'
  | _ => exact nomatch h
def sSetD (A K V : E) : Stm := fun l S => (V l S).toS l fun v S1 => (A l S1).toS l fun x S2 => (K l S2).toS l fun y S3 => match cellD S3 x, keyOf y with
  | some (n, es), some k => if es.length < sizeLine then .next l (S3.set n (.dic false (dset es k v))) else .bad
  | _, _ => .bad
/-- {k: v} -/
def eDicM (K V : E) : E := fun l S => (K l (S ++ [.dic false []])).bind fun y S1 => (V l S1).bind fun d S2 => match keyOf y, S2[S.length]? with
  | some k, some (.dic false []) => .ok (.ref S.length) (S2.set S.length (.dic false [.tup [keyD k, d]]))
  | _, _ => .bad
def listdD (ds : List D) (S : Sto) : Res D := match ds with
  | [d] => (match dicOf S d with | some es => .ok (.lst (es.map keyE)) S | none => .bad)
  | _ => .bad
def listdDM (ds : List D) (S : Sto) : Res D := match ds with
  | [d] => (match dicOf S d with | some es => newCell (es.map keyE) S | none => .bad)
  | _ => .bad
section
variable {X : Cx} {cl : Nat → Addr} {W : WX} {A B K V' : E} {a b k v o i value : Expr} {pos pos' : Pos}
/-- {}, not changed -/
theorem de_dic0 : DE X cl W (.Dict [] [] pos) (eC (.dic false [])) := (pe_dnewK).imp fun σ H Q ⟨l, S, ρ, F, hl, R, h⟩ => by
  intro p hp
  exact h ρ _ _ _ (R.new hp) (List.prefix_refl _) (le_upd (R.fnone hp)) (.dicK (.inl upd_same) .nil)
/-- {}, to be changed -/
def eDicM0 : E := fun _ S => .ok (.ref S.length) (S ++ [.dic false []])
theorem de_dicM0 : DE X cl W (.Dict [] [] pos) eDicM0 := (pe_dnewK).imp fun σ H Q ⟨l, S, ρ, F, hl, R, h⟩ => by
  intro p hp
  have pr : ρ <+: ρ ++ [p] := List.prefix_append _ _
  refine h (ρ ++ [p]) F _ _ (R.lay hp ⟨[], upd_same, .nil⟩ (by intro z; cases z)) pr (Le.refl _) (.ref ?_)
  rw [← R.len]; exact ref_last
theorem de_ixd (hu : X.A.units + 64 < cLine) (ha : DE X cl W a A) (hb : DE X cl W b B) (hs : NoSl b := by intro _ _; rfl) : DE X cl W (.Subscript a b pos) (eOp2 ixdD A B) := (pe_dget (by omega) ha hb hs).imp fun σ H Q h => by
  refine tE_mono (tE_op2 h) fun x H1 q => tE_mono q fun y H2 ⟨ρ, F, S, σ', dx, dy, R, r1, r2, h⟩ => ?_
  unfold ixdD at h
  split at h
  · next es k h1 h2 =>
    split at h
    · next d hd =>
      obtain ⟨a, kvs, rfl, e, rk⟩ := rep_dic R r1 h1
      obtain ⟨v, e2, rv⟩ := (rk.look k).1 d hd
      exact ⟨a, v, rfl, .inl ⟨kvs, k, e, rep_key r2 h2, e2.symm⟩, h.now R rv⟩
    · exact h.elim
  · exact h.elim
theorem ind_run {C : Ct} {W : WX} {f : Option D → Bool} {x y : V} {H : Hp} {Q : VK} {g : D → D → Sto → Res D} (hg : ∀ dx dy S, g dx dy S = match dicOf S dy, keyOf dx with
    | some es, some k => .ok (.bl (f (dget es k))) S
    | _, _ => .bad) (h : rD2 C W g x y H Q) : ∃ a o d, y = .ref a ∧ DGet H a x o ∧ o.isSome = d.isSome ∧ Q (.bl (f d)) H := by
  obtain ⟨ρ, F, S, σ', dx, dy, R, r1, r2, h⟩ := h
  rw [hg] at h
  split at h
  · next es k h1 h2 =>
    obtain ⟨a, kvs, rfl, e, rk⟩ := rep_dic R r2 h1
    refine ⟨a, valV kvs k, dget es k, rfl, .inl ⟨kvs, k, e, rep_key r1 h2, rfl⟩, ?_, h.now R (.bl _)⟩
    obtain ⟨q1, q2⟩ := rk.look k
    cases e : dget es k with
    | none => rw [q2 e]; rfl
    | some d => obtain ⟨v, hv, _⟩ := q1 d e; rw [hv]; rfl
  · exact h.elim
theorem ind_of {C : Ct} {W : WX} {σ : L2.St} {H : Hp} {Q : VK} (h : tE C W (eOp2 indD A B) σ H Q) : tDIn (tE C W A) (tE C W B) σ H Q :=
  tE_mono (tE_op2 h) fun x H1 q => tE_mono q fun y H2 r => by
    obtain ⟨a, o, d, h1, h2, h3, h4⟩ := ind_run (f := fun o => o.isSome) (fun _ _ _ => rfl) r
    exact ⟨a, o, h1, h2, by rw [h3]; exact h4⟩
theorem nind_of {C : Ct} {W : WX} {σ : L2.St} {H : Hp} {Q : VK} (h : tE C W (eOp2 nindD A B) σ H Q) : tDNotIn (tE C W A) (tE C W B) σ H Q :=
  tE_mono (tE_op2 h) fun x H1 q => tE_mono q fun y H2 r => by
    obtain ⟨a, o, d, h1, h2, h3, h4⟩ := ind_run (f := fun o => !o.isSome) (fun _ _ _ => rfl) r
    exact ⟨a, o, h1, h2, by rw [h3]; exact h4⟩
theorem de_ind (hu : X.A.units + 64 < cLine) (ha : DE X cl W a A) (hb : DE X cl W b B) (hm : behindInMarks .In b = false := by first | exact nobehind _ (by decide) (by decide) | rfl) : DE X cl W (.Compare a [.In] [b] pos) (eOp2 indD A B) := (pe_cmp (pc_din (by omega) ha hb) hm).imp fun σ H Q h => ind_of h
theorem de_nind (hu : X.A.units + 64 < cLine) (ha : DE X cl W a A) (hb : DE X cl W b B) (hm : behindInMarks .NotIn b = false := by first | exact nobehind _ (by decide) (by decide) | rfl) : DE X cl W (.Compare a [.NotIn] [b] pos) (eOp2 nindD A B) := (pe_cmp (pc_dnotin (by omega) ha hb) hm).imp fun σ H Q h => nind_of h
theorem dt_ind (hu : X.A.units + 64 < cLine) (ha : DE X cl W a A) (hb : DE X cl W b B) (hm : behindInMarks .In b = false := by first | exact nobehind _ (by decide) (by decide) | rfl) : DT X cl W (.Compare a [.In] [b] pos) (tVal (eOp2 indD A B)) := (pt_cmp (pc_din (by omega) ha hb) hm).imp fun σ H Q h => ind_of (tB_of h)
theorem dt_nind (hu : X.A.units + 64 < cLine) (ha : DE X cl W a A) (hb : DE X cl W b B) (hm : behindInMarks .NotIn b = false := by first | exact nobehind _ (by decide) (by decide) | rfl) : DT X cl W (.Compare a [.NotIn] [b] pos) (tVal (eOp2 nindD A B)) := (pt_cmp (pc_dnotin (by omega) ha hb) hm).imp fun σ H Q h => nind_of (tB_of h)
theorem asInts_rep {C : Ct} {ρ : List Addr} {F : Hp} : ∀ {vs : List V} {xs : List D} {ns : List Int}, RepAll C ρ F vs xs → asInts xs = some ns → vs = ns.map V.int
  | _, [], ns, .nil, h => by cases h; rfl
  | _, x :: xs, ns, .cons r t, h => by
    cases r with
    | int i =>
      unfold asInts at h
      cases hq : asInts xs with
      | none => rw [hq] at h; cases h
      | some ms =>
        rw [hq] at h
        cases h
        rw [asInts_rep t hq]; rfl
    | _ => unfold asInts at h; cases h
theorem od_ltt (hu : X.A.units + 64 < cLine) : OpD X cl W (compareOp .Lt) lttD := (op_ltT (by omega)).weak fun x y H Q ⟨ρ, F, S, σ, dx, dy, R, r1, r2, h⟩ => by
  unfold lttD at h
  split at h
  · split at h
    · next ns ms h1 h2 =>
      cases r1 with
      | tup q1 t1 => cases r2 with
        | tup q2 t2 =>
          rw [asInts_rep t1 h1] at q1
          rw [asInts_rep t2 h2] at q2
          exact ⟨_, _, ns, ms, rfl, rfl, sqT_mono R.fz q1, sqT_mono R.fz q2, h.now R (.bl _)⟩
    · exact h.elim
  · exact h.elim
theorem ds_setd (hu : X.A.units + 64 < cLine) (ho : DE X cl W o A) (hi : DE X cl W i K) (hv : DE X cl W value V') (hs : swapsWith value (some (.Subscript o i pos')) pos.line X.env = pure false := by rfl) : DS X cl W (.Assign [.Subscript o i pos'] value pos) (sSetD A K V') := (ps_dput (by omega) ho hi hv hs).imp fun D σ H ⟨l, S, ρ, F, hl, R, h⟩ => by
  refine tE_stepX hl R (satS.x hl h) fun v S1 ρ1 F1 H1 u R1 hl1 r1 p1 f1 h1 => ?_
  refine tE_stepX hl1 R1 (satS.x hl1 (satS.mono p1 f1 h1)) fun x S2 ρ2 F2 H2 w R2 hl2 r2 p2 f2 h2 => ?_
  refine tE_stepX hl2 R2 (satS.x hl2 (satS.mono p2 f2 h2)) fun y S3 ρ3 F3 H3 z R3 hl3 r3 p3 f3 h3 => ?_
  have h4 := satS.mono p3 f3 h3
  split at h4
  · next n es k e1 e2 =>
    split at h4
    · next hz =>
      obtain ⟨rfl, hS⟩ := cellD_some e1
      cases r2.mono p3 f3 with
      | @ref q m he =>
        obtain ⟨kvs, hH, rk⟩ := R3.cell n q _ he hS
        exact ⟨q, _, rfl, .inl ⟨kvs, k, hH, rep_key r3 e2, by rw [rk.len]; exact hz, rfl⟩, h4 ρ3 F3 _ σ (R3.put (c' := .dic false (dset es k v)) he hS (by intro z; cases z) ⟨_, upd_same, rk.put ((r1.mono p2 f2).mono p3 f3)⟩ (by intro z; cases z)) (List.prefix_refl _) (Le.refl _) hl3⟩
    · exact h4.elim
  · exact h4.elim
theorem de_dicM (hk : DE X cl W k K) (hv : DE X cl W v V') : DE X cl W (.Dict [some k] [v] pos) (eDicM K V') := (pe_disp (trs := [(_, _)]) (pps_cons hk hv pps_nil) rfl rfl (by simp) (by simp)).imp fun σ H Q ⟨l, S, ρ, F, hl, R, h⟩ => by
  intro p hp
  have pr : ρ <+: ρ ++ [p] := List.prefix_append _ _
  have R0 : Rel (cxt X cl) (ρ ++ [p]) F (S ++ [.dic false []]) (upd H p (.dK [])) := R.lay hp ⟨[], upd_same, .nil⟩ (by intro z; cases z)
  have hl0 := hl.mono pr (Le.refl F)
  have ep : (ρ ++ [p])[S.length]? = some p := by rw [← R.len]; exact ref_last
  show tE (cxt X cl) W K σ _ fun x H1 => tE (cxt X cl) W V' σ H1 fun y H2 => _
  refine tE_stepX hl0 R0 (satE.x (satE.mono pr (Le.refl _) h)) fun y S1 ρ1 F1 H1 u R1 hl1 r1 p1 f1 h1 => ?_
  refine tE_stepX hl1 R1 (satE.x (satE.mono p1 f1 h1)) fun d S2 ρ2 F2 H2 w R2 hl2 r2 p2 f2 h2 => ?_
  have h3 := satE.mono p2 f2 h2
  show H2 p = some (.dK []) ∧ _
  split at h3
  · next kk e1 e2 =>
    have ep2 := pre_get p2 (pre_get p1 ep)
    obtain ⟨kvs, hH, rk⟩ := R2.cell _ _ _ ep2 e2
    cases rk
    refine ⟨hH, [(kk, w)], ?_, by simp, ?_⟩
    · rw [rep_key r1 e1]; rfl
    · exact h3 ρ2 F2 _ _ (R2.put (c' := .dic false [.tup [keyD kk, d]]) ep2 e2 (by intro z; cases z) ⟨_, upd_same, .cons r2 .nil⟩ (by intro z; cases z)) (List.prefix_refl _) (Le.refl _) (.ref ep2)
  · exact h3.elim
theorem cd_listd (hc : X.calm = true) : CallD X cl W (.type "list") listdD := (call_listD hc).weak fun xs H Q ⟨ρ, F, S, σ, ds, R, ra, h⟩ => by
  unfold listdD at h
  split at h
  · split at h
    · next es hs =>
      cases ra with
      | cons r t =>
        cases t
        obtain ⟨a, kvs, rfl, e, rk⟩ := rep_dic R r hs
        exact ⟨a, kvs, rfl, e, fun p hp => h.newL R rk.keys hp⟩
    · exact h.elim
  · exact h.elim
theorem cd_listdM (hc : X.calm = true) : CallD X cl W (.type "list") listdDM := (call_listD hc).weak fun xs H Q ⟨ρ, F, S, σ, ds, R, ra, h⟩ => by
  unfold listdDM at h
  split at h
  · split at h
    · next es hs =>
      cases ra with
      | cons r t =>
        cases t
        obtain ⟨a, kvs, rfl, e, rk⟩ := rep_dic R r hs
        exact ⟨a, kvs, rfl, e, fun p hp => h.newM R rk.keys hp⟩
    · exact h.elim
  · exact h.elim
end
end DL

/-! DL18: list(reversed(xs)). -/
namespace RT
open PySem PySem.Spec PyProof.Rows L2
section
variable {prog : Program} {w : World} {A : Around} {E : Value → Shared → Prop} {s : Shared}
theorem dl_extend_rev {R : Result → Shared → Prop} {S it l : Addr} {items : Array Value} (hh : A.handled = none) (hit : s.heap.IsRevIter it l ((items.size : Int) - 1)) (hl : s.heap.IsList l items) (hne : l ≠ it) (hn : items.size ≤ sizeLine) (hSi : S ≠ it) (hSl : S ≠ l) (res : Value) (c₀ : Nat)
    (hS : s.heap.get? S = some { cls := .type "list", data := .seq #[] c₀ })
    (hR : ∀ h' tk acc' c', (∀ b o, b ≠ S → b ≠ it → s.heap.get? b = some o → h'.get? b = some o) → h'.get? S = some { cls := .type "list", dict := none, data := .seq acc' c', slots := #[] } → ItemsOf (fun i v => items[items.size - 1 - i]? = some v) acc' items.size → R (.ok (.ret res)) { s with heap := h', toks := tk }) :
    wpAny (model prog w) A.in1 (Builtin.List.listExtendWith (.ref S) (.ref it) res)
      (fun fin s' => match fin with | .done f => R (.ok f) s' | .again c' => c'.quiet = true ∧ codeAny (model prog w) A c' R s') (fun e s' => R (.error e) s') s := by
  have hT : s.TypeIs (.ref it) "list_reverseiterator" := hit.typeIs
  have hSf : S ∉ [it, l] := by simp only [List.mem_cons, List.not_mem_nil, or_false, not_or]; exact ⟨hSi, hSl⟩
  have W := (Walks.listRev (prog := prog) (w := w) (A := A.in1) hh it l hne items).toS
  have h1 : Builtin.List.listSameRef (.ref S) (.ref it) = false := by simp [Builtin.List.listSameRef, hSi]
  unfold Builtin.List.listExtendWith
  refine wpAny_bind (wpAny_typeOf hT ?_)
  rw [if_neg (by rw [h1]; decide)]
  refine wpAny_bind (wpAny_pyIter_revIter hit ?_)
  refine wpAny_bind (wpAny_holding ?_)
  unfold Builtin.List.listLengthHint
  refine wpAny_bind (wpAny_specialOf hT nolen_lri ?_)
  show wpAny _ A.in1 (specialOf (Value.ref it) (Str.ofString "__length_hint__") >>= _) _ _ _
  refine wpAny_bind (wpAny_specialOf hT hint_lri ?_)
  generalize hid : ("list_reverseiterator.__length_hint__" : String) = id0
  wp_delta
  rw [show splitId id0 = some ("list_reverseiterator", "__length_hint__") from by subst hid; decide +kernel]
  subst hid
  refine wpAny_bind (wpAny_isInstance (b := true) hT (by rw [isSubtype_type]; kernel_rfl) ?_)
  refine wpAny_pure ?_
  rw [if_neg (by decide)]
  have e0 : ((items.size : Nat) : Int) - 1 - ((0 : Nat) : Int) = (items.size : Int) - 1 := by omega
  refine wpAny_pure ⟨plainId_quiet F.plain_extend_loop _, codeAny_extend_loopS W hn S hSf res items.size 0 _ #[] c₀ rfl (Nat.zero_le _) ⟨Nat.zero_le _, by rw [e0]; exact hit, hl⟩ hS (ItemsOf.nil _) fun s' acc' c' hm hS' hacc => ?_⟩
  rw [Moved.eq_with hm]
  refine hR s'.heap s'.toks acc' c' (fun b o hb hb2 e => hm.heap b o (fun hmem => ?_) e) hS' hacc
  rcases List.mem_cons.mp hmem with e' | hmem
  · exact hb e'
  · exact hb2 (List.mem_singleton.mp hmem)
theorem dl_call_list_rev {it l : Addr} {items : Array Value} {Q : Value → Shared → Prop} (hh : A.handled = none) (hit : s.heap.IsRevIter it l ((items.size : Int) - 1)) (hl : s.heap.IsList l items) (hne : l ≠ it) (hn : items.size ≤ sizeLine)
    (hQ : ∀ h' tk acc' c', (∀ b o, b ≠ it → s.heap.get? b = some o → h'.get? b = some o) → h'.get? s.heap.objs.size = some { cls := .type "list", dict := none, data := .seq acc' c', slots := #[] } → ItemsOf (fun i v => items[items.size - 1 - i]? = some v) acc' items.size → Q (.ref s.heap.objs.size) { s with heap := h', toks := tk }) :
    wpAny (model prog w) A (call (.type "list") [.ref it]) Q E s := by
  refine callType_codes (Q₁ := fun obj s₁ => obj = .ref s.heap.objs.size ∧ s₁ = { s with heap := s.heap.push { cls := .type "list", data := .seq #[] } }) PySem.F.called_list (PySem.F.typeCall_list_1 _) PySem.F.entry_list_init
    (code_list_new _ ⟨rfl, rfl⟩) fun obj s₁ h₁ => ?_
  obtain ⟨rfl, rfl⟩ := h₁
  have hS : (s.heap.push { cls := .type "list", data := .seq #[] }).get? s.heap.objs.size = some { cls := .type "list", data := .seq #[] } := Heap.get?_push_size _ rfl
  obtain ⟨oi, hoi, hoc, hod⟩ := id hit
  obtain ⟨ol, hol, _⟩ := id hl
  have hSi : s.heap.objs.size ≠ it := Nat.ne_of_gt (Heap.lt_size hoi)
  have hSl : s.heap.objs.size ≠ l := Nat.ne_of_gt (Heap.lt_size hol)
  refine ⟨⟨_, hS, rfl⟩, PySem.F.args_list_init_2 _ _, ?_⟩
  show wpAny _ _ (do let old ← Builtin.List.listItems (.ref s.heap.objs.size); Builtin.List.listUpdate (.ref s.heap.objs.size) (fun _ => #[]); letGo old.toList.reverse; Builtin.List.listExtendWith (.ref s.heap.objs.size) (.ref it) .none) _ _ _
  refine wpAny_bind ?_
  unfold Builtin.List.listItems
  refine wpAny_bind (wpAny_seqItems hS rfl (wpAny_pure ?_))
  show wpAny _ _ (updateSeq s.heap.objs.size (fun _ => #[]) >>= fun _ => letGo (#[] : Array Value).toList.reverse >>= fun _ => Builtin.List.listExtendWith (.ref s.heap.objs.size) (.ref it) .none) _ _ _
  refine wpAny_bind (wpAny_updateSeq hS rfl ?_)
  have hS₂ := Heap.get?_update_self (Obj.mapSeq (fun _ => (#[] : Array Value))) hS rfl
  have oth : ∀ b o, s.heap.get? b = some o → ((s.heap.push { cls := .type "list", data := .seq #[] }).update s.heap.objs.size (Obj.mapSeq (fun _ => (#[] : Array Value)))).get? b = some o :=
    fun b o e => (Heap.get?_update_other _ _ (Nat.ne_of_gt (Heap.lt_size e))).trans (Heap.get?_push_of_some _ e)
  refine wpAny_bind (wpAny_letGo ?_)
  refine dl_extend_rev (A := A.in1) hh (hit.at fun o e => oth _ o e) (hl.at fun o e => oth _ o e) hne hn hSi hSl .none _ hS₂ fun h' tk acc' c' hk hS' hacc => ?_
  exact ⟨rfl, hQ h' tk acc' c' (fun b o hb e => hk b o (Nat.ne_of_lt (Heap.lt_size e)) hb (oth b o e)) hS' hacc⟩
end
end RT
namespace DL
open PySem PySem.Spec PyProof.Rows L2
/-- list(reversed(x)), x a list -/
def tLstRev (K : PySem.W.Frag) (te : TE) : TE := fun σ H Q => te σ H fun v H1 => ∃ (a : Addr) (xs : List V), v = .ref a ∧ SqL K H1 a xs ∧ ∀ q, H1 q = none → Q (.ref q) (upd H1 q (.lst xs.reverse))
section
variable {X : Cx}
theorem pe_lstRev {e : Expr} {te : TE} {p p2 pos pos2 : Pos} (hc : X.calm = true) (hg : Gl X "list") (hm : X.mg "list" = none) (hg2 : Gl X "reversed") (hm2 : X.mg "reversed" = none) (he : PE X e te)
    (hs : starEach [e] X.env = (false, eval e X.env) :: starEach [] X.env := by rfl)
    (hs2 : starEach [.Call (.Name "reversed" p2) [e] [] pos2] X.env = (false, eval (.Call (.Name "reversed" p2) [e] [] pos2) X.env) :: starEach [] X.env := by rfl) :
    PE X (.Call (.Name "list" p) [.Call (.Name "reversed" p2) [e] [] pos2] [] pos) (tLstRev X.K te) := by
  refine ⟨fun pins s σ H Q I h => ?_⟩
  refine Call_ (ld_blt I hg hm boot_list (PyProof.Rows.callWith_type1 (args_cons (Call_ (ld_blt I hg2 hm2 PyProof.Rows.boot_reversed (PyProof.Rows.callWith_type1 (args_cons (thn (he.run pins s σ H _ I h) fun u s1 ⟨v, H1, I1, r1, q1⟩ => args_nil ?_) hs) hs rfl))) hs2) hs2 rfl))
  obtain ⟨a, xs, ev, hq, q⟩ := q1
  subst ev
  obtain rfl : u = Value.ref a := r1
  obtain ⟨its, rv, p', hz⟩ := I1.list hq
  refine call_reversed_list p'.isList (args_nil ?_)
  have k0 : ∀ b o, s1.heap.get? b = some o → (s1.heap.push (revObj a ((its.toArray.size : Int) - 1))).get? b = some o := fun b o e => Heap.get?_push_of_some _ e
  have I2 : Inv X pins σ H1 { s1 with heap := s1.heap.push (revObj a ((its.toArray.size : Int) - 1)) } := I1.kept (t' := s1.toks) k0
  have hl := p'.isList
  obtain ⟨ol, hol, _⟩ := id hl
  have hne : a ≠ s1.heap.objs.size := Nat.ne_of_lt (Heap.lt_size hol)
  have hn : its.toArray.size ≤ sizeLine := by rw [List.size_toArray, ← rv.length]; exact hz
  refine RT.dl_call_list_rev (s := { s1 with heap := s1.heap.push (revObj a ((its.toArray.size : Int) - 1)) }) (I1.ok.hd hc) ⟨_, Heap.get?_push_size _ rfl, rfl, rfl⟩ (hl.push _) hne hn fun h' tk acc c' hk hS hi => ?_
  have hnew : H1 (s1.heap.push (revObj a ((its.toArray.size : Int) - 1))).objs.size = none := I2.hok.fresh (Nat.le_refl _)
  have hz2 : (s1.heap.push (revObj a ((its.toArray.size : Int) - 1))).objs.size ≠ s1.heap.objs.size := by rw [Heap.size_push]; omega
  obtain ⟨f0, f1, f2, f3, f4, f5⟩ := I1.fpOk (H' := upd H1 (s1.heap.push (revObj a ((its.toArray.size : Int) - 1))).objs.size (.lst xs.reverse)) (b := s1.heap.objs.size) (Nat.le_refl _) (by rw [upd_ne (Ne.symm hz2)]; exact I1.hok.fresh (Nat.le_refl _))
  have I3 := I2.laid (a := (s1.heap.push (revObj a ((its.toArray.size : Int) - 1))).objs.size) (o := .lst xs.reverse) (h' := (s1.heap.push (revObj a ((its.toArray.size : Int) - 1))).push { cls := .type "list", dict := none, data := .seq acc c', slots := #[] }) (t' := tk) (fun c o e => Heap.get?_push_of_some _ e) (Nat.le_refl _)
    (show ObjOk X.prog X.w _ _ _ (.lst xs.reverse) from ⟨by rw [List.length_reverse]; exact hz, acc.toList, c', RT.vals_rev rv hi, by rw [Array.toArray_toList]; exact Heap.get?_push_size _ rfl⟩)
  refine ⟨.ref (s1.heap.push (revObj a ((its.toArray.size : Int) - 1))).objs.size, _, I3.turned (t' := tk) (fun b o hb e => ?_) f0 f1 f3 f4 f5, rfl, q _ hnew⟩
  by_cases hbs : b = (s1.heap.push (revObj a ((its.toArray.size : Int) - 1))).objs.size
  · subst hbs
    have e2 : ((s1.heap.push (revObj a ((its.toArray.size : Int) - 1))).push { cls := .type "list", dict := none, data := .seq acc c', slots := #[] }).get? (s1.heap.push (revObj a ((its.toArray.size : Int) - 1))).objs.size = some { cls := .type "list", dict := none, data := .seq acc c', slots := #[] } := Heap.get?_push_size _ rfl
    rw [e2] at e
    cases e
    exact hS
  · rcases Heap.get?_push_cases e with ⟨h1, _⟩ | h1
    · exact absurd h1 hbs
    · exact hk b o hb h1
end
def lstRevD (x : D) (S : Sto) : Res D := match listOf S x with
  | some xs => .ok (.lst xs.reverse) S
  | none => .bad
def lstRevDM (x : D) (S : Sto) : Res D := match listOf S x with
  | some xs => newCell xs.reverse S
  | none => .bad
/-- .. x a tuple -/
def lstRevT (x : D) (S : Sto) : Res D := match x with
  | .tup xs => .ok (.lst xs.reverse) S
  | _ => .bad
section
variable {X : Cx} {cl : Nat → Addr} {W : WX} {A : E} {e : Expr} {p p2 pos pos2 : Pos}
theorem de_lstRev (hc : X.calm = true) (hm : X.mg "list" = none) (hm2 : X.mg "reversed" = none) (ha : DE X cl W e A) (hg : Gl X "list" := by rfl) (hg2 : Gl X "reversed" := by rfl)
    (hs : starEach [e] X.env = (false, eval e X.env) :: starEach [] X.env := by rfl)
    (hs2 : starEach [.Call (.Name "reversed" p2) [e] [] pos2] X.env = (false, eval (.Call (.Name "reversed" p2) [e] [] pos2) X.env) :: starEach [] X.env := by rfl) :
    DE X cl W (.Call (.Name "list" p) [.Call (.Name "reversed" p2) [e] [] pos2] [] pos) (eOp1 lstRevD A) := (pe_lstRev hc hg hm hg2 hm2 ha hs hs2).imp fun σ H Q h => by
  refine tE_mono (tE_op1 h) fun v H1 ⟨ρ, F, S, σ', d, R, r, q⟩ => ?_
  unfold lstRevD at q
  split at q
  · next xs hx =>
    obtain ⟨a, vs, rfl, hq, ra⟩ := rep_list R r hx
    exact ⟨a, vs, rfl, hq, fun p hp => q.newL R ra.rev hp⟩
  · exact q.elim
theorem de_lstRevM (hc : X.calm = true) (hm : X.mg "list" = none) (hm2 : X.mg "reversed" = none) (ha : DE X cl W e A) (hg : Gl X "list" := by rfl) (hg2 : Gl X "reversed" := by rfl)
    (hs : starEach [e] X.env = (false, eval e X.env) :: starEach [] X.env := by rfl)
    (hs2 : starEach [.Call (.Name "reversed" p2) [e] [] pos2] X.env = (false, eval (.Call (.Name "reversed" p2) [e] [] pos2) X.env) :: starEach [] X.env := by rfl) :
    DE X cl W (.Call (.Name "list" p) [.Call (.Name "reversed" p2) [e] [] pos2] [] pos) (eOp1 lstRevDM A) := (pe_lstRev hc hg hm hg2 hm2 ha hs hs2).imp fun σ H Q h => by
  refine tE_mono (tE_op1 h) fun v H1 ⟨ρ, F, S, σ', d, R, r, q⟩ => ?_
  unfold lstRevDM at q
  split at q
  · next xs hx =>
    obtain ⟨a, vs, rfl, hq, ra⟩ := rep_list R r hx
    exact ⟨a, vs, rfl, hq, fun p hp => q.newM R ra.rev hp⟩
  · exact q.elim
end
end DL

/-! DL19: max of a list of whole numbers. -/
namespace DL
open PySem PySem.Spec PyProof.Rows L2
def maxLD (ds : List D) (S : Sto) : Res D := match ds with
  | [d] => (match listOf S d with
    | some xs => (match asInts xs with
      | some ns => (match ns.max? with
        | some m => .ok (.int m) S
        | none => .bad)
      | none => .bad)
    | none => .bad)
  | _ => .bad
section
variable {X : Cx} {cl : Nat → Addr} {W : WX}
theorem cd_maxl (hc : X.calm = true) : CallD X cl W (.builtin "max") maxLD := (cr_max hc).weak fun xs H Q ⟨ρ, F, S, σ, ds, R, ra, h⟩ => by
  unfold maxLD at h
  split at h
  · split at h
    · next xs' hs =>
      split at h
      · next ns hn =>
        split at h
        · next m hm =>
          cases ra with
          | cons r t =>
            cases t
            obtain ⟨a, vs, rfl, hq, rv⟩ := rep_list R r hs
            rw [asInts_rep rv hn] at hq
            refine ⟨a, ns, rfl, hq, ?_, fun m' h1 h2 => ?_⟩
            · cases ns with
              | nil => cases hm
              | cons _ _ => simp
            · have : ns.max? = some m' := List.max?_eq_some_iff.mpr ⟨h1, h2⟩
              rw [hm] at this
              cases this
              exact h.now R (.int _)
        · exact h.elim
      · exact h.elim
    · exact h.elim
  · exact h.elim
/-- x in y, y a dict or not -/
def inxD (x y : D) (S : Sto) : Res D := match dicOf S y with
  | some es => (match keyOf x with
    | some k => .ok (.bl (dget es k).isSome) S
    | none => .bad)
  | none => inD x y S
theorem od_inx (hu : X.A.units + 64 < cLine) : OpD X cl W (compareOp .In) inxD := by
  rintro pins s σ H x y v u Q I rx ry ⟨ρ, F, S, σ', dx, dy, R, r1, r2, h⟩
  unfold inxD at h
  split at h
  · next es he =>
    split at h
    · next k hk =>
      obtain ⟨a, o, d, h1, h2, h3, h4⟩ := ind_run (C := cxt X cl) (W := W) (x := x) (y := y) (H := H) (Q := Q) (g := indD) (f := fun o => o.isSome) (fun _ _ _ => rfl) ⟨ρ, F, S, σ', dx, dy, R, r1, r2, by unfold indD; rw [he, hk]; exact h⟩
      subst h1
      obtain rfl : u = Value.ref a := ry
      exact d_in (by omega) I h2 rx fun s3 I3 => ⟨.bl o.isSome, H, I3, rfl, by rw [h3]; exact h4⟩
    · exact h.elim
  · exact od_in hu pins s σ H x y v u Q I rx ry ⟨ρ, F, S, σ', dx, dy, R, r1, r2, h⟩
end
end DL

/-! DL20: len(set(xs)), xs whole numbers that all differ. -/
namespace DL
open PySem PySem.Spec PyProof.Rows L2
def lenSetD (x : D) (S : Sto) : Res D := match listOf S x with
  | some xs => (match asInts xs with
    | some ns => if ns.Nodup ∧ ns.length ≤ 4000 then .ok (.int (ns.length : Nat)) S else .bad
    | none => .bad)
  | none => .bad
section
variable {X : Cx} {cl : Nat → Addr} {W : WX} {A : E} {e : Expr} {p p2 pos q : Pos}
theorem de_lenSet (hc : X.calm = true) (hm : X.mg "len" = none) (hm2 : X.mg "set" = none) (ha : DE X cl W e A) (hg : Gl X "len" := by rfl) (hg2 : Gl X "set" := by rfl)
    (na : starEach [e] X.env = (false, eval e X.env) :: starEach [] X.env := by rfl) :
    DE X cl W (.Call (.Name "len" p) [.Call (.Name "set" p2) [e] [] q] [] pos) (eOp1 lenSetD A) := (RZ.pe_lenSetI hg hm hg2 hm2 ha hc na).imp fun σ H Q h => by
  refine tE_mono (tE_op1 h) fun v H1 ⟨ρ, F, S, σ', d, R, r, q⟩ => ?_
  unfold lenSetD at q
  split at q
  · next xs hx =>
    split at q
    · next ns hn =>
      split at q
      · next hb =>
        obtain ⟨a, vs, rfl, hq, ra⟩ := rep_list R r hx
        rw [asInts_rep ra hn] at hq
        exact ⟨a, ns, rfl, hq, hb.1, hb.2, q.now R (.int _)⟩
      · exact q.elim
    · exact q.elim
  · exact q.elim
end
end DL

/-! DL21: for x in a dict that is held: it is locked for the walk. -/
namespace DL
open PySem PySem.Spec PyProof.Rows L2
def nofrz : HO → Prop
  | .frz _ _ => False
  | _ => True
/-- what is told for reading alone -/
def RLe (F G : Hp) : Prop := ∀ a u, nofrz u → Rd F a u → Rd G a u
section
variable {C : Ct} {ρ : List Addr} {F G : Hp}
theorem sqL_r {a : Addr} {xs : List V} (e : RLe F G) (h : SqL C.K F a xs) : SqL C.K G a xs := by
  rcases h with h | h
  · exact .inl (e _ _ trivial h)
  · exact .inr h
theorem sqT_r {a : Addr} {xs : List V} (e : RLe F G) (h : SqT C.K F a xs) : SqT C.K G a xs := by
  rcases h with h | h
  · exact .inl (e _ _ trivial h)
  · exact .inr h
mutual
theorem RepD.rd (e : RLe F G) : ∀ {v : V} {d : D}, RepD C ρ F v d → RepD C ρ G v d
  | _, _, .non => .non
  | _, _, .bl b => .bl b
  | _, _, .int i => .int i
  | _, _, .str s => .str s
  | _, _, .tup h r => .tup (sqT_r e h) (RepAll.rd e r)
  | _, _, .lst h r => .lst (sqL_r e h) (RepAll.rd e r)
  | _, _, .dicK h r => .dicK (e _ _ trivial h) (RepKV.rd e r)
  | _, _, .dicT h r => .dicT (e _ _ trivial h) (RepKT.rd e r)
  | _, _, .exc h => .exc (e _ _ trivial h)
  | _, _, .ref h => .ref h
theorem RepAll.rd (e : RLe F G) : ∀ {vs : List V} {ds : List D}, RepAll C ρ F vs ds → RepAll C ρ G vs ds
  | _, _, .nil => .nil
  | _, _, .cons h r => .cons (RepD.rd e h) (RepAll.rd e r)
theorem RepKV.rd (e : RLe F G) : ∀ {vs : List (Key × V)} {ds : List D}, RepKV C ρ F vs ds → RepKV C ρ G vs ds
  | _, _, .nil => .nil
  | _, _, .cons h r => .cons (RepD.rd e h) (RepKV.rd e r)
theorem RepKT.rd (e : RLe F G) : ∀ {vs : List (List Key × V)} {ds : List D}, RepKT C ρ F vs ds → RepKT C ρ G vs ds
  | _, _, .nil => .nil
  | _, _, .cons h r => .cons (RepD.rd e h) (RepKT.rd e r)
end
theorem RepF.rd (e : RLe F G) {vs : List (Str × V)} {ds : List (Str × D)} (h : RepF C ρ F vs ds) : RepF C ρ G vs ds := by
  induction h with
  | nil => exact .nil
  | cons h _ ih => exact .cons (h.rd e) ih
theorem LRel.rd (e : RLe F G) {σ : L2.St} {l : Loc} (h : LRel C ρ F σ l) : LRel C ρ G σ l :=
  ⟨h.1, fun i d e1 => let ⟨v, e2, r⟩ := h.2 i d e1; ⟨v, e2, r.rd e⟩⟩
theorem rle_lock {a : Addr} {od : Obj} {u : HO} (h : F a = some u) (hu : nofrz u) : RLe F (upd F a (.frz od u)) := fun b v hv e => by
  by_cases hb : b = a
  · subst hb
    rcases e with e | ⟨o, e⟩
    · rw [h] at e; cases e; exact .inr ⟨od, upd_same⟩
    · rw [h] at e; cases e; exact hu.elim
  · rcases e with e | ⟨o, e⟩
    · exact .inl (by rw [upd_ne hb]; exact e)
    · exact .inr ⟨o, by rw [upd_ne hb]; exact e⟩
theorem rle_open {a : Addr} {od : Obj} {u : HO} (h : F a = some (.frz od u)) (hu : nofrz u) : RLe F (upd F a u) := fun b v hv e => by
  by_cases hb : b = a
  · subst hb
    rcases e with e | ⟨o, e⟩
    · rw [h] at e; cases e; exact hv.elim
    · rw [h] at e; cases e; exact .inl upd_same
  · rcases e with e | ⟨o, e⟩
    · exact .inl (by rw [upd_ne hb]; exact e)
    · exact .inr ⟨o, by rw [upd_ne hb]; exact e⟩
/-- a frozen thing is told otherwise -/
theorem Rel.swap {H : Hp} {S : Sto} (R : Rel C ρ F S H) {a : Addr} {u v : HO} (h : F a = some u) (e : RLe F (upd F a v)) : Rel C ρ (upd F a v) S (upd H a v) := by
  have ne : ∀ (i : Nat) (b : Addr) (c : Cell), ρ[i]? = some b → S[i]? = some c → c ≠ .dead → b ≠ a := fun i b c h1 h2 h3 z => by
    subst z
    have := R.apart i b c h1 h2 h3
    rw [h] at this
    cases this
  refine ⟨fun b o q => ?_, R.len, fun i b c h1 h2 => ?_, fun i b c h1 h2 h3 => ?_, R.inj⟩
  · by_cases hb : b = a
    · subst hb; rw [upd_same] at q ⊢; exact q
    · rw [upd_ne hb] at q ⊢; exact R.fz _ _ q
  · have q := R.cell i b c h1 h2
    by_cases hd : c = .dead
    · subst hd; trivial
    have hb := ne i b c h1 h2 hd
    match c, q, hd with
    | .lst xs, ⟨vs, h, r⟩, _ => exact ⟨vs, by rw [upd_ne hb]; exact h, r.rd e⟩
    | .dic false es, ⟨kvs, h, r⟩, _ => exact ⟨kvs, by rw [upd_ne hb]; exact h, r.rd e⟩
    | .dic true es, ⟨kvs, h, r⟩, _ => exact ⟨kvs, by rw [upd_ne hb]; exact h, r.rd e⟩
    | .ins c fs, ⟨dx, vfs, h, r⟩, _ => exact ⟨dx, vfs, by rw [upd_ne hb]; exact h, r.rd e⟩
  · rw [upd_ne (ne i b c h1 h2 h3)]
    exact R.apart i b c h1 h2 h3
end
/-- no exception passes -/
def noX : Out → Out
  | .exc _ _ _ => .bad
  | o => o
def lockD (d : Addr) (od : Obj) (u : HO) (D : Ends) : Ends := ⟨fun σ' H' => H' d = some (.frz od u) ∧ D.nx σ' (upd H' d u), fun v H' => H' d = some (.frz od u) ∧ D.rt v (upd H' d u), fun σ' H' => H' d = some (.frz od u) ∧ D.bk σ' (upd H' d u), fun σ' H' => H' d = some (.frz od u) ∧ D.ct σ' (upd H' d u)⟩
theorem satS_lock {C : Ct} {W : WX} {ρ : List Addr} {F : Hp} {r : Out} {D : Ends} {d : Addr} {od : Obj} {u : HO} (h : F d = some u) (hu : nofrz u) (s : satS C W ρ F (noX r) D) : satS C W ρ (upd F d (.frz od u)) r (lockD d od u D) := by
  have le : ∀ {F' : Hp}, Le (upd F d (.frz od u)) F' → F' d = some (.frz od u) ∧ Le F (upd F' d u) := fun {F'} l => by
    have e : F' d = some (.frz od u) := l _ _ upd_same
    refine ⟨e, fun b o q => ?_⟩
    by_cases hb : b = d
    · subst hb; rw [h] at q; rw [upd_same]; exact q
    · rw [upd_ne hb]; exact l _ _ (by rw [upd_ne hb]; exact q)
  cases r with
  | next l S => exact fun ρ' F' H' σ' R p f hl => let ⟨e, k⟩ := le f; ⟨R.fz _ _ e, s ρ' _ _ σ' (R.swap e (rle_open e hu)) p k (hl.rd (rle_open e hu))⟩
  | ret d' S => exact fun ρ' F' H' v R p f hr => let ⟨e, k⟩ := le f; ⟨R.fz _ _ e, s ρ' _ _ v (R.swap e (rle_open e hu)) p k (hr.rd (rle_open e hu))⟩
  | brk l S => exact fun ρ' F' H' σ' R p f hl => let ⟨e, k⟩ := le f; ⟨R.fz _ _ e, s ρ' _ _ σ' (R.swap e (rle_open e hu)) p k (hl.rd (rle_open e hu))⟩
  | cont l S => exact fun ρ' F' H' σ' R p f hl => let ⟨e, k⟩ := le f; ⟨R.fz _ _ e, s ρ' _ _ σ' (R.swap e (rle_open e hu)) p k (hl.rd (rle_open e hu))⟩
  | exc x l S => exact s.elim
  | bad => exact s.elim
theorem itOk_keys {C : Ct} {ρ1 : List Addr} {F1 : Hp} {d : Addr} {o : Obj} {kvs : List (Key × V)} {es : List D} (h : F1 d = some (.frz o (.dK kvs))) (r : RepKV C ρ1 F1 kvs es) : ItOk C (Itk d o kvs) ρ1 F1 ⟨es.map keyE, fun _ => True⟩ := fun ρ F S H i p f R _ => by
  have hH : H d = some (.frz o (.dK kvs)) := R.fz _ _ (f _ _ h)
  have hlen := r.len
  refine ⟨fun hi => ⟨hH, by simpa [hlen] using hi⟩, fun x hx => ?_⟩
  obtain ⟨v, e1, rv⟩ := r.keys.get hx
  rw [List.getElem?_map] at e1
  cases e2 : kvs[i]? with
  | none => rw [e2] at e1; cases e1
  | some kv =>
    rw [e2] at e1
    cases e1
    refine ⟨⟨hH, (List.getElem?_eq_some_iff.mp e2).1⟩, fun y H' ⟨e3, k, v', e4, e5⟩ => ?_⟩
    subst e3
    rw [e2] at e4
    cases e4
    subst e5
    exact ⟨F, Le.refl _, R, rv.mono p f⟩
section
variable {X : Cx} {cl : Nat → Addr} {W : WX} {A : E} {G : GD} {body : Stm} {tg iter : Expr} {sts : List Stmt} {pos : Pos} {ix : List Nat}
/-- the turns, from what is told of them -/
theorem for_core {C : Ct} {D : Ends} {J : It} {q : Seqn} {ρ1 : List Addr} {F1 : Hp} {H1 : Hp} {σ : L2.St} {l : Loc} {S1 : Sto} (ok : ItOk C J ρ1 F1 q) (hl : LRel C ρ1 F1 σ l) (R1 : Rel C ρ1 F1 S1 H1) (h1 : satS C W ρ1 F1 (forL q.gd G body q.items l S1) D) :
    ∃ Wv : Nat → Nat → L2.St → Hp → Prop, (∃ m, Wv 0 m σ H1) ∧ ∀ i m σ H, Wv i m σ H →
      (J.stop i H ∧ D.nx σ H) ∨ (J.go i H ∧ ∃ N : L2.St → Hp → Prop, (∀ σ' H', N σ' H' → ∃ m', m' < m ∧ Wv (i + 1) m' σ' H') ∧ ∀ x H', J.yld i H x H' → tG C ix G x σ H' fun σ2 H2 => tS C W body { D with nx := N, ct := N, bk := D.nx } σ2 H2) := by
  refine ⟨fun i m σ H => m = q.items.length - i ∧ i ≤ q.items.length ∧ ∃ l S ρ F, LRel C ρ F σ l ∧ Rel C ρ F S H ∧ ρ1 <+: ρ ∧ Le F1 F ∧ satS C W ρ F (forL q.gd G body (q.items.drop i) l S) D, ⟨_, rfl, Nat.zero_le _, l, S1, ρ1, F1, hl, R1, List.prefix_refl _, Le.refl _, h1⟩, ?_⟩
  rintro i m σ H ⟨rfl, hi, l, S, ρ, F, hl, R, p, f, h⟩
  by_cases hlt : i < q.items.length
  · obtain ⟨d, hd⟩ : ∃ d, q.items[i]? = some d := ⟨_, List.getElem?_eq_getElem hlt⟩
    rw [drop_at hd] at h
    unfold forL at h
    split at h
    · next g =>
      obtain ⟨_, ok2⟩ := ok ρ F S H i p f R g
      obtain ⟨go, yl⟩ := ok2 d hd
      refine .inr ⟨go, _, fun σ' H' h' => ⟨q.items.length - (i + 1), by omega, rfl, hlt, h'⟩, fun x H' y => ?_⟩
      obtain ⟨F', f', R', r'⟩ := yl x H' y
      refine ⟨l, S, ρ, F', d, hl.mono (List.prefix_refl _) f', R', r', ?_⟩
      have h2 := h.mono (List.prefix_refl _) f'
      cases e : G d l S with
      | none => rw [e] at h2; exact h2.elim
      | some q2 =>
        obtain ⟨l1, S2⟩ := q2
        rw [e] at h2
        intro ρ2 F2 H2 σ2 R2 p2 f2 hl2 _
        refine ⟨l1, S2, ρ2, F2, hl2, R2, ?_⟩
        have h3 := h2.mono p2 f2
        dsimp only at h3
        have hle : Le F1 F2 := (f.trans f').trans f2
        cases e2 : body l1 S2 with
        | next l3 S3 =>
          rw [e2] at h3
          exact fun ρ' F'' H'' σ' R'' p' f'' hl' => ⟨l3, S3, ρ', F'', hl', R'', (p.trans p2).trans p', hle.trans f'', h3.mono p' f''⟩
        | cont l3 S3 =>
          rw [e2] at h3
          exact fun ρ' F'' H'' σ' R'' p' f'' hl' => ⟨l3, S3, ρ', F'', hl', R'', (p.trans p2).trans p', hle.trans f'', h3.mono p' f''⟩
        | brk l3 S3 => rw [e2] at h3; exact h3
        | ret v S3 => rw [e2] at h3; exact h3
        | exc x l3 S3 => rw [e2] at h3; exact h3
        | bad => rw [e2] at h3; exact h3
    · exact h.elim
  · have hdr : q.items.drop i = [] := List.drop_eq_nil_of_le (by omega)
    rw [hdr] at h
    unfold forL at h
    split at h
    · next g =>
      obtain ⟨st, _⟩ := ok ρ F S H i p f R g
      exact .inl ⟨st (by omega), h ρ F H σ R (List.prefix_refl _) (Le.refl _) hl⟩
    · exact h.elim
/-- for x in i, i a name of a dict that is held -/
noncomputable def sForD (i : Nat) (G : GD) (body : Stm) : Stm := fun l S => match l[i]? with
  | some (some (.dic false es)) => noX (forL (fun _ => True) G body (es.map keyE) l S)
  | _ => .bad
theorem pvN (i : Nat) {x : Str} {pos : Pos} (hN : X.N[i]? = some x := by rfl) (hv : Vis X.env.scope x := by first | exact Or.inl rfl | exact Or.inr (Or.inl rfl) | exact Or.inr (Or.inr rfl)) (hd : (x == ("__debug__" : Str)) = false := by decide)
    (hcd : (x == ("__classdict__" : Str)) = false := by decide) : PE X (.Name x pos) (tVar i) := pe_var hN hv hd hcd
theorem ps_orlock {st : Stmt} {t : TS} (h : PS X st t) : PS X st (fun D σ H => tLock t D σ H ∨ t D σ H) :=
  ⟨fun pins s σ H D I q => q.elim (fun q => (ps_lock h).run pins s σ H D I q) fun q => h.run pins s σ H D I q⟩
theorem satS_noX {C : Ct} {W : WX} {ρ : List Addr} {F : Hp} {r : Out} {D : Ends} (s : satS C W ρ F (noX r) D) : satS C W ρ F r D := by
  cases r <;> first | exact s | exact s.elim
theorem ds_forD {i : Nat} (hp : PassesOwn (model X.prog X.w) X.A X.env X.xe) (hc : X.calm = true) (hi : PE X iter (tVar i)) (hg : DG X cl ix tg G) (hb : DSs X cl W sts body) (hs : ∀ x, foldedSetIterable iter X.env x = pure x := by intro _; rfl) :
    DS X cl W (.For tg iter sts [] pos) (sForD i G body) := (ps_orlock (ps_for hp hc (pi_keys hi) hg hb hs)).imp fun D σ H ⟨l, S, ρ, F, hl, R, h⟩ => by
  unfold sForD at h
  split at h
  · next es he =>
    obtain ⟨v, hv, r⟩ := hl.2 i _ he
    cases r with
    | @dicK a kvs _ hq rk =>
      rcases hq with hq | ⟨o, hq⟩
      · refine .inl ⟨a, .dK kvs, R.fz _ _ hq, trivial, fun od => ?_⟩
        have e := rle_lock (od := od) hq trivial
        refine ⟨_, hv, a, od, rfl, .inl ⟨kvs, upd_same, ?_⟩⟩
        exact for_core (q := ⟨es.map keyE, fun _ => True⟩) (itOk_keys upd_same (rk.rd e)) (hl.rd e) (R.swap hq e) (satS_lock hq trivial h)
      · exact .inr ⟨_, hv, a, o, rfl, .inl ⟨kvs, R.fz _ _ hq, for_core (q := ⟨es.map keyE, fun _ => True⟩) (itOk_keys hq rk) hl R (satS_noX h)⟩⟩
  · exact h.elim
end
end DL

/-! DL22: list.remove over data. -/
namespace DL
open PySem PySem.Spec PyProof.Rows L2
def remAt (S : Sto) (xs : List D) (y : D) : Option Nat := (drs S xs).findIdx? fun z => eqD z (dr S y)
def removeD (x : D) (ds : List D) (S : Sto) : Res D := match ds with
  | [y] => (match cellL S x with
    | some (n, xs) => if (flatOk S y && decide (dps (drs S xs) ≤ 60)) = true then (match remAt S xs y with
      | some j => .ok .non (S.set n (.lst (xs.eraseIdx j)))
      | none => .bad) else .bad
    | none => .bad)
  | _ => .bad
theorem place_pds {S : Sto} {x : D} (hx : dp (dr S x) < 1000) : ∀ {ys : List D}, dps ys < 1000 → SeqAt.dataPlace (pds ys) (pd (dr S x)) = ys.findIdx? fun z => eqD z (dr S x)
  | [], _ => by unfold pds; rfl
  | y :: ys, h => by
    unfold dps at h
    unfold pds SeqAt.dataPlace
    rw [List.findIdx?_cons, List.findIdx?_cons, eqv_pd _ _ (by omega) hx]
    have := place_pds hx (ys := ys) (by omega)
    unfold SeqAt.dataPlace at this
    rw [this]
section
variable {X : Cx} {cl : Nat → Addr} {W : WX}
theorem md_remove (hu : X.A.units + 64 < cLine) : MtD X cl W "list.remove" removeD := by
  intro pins s σ H x xs v us Q I rx rxs ⟨ρ, F, S, σ', d, ds, R, r, ra, h⟩
  unfold removeD at h
  split at h
  · next y =>
    split at h
    · next n ys hc =>
      split at h
      · next hk =>
        rw [Bool.and_eq_true] at hk
        have h1 := of_decide_eq_true hk.1
        have h2 := of_decide_eq_true hk.2
        split at h
        · next j hj =>
          obtain ⟨a, vs, rfl, he, hS, hH, rv⟩ := rep_cell R r hc
          cases ra with
          | cons ry t =>
            cases t
            cases rx
            obtain ⟨u, rfl, ru⟩ := rxs.one
            obtain ⟨bs, q1⟩ := Dp.reads I _ _ _ (rep_Dp R _ _ _ (Nat.lt_succ_self _) ry (by omega)) ru
            obtain ⟨p1, l1⟩ := pd_plain (dr S y) (by omega)
            obtain ⟨p2, l2⟩ := pds_plain (drs S ys) (by omega)
            obtain ⟨z, its, m, rr, hl, e⟩ := I.lstM hH
            obtain ⟨as, q2⟩ := Dp.readsAll I _ _ _ (rep_DpAll R rv (by omega)) rr
            have hp : SeqAt.dataPlace (pds (drs S ys)) (pd (dr S y)) = some j := by rw [place_pds (by omega) (by omega)]; exact hj
            refine SeqAt.remove_list_data (l := a) (vs := its.toArray) (xs := pds (drs S ys)) (d := pd (dr S y)) ⟨_, e, rfl, _, rfl⟩ (by simpa using q2) q1 p2 p1 (by omega) hp (by rw [List.size_toArray]; omega) ?_
            have rj := rr.eraseIdx j
            refine ⟨.non, _, I.lset (its' := its.eraseIdx j) (t' := s.toks) hH e ?_ rj ?_, rfl, h.putL R he hS (rv.erase j) .non⟩
            · show its.toArray.eraseIdxIfInBounds j = (its.eraseIdx j).toArray
              rw [List.eraseIdxIfInBounds_toArray]
            · exact Nat.le_trans (by rw [List.length_eraseIdx]; split <;> omega) z
        · exact h.elim
      · exact h.elim
    · exact h.elim
  · exact h.elim
end
end DL

/-! DL23: tuple(range(n)). -/
namespace DL
open PySem PySem.Spec PyProof.Rows L2
def tupRgD (x : D) (S : Sto) : Res D := match x with
  | .int n => if 0 ≤ n ∧ n ≤ 1000 then .ok (.tup (rangeI 0 n.toNat)) S else .bad
  | _ => .bad
theorem rep_rg {C : Ct} {ρ : List Addr} {F : Hp} (n : Int) : RepAll C ρ F (rgV 0 n) (rangeI 0 n.toNat) := by
  unfold rgV rangeI
  rw [Int.sub_zero]
  induction List.range n.toNat with
  | nil => exact .nil
  | cons i l ih => exact .cons (.int _) ih
section
variable {X : Cx} {cl : Nat → Addr} {W : WX} {A : E} {e : Expr} {p p2 pos q : Pos}
theorem de_tupRg (hc : X.calm = true) (hm : X.mg "tuple" = none) (hm2 : X.mg "range" = none) (ha : DE X cl W e A) (hg : Gl X "tuple" := by rfl) (hg2 : Gl X "range" := by rfl)
    (na : starEach [e] X.env = (false, eval e X.env) :: starEach [] X.env := by rfl)
    (na2 : starEach [.Call (.Name "range" p2) [e] [] q] X.env = (false, eval (.Call (.Name "range" p2) [e] [] q) X.env) :: starEach [] X.env := by rfl) :
    DE X cl W (.Call (.Name "tuple" p) [.Call (.Name "range" p2) [e] [] q] [] pos) (eOp1 tupRgD A) := (pe_tupRg hc hg hm (prg_1 hg2 hm2 ha na) na2).imp fun σ H Q h => by
  refine tE_mono (tE_op1 h) fun v H1 ⟨ρ, F, S, σ', d, R, r, q⟩ => ?_
  unfold tupRgD at q
  split at q
  · next n =>
    split at q
    · next hn =>
      cases r
      refine ⟨n, rfl, RgOk.of_le (by decide) (by omega) (by decide) hn.1, fun p hp => ?_⟩
      exact q ρ _ _ _ (R.new hp) (List.prefix_refl _) (le_upd (R.fnone hp)) (.tup (SqT.of upd_same) (rep_rg n))
    · exact q.elim
  · exact q.elim
end
end DL

/-! DL24: xs + ys as a new live list. -/
namespace DL
open PySem PySem.Spec PyProof.Rows L2
def addDM (x y : D) (S : Sto) : Res D := match listOf S x, listOf S y with
  | some xs, some ys => if xs.length + ys.length ≤ sizeLine then newCell (xs ++ ys) S else .bad
  | _, _ => .bad
section
variable {X : Cx} {cl : Nat → Addr} {W : WX}
theorem od_addM : OpD X cl W (binaryOp .Add) addDM := by
  refine op_catL.weak ?_
  rintro x y H Q ⟨ρ, F, S, σ, dx, dy, R, r1, r2, h⟩
  unfold addDM at h
  split at h
  · next xs ys e1 e2 =>
    split at h
    · next hz =>
      obtain ⟨a, vs, rfl, ha, ra⟩ := rep_list R r1 e1
      obtain ⟨b, us, rfl, hb, rb⟩ := rep_list R r2 e2
      have l1 := ra.len
      have l2 := rb.len
      exact ⟨a, b, vs, us, rfl, rfl, ha, hb, by omega, fun p hp => h.newM R (ra.app rb) hp⟩
    · exact h.elim
  · exact h.elim
end
end DL

/-! DL25: list(reversed(t)), t a tuple. -/
namespace RT
open PySem PySem.Spec PyProof.Rows L2
theorem nolen_rt : typeLookup (.type "reversed") "__len__" = pure none := by rw [typeLookup_type, builtinLookup_eq_fast]; kernel_rfl
theorem slot_rt_hint : Slot "reversed" "__length_hint__" "reversed.__length_hint__" :=
  .of (owner := "reversed") (n := "__length_hint__") (by rw [typeLookup_type, builtinLookup_eq_fast]; kernel_rfl) (by decide +kernel) (by decide +kernel) (by decide +kernel)
    (by first | exact .inl (by decide +kernel) | exact .inr (by decide +kernel)) (by rw [isSubtype_type]; kernel_rfl)
theorem entry_rt_hint : entryFor table "reversed.__length_hint__" = some Builtin.«reversed.__length_hint__» := entryFor_of_tree (by kernel_rfl)
theorem args_rt_hint (a : Value) : argsOk "reversed.__length_hint__" ⟨[a], []⟩ := by
  unfold argsOk; rw [signature?_of (id := "reversed.__length_hint__") (n := ['_', '_', 't', 'n', 'i', 'h', '_', 'h', 't', 'g', 'n', 'e', 'l', '_', '_']) (o := ['d', 'e', 's', 'r', 'e', 'v', 'e', 'r']) (by kernel_rfl) owner_rt]; kernel_rfl
section
variable {prog : Program} {w : World} {A : Around} {E : Value → Shared → Prop} {s : Shared}
theorem dl_hint_rt {it t : Addr} {items : Array Value} {Q : Bool → Shared → Prop} (hit : IsRt s.heap it t ((items.size : Int) - 1)) (ht : IsTup s.heap t items) (hn : items.size ≤ sizeLine)
    (h : ∀ tk, Q ((items.size : Int) != 0) { s with toks := tk }) : wpAny (model prog w) A (Builtin.List.listLengthHint (.ref it)) Q E s := by
  have hT : s.TypeIs (.ref it) "reversed" := hit.typeIs
  obtain ⟨o, ho, hc, hd⟩ := id hit
  rw [sizeLine_eq] at hn
  unfold Builtin.List.listLengthHint
  refine wpAny_bind (wpAny_specialOf hT nolen_rt ?_)
  show wpAny _ A (specialOf (Value.ref it) (Str.ofString "__length_hint__") >>= _) _ _ _
  refine wpAny_bind (wpAny_specialOf hT slot_rt_hint.lookup ?_)
  generalize hid : ("reversed.__length_hint__" : String) = id0
  wp_delta
  rw [show splitId id0 = some ("reversed", "__length_hint__") from by subst hid; decide +kernel]
  subst hid
  refine wpAny_bind (wpAny_isInstance (b := true) hT (by rw [isSubtype_type]; kernel_rfl) ?_)
  refine wpAny_ite_split (fun hab => absurd hab (by decide)) (fun _ => ?_)
  refine wpAny_ite_split (fun hab => absurd hab (by decide +kernel)) (fun _ => ?_)
  refine wpAny_bind (wpAny_rule ?_)
  refine wpAny_bind (wpAny_of_eq (slot_rt_hint.bind _) ?_)
  refine wpAny_bind (wpAny_attempt (wpAny_call_entry slot_rt_hint hT entry_rt_hint ?_ (args_rt_hint _)))
  unfold Builtin.«reversed.__length_hint__»
  have hf0 : (Value.ref t == Value.none) = false := rfl
  refine wpAny_bind (wpAny_of_eq (a := Value.ref it) rfl ?_)
  try dsimp only
  refine wpAny_bind (wpAny_field ho hd (x := .ref t) rfl ?_)
  rw [if_neg (by rw [hf0]; decide)]
  refine wpAny_bind (len_tuple ht (by omega) ?_)
  refine wpAny_bind (wpAny_of_eq (a := some ((items.size : Nat) : Int)) rfl ?_)
  try dsimp only
  refine wpAny_bind (wpAny_field (s := { s with toks := s.toks + 1 + 1 }) ho hd (x := rawInt ((items.size : Int) - 1)) rfl ?_)
  show wpAny _ _ (if (items.size : Int) < (items.size : Int) - 1 + 1 then _ else _) _ _ _
  rw [if_neg (by omega)]
  show wpAny _ _ (mkInt ((items.size : Int) - 1 + 1) >>= fun v => ret v) _ _ _
  have e1 : ((items.size : Nat) : Int) - 1 + 1 = ((items.size : Nat) : Int) := by omega
  rw [e1]
  refine wpAny_bind (wpAny_mkInt (wpAny_pure ⟨_, rfl, ?_⟩))
  dsimp only
  have f1 : Builtin.List.listFitsIndex ((items.size : Nat) : Int) = true := by simp [Builtin.List.listFitsIndex]; omega
  have f2 : Builtin.List.listTooLong (((items.size : Nat) : Int).toNat) = false := by simp [Builtin.List.listTooLong, sizeLine]; omega
  have f3 : ¬ ((items.size : Nat) : Int) < 0 := by omega
  have h' := h
  generalize ((items.size : Nat) : Int) = k at f1 f2 f3 h' ⊢
  wp_walk
  exact h' _
theorem walksRt (hh : A.handled = none) (I t : Addr) (hne : t ≠ I) (items : Array Value) (hsz : items.size ≤ sizeLine) :
    Walks prog w A I [I, t] [I] items.size (fun i v => items[items.size - 1 - i]? = some v) (fun i h => i ≤ items.size ∧ IsRt h I t ((items.size : Int) - 1 - (i : Int)) ∧ IsTup h t items) where
  sub := fun b hb => by simp at hb; simp [hb]
  frame := fun _ _ _ x hk => ⟨x.1, x.2.1.at fun o e => hk I (by simp) o e, by
    obtain ⟨o, ho, r⟩ := x.2.2
    exact ⟨o, hk t (by simp) o ho, r⟩⟩
  item := fun i s Q E hi x hQ => by
    have e : (items.size : Int) - 1 - (i : Int) = ((items.size - 1 - i : Nat) : Int) := by omega
    have hit := x.2.1
    rw [e] at hit
    have hx : items[items.size - 1 - i]? = some (items[items.size - 1 - i]'(by omega)) := Array.getElem?_eq_getElem (by omega)
    refine next_rt_item hit x.2.2 hx hsz fun h' hit' hs' => ?_
    have e2 : ((items.size - 1 - i : Nat) : Int) - 1 = (items.size : Int) - 1 - ((i + 1 : Nat) : Int) := by omega
    rw [e2] at hit'
    exact hQ _ h' (s.toks + 1) hx ⟨hi, hit', by
      obtain ⟨o, ho, r⟩ := x.2.2
      exact ⟨o, (hs'.2 t hne).trans ho, r⟩⟩ fun b o hb eo => hs'.extBut b o (fun h => hb (by simp [h])) eo
  done := fun s Q E x hQ => by
    have e : (items.size : Int) - 1 - (items.size : Int) = -1 := by omega
    have hit := x.2.1
    rw [e] at hit
    exact next_rt_end hh hit fun h' he' => hQ h' s.toks fun b o hb eo => he' b o (fun h => hb (by simp [h])) eo
  self := fun _ _ _ _ x hQ => iter_rt x.2.1 hQ
theorem dl_extend_rt {R : Result → Shared → Prop} {S it l : Addr} {items : Array Value} (hh : A.handled = none) (hit : IsRt s.heap it l ((items.size : Int) - 1)) (hl : IsTup s.heap l items) (hne : l ≠ it) (hn : items.size ≤ sizeLine) (hSi : S ≠ it) (hSl : S ≠ l) (res : Value) (c₀ : Nat)
    (hS : s.heap.get? S = some { cls := .type "list", data := .seq #[] c₀ })
    (hR : ∀ h' tk acc' c', (∀ b o, b ≠ S → b ≠ it → s.heap.get? b = some o → h'.get? b = some o) → h'.get? S = some { cls := .type "list", dict := none, data := .seq acc' c', slots := #[] } → ItemsOf (fun i v => items[items.size - 1 - i]? = some v) acc' items.size → R (.ok (.ret res)) { s with heap := h', toks := tk }) :
    wpAny (model prog w) A.in1 (Builtin.List.listExtendWith (.ref S) (.ref it) res)
      (fun fin s' => match fin with | .done f => R (.ok f) s' | .again c' => c'.quiet = true ∧ codeAny (model prog w) A c' R s') (fun e s' => R (.error e) s') s := by
  have hT : s.TypeIs (.ref it) "reversed" := hit.typeIs
  have hSf : S ∉ [it, l] := by simp only [List.mem_cons, List.not_mem_nil, or_false, not_or]; exact ⟨hSi, hSl⟩
  have W := (walksRt (prog := prog) (w := w) (A := A.in1) hh it l hne items hn).toS
  have h1 : Builtin.List.listSameRef (.ref S) (.ref it) = false := by simp [Builtin.List.listSameRef, hSi]
  have e0 : ((items.size : Nat) : Int) - 1 - ((0 : Nat) : Int) = (items.size : Int) - 1 := by omega
  have key : ∀ (h : Heap) (c₁ tk : Nat), (∀ b o, b ≠ S → s.heap.get? b = some o → h.get? b = some o) → h.get? S = some { cls := .type "list", data := .seq #[] c₁ } → codeAny (model prog w) A (.builtin "list.extend.loop" ⟨[.ref S, .ref it, res], []⟩) R { s with heap := h, toks := tk } := by
    intro h c₁ tk hk hS₁
    refine codeAny_extend_loopS W hn S hSf res items.size 0 _ #[] c₁ rfl (Nat.zero_le _) ⟨Nat.zero_le _, by rw [e0]; exact hit.at fun o e => hk it o (Ne.symm hSi) e, by
      obtain ⟨o, ho, r⟩ := hl
      exact ⟨o, hk l o (Ne.symm hSl) ho, r⟩⟩ hS₁ (ItemsOf.nil _) fun s' acc' c' hm hS' hacc => ?_
    rw [Moved.eq_with hm]
    refine hR s'.heap s'.toks acc' c' (fun b o hb hb2 e => hm.heap b o (fun hmem => ?_) (hk b o hb e)) hS' hacc
    rcases List.mem_cons.mp hmem with e' | hmem
    · exact hb e'
    · exact hb2 (List.mem_singleton.mp hmem)
  unfold Builtin.List.listExtendWith
  refine wpAny_bind (wpAny_typeOf hT ?_)
  rw [if_neg (by rw [h1]; decide)]
  refine wpAny_bind (iter_rt hit ?_)
  refine wpAny_bind (wpAny_holding (dl_hint_rt hit hl hn fun tk => ?_))
  refine wpAny_ite_split (fun _ => ?_) (fun _ => wpAny_pure ⟨plainId_quiet F.plain_extend_loop _, key _ c₀ _ (fun b o _ e => e) hS⟩)
  refine wpAny_bind (wpAny_rule ?_)
  refine wpAny_bind ?_
  show wpAny _ _ (updateSeq S (·.push .none) >>= fun _ => updateSeq S (·.pop)) _ _ _
  refine wpAny_bind (wpAny_updateSeq (s := { s with toks := tk }) hS rfl ?_)
  have hS₂ := Heap.get?_update_self (Obj.mapSeq (·.push Value.none)) hS rfl
  refine wpAny_updateSeq (hz := by seq_fits) hS₂ rfl ?_
  have hS₃ := Heap.get?_update_self (Obj.mapSeq (·.pop)) hS₂ rfl
  refine wpAny_pure ⟨plainId_quiet F.plain_extend_loop _, key _ _ _ (fun b o hb e => ?_) hS₃⟩
  exact (Heap.get?_update_other _ _ (Ne.symm hb)).trans ((Heap.get?_update_other _ _ (Ne.symm hb)).trans e)
theorem dl_call_list_rt {it l : Addr} {items : Array Value} {Q : Value → Shared → Prop} (hh : A.handled = none) (hit : IsRt s.heap it l ((items.size : Int) - 1)) (hl : IsTup s.heap l items) (hne : l ≠ it) (hn : items.size ≤ sizeLine)
    (hQ : ∀ h' tk acc' c', (∀ b o, b ≠ it → s.heap.get? b = some o → h'.get? b = some o) → h'.get? s.heap.objs.size = some { cls := .type "list", dict := none, data := .seq acc' c', slots := #[] } → ItemsOf (fun i v => items[items.size - 1 - i]? = some v) acc' items.size → Q (.ref s.heap.objs.size) { s with heap := h', toks := tk }) :
    wpAny (model prog w) A (call (.type "list") [.ref it]) Q E s := by
  refine callType_codes (Q₁ := fun obj s₁ => obj = .ref s.heap.objs.size ∧ s₁ = { s with heap := s.heap.push { cls := .type "list", data := .seq #[] } }) PySem.F.called_list (PySem.F.typeCall_list_1 _) PySem.F.entry_list_init
    (code_list_new _ ⟨rfl, rfl⟩) fun obj s₁ h₁ => ?_
  obtain ⟨rfl, rfl⟩ := h₁
  have hS : (s.heap.push { cls := .type "list", data := .seq #[] }).get? s.heap.objs.size = some { cls := .type "list", data := .seq #[] } := Heap.get?_push_size _ rfl
  obtain ⟨oi, hoi, _⟩ := id hit
  obtain ⟨ol, hol, hlr⟩ := id hl
  have hSi : s.heap.objs.size ≠ it := Nat.ne_of_gt (Heap.lt_size hoi)
  have hSl : s.heap.objs.size ≠ l := Nat.ne_of_gt (Heap.lt_size hol)
  refine ⟨⟨_, hS, rfl⟩, PySem.F.args_list_init_2 _ _, ?_⟩
  show wpAny _ _ (do let old ← Builtin.List.listItems (.ref s.heap.objs.size); Builtin.List.listUpdate (.ref s.heap.objs.size) (fun _ => #[]); letGo old.toList.reverse; Builtin.List.listExtendWith (.ref s.heap.objs.size) (.ref it) .none) _ _ _
  refine wpAny_bind ?_
  unfold Builtin.List.listItems
  refine wpAny_bind (wpAny_seqItems hS rfl (wpAny_pure ?_))
  show wpAny _ _ (updateSeq s.heap.objs.size (fun _ => #[]) >>= fun _ => letGo (#[] : Array Value).toList.reverse >>= fun _ => Builtin.List.listExtendWith (.ref s.heap.objs.size) (.ref it) .none) _ _ _
  refine wpAny_bind (wpAny_updateSeq hS rfl ?_)
  have hS₂ := Heap.get?_update_self (Obj.mapSeq (fun _ => (#[] : Array Value))) hS rfl
  have oth : ∀ b o, s.heap.get? b = some o → ((s.heap.push { cls := .type "list", data := .seq #[] }).update s.heap.objs.size (Obj.mapSeq (fun _ => (#[] : Array Value)))).get? b = some o :=
    fun b o e => (Heap.get?_update_other _ _ (Nat.ne_of_gt (Heap.lt_size e))).trans (Heap.get?_push_of_some _ e)
  refine wpAny_bind (wpAny_letGo ?_)
  refine dl_extend_rt (A := A.in1) hh (hit.at fun o e => oth _ o e) ⟨ol, oth _ _ hol, hlr⟩ hne hn hSi hSl .none _ hS₂ fun h' tk acc' c' hk hS' hacc => ?_
  exact ⟨rfl, hQ h' tk acc' c' (fun b o hb e => hk b o (Nat.ne_of_lt (Heap.lt_size e)) hb (oth b o e)) hS' hacc⟩
end
end RT
namespace DL
open PySem PySem.Spec PyProof.Rows L2
/-- list(reversed(x)), x a tuple -/
def tLstRevT (K : PySem.W.Frag) (te : TE) : TE := fun σ H Q => te σ H fun v H1 => ∃ (a : Addr) (xs : List V), v = .ref a ∧ SqT K H1 a xs ∧ ∀ q, H1 q = none → Q (.ref q) (upd H1 q (.lst xs.reverse))
section
variable {X : Cx}
theorem pe_lstRevT {e : Expr} {te : TE} {p p2 pos pos2 : Pos} (hc : X.calm = true) (hg : Gl X "list") (hm : X.mg "list" = none) (hg2 : Gl X "reversed") (hm2 : X.mg "reversed" = none) (he : PE X e te)
    (hs : starEach [e] X.env = (false, eval e X.env) :: starEach [] X.env := by rfl)
    (hs2 : starEach [.Call (.Name "reversed" p2) [e] [] pos2] X.env = (false, eval (.Call (.Name "reversed" p2) [e] [] pos2) X.env) :: starEach [] X.env := by rfl) :
    PE X (.Call (.Name "list" p) [.Call (.Name "reversed" p2) [e] [] pos2] [] pos) (tLstRevT X.K te) := by
  refine ⟨fun pins s σ H Q I h => ?_⟩
  refine Call_ (ld_blt I hg hm boot_list (PyProof.Rows.callWith_type1 (args_cons (Call_ (ld_blt I hg2 hm2 PyProof.Rows.boot_reversed (PyProof.Rows.callWith_type1 (args_cons (thn (he.run pins s σ H _ I h) fun u s1 ⟨v, H1, I1, r1, q1⟩ => args_nil ?_) hs) hs rfl))) hs2) hs2 rfl))
  obtain ⟨a, xs, ev, hq, q⟩ := q1
  subst ev
  obtain rfl : u = Value.ref a := r1
  obtain ⟨its, rv, p', hz⟩ := I1.tuple hq
  have hn63 := line63
  have hlr0 := rv.length
  have hn : its.toArray.size ≤ sizeLine := by rw [List.size_toArray, ← rv.length]; exact hz
  refine RT.call_reversed_tup p' (fun A E Q k => len_tuple p' (by simp only [List.size_toArray] <;> omega) k) (args_nil ?_)
  have k0 : ∀ b o, s1.heap.get? b = some o → (s1.heap.push (RT.rtObj a ((its.toArray.size : Int) - 1))).get? b = some o := fun b o e => Heap.get?_push_of_some _ e
  have I2 : Inv X pins σ H1 { s1 with heap := s1.heap.push (RT.rtObj a ((its.toArray.size : Int) - 1)), toks := s1.toks + 1 + 1 } := I1.kept (t' := s1.toks + 1 + 1) k0
  obtain ⟨ol, hol, hlr⟩ := id p'
  have hne : a ≠ s1.heap.objs.size := Nat.ne_of_lt (Heap.lt_size hol)
  refine RT.dl_call_list_rt (s := { s1 with heap := s1.heap.push (RT.rtObj a ((its.toArray.size : Int) - 1)), toks := s1.toks + 1 + 1 }) (I1.ok.hd hc) ⟨_, Heap.get?_push_size _ rfl, rfl, rfl⟩ ⟨ol, k0 _ _ hol, hlr⟩ hne hn fun h' tk acc c' hk hS hi => ?_
  have hnew : H1 (s1.heap.push (RT.rtObj a ((its.toArray.size : Int) - 1))).objs.size = none := I2.hok.fresh (Nat.le_refl _)
  have hz2 : (s1.heap.push (RT.rtObj a ((its.toArray.size : Int) - 1))).objs.size ≠ s1.heap.objs.size := by rw [Heap.size_push]; omega
  obtain ⟨f0, f1, f2, f3, f4, f5⟩ := I1.fpOk (H' := upd H1 (s1.heap.push (RT.rtObj a ((its.toArray.size : Int) - 1))).objs.size (.lst xs.reverse)) (b := s1.heap.objs.size) (Nat.le_refl _) (by rw [upd_ne (Ne.symm hz2)]; exact I1.hok.fresh (Nat.le_refl _))
  have I3 := I2.laid (a := (s1.heap.push (RT.rtObj a ((its.toArray.size : Int) - 1))).objs.size) (o := .lst xs.reverse) (h' := (s1.heap.push (RT.rtObj a ((its.toArray.size : Int) - 1))).push { cls := .type "list", dict := none, data := .seq acc c', slots := #[] }) (t' := tk) (fun c o e => Heap.get?_push_of_some _ e) (Nat.le_refl _)
    (show ObjOk X.prog X.w _ _ _ (.lst xs.reverse) from ⟨by rw [List.length_reverse]; exact hz, acc.toList, c', RT.vals_rev rv hi, by rw [Array.toArray_toList]; exact Heap.get?_push_size _ rfl⟩)
  refine ⟨.ref (s1.heap.push (RT.rtObj a ((its.toArray.size : Int) - 1))).objs.size, _, I3.turned (t' := tk) (fun b o hb e => ?_) f0 f1 f3 f4 f5, rfl, q _ hnew⟩
  by_cases hbs : b = (s1.heap.push (RT.rtObj a ((its.toArray.size : Int) - 1))).objs.size
  · subst hbs
    have e2 : ((s1.heap.push (RT.rtObj a ((its.toArray.size : Int) - 1))).push { cls := .type "list", dict := none, data := .seq acc c', slots := #[] }).get? (s1.heap.push (RT.rtObj a ((its.toArray.size : Int) - 1))).objs.size = some { cls := .type "list", dict := none, data := .seq acc c', slots := #[] } := Heap.get?_push_size _ rfl
    rw [e2] at e
    cases e
    exact hS
  · rcases Heap.get?_push_cases e with ⟨h1, _⟩ | h1
    · exact absurd h1 hbs
    · exact hk b o hb h1
end
def lstRevTM (x : D) (S : Sto) : Res D := match x with
  | .tup xs => newCell xs.reverse S
  | _ => .bad
section
variable {X : Cx} {cl : Nat → Addr} {W : WX} {A : E} {e : Expr} {p p2 pos pos2 : Pos}
theorem de_lstRevT (hc : X.calm = true) (hm : X.mg "list" = none) (hm2 : X.mg "reversed" = none) (ha : DE X cl W e A) (hg : Gl X "list" := by rfl) (hg2 : Gl X "reversed" := by rfl)
    (hs : starEach [e] X.env = (false, eval e X.env) :: starEach [] X.env := by rfl)
    (hs2 : starEach [.Call (.Name "reversed" p2) [e] [] pos2] X.env = (false, eval (.Call (.Name "reversed" p2) [e] [] pos2) X.env) :: starEach [] X.env := by rfl) :
    DE X cl W (.Call (.Name "list" p) [.Call (.Name "reversed" p2) [e] [] pos2] [] pos) (eOp1 lstRevT A) := (pe_lstRevT hc hg hm hg2 hm2 ha hs hs2).imp fun σ H Q h => by
  refine tE_mono (tE_op1 h) fun v H1 ⟨ρ, F, S, σ', d, R, r, q⟩ => ?_
  unfold lstRevT at q
  split at q
  · next xs =>
    obtain ⟨a, vs, rfl, hq, ra⟩ := rep_tup R r
    exact ⟨a, vs, rfl, hq, fun p hp => q.newL R ra.rev hp⟩
  · exact q.elim
theorem de_lstRevTM (hc : X.calm = true) (hm : X.mg "list" = none) (hm2 : X.mg "reversed" = none) (ha : DE X cl W e A) (hg : Gl X "list" := by rfl) (hg2 : Gl X "reversed" := by rfl)
    (hs : starEach [e] X.env = (false, eval e X.env) :: starEach [] X.env := by rfl)
    (hs2 : starEach [.Call (.Name "reversed" p2) [e] [] pos2] X.env = (false, eval (.Call (.Name "reversed" p2) [e] [] pos2) X.env) :: starEach [] X.env := by rfl) :
    DE X cl W (.Call (.Name "list" p) [.Call (.Name "reversed" p2) [e] [] pos2] [] pos) (eOp1 lstRevTM A) := (pe_lstRevT hc hg hm hg2 hm2 ha hs hs2).imp fun σ H Q h => by
  refine tE_mono (tE_op1 h) fun v H1 ⟨ρ, F, S, σ', d, R, r, q⟩ => ?_
  unfold lstRevTM at q
  split at q
  · next xs =>
    obtain ⟨a, vs, rfl, hq, ra⟩ := rep_tup R r
    exact ⟨a, vs, rfl, hq, fun p hp => q.newM R ra.rev hp⟩
  · exact q.elim
end
end DL

/-! DL26: a def that calls itself: its answers by fuel. -/
namespace DL
open PySem PySem.Spec PyProof.Rows L2
def badF : List D → Sto → Res D := fun _ _ => .bad
theorem cal_bad {P : Program} {w : World} {K : PySem.W.Frag} {mg : Str → Option Value} {base : Heap} {cl : Nat → Addr} {k : Nat} {x : Str} {f : Addr} {fd : FuncData} (ps : List Str)
    (b : Binds K fd ps []) (g : mg x = some (.ref f)) (kp : PySem.W.keepIn K (.ref f) = true) : Cal P w K mg base cl k x badF :=
  ⟨f, fd, ps, ⟨fun vs H Q E h => h.1, fun A outer s H args us vs Q E hr he hb hv h => by
    obtain ⟨_, S, ρ, F, ds, _, _, h⟩ := h
    exact h.elim⟩, b, g, kp, fun ds S h => absurd rfl h⟩
def recF (R : (List D → Sto → Res D) → List D → Sto → Res D) : Nat → List D → Sto → Res D
  | 0 => badF
  | n + 1 => R (recF R n)
end DL

/-! DL27: texts. -/
namespace DL
open PySem PySem.Spec PyProof.Rows L2
/-- what has no reading: never reached -/
def eBad : E := fun _ _ => .bad
def asStrs : List D → Option (List Str)
  | [] => some []
  | .str b :: ds => (asStrs ds).map (b :: ·)
  | _ => none
theorem rep_strs {C : Ct} {ρ : List Addr} {F : Hp} : ∀ {vs : List V} {ds : List D} {bs : List Str}, RepAll C ρ F vs ds → asStrs ds = some bs → vs = bs.map V.str
  | _, _, bs, .nil, e => by cases e; rfl
  | _, _, bs, .cons (d := d) (ds := ds) r t, e => by
    cases r with
    | str b =>
      unfold asStrs at e
      cases e2 : asStrs ds with
      | none => rw [e2] at e; cases e
      | some cs => rw [e2] at e; cases e; rw [rep_strs t e2]; rfl
    | _ => exact nomatch e
theorem strs_rep {C : Ct} {ρ : List Addr} {F : Hp} : ∀ bs : List Str, RepAll C ρ F (bs.map V.str) (bs.map D.str)
  | [] => .nil
  | b :: bs => .cons (.str b) (strs_rep bs)
theorem asStrs_map : ∀ bs : List Str, asStrs (bs.map D.str) = some bs
  | [] => rfl
  | b :: bs => by
    rw [List.map_cons]
    unfold asStrs
    rw [asStrs_map bs]; rfl
def splitD (x : D) (ds : List D) (S : Sto) : Res D := match x, ds with
  | .str a, [.str b] => if (b.length == 0) = false ∧ a.length + 2 ≤ sizeLine then .ok (.lst ((Txt.split a b).map D.str)) S else .bad
  | _, _ => .bad
def partD (x : D) (ds : List D) (S : Sto) : Res D := match x, ds with
  | .str a, [.str b] => if (b.length == 0) = false ∧ a.length ≤ sizeLine then .ok (.tup [.str (Txt.partition a b).1, .str (Txt.partition a b).2.1, .str (Txt.partition a b).2.2]) S else .bad
  | _, _ => .bad
def startsD (x : D) (ds : List D) (S : Sto) : Res D := match x, ds with
  | .str a, [.str b] => .ok (.bl (Txt.startswith a b)) S
  | _, _ => .bad
def joinD (x : D) (ds : List D) (S : Sto) : Res D := match x, ds with
  | .str a, [d] => (match (seqOf S d).bind asStrs with
    | some ys => if (ys.map (·.length)).sum + ys.length * a.length ≤ 16777216 then .ok (.str (Txt.join a ys)) S else .bad
    | none => .bad)
  | _, _ => .bad
def intSD (ds : List D) (S : Sto) : Res D := match ds with
  | [.str a] => (match PySem.intText? a with
    | some n => if a.length ≤ 640 then .ok (.int n) S else .bad
    | none => .bad)
  | _ => .bad
def slxD (x : D) (lo hi : Option Int) (S : Sto) : Res D := match x with
  | .str z => if z.length ≤ sizeLine then .ok (.str (cutS z lo hi)) S else .bad
  | _ => .bad
def eSlx (A : E) (p q : TP) : E := fun l S => (A l S).bind fun x S1 => (p l S1).bind fun lo S2 => (q l S2).bind fun hi S3 => slxD x lo hi S3
def signsD (z : Str) : List D := z.cps.toList.map fun c => D.str ⟨#[c]⟩
def iStrD (A : E) : I := fun l S => (A l S).bind fun d S1 => match d with
  | .str z => .ok ⟨signsD z, fun _ => True⟩ S1
  | _ => .bad
section
variable {X : Cx} {cl : Nat → Addr} {W : WX} {A : E} {e tg : Expr} {p q : TP} {pos p2 : Pos} {lo hi : Option Expr}
theorem de_bad : DE X cl W e eBad := ⟨fun pins s σ H Q I q => by
  obtain ⟨l, S, ρ, F, _, _, h⟩ := q
  exact h.elim⟩
theorem md_split : MtD X cl W "str.split" splitD := MtR.weak mt_split fun x xs H Q ⟨ρ, F, S, σ, d, ds, R, r, ra, h⟩ => by
  unfold splitD at h
  split at h
  · next a b =>
    cases r
    cases ra with
    | cons rb t =>
      cases rb; cases t
      split at h
      · next hz => exact ⟨a, b, rfl, rfl, hz.1, hz.2, fun p hp => h.newL R (strs_rep _) hp⟩
      · exact h.elim
  · exact h.elim
theorem md_part : MtD X cl W "str.partition" partD := MtR.weak mt_partition fun x xs H Q ⟨ρ, F, S, σ, d, ds, R, r, ra, h⟩ => by
  unfold partD at h
  split at h
  · next a b =>
    cases r
    cases ra with
    | cons rb t =>
      cases rb; cases t
      split at h
      · next hz => exact ⟨a, b, rfl, rfl, hz.1, hz.2, fun p hp => h.newT R (.cons (.str _) (.cons (.str _) (.cons (.str _) .nil))) hp⟩
      · exact h.elim
  · exact h.elim
theorem md_starts : MtD X cl W "str.startswith" startsD := MtR.weak mt_startswith fun x xs H Q ⟨ρ, F, S, σ, d, ds, R, r, ra, h⟩ => by
  unfold startsD at h
  split at h
  · next a b =>
    cases r
    cases ra with
    | cons rb t =>
      cases rb; cases t
      exact ⟨a, b, rfl, rfl, h.now R (.bl _)⟩
  · exact h.elim
theorem md_join : MtD X cl W "str.join" joinD := MtR.weak mt_join fun x xs H Q ⟨ρ, F, S, σ, d, ds, R, r, ra, h⟩ => by
  unfold joinD at h
  split at h
  · next a y =>
    cases r
    cases ra with
    | cons rb t =>
      cases t
      split at h
      · next ys hys =>
        split at h
        · next hz =>
          cases hs : seqOf S y with
          | none => rw [hs] at hys; cases hys
          | some ws =>
            rw [hs] at hys
            obtain ⟨ad, vs, rfl, hq, rv⟩ := rep_seq R rb hs
            obtain rfl := rep_strs rv hys
            exact ⟨a, ad, ys, rfl, rfl, hq, hz, h.now R (.str _)⟩
        · exact h.elim
      · exact h.elim
  · exact h.elim
theorem cd_intS : CallD X cl W (.type "int") intSD := call_int_str.weak fun xs H Q ⟨ρ, F, S, σ, ds, R, ra, h⟩ => by
  unfold intSD at h
  split at h
  · next a =>
    cases ra with
    | cons r t =>
      cases r; cases t
      split at h
      · next n hn =>
        split at h
        · next hz => exact ⟨a, n, rfl, hn, hz, h.now R (.int _)⟩
        · exact h.elim
      · exact h.elim
  · exact h.elim
theorem de_slx (he : DE X cl W e A) (hl : DP X cl W lo p) (hu : DP X cl W hi q) : DE X cl W (.Subscript e (.Slice lo hi none p2) pos) (eSlx A p q) := by
  refine (pe_slice sl_str he hl hu).imp fun σ H Q ⟨l, S, ρ, F, hl, R, h⟩ => ?_
  refine tE_stepX hl R (satE.x h) fun d S1 ρ1 F1 H1 v R1 hl1 r1 p1 f1 h1 => ?_
  refine tP_stepX hl1 R1 (satE.x (satE.mono p1 f1 h1)) fun o1 S2 ρ2 F2 H2 R2 hl2 p2 f2 h2 => ?_
  refine tP_stepX hl2 R2 (satE.x (satE.mono p2 f2 h2)) fun o2 S3 ρ3 F3 H3 R3 hl3 p3 f3 h3 => ?_
  have h4 := satE.mono p3 f3 h3
  have r3 := (r1.mono p2 f2).mono p3 f3
  unfold slxD at h4
  split at h4
  · next z =>
    cases r3
    split at h4
    · next hz => exact ⟨z, rfl, hz, h4.now R3 (.str _)⟩
    · exact h4.elim
  · exact h4.elim
theorem itOk_str {C : Ct} {ρ : List Addr} {F : Hp} (z : Str) : ItOk C (Its z) ρ F ⟨signsD z, fun _ => True⟩ := fun ρ1 F1 S H i _ _ R _ => by
  have hl : (signsD z).length = z.cps.size := by unfold signsD; simp
  refine ⟨fun h => by rw [hl] at h; exact h, fun d hd => ?_⟩
  have hi : i < z.cps.size := by rw [← hl]; exact (List.getElem?_eq_some_iff.mp hd).1
  unfold signsD at hd
  rw [List.getElem?_map, Array.getElem?_toList, Array.getElem?_eq_getElem hi] at hd
  obtain rfl := Option.some.inj hd
  exact ⟨hi, fun x H' ⟨e1, c, e2, e3⟩ => by
    subst e1 e3
    rw [Array.getElem?_eq_getElem hi] at e2
    cases e2
    exact ⟨F1, Le.refl _, R, .str _⟩⟩
theorem di_str (he : DE X cl W e A) : DI X cl W tg e (iStrD A) := (pi_str he).imp fun σ H R ⟨l, S, ρ, F, hl, RR, h⟩ => by
  refine tE_stepX hl RR (satX.of h) fun d S1 ρ1 F1 H1 v R1 hl1 r1 p1 f1 h1 => ?_
  split at h1
  · next z =>
    cases r1
    exact ⟨z, rfl, h1 ρ1 F1 H1 _ R1 p1 f1 (itOk_str z)⟩
  · exact h1.elim
end
end DL

/-! DL28: a caught exception as a value: the suite may keep it; isinstance of own classes. -/
namespace DL
open PySem PySem.Spec PyProof.Rows L2
section
variable {X : Cx} {pins : List (Addr × Obj)} {σ : L2.St} {H : Hp} {s : Shared}
/-- what stands there is told from now on -/
theorem track {a : Addr} {o : HO} (I : Inv X pins σ H s) (na : H a = none) (hx : X.ex = []) (n0 : X.s_0.heap.get? a = none) (new : ObjOk X.prog X.w (upd H a o) s.heap a o) (nL : a ≠ X.env.locals)
    (nC : ∀ x c, X.env.cells.lookup x = some c → c ≠ a) (nP : ∀ p ∈ X.pn ++ pins, p.1 ≠ a) : Inv X pins σ (upd H a o) s := by
  have ne : ∀ b u, X.s_0.heap.get? b = some u → b ≠ a := fun b u e z => by rw [z, n0] at e; cases e
  have keep : ∀ b u, H b = some u → upd H a o b = some u := fun b u e => by
    rw [upd_ne (fun z => by rw [z, na] at e; cases e)]; exact e
  refine ⟨I.ok, I.os, I.bare, ⟨I.base.keep, I.base.slot, fun b u e n hb => ?_, I.base.there, fun b xs e => keep _ _ (I.base.tups b xs e), fun b u v e => keep _ _ (I.base.frzs b u v e), fun b ps e => ?_⟩, I.loc, I.cell, ?_, fun x c e => ?_, fun p hp => ?_, fun b u e => ?_, I.len⟩
  · rw [upd_ne (ne b u e)]; exact I.base.free b u e n hb
  · obtain ⟨m, q⟩ := I.base.tbls b ps e
    exact ⟨m, keep _ _ q⟩
  · rw [upd_ne (fun z => nL z.symm)]; exact I.free
  · rw [upd_ne (nC x c e)]; exact I.freeC x c e
  · obtain ⟨e, n, r⟩ := I.pin p hp
    exact ⟨e, by rw [upd_ne (nP p hp)]; exact n, r⟩
  · by_cases hb : b = a
    · subst hb
      rw [upd_same] at e
      cases e
      exact new
    · rw [upd_ne hb] at e
      exact (I.hok b u e).stay (fun _ _ _ q => q) (fun c q => keep _ _ q) fun c xs q => keep _ _ q
theorem suiteN (I : Inv X pins σ H s) (a : Addr) : Inv (X.suite a (X.pn ++ pins)) [] σ H s :=
  ⟨I.ok.suite _ _, I.os, I.bare, I.base, I.loc, I.cell, I.free, I.freeC, fun p hp => I.pin p (by rw [List.append_nil] at hp; exact hp), I.hok, I.len⟩
theorem unsuiteN {a : Addr} {pn' : List (Addr × Obj)} (I : Inv (X.suite a (X.pn ++ pins)) pn' σ H s) (ok : X.Ok) : Inv X pins σ H s :=
  ⟨ok, I.os, I.bare, I.base, I.loc, I.cell, I.free, I.freeC, fun p hp => I.pin p (List.mem_append_left _ hp), I.hok, I.len⟩
end
/-- the ends of a suite whose name goes -/
def gone (i : Nat) (D : Ends) : Ends := { nx := fun σ' H' => D.nx (σ'.set i none) H', rt := D.rt, bk := fun σ' H' => D.bk (σ'.set i none) H', ct := fun σ' H' => D.ct (σ'.set i none) H' }
def wV (K : PySem.W.Frag) (c : Value) (i : Nat) (ts : Addr → TS) (Wout : WX) (D : Ends) : WX := fun cls d σ H =>
  ∃ b, PySem.W.exmOne K cls c = some b ∧ (b = true → ∃ C, cls = .ref C ∧ d = none ∧ ∀ a, H a = none → ts a (gone i D) (σ.set i (some (.ref a))) (upd H a (exH C a))) ∧ (b = false → Wout cls d σ H)
section
variable {X : Cx} {x n : Str} {c : Value} {i : Nat} {body suite : List Stmt} {b₀ : Stmt} {np pos pos' : Pos} {tb : WX → TS} {ts : Addr → TS} {Wout : WX}
/-- try: body; except c as n: suite, the exception told in it and behind it -/
theorem ps_tryV (hs : X.stack = X.env :: X.outer) (hf : X.env.frame = some X.env.locals) (hx : X.ex = []) (hN : X.N.Nodup) (hi : X.N[i]? = some n) (hln : X.env.kindOf n = some .local) (hc : Names X x c) (tk : Takes X Wout)
    (hb : ∀ (W : WX) (pn : List (Addr × Obj)) (xe : Value → Shared → Prop), Takes (X.tr pn xe) W → PassesOwn (model X.prog X.w) X.A X.env xe → PSs (X.tr pn xe) body (tb W))
    (hsu : ∀ (a : Addr) (pn : List (Addr × Obj)), PSs (X.suite a pn) (b₀ :: suite) (ts a)) :
    PS X (.Try body [.ExceptHandler (some (.Name x np)) (some n) (b₀ :: suite) pos'] [] [] pos) (fun D σ H => tb (wV X.K c i ts Wout D) D σ H) := by
  refine ⟨fun pins s σ H D I h => ?_⟩
  have ok := I.ok
  have hfr : X.A.frames = some (X.env :: X.outer) := by rw [ok.frames, hs]
  have hloc : L2.Loc X.env.scope n := .inl hln
  refine wpAny_Try_except ?_
  refine wpAny_mono ((hb (wV X.K c i ts Wout D) (X.pn ++ pins) (fun e s₁ => wpAny (model X.prog X.w) X.A (noteFrame e X.env) (fun _ s₂ => wpAny (model X.prog X.w) X.A (setFlight e none) (fun _ s₃ =>
    wpAny (model X.prog X.w) X.A (handleBy e X.env [.ExceptHandler (some (.Name x np)) (some n) (b₀ :: suite) pos']) (SP X pins D) X.xe s₃) X.xe s₂) X.xe s₁) (fun u s' xx => ?_) PassesOwn.looking).run [] s σ H D (I.toTry _) h) (fun f s1 hsp => ?_) (fun e s1 he => he)
  · obtain ⟨a, B, sI, pins', σ', H', cls, d, rfl, J', nb, up, sky, na, os, ag, b, hb1, hyes, hno⟩ := xx
    have J : Inv X pins σ' H' sI := J'.ofTry ok
    have sky' : Sky B (X.env :: X.outer) a (Zc cls d) X.env.locals s'.heap := by rw [← hs]; exact sky
    show wpAny (model X.prog X.w) X.A (noteFrame (.ref a) X.env) _ _ _
    refine Sky.land Zc.steady hfr hf sky' fun h3 fl3 up3 => ?_
    have J3 : Inv X pins σ' H' { s' with heap := h3 } := J.landed nb fl3.1 (up.trans up3) os ag
    obtain ⟨oe3, vs3, he3, hz3, hd3⟩ := fl3.there
    have nfr : a ∉ frs (X.env :: X.outer) := fun hm => by
      obtain ⟨_, o', e', hnf⟩ := fl3.2.2.1.mem hm
      rw [he3] at e'; cases e'
      exact hnf _ hd3
    have nL : a ≠ X.env.locals := fun z => nfr (List.mem_filterMap.mpr ⟨X.env, List.mem_cons_self, by rw [hf, z]⟩)
    have nF : a ∉ X.fs := fun hm => by
      obtain ⟨e, he, q⟩ := List.mem_filterMap.mp hm
      exact nfr (List.mem_filterMap.mpr ⟨e, List.mem_cons_of_mem _ he, q⟩)
    have nI : sI.heap.get? a = none := by
      cases q : sI.heap.get? a with
      | none => rfl
      | some o =>
        have := nb a o q (by rw [hs]; exact nfr)
        rw [fl3.2.1] at this
        cases this
    have n0 : X.s_0.heap.get? a = none := by
      cases q : X.s_0.heap.get? a with
      | none => rfl
      | some o =>
        obtain ⟨o', q'⟩ := J.base.there a o q (by rw [hx]; exact fun z => nomatch z)
        rw [nI] at q'
        cases q'
    have nC : ∀ y k, X.env.cells.lookup y = some k → k ≠ a := fun y k e z => by
      obtain ⟨v, o, q, _⟩ := J.cell y k e
      rw [z, nI] at q
      cases q
    have nP : ∀ p ∈ X.pn ++ pins, p.1 ≠ a := fun p hp z => by
      have q := (J.pin p hp).1
      rw [z, nI] at q
      cases q
    have S3 := J3.suite he3 hd3 na nL nF
    refine wpAny_handleBy_cons (codeAny_handlers_test ?_) (by intro q; cases q)
    have LT : PySem.W.Looks (model X.prog X.w) h3 (typeOf (.ref a)) cls := fun A Q E s k q => wpAny_typeOf_ref (k _ _ he3) (by rw [hz3.1]; exact q)
    have LM := PySem.W.exm_one (M := model X.prog X.w) (J3.kIn) LT hb1
    have test : ∀ {Q : Value → Shared → Prop} {E : Value → Shared → Prop}, Q c { s' with heap := h3 } → wpAny (model X.prog X.w) (X.A.mark (some (.ref a))) (eval (.Name x np) X.env) Q E { s' with heap := h3 } := fun {Q E} q => by
      obtain ⟨hg, hdbg, hm | ⟨hm, hv, hnn⟩⟩ := hc
      · exact ld_glob (X := X.suite a ((a, oe3) :: (X.pn ++ pins))) S3 hg hm q hdbg
      · exact ld_blt (X := X.suite a ((a, oe3) :: (X.pn ++ pins))) S3 hg hm hv q hnn hdbg
    refine test (LM.here ?_)
    cases b with
    | true =>
      obtain ⟨C, rfl, rfl, hgo⟩ := hyes rfl
      refine codeAny_handlers_suite_as ?_
      refine HandSPX.lands_againZ fl3 fun h4 fl4 up4 => ?_
      have J4 : Inv X pins σ' H' { s' with heap := h4 } := J.landed nb fl4.1 ((up.trans up3).trans up4) os ag
      obtain ⟨oe4, vs4, he4, hz4, hd4⟩ := fl4.there
      have J5 : Inv X pins σ' (upd H' a (exH C a)) { s' with heap := h4 } := track J4 na hx n0 ⟨⟨oe4, vs4, he4, hz4, hd4⟩, ⟨oe4, he4⟩, fun h1 h2 ⟨oe, vs, e, z, dd⟩ k => ⟨oe, vs, k _ e, z, dd⟩⟩ nL nC nP
      have S5 := suiteN J5 a
      refine store_ok (X := X.suite a (X.pn ++ pins)) (v := .ref a) S5 hN hi hloc rfl (fun s5 S5 => ?_) (.inr hln)
      refine wpAny_mono ((hsu a (X.pn ++ pins)).run [] s5 _ _ _ S5 (hgo a na)) (fun f s6 hsp => ?_) (fun _ _ z => False.elim z)
      have end_ : ∀ {σ6 : L2.St} {H6 : Hp} {Q : Shared → Prop}, Inv (X.suite a (X.pn ++ pins)) [] σ6 H6 s6 → (∀ s7, Inv X pins (σ6.set i none) H6 s7 → Q s7) →
          wpAny (model X.prog X.w) X.A (do bindName X.env n .none; unbindBehindTheSuite X.env n pos') (fun _ s7 => Q s7) X.xe s6 := fun {σ6 H6 Q} S6 hq => gone_ok (unsuiteN S6 ok) hN hi hln hq
      cases f with
      | next =>
        obtain ⟨σ6, H6, S6, q6⟩ := hsp
        exact end_ S6 fun s7 J7 => ⟨_, _, J7, q6⟩
      | brk =>
        obtain ⟨σ6, H6, S6, q6⟩ := hsp
        exact end_ S6 fun s7 J7 => ⟨_, _, J7, q6⟩
      | cont =>
        obtain ⟨σ6, H6, S6, q6⟩ := hsp
        exact end_ S6 fun s7 J7 => ⟨_, _, J7, q6⟩
      | ret u =>
        obtain ⟨v6, σ6, H6, S6, r6, q6⟩ := hsp
        exact end_ S6 fun s7 J7 => ⟨_, _, _, J7, r6, q6⟩
    | false =>
      show wpAny _ X.A (handleBy (.ref a) X.env []) _ _ _
      refine wpAny_handleBy_nil ?_
      obtain ⟨k1, k2, k3, oe, vs, T, oT, ts', he, hz, hd, h1, hr⟩ := id fl3
      unfold PySem.passOn
      refine wpAny_bind (wpAny_field he hd h1 ?_)
      rw [if_neg (show ¬ ((Value.ref T == Value.none) = true) from by simp)]
      have fin : wpAny (model X.prog X.w) X.A (setFlight (.ref a) X.env.frame) (fun _ s4 => wpAny (model X.prog X.w) X.A (throw (.ref a) : Sem Flow) (SP X pins D) X.xe s4) X.xe { s' with heap := h3 } := by
        rw [hf]
        refine HandSPX.setFlight_upZ fl3 fun h4 hh4 up4 => wpAny_throw (tk _ _ ?_)
        exact ⟨a, B, sI, pins, σ', H', cls, d, rfl, J, nb, (up.trans up3).trans up4, .inr (.inr (by rw [hs]; exact hh4)), na, os, ag, hno rfl⟩
      first
        | exact wpAny_bind (wpAny_pure (wpAny_bind fin))
        | exact wpAny_bind fin
  · cases f with
    | next =>
      obtain ⟨σ', H', J', q⟩ := hsp
      exact wpAny_execs_nil ⟨σ', H', J'.ofTry ok, q⟩
    | brk =>
      obtain ⟨σ', H', J', q⟩ := hsp
      exact ⟨σ', H', J'.ofTry ok, q⟩
    | cont =>
      obtain ⟨σ', H', J', q⟩ := hsp
      exact ⟨σ', H', J'.ofTry ok, q⟩
    | ret u =>
      obtain ⟨v, σ', H', J', r, q⟩ := hsp
      exact ⟨v, σ', H', J'.ofTry ok, r, q⟩
end
def sTryV (m : Nat → Option Bool) (i : Nat) (body suite : Stm) : Stm := fun l S => match body l S with
  | .exc x l' S' => (match m x with
    | some true => if i < l'.length then (match suite (l'.set i (some (.exc x))) S' with
      | .next l2 S2 => .next (l2.set i none) S2
      | .brk l2 S2 => .brk (l2.set i none) S2
      | .cont l2 S2 => .cont (l2.set i none) S2
      | .ret d S2 => .ret d S2
      | _ => .bad) else .bad
    | some false => .exc x l' S'
    | none => .bad)
  | o => o
section
variable {X : Cx} {cl : Nat → Addr} {W : WX} {A B : Stm} {body suite : List Stmt} {b₀ : Stmt} {np pos pos' : Pos} {i : Nat}
theorem ds_tryV {c : Value} {x n : Str} (m : Nat → Option Bool) (hm : ∀ y b, m y = some b → PySem.W.exmOne X.K (.ref (cl y)) c = some b) (hs : X.stack = X.env :: X.outer) (hf : X.env.frame = some X.env.locals) (hx : X.ex = [])
    (hN : X.N.Nodup) (hi : X.N[i]? = some n) (hln : X.env.kindOf n = some .local) (hc : Names X x c) (tk : Takes X W)
    (hb : ∀ (W' : WX) (pn : List (Addr × Obj)) (xe : Value → Shared → Prop), Takes (X.tr pn xe) W' → PassesOwn (model X.prog X.w) X.A X.env xe → DSs (X.tr pn xe) cl W' body A)
    (hsu : ∀ (a : Addr) (pn : List (Addr × Obj)), DSs (X.suite a pn) cl W0 (b₀ :: suite) B) :
    DS X cl W (.Try body [.ExceptHandler (some (.Name x np)) (some n) (b₀ :: suite) pos'] [] [] pos) (sTryV m i A B) :=
  (ps_tryV (i := i) (tb := fun W' => tS (cxt X cl) W' A) (ts := fun _ => tS (cxt X cl) W0 B) hs hf hx hN hi hln hc tk hb
    (fun a pn => hsu a pn)).imp fun D σ H ⟨l, S, ρ, F, hl, R, h⟩ => by
    refine ⟨l, S, ρ, F, hl, R, ?_⟩
    unfold sTryV at h
    cases e : A l S with
    | exc y l' S' =>
      rw [e] at h
      intro ρ' F' H' σ' dd R' p f hl'
      simp only at h
      cases q : m y with
      | none => rw [q] at h; exact h.elim
      | some b =>
        refine ⟨b, hm y b q, fun hb => ?_, fun hb => ?_⟩
        · subst hb
          rw [q] at h
          simp only at h
          split at h
          · next hz =>
            refine ⟨cl y, rfl, rfl, fun a ha => ?_⟩
            have R2 : Rel (cxt X cl) ρ' (upd F' a (exH (cl y) a)) S' (upd H' a (exH (cl y) a)) := R'.new ha
            have hF := le_upd (o := exH (cl y) a) (R'.fnone ha)
            have l2 : LRel (cxt X cl) ρ' (upd F' a (exH (cl y) a)) (σ'.set i (some (.ref a))) (l'.set i (some (.exc y))) := (hl'.mono (List.prefix_refl _) hF).set i (.exc (.inl upd_same))
            refine ⟨_, S', ρ', _, l2, R2, ?_⟩
            cases e2 : B (l'.set i (some (.exc y))) S' with
            | next l3 S3 =>
              rw [e2] at h
              exact fun ρ3 F3 H3 σ3 R3 p3 f3 l3' => h ρ3 F3 H3 _ R3 (p.trans p3) ((f.trans hF).trans f3) (l3'.drop i none)
            | brk l3 S3 =>
              rw [e2] at h
              exact fun ρ3 F3 H3 σ3 R3 p3 f3 l3' => h ρ3 F3 H3 _ R3 (p.trans p3) ((f.trans hF).trans f3) (l3'.drop i none)
            | cont l3 S3 =>
              rw [e2] at h
              exact fun ρ3 F3 H3 σ3 R3 p3 f3 l3' => h ρ3 F3 H3 _ R3 (p.trans p3) ((f.trans hF).trans f3) (l3'.drop i none)
            | ret d S3 =>
              rw [e2] at h
              exact satS.mono (r := .ret d S3) p (f.trans hF) h
            | exc _ _ _ => rw [e2] at h; exact h.elim
            | bad => rw [e2] at h; exact h.elim
          · exact h.elim
        · subst hb
          rw [q] at h
          exact h ρ' F' H' σ' () R' p f hl'
    | next l' S' => rw [e] at h; exact h
    | ret d S' => rw [e] at h; exact h
    | brk l' S' => rw [e] at h; exact h
    | cont l' S' => rw [e] at h; exact h
    | bad => rw [e] at h; exact h.elim
end
/-! ### isinstance by tables: of types, of classes of exceptions -/
def isxD (tt : List (String × Bool)) (te : List (Nat × Bool)) (d : D) (S : Sto) : Res D := match d with
  | .exc k => (match te.lookup k with
    | some b => .ok (.bl b) S
    | none => .bad)
  | d => (match ((tyD S d).bind fun t => tt.lookup t) with
    | some b => .ok (.bl b) S
    | none => .bad)
def TabT (K : PySem.W.Frag) (cv : Value) (tt : List (String × Bool)) : Prop := ∀ t b, tt.lookup t = some b → PySem.W.kitOne K (.type t) cv = some b
def TabE (K : PySem.W.Frag) (cl : Nat → Addr) (cv : Value) (te : List (Nat × Bool)) : Prop := ∀ k b, te.lookup k = some b → ExcC K (cl k) ∧ PySem.W.kitOne K (.ref (cl k)) cv = some b
section
variable {X : Cx} {cl : Nat → Addr} {W : WX} {A : E} {e : Expr}
theorem call_isx {cv : Value} {tt : List (String × Bool)} {te : List (Nat × Bool)} (ht : TabT X.K cv tt) (he : TabE X.K cl cv te) {pins : List (Addr × Obj)} {σ σ' : L2.St} {s : Shared} {ρ : List Addr} {F H : Hp} {S : Sto} {v : V} {u : Value} {d : D} {Q : VK} (I : Inv X pins σ' H s) (R : Rel (cxt X cl) ρ F S H) (rv : RelV v u) (r : RepD (cxt X cl) ρ F v d)
    (h : satE (cxt X cl) W ρ F σ (isxD tt te d S) Q) : ∃ b : Bool, Q (.bl b) H ∧ ∃ (t : Value) (P : Heap → Prop), PySem.W.KitX X.K u t P ∧ P s.heap ∧ u ≠ .builtin "__main__.__loader__#opaque" ∧ PySem.W.kitOne X.K t cv = some b := by
  by_cases hx : ∃ k, d = .exc k
  · obtain ⟨k, rfl⟩ := hx
    unfold isxD at h
    simp only at h
    cases e1 : te.lookup k with
    | none => rw [e1] at h; exact h.elim
    | some b =>
      rw [e1] at h
      obtain ⟨C, hk⟩ := he k b e1
      cases r with
      | @exc a n hr =>
        cases rv
        have q : ObjOk X.prog X.w H s.heap a (exH (cl k) a) := by
          rcases rd_mono R.fz hr with q | ⟨o, q⟩
          · exact I.hok _ _ q
          · exact (I.hok _ _ q).2
        obtain ⟨⟨oe, vs, hget, hz, hv⟩, _⟩ := q
        have J : PySem.W.InstAt s.heap a oe (cl k) none := by
          obtain ⟨oc, od, oda, osl⟩ := oe
          obtain ⟨h1, h2⟩ := hz
          dsimp only at h1 h2 hv
          subst h1 h2 hv
          exact ⟨hget, rfl, rfl, trivial⟩
        exact ⟨b, h.now R (.bl b), _, _, PySem.W.handS_kitx_exc C.hg C.hk C.hs C.hd C.ha C.hn C.ht C.hm, J, (fun z => nomatch z), hk⟩
  · have h' : satE (cxt X cl) W ρ F σ (match ((tyD S d).bind fun t => tt.lookup t) with
        | some b => Res.ok (D.bl b) S
        | none => .bad) Q := by
      cases d <;> first | exact h | exact absurd ⟨_, rfl⟩ hx
    cases e1 : tyD S d with
    | none => rw [e1] at h'; exact h'.elim
    | some t =>
      rw [e1] at h'
      cases e2 : tt.lookup t with
      | none => simp only [Option.bind, e2] at h'; exact h'.elim
      | some b =>
        simp only [Option.bind, e2] at h'
        obtain ⟨P, Z, pp, hx⟩ := kit_ofD I R rv r e1
        exact ⟨b, h'.now R (.bl b), _, P, Z, pp, hx, ht t b e2⟩
theorem de_isxO {p p2 pos : Pos} (he : DE X cl W e A) (hg : Gl X "isinstance") (hm : X.mg "isinstance" = none) {x : Str} {C2 : Addr} {tt : List (String × Bool)} {te : List (Nat × Bool)} (ht : TabT X.K (.ref C2) tt) (hE : TabE X.K cl (.ref C2) te) (hgx : Gl X x) (hmx : X.mg x = some (.ref C2)) (hdb : (x == ("__debug__" : Str)) = false := by decide)
    (hi : bootBuiltins "isinstance" = some (.builtin "isinstance") := by rfl) (hs : starEach [e, .Name x p2] X.env = [(false, eval e X.env), (false, eval (.Name x p2) X.env)] := by rfl) (hs1 : starEach [.Name x p2] X.env = [(false, eval (.Name x p2) X.env)] := by rfl) :
    DE X cl W (.Call (.Name "isinstance" p) [e, .Name x p2] [] pos) (eOp1 (isxD tt te) A) := ⟨fun pins s σ H Q I ⟨l, S, ρ, F, hl, R, h⟩ => by
  refine (pe_callB (r := fun xs H' Q' => ∃ v S1 ρ1 F1 d, xs = [v, .ref C2] ∧ Rel (cxt X cl) ρ1 F1 S1 H' ∧ RepD (cxt X cl) ρ1 F1 v d ∧ satE (cxt X cl) W ρ1 F1 σ (isxD tt te d S1) Q') (fun pins s σ' H xs us Q I r hh => ?_) hg hm hi (pa_cons he (pa_cons (pe_glob (v := .ref C2) hgx hmx rfl hdb) pa_nil (by rw [hs1]; rfl)) (by rw [hs, hs1])) (by decide) (by decide) (by rw [hs, hs1]) (by rw [hs1]; rfl)).run pins s σ H Q I ?_
  · obtain ⟨v, S1, ρ1, F1, d, rfl, R1, rd, hh⟩ := hh
    obtain ⟨u1, u2, rfl, r1, r2⟩ := vals2 r
    cases (show u2 = Value.ref C2 from r2)
    obtain ⟨b, q, t, P, Z, pp, hx, hk⟩ := call_isx ht hE I R1 r1 rd hh
    exact PySem.W.kia_one Z I.kIn pp hk hx fun tk => ⟨.bl b, H, I.tok tk, rfl, q⟩
  · refine tE_stepX hl R (satE.x h) fun d S1 ρ1 F1 H1 v R1 hl1 r1 p1 f1 h1 => ?_
    exact ⟨v, S1, ρ1, F1, d, rfl, R1, r1, satE.mono p1 f1 h1⟩⟩
theorem de_isxT {p p2 pos : Pos} (he : DE X cl W e A) (hg : Gl X "isinstance") (hm : X.mg "isinstance" = none) {x : Str} {T : String} {tt : List (String × Bool)} {te : List (Nat × Bool)} (ht : TabT X.K (.type T) tt) (hE : TabE X.K cl (.type T) te) (hgT : Gl X x) (hmT : X.mg x = none) (hv : bootBuiltins x = some (.type T) := by rfl) (hn : x ≠ "__name__" := by decide) (hdb : (x == ("__debug__" : Str)) = false := by decide)
    (hi : bootBuiltins "isinstance" = some (.builtin "isinstance") := by rfl) (hs : starEach [e, .Name x p2] X.env = [(false, eval e X.env), (false, eval (.Name x p2) X.env)] := by rfl) (hs1 : starEach [.Name x p2] X.env = [(false, eval (.Name x p2) X.env)] := by rfl) :
    DE X cl W (.Call (.Name "isinstance" p) [e, .Name x p2] [] pos) (eOp1 (isxD tt te) A) := ⟨fun pins s σ H Q I ⟨l, S, ρ, F, hl, R, h⟩ => by
  refine (pe_callB (r := fun xs H' Q' => ∃ v S1 ρ1 F1 d, xs = [v, .ty T] ∧ Rel (cxt X cl) ρ1 F1 S1 H' ∧ RepD (cxt X cl) ρ1 F1 v d ∧ satE (cxt X cl) W ρ1 F1 σ (isxD tt te d S1) Q') (fun pins s σ' H xs us Q I r hh => ?_) hg hm hi (pa_cons he (pa_cons (pe_bltn (v := .ty T) hgT hmT hv rfl hn hdb) pa_nil (by rw [hs1]; rfl)) (by rw [hs, hs1])) (by decide) (by decide) (by rw [hs, hs1]) (by rw [hs1]; rfl)).run pins s σ H Q I ?_
  · obtain ⟨v, S1, ρ1, F1, d, rfl, R1, rd, hh⟩ := hh
    obtain ⟨u1, u2, rfl, r1, r2⟩ := vals2 r
    cases (show u2 = Value.type T from r2)
    obtain ⟨b, q, t, P, Z, pp, hx, hk⟩ := call_isx ht hE I R1 r1 rd hh
    exact PySem.W.kia_one Z I.kIn pp hk hx fun tk => ⟨.bl b, H, I.tok tk, rfl, q⟩
  · refine tE_stepX hl R (satE.x h) fun d S1 ρ1 F1 H1 v R1 hl1 r1 p1 f1 h1 => ?_
    exact ⟨v, S1, ρ1, F1, d, rfl, R1, r1, satE.mono p1 f1 h1⟩⟩
end
/-! ### text * number -/
def repS (x : Str) (k : Int) : Str := ⟨(List.replicate k.toNat x.cps.toList).flatten.toArray⟩
theorem foldl_repN (its : List Nat) : ∀ (k : Nat) (acc : List Nat), List.foldl (fun x1 x2 => x1 ++ x2) acc.toArray (List.replicate k its.toArray) = (acc ++ (List.replicate k its).flatten).toArray
  | 0, acc => by simp
  | k + 1, acc => by
    rw [List.replicate_succ, List.foldl_cons, show acc.toArray ++ its.toArray = (acc ++ its).toArray by simp, foldl_repN its k (acc ++ its), List.replicate_succ, List.flatten_cons, List.append_assoc]
theorem repS_low {x : Str} {k : Int} (h : k < 1) : repS x k = Str.empty := by
  unfold repS
  rw [show k.toNat = 0 by omega]; rfl
theorem repS_one (x : Str) : repS x 1 = x := by
  obtain ⟨⟨l⟩⟩ := x
  unfold repS
  simp
theorem repS_nil {x : Str} {k : Int} (h : x.length = 0) : repS x k = x := by
  obtain ⟨⟨l⟩⟩ := x
  have : l = [] := List.eq_nil_of_length_eq_zero h
  subst this
  unfold repS
  congr 1
  simp
theorem repS_len (x : Str) (k : Int) : (repS x k).length = k.toNat * x.length := by
  obtain ⟨⟨l⟩⟩ := x
  show ((List.replicate k.toNat l).flatten.toArray).size = k.toNat * l.length
  rw [List.size_toArray, PyProof.Rows.lm_len_rep_flat]
def smulD : D → D → Sto → Res D
  | .str x, .int k, S => if -1000 ≤ k ∧ k ≤ 1000 ∧ x.length ≤ 1000 then .ok (.str (repS x k)) S else .bad
  | _, _, _ => .bad
theorem op_smul {X : Cx} : OpR X (binaryOp .Mult) (fun x y H Q => ∃ i k, x = .str i ∧ y = .int k ∧ (-1000 ≤ k ∧ k ≤ 1000 ∧ i.length ≤ 1000) ∧ Q (.str (repS i k)) H) := by
  intro pins s σ H x y v u Q I rx ry h
  obtain ⟨i, k, rfl, rfl, ⟨h1, h2, h3⟩, q⟩ := h
  obtain ⟨t, rfl⟩ := rx
  obtain ⟨t2, rfl⟩ := ry
  have big : (k.toNat) * i.length ≤ 1000 * 1000 := Nat.mul_le_mul (by omega) h3
  refine P.mul_str (by rw [decide_eq_false (by omega), decide_eq_false (by omega)]; rfl) (fun hk _ hc => ?_) (fun hk _ => ?_) ?_
  · have h4 : (1000 : Int) ≤ (2 ^ 63 - 1) / k := by
      rw [Int.le_ediv_iff_mul_le (by omega)]
      omega
    omega
  · unfold Builtin.Str.tooLong
    refine decide_eq_false ?_
    rw [sizeLine_eq, Nat.mul_comm]
    omega
  · by_cases hk : k < 1
    · rw [if_pos hk]
      rw [repS_low hk] at q
      exact ⟨by rw [sizeLine_eq]; exact Nat.zero_le _, .str Str.empty, H, I.tok _, ⟨_, rfl⟩, q⟩
    · rw [if_neg hk]
      by_cases hc : (k == 1 || i.length == 0) = true
      · rw [if_pos hc]
        have e : repS i k = i := by
          rw [Bool.or_eq_true, beq_iff_eq, beq_iff_eq] at hc
          rcases hc with rfl | hc
          · exact repS_one i
          · exact repS_nil hc
        rw [e] at q
        exact ⟨.str i, H, I, ⟨_, rfl⟩, q⟩
      · rw [if_neg hc]
        have e : (⟨(List.replicate k.toNat i.cps).foldl (· ++ ·) #[]⟩ : Str) = repS i k := by
          obtain ⟨⟨l⟩⟩ := i
          unfold repS
          congr 1
          have := foldl_repN l k.toNat []
          rw [List.nil_append] at this
          exact this
        rw [e]
        exact ⟨by rw [repS_len, sizeLine_eq]; omega, .str _, H, I.tok _, ⟨_, rfl⟩, q⟩
theorem od_smul {X : Cx} {cl : Nat → Addr} {W : WX} : OpD X cl W (binaryOp .Mult) smulD := op_smul.weak fun x y H Q ⟨ρ, F, S, σ, dx, dy, R, r1, r2, h⟩ => by
  unfold smulD at h
  split at h
  · split at h
    · next hz => cases r1; cases r2; exact ⟨_, _, rfl, rfl, hz, h.now R (.str _)⟩
    · exact h.elim
  · exact h.elim
/-! ### tables as lists -/
theorem look_nil {α β : Type} [BEq α] {P : α → β → Prop} : ∀ y b, List.lookup y ([] : List (α × β)) = some b → P y b := fun y b h => by cases h
theorem look_cons {α β : Type} [BEq α] [LawfulBEq α] {P : α → β → Prop} {k : α} {v : β} {t : List (α × β)} (h : P k v) (ht : ∀ y b, List.lookup y t = some b → P y b) : ∀ y b, List.lookup y ((k, v) :: t) = some b → P y b := fun y b q => by
  rw [List.lookup_cons] at q
  split at q
  · next e => cases q; rw [beq_iff_eq] at e; rw [e]; exact h
  · exact ht y b q
end DL

/-! VL1: values in place of cells: what a live list, dict, object holds, owned by one name; the ownership of cells. -/
namespace VL
open PySem PySem.Spec PyProof.Rows L2 DL

abbrev flat (d : D) : Prop := rlt 0 d = true
abbrev flats (ds : List D) : Prop := rlts 0 ds = true
mutual
theorem rlt_up {m n : Nat} (h : m ≤ n) : ∀ d : D, rlt m d = true → rlt n d = true
  | .non, _ => by unfold rlt; rfl
  | .bl _, _ => by unfold rlt; rfl
  | .int _, _ => by unfold rlt; rfl
  | .str _, _ => by unfold rlt; rfl
  | .tup xs, q => by unfold rlt at q ⊢; exact rlts_up h xs q
  | .lst xs, q => by unfold rlt at q ⊢; exact rlts_up h xs q
  | .dic _ xs, q => by unfold rlt at q ⊢; exact rlts_up h xs q
  | .ref k, q => by unfold rlt at q ⊢; exact decide_eq_true (Nat.lt_of_lt_of_le (of_decide_eq_true q) h)
  | .exc _, _ => by unfold rlt; rfl
theorem rlts_up {m n : Nat} (h : m ≤ n) : ∀ ds : List D, rlts m ds = true → rlts n ds = true
  | [], _ => by unfold rlts; rfl
  | d :: ds, q => by
    rw [rlts_cons, Bool.and_eq_true] at q ⊢
    exact ⟨rlt_up h d q.1, rlts_up h ds q.2⟩
end
/-- what a name (or a field) has: nothing, a value, a live list of values, a live dict of values, a live list of owned things, an object -/
inductive Sl where
  | no | va (d : D) | lv (xs : List D) | di (es : List D) | ls (ss : List Sl) | ins (c : Nat) (ns : List Str) (ss : List Sl)
abbrev Env := List Sl
/-- the cells under a name -/
inductive FT where
  | val | cell (n : Nat) | lnode (n : Nat) (ts : List FT) | node (n : Nat) (ns : List Str) (ts : List FT)
def rootD : Sl → FT → D
  | .va d, _ => d
  | _, .cell n => .ref n
  | _, .lnode n _ => .ref n
  | _, .node n _ _ => .ref n
  | _, .val => .non
def roots (ss : List Sl) (ts : List FT) : List D := List.zipWith rootD ss ts
mutual
def foot : FT → List Nat
  | .val => []
  | .cell n => [n]
  | .lnode n ts => n :: foots ts
  | .node n _ ts => n :: foots ts
def foots : List FT → List Nat
  | [] => []
  | t :: ts => foot t ++ foots ts
end
mutual
def Own (S : Sto) : Sl → FT → Prop
  | .va d, .val => flat d
  | .lv xs, .cell n => S[n]? = some (.lst xs) ∧ flats xs
  | .di es, .cell n => S[n]? = some (.dic false es) ∧ flats es
  | .ls ss, .lnode n ts => S[n]? = some (.lst (roots ss ts)) ∧ Owns S ss ts
  | .ins c ns ss, .node n ms ts => ns = ms ∧ ns.length = ss.length ∧ ns.Nodup ∧ S[n]? = some (.ins c (ns.zip (roots ss ts))) ∧ Owns S ss ts
  | _, _ => False
def Owns (S : Sto) : List Sl → List FT → Prop
  | [], [] => True
  | s :: ss, t :: ts => Own S s t ∧ Owns S ss ts
  | _, _ => False
end
section
variable {S S' : Sto}
theorem owns_nil : Owns S [] [] := by unfold Owns; trivial
theorem owns_cons {s : Sl} {ss : List Sl} {t : FT} {ts : List FT} : Owns S (s :: ss) (t :: ts) ↔ Own S s t ∧ Owns S ss ts := by rw [Owns]
theorem owns_iff : ∀ {ss : List Sl} {ts : List FT}, Owns S ss ts ↔ ss.length = ts.length ∧ ∀ (i : Nat) (s : Sl) (t : FT), ss[i]? = some s → ts[i]? = some t → Own S s t
  | [], [] => ⟨fun _ => ⟨rfl, fun i s t h => by simp at h⟩, fun _ => owns_nil⟩
  | [], _ :: _ => ⟨fun h => by simp [Owns] at h, fun h => by simp at h⟩
  | _ :: _, [] => ⟨fun h => by simp [Owns] at h, fun h => by simp at h⟩
  | s :: ss, t :: ts => by
    rw [owns_cons, owns_iff (ss := ss) (ts := ts)]
    constructor
    · rintro ⟨h, hl, hh⟩
      refine ⟨by simp [hl], fun i s' t' h1 h2 => ?_⟩
      cases i with
      | zero => simp at h1 h2; subst h1 h2; exact h
      | succ i => simp at h1 h2; exact hh i _ _ h1 h2
    · rintro ⟨hl, hh⟩
      exact ⟨hh 0 s t rfl rfl, by simpa using hl, fun i s' t' h1 h2 => hh (i + 1) s' t' (by simpa using h1) (by simpa using h2)⟩
theorem own_va {d : D} : Own S (.va d) .val ↔ flat d := by rw [Own]
theorem own_lv {xs : List D} {n : Nat} : Own S (.lv xs) (.cell n) ↔ S[n]? = some (.lst xs) ∧ flats xs := by rw [Own]
theorem own_di {xs : List D} {n : Nat} : Own S (.di xs) (.cell n) ↔ S[n]? = some (.dic false xs) ∧ flats xs := by rw [Own]
theorem own_ls {ss : List Sl} {n : Nat} {ts : List FT} : Own S (.ls ss) (.lnode n ts) ↔ S[n]? = some (.lst (roots ss ts)) ∧ Owns S ss ts := by rw [Own]
theorem own_ins {c : Nat} {ns ms : List Str} {ss : List Sl} {n : Nat} {ts : List FT} : Own S (.ins c ns ss) (.node n ms ts) ↔ ns = ms ∧ ns.length = ss.length ∧ ns.Nodup ∧ S[n]? = some (.ins c (ns.zip (roots ss ts))) ∧ Owns S ss ts := by rw [Own]
/-- the forms -/
theorem own_cases {s : Sl} {t : FT} (h : Own S s t) : (∃ d, s = .va d ∧ t = .val ∧ flat d) ∨ (∃ xs n, s = .lv xs ∧ t = .cell n ∧ S[n]? = some (.lst xs) ∧ flats xs) ∨ (∃ xs n, s = .di xs ∧ t = .cell n ∧ S[n]? = some (.dic false xs) ∧ flats xs) ∨
    (∃ ss n ts, s = .ls ss ∧ t = .lnode n ts ∧ S[n]? = some (.lst (roots ss ts)) ∧ Owns S ss ts) ∨ ∃ c ns ss n ts, s = .ins c ns ss ∧ t = .node n ns ts ∧ ns.length = ss.length ∧ ns.Nodup ∧ S[n]? = some (.ins c (ns.zip (roots ss ts))) ∧ Owns S ss ts := by
  unfold Own at h
  split at h
  · exact .inl ⟨_, rfl, rfl, h⟩
  · exact .inr (.inl ⟨_, _, rfl, rfl, h⟩)
  · exact .inr (.inr (.inl ⟨_, _, rfl, rfl, h⟩))
  · exact .inr (.inr (.inr (.inl ⟨_, _, _, rfl, rfl, h⟩)))
  · obtain ⟨rfl, h⟩ := h
    exact .inr (.inr (.inr (.inr ⟨_, _, _, _, _, rfl, rfl, h⟩)))
  · exact h.elim
mutual
theorem Own.keep : ∀ (t : FT) (s : Sl), (∀ n ∈ foot t, S'[n]? = S[n]?) → Own S s t → Own S' s t
  | .val, s, hk, h => by
    rcases own_cases h with ⟨d, rfl, _, hd⟩ | ⟨_, _, _, z, _⟩ | ⟨_, _, _, z, _⟩ | ⟨_, _, _, _, z, _⟩ | ⟨_, _, _, _, _, _, z, _⟩
    · exact own_va.mpr hd
    all_goals cases z
  | .cell n, s, hk, h => by
    have hn := hk n (by unfold foot; simp)
    rcases own_cases h with ⟨d, rfl, z, hd⟩ | ⟨_, _, rfl, z, h1, h2⟩ | ⟨_, _, rfl, z, h1, h2⟩ | ⟨_, _, _, _, z, _⟩ | ⟨_, _, _, _, _, _, z, _⟩
    · cases z
    · cases z; exact own_lv.mpr ⟨hn.trans h1, h2⟩
    · cases z; exact own_di.mpr ⟨hn.trans h1, h2⟩
    all_goals cases z
  | .lnode n ts, s, hk, h => by
    have hn := hk n (by unfold foot; simp)
    rcases own_cases h with ⟨d, rfl, z, hd⟩ | ⟨_, _, rfl, z, h1, h2⟩ | ⟨_, _, rfl, z, h1, h2⟩ | ⟨_, _, _, rfl, z, h1, h2⟩ | ⟨_, _, _, _, _, _, z, _⟩
    · cases z
    · cases z
    · cases z
    · cases z; exact own_ls.mpr ⟨hn.trans h1, Owns.keep ts _ (fun m hm => hk m (by unfold foot; simp [hm])) h2⟩
    · cases z
  | .node n ns ts, s, hk, h => by
    have hn := hk n (by unfold foot; simp)
    rcases own_cases h with ⟨d, rfl, z, hd⟩ | ⟨_, _, rfl, z, h1, h2⟩ | ⟨_, _, rfl, z, h1, h2⟩ | ⟨_, _, _, rfl, z, h1, h2⟩ | ⟨_, _, _, _, _, rfl, z, h1, h2, h3, h4⟩
    · cases z
    · cases z
    · cases z
    · cases z
    · cases z; exact own_ins.mpr ⟨rfl, h1, h2, hn.trans h3, Owns.keep ts _ (fun m hm => hk m (by unfold foot; simp [hm])) h4⟩
theorem Owns.keep : ∀ (ts : List FT) (ss : List Sl), (∀ n ∈ foots ts, S'[n]? = S[n]?) → Owns S ss ts → Owns S' ss ts
  | [], [], hk, h => owns_nil
  | [], _ :: _, hk, h => by simp [Owns] at h
  | _ :: _, [], hk, h => by simp [Owns] at h
  | t :: ts, s :: ss, hk, h => by
    rw [owns_cons] at h ⊢
    exact ⟨Own.keep t s (fun m hm => hk m (by unfold foots; simp [hm])) h.1, Owns.keep ts ss (fun m hm => hk m (by unfold foots; simp [hm])) h.2⟩
end
mutual
/-- each cell stands, and names cells under it alone -/
theorem Own.cells : ∀ (t : FT) (s : Sl), Own S s t → (∀ N, (∀ n ∈ foot t, n < N) → rlt N (rootD s t) = true ∧ ∀ n ∈ foot t, ∃ c, S[n]? = some c ∧ cellRlt N c = true) ∧ ∀ n ∈ foot t, n < S.length
  | .val, s, h => by
    rcases own_cases h with ⟨d, rfl, _, hd⟩ | ⟨_, _, _, z, _⟩ | ⟨_, _, _, z, _⟩ | ⟨_, _, _, _, z, _⟩ | ⟨_, _, _, _, _, _, z, _⟩
    · exact ⟨fun N _ => ⟨rlt_up (Nat.zero_le N) d hd, fun n hn => by unfold foot at hn; simp at hn⟩, fun n hn => by unfold foot at hn; simp at hn⟩
    all_goals cases z
  | .cell n, s, h => by
    rcases own_cases h with ⟨d, rfl, z, hd⟩ | ⟨xs, _, rfl, z, h1, h2⟩ | ⟨xs, _, rfl, z, h1, h2⟩ | ⟨_, _, _, _, z, _⟩ | ⟨_, _, _, _, _, _, z, _⟩
    · cases z
    · cases z
      refine ⟨fun N hN => ⟨?_, fun m hm => ?_⟩, fun m hm => ?_⟩
      · show rlt N (.ref n) = true
        unfold rlt; exact decide_eq_true (hN n (by unfold foot; simp))
      · unfold foot at hm; simp at hm; subst hm
        exact ⟨_, h1, rlts_up (Nat.zero_le N) xs h2⟩
      · unfold foot at hm; simp at hm; subst hm
        exact (List.getElem?_eq_some_iff.mp h1).1
    · cases z
      refine ⟨fun N hN => ⟨?_, fun m hm => ?_⟩, fun m hm => ?_⟩
      · show rlt N (.ref n) = true
        unfold rlt; exact decide_eq_true (hN n (by unfold foot; simp))
      · unfold foot at hm; simp at hm; subst hm
        exact ⟨_, h1, rlts_up (Nat.zero_le N) xs h2⟩
      · unfold foot at hm; simp at hm; subst hm
        exact (List.getElem?_eq_some_iff.mp h1).1
    all_goals cases z
  | .lnode n ts, s, h => by
    rcases own_cases h with ⟨d, rfl, z, hd⟩ | ⟨_, _, rfl, z, h1, h2⟩ | ⟨_, _, rfl, z, h1, h2⟩ | ⟨ss, _, _, rfl, z, h1, h2⟩ | ⟨_, _, _, _, _, _, z, _⟩
    · cases z
    · cases z
    · cases z
    · cases z
      obtain ⟨k1, k2⟩ := Owns.cells ts ss h2
      refine ⟨fun N hN => ⟨?_, fun m hm => ?_⟩, fun m hm => ?_⟩
      · show rlt N (.ref n) = true
        unfold rlt; exact decide_eq_true (hN n (by unfold foot; simp))
      · have q := k1 N fun m hm => hN m (by unfold foot; simp [hm])
        unfold foot at hm
        rcases List.mem_cons.mp hm with rfl | hm
        · exact ⟨_, h1, q.1⟩
        · exact q.2 m hm
      · unfold foot at hm
        rcases List.mem_cons.mp hm with rfl | hm
        · exact (List.getElem?_eq_some_iff.mp h1).1
        · exact k2 m hm
    · cases z
  | .node n ns ts, s, h => by
    rcases own_cases h with ⟨d, rfl, z, hd⟩ | ⟨_, _, rfl, z, h1, h2⟩ | ⟨_, _, rfl, z, h1, h2⟩ | ⟨_, _, _, rfl, z, h1, h2⟩ | ⟨c, _, ss, _, _, rfl, z, h1, h2, h3, h4⟩
    · cases z
    · cases z
    · cases z
    · cases z
    · cases z
      obtain ⟨k1, k2⟩ := Owns.cells ts ss h4
      refine ⟨fun N hN => ⟨?_, fun m hm => ?_⟩, fun m hm => ?_⟩
      · show rlt N (.ref n) = true
        unfold rlt; exact decide_eq_true (hN n (by unfold foot; simp))
      · have q := k1 N fun m hm => hN m (by unfold foot; simp [hm])
        unfold foot at hm
        rcases List.mem_cons.mp hm with rfl | hm
        · refine ⟨_, h3, ?_⟩
          show rlts N ((ns.zip (roots ss ts)).map (·.2)) = true
          have hl : (roots ss ts).length ≤ ns.length := by unfold roots; rw [List.length_zipWith]; omega
          rw [List.map_snd_zip hl]
          exact q.1
        · exact q.2 m hm
      · unfold foot at hm
        rcases List.mem_cons.mp hm with rfl | hm
        · exact (List.getElem?_eq_some_iff.mp h3).1
        · exact k2 m hm
theorem Owns.cells : ∀ (ts : List FT) (ss : List Sl), Owns S ss ts → (∀ N, (∀ n ∈ foots ts, n < N) → rlts N (roots ss ts) = true ∧ ∀ n ∈ foots ts, ∃ c, S[n]? = some c ∧ cellRlt N c = true) ∧ ∀ n ∈ foots ts, n < S.length
  | [], [], h => ⟨fun N hN => ⟨by show rlts N [] = true; unfold rlts; rfl, fun n hn => by unfold foots at hn; simp at hn⟩, fun n hn => by unfold foots at hn; simp at hn⟩
  | [], _ :: _, h => by simp [Owns] at h
  | _ :: _, [], h => by simp [Owns] at h
  | t :: ts, s :: ss, h => by
    rw [owns_cons] at h
    obtain ⟨a1, a2⟩ := Own.cells t s h.1
    obtain ⟨b1, b2⟩ := Owns.cells ts ss h.2
    refine ⟨fun N hN => ?_, fun n hn => ?_⟩
    · have qa := a1 N fun m hm => hN m (by unfold foots; simp [hm])
      have qb := b1 N fun m hm => hN m (by unfold foots; simp [hm])
      refine ⟨?_, fun n hn => ?_⟩
      · show rlts N (rootD s t :: roots ss ts) = true
        rw [rlts_cons, qa.1, qb.1]; rfl
      · unfold foots at hn
        rcases List.mem_append.mp hn with hn | hn
        · exact qa.2 n hn
        · exact qb.2 n hn
    · unfold foots at hn
      rcases List.mem_append.mp hn with hn | hn
      · exact a2 n hn
      · exact b2 n hn
end
end
end VL

/-! VL2: places, what names own, the state of a def. -/
namespace VL
open PySem PySem.Spec PyProof.Rows L2 DL

/-! ### places: a name, or a field of a field .. of it -/
abbrev Path := List (Nat × Str)
def Sl.get : Path → Sl → Option Sl
  | [], s => some s
  | f :: p, .ins c ns ss => if f.1 = c then (match ss[ns.idxOf f.2]? with | some u => u.get p | none => none) else none
  | _ :: _, _ => none
def Sl.put : Path → Sl → Sl → Sl
  | [], _, t => t
  | f :: p, .ins c ns ss, t => (match ss[ns.idxOf f.2]? with | some u => .ins c ns (ss.set (ns.idxOf f.2) (u.put p t)) | none => .ins c ns ss)
  | _ :: _, s, _ => s
def FT.get : Path → FT → Option FT
  | [], s => some s
  | f :: p, .node _ ns ts => (match ts[ns.idxOf f.2]? with | some u => u.get p | none => none)
  | _ :: _, _ => none
theorem foots_at : ∀ {ts : List FT} {k : Nat} {t : FT} {n : Nat}, ts[k]? = some t → n ∈ foot t → n ∈ foots ts
  | [], k, t, n, h, _ => by simp at h
  | u :: ts, 0, t, n, h, hn => by simp at h; subst h; unfold foots; simp [hn]
  | u :: ts, k + 1, t, n, h, hn => by
    unfold foots
    exact List.mem_append_right _ (foots_at (k := k) (by simpa using h) hn)
theorem foots_apart : ∀ {ts : List FT} {i j : Nat} {t u : FT} {n : Nat}, (foots ts).Nodup → ts[i]? = some t → ts[j]? = some u → n ∈ foot t → n ∈ foot u → i = j
  | [], i, j, t, u, n, _, h, _, _, _ => by simp at h
  | v :: ts, 0, 0, _, _, _, _, _, _, _, _ => rfl
  | v :: ts, i + 1, j + 1, t, u, n, hd, h1, h2, h3, h4 => by
    unfold foots at hd
    rw [foots_apart (ts := ts) (i := i) (j := j) (List.nodup_append.mp hd).2.1 (by simpa using h1) (by simpa using h2) h3 h4]
  | v :: ts, 0, j + 1, t, u, n, hd, h1, h2, h3, h4 => by
    unfold foots at hd
    simp at h1; subst h1
    exact absurd rfl ((List.nodup_append.mp hd).2.2 n h3 n (foots_at (k := j) (by simpa using h2) h4))
  | v :: ts, i + 1, 0, t, u, n, hd, h1, h2, h3, h4 => by
    unfold foots at hd
    simp at h2; subst h2
    exact absurd rfl ((List.nodup_append.mp hd).2.2 n h4 n (foots_at (k := i) (by simpa using h1) h3))
theorem foots_nd : ∀ {ts : List FT} {k : Nat} {t : FT}, (foots ts).Nodup → ts[k]? = some t → (foot t).Nodup
  | [], k, t, _, h => by simp at h
  | u :: ts, 0, t, hd, h => by simp at h; subst h; unfold foots at hd; exact (List.nodup_append.mp hd).1
  | u :: ts, k + 1, t, hd, h => by unfold foots at hd; exact foots_nd (k := k) (List.nodup_append.mp hd).2.1 (by simpa using h)
theorem roots_at {ss : List Sl} {ts : List FT} {k : Nat} {s : Sl} {t : FT} (h1 : ss[k]? = some s) (h2 : ts[k]? = some t) : (roots ss ts)[k]? = some (rootD s t) := by
  unfold roots; rw [List.getElem?_zipWith, h1, h2]
theorem roots_set {ss : List Sl} {ts : List FT} {k : Nat} {s s' : Sl} {t : FT} (h1 : ss[k]? = some s) (h2 : ts[k]? = some t) (h : rootD s' t = rootD s t) : roots (ss.set k s') ts = roots ss ts := by
  refine List.ext_getElem? fun i => ?_
  unfold roots
  rw [List.getElem?_zipWith, List.getElem?_zipWith]
  by_cases hi : k = i
  · subst hi
    rw [List.getElem?_set_self (List.getElem?_eq_some_iff.mp h1).1, h1, h2]
    simp [h]
  · rw [List.getElem?_set_ne hi]
/-- the focus on a place -/
theorem own_focus {S : Sto} : ∀ (p : Path) {s t : Sl} {ft : FT}, Own S s ft → s.get p = some t → ∃ gt, ft.get p = some gt ∧ Own S t gt ∧ (∀ n ∈ foot gt, n ∈ foot ft) ∧
    ((foot ft).Nodup → ∀ (S' : Sto) (t' : Sl), Own S' t' gt → rootD t' gt = rootD t gt → (∀ n ∈ foot ft, n ∉ foot gt → S'[n]? = S[n]?) → Own S' (s.put p t') ft ∧ rootD (s.put p t') ft = rootD s ft)
  | [], s, t, ft, h, e => by
    cases e
    exact ⟨ft, rfl, h, fun _ h => h, fun _ S' t' h1 h2 _ => ⟨h1, h2⟩⟩
  | f :: p, s, t, ft, h, e => by
    rcases own_cases h with ⟨d, rfl, _, _⟩ | ⟨_, _, rfl, _⟩ | ⟨_, _, rfl, _⟩ | ⟨_, _, _, rfl, _⟩ | ⟨c, ns, ss, n, ts, rfl, rfl, h1, h2, h3, h4⟩
    · cases e
    · cases e
    · cases e
    · cases e
    · unfold Sl.get at e
      split at e
      case isFalse => cases e
      split at e
      · next u hu =>
        obtain ⟨hl, hh⟩ := owns_iff.mp h4
        have hk : ns.idxOf f.2 < ts.length := by rw [← hl]; exact (List.getElem?_eq_some_iff.mp hu).1
        have hut : ts[ns.idxOf f.2]? = some ts[ns.idxOf f.2] := List.getElem?_eq_getElem hk
        obtain ⟨gt, g1, g2, g3, g4⟩ := own_focus p (hh _ _ _ hu hut) e
        refine ⟨gt, by unfold FT.get; rw [hut]; exact g1, g2, fun m hm => by unfold foot; exact List.mem_cons_of_mem _ (foots_at hut (g3 m hm)), fun nd S' t' o r hk' => ?_⟩
        unfold foot at nd
        have nd1 := (List.nodup_cons.mp nd).1
        have nd2 := (List.nodup_cons.mp nd).2
        obtain ⟨q1, q2⟩ := g4 (foots_nd nd2 hut) S' t' o r fun m hm hm' => hk' m (by unfold foot; exact List.mem_cons_of_mem _ (foots_at hut hm)) hm'
        have eput : (Sl.ins c ns ss).put (f :: p) t' = .ins c ns (ss.set (ns.idxOf f.2) (u.put p t')) := by
          show (match ss[ns.idxOf f.2]? with | some u => Sl.ins c ns (ss.set (ns.idxOf f.2) (u.put p t')) | none => .ins c ns ss) = _
          rw [hu]
        rw [eput]
        have hn : S'[n]? = S[n]? := hk' n (by unfold foot; simp) fun hm => nd1 (foots_at hut (g3 n hm))
        refine ⟨own_ins.mpr ⟨rfl, by simpa using h1, h2, ?_, owns_iff.mpr ⟨by simpa using hl, fun i s' t'' e1 e2 => ?_⟩⟩, rfl⟩
        · rw [hn, h3, roots_set hu hut q2]
        · by_cases hi : ns.idxOf f.2 = i
          · subst hi
            rw [List.getElem?_set_self (List.getElem?_eq_some_iff.mp hu).1] at e1
            rw [hut] at e2
            cases e1; cases e2
            exact q1
          · rw [List.getElem?_set_ne hi] at e1
            refine Own.keep t'' s' (fun m hm => hk' m (by unfold foot; exact List.mem_cons_of_mem _ (foots_at e2 hm)) fun hm' => hi (foots_apart nd2 hut e2 (g3 m hm') hm)) (hh _ _ _ e1 e2)
      · cases e

/-! ### names and what they own -/
structure RV (env : Env) (l : DL.Loc) (S : Sto) (fts : List FT) : Prop where
  l1 : l.length = env.length
  l2 : fts.length = env.length
  sl : ∀ (i : Nat) (s : Sl) (t : FT), env[i]? = some s → fts[i]? = some t → s ≠ .no → l[i]? = some (some (rootD s t)) ∧ Own S s t
  no : ∀ (i : Nat) (t : FT), env[i]? = some .no → fts[i]? = some t → t = .val
  nd : ∀ (i j : Nat) (t u : FT) (n : Nat), fts[i]? = some t → fts[j]? = some u → n ∈ foot t → n ∈ foot u → i = j
  nd1 : ∀ (i : Nat) (t : FT), fts[i]? = some t → (foot t).Nodup
def getP (e : Env) (i : Nat) (p : Path) : Option Sl := match e[i]? with
  | some s => s.get p
  | none => none
def putP (e : Env) (i : Nat) (p : Path) (t : Sl) : Env := match e[i]? with
  | some s => e.set i (s.put p t)
  | none => e
def ftP (fts : List FT) (i : Nat) (p : Path) : Option FT := match fts[i]? with
  | some s => s.get p
  | none => none
theorem own_no {S : Sto} {t : FT} : ¬ Own S .no t := fun h => by unfold Own at h; cases t <;> exact h
theorem RV.lt {env : Env} {l : DL.Loc} {S : Sto} {fts : List FT} (r : RV env l S fts) {i : Nat} {t : FT} {n : Nat} (h : fts[i]? = some t) (hn : n ∈ foot t) : n < S.length := by
  have hi : i < env.length := by rw [← r.l2]; exact (List.getElem?_eq_some_iff.mp h).1
  have he : env[i]? = some env[i] := List.getElem?_eq_getElem hi
  by_cases hs : env[i] = .no
  · have := r.no i t (by rw [he, hs]) h
    subst this
    unfold foot at hn; simp at hn
  · exact (Own.cells t _ (r.sl i _ t he h hs).2).2 n hn
theorem RV.at {env : Env} {l : DL.Loc} {S : Sto} {fts : List FT} (r : RV env l S fts) {i : Nat} {s : Sl} (h : env[i]? = some s) : ∃ t, fts[i]? = some t := by
  have hi : i < fts.length := by rw [r.l2]; exact (List.getElem?_eq_some_iff.mp h).1
  exact ⟨_, List.getElem?_eq_getElem hi⟩
/-- a place: its cells; it may be changed -/
theorem RV.place {env : Env} {l : DL.Loc} {S : Sto} {fts : List FT} (r : RV env l S fts) {i : Nat} {p : Path} {t : Sl} (h : getP env i p = some t) (hno : t ≠ .no) :
    ∃ s ft gt, env[i]? = some s ∧ s.get p = some t ∧ s ≠ .no ∧ fts[i]? = some ft ∧ ftP fts i p = some gt ∧ Own S t gt ∧ (∀ n ∈ foot gt, n ∈ foot ft) ∧
    ∀ (S' : Sto) (t' : Sl), Own S' t' gt → rootD t' gt = rootD t gt → (∀ n, n < S.length → n ∉ foot gt → S'[n]? = S[n]?) → RV (putP env i p t') l S' fts := by
  unfold getP at h
  split at h
  · next s hs =>
    obtain ⟨ft, hf⟩ := r.at hs
    have hs0 : s ≠ .no := fun z => by
      subst z
      cases p with
      | nil => cases h; exact hno rfl
      | cons f p => cases h
    obtain ⟨hl, ho⟩ := r.sl i s ft hs hf hs0
    obtain ⟨gt, g1, g2, g3, g4⟩ := own_focus p ho h
    refine ⟨s, ft, gt, hs, h, hs0, hf, by unfold ftP; rw [hf]; exact g1, g2, g3, fun S' t' o1 o2 hk => ?_⟩
    obtain ⟨q1, q2⟩ := g4 (r.nd1 i ft hf) S' t' o1 o2 fun n hn hn' => hk n (r.lt hf hn) hn'
    have eput : putP env i p t' = env.set i (s.put p t') := by unfold putP; rw [hs]
    rw [eput]
    have hno' : s.put p t' ≠ .no := fun z => by rw [z] at q1; exact own_no q1
    refine ⟨by simpa using r.l1, by simpa using r.l2, fun j s' t'' e1 e2 e3 => ?_, fun j t'' e1 e2 => ?_, r.nd, r.nd1⟩
    · by_cases hj : i = j
      · subst hj
        rw [List.getElem?_set_self (List.getElem?_eq_some_iff.mp hs).1] at e1
        rw [hf] at e2
        cases e1; cases e2
        exact ⟨by rw [q2]; exact hl, q1⟩
      · rw [List.getElem?_set_ne hj] at e1
        obtain ⟨a, b⟩ := r.sl j s' t'' e1 e2 e3
        exact ⟨a, Own.keep t'' s' (fun n hn => hk n (r.lt e2 hn) fun hn' => hj (r.nd i j ft t'' n hf e2 (g3 n hn') hn)) b⟩
    · by_cases hj : i = j
      · subst hj
        rw [List.getElem?_set_self (List.getElem?_eq_some_iff.mp hs).1] at e1
        exact absurd (Option.some.inj e1) hno'
      · rw [List.getElem?_set_ne hj] at e1
        exact r.no j t'' e1 e2
  · cases h
/-- the store grows -/
theorem RV.grow {env : Env} {l : DL.Loc} {S S' : Sto} {fts : List FT} (r : RV env l S fts) (h : ∀ n, n < S.length → S'[n]? = S[n]?) : RV env l S' fts :=
  ⟨r.l1, r.l2, fun i s t e1 e2 e3 => ⟨(r.sl i s t e1 e2 e3).1, Own.keep t s (fun n hn => h n (r.lt e2 hn)) (r.sl i s t e1 e2 e3).2⟩, r.no, r.nd, r.nd1⟩
/-- a name is given something: a value, or what nobody owns -/
theorem RV.set {env : Env} {l : DL.Loc} {S : Sto} {fts : List FT} (r : RV env l S fts) (i : Nat) {s : Sl} {t : FT} (o : Own S s t) (hf : ∀ (j : Nat) (u : FT) (n : Nat), fts[j]? = some u → n ∈ foot u → n ∉ foot t) (hd : (foot t).Nodup) :
    RV (env.set i s) (l.set i (some (rootD s t))) S (fts.set i t) := by
  have hs : s ≠ .no := fun z => by rw [z] at o; exact own_no o
  have gset : ∀ {j : Nat} {u : FT}, (fts.set i t)[j]? = some u → (j = i ∧ u = t) ∨ (j ≠ i ∧ fts[j]? = some u) := fun {j u} e => by
    by_cases hj : i = j
    · subst hj
      have hlt : i < (fts.set i t).length := (List.getElem?_eq_some_iff.mp e).1
      rw [List.getElem?_set_self (by simpa using hlt)] at e
      exact .inl ⟨rfl, (Option.some.inj e).symm⟩
    · rw [List.getElem?_set_ne hj] at e
      exact .inr ⟨fun z => hj z.symm, e⟩
  refine ⟨by simpa using r.l1, by simpa using r.l2, fun j s' t' e1 e2 e3 => ?_, fun j t' e1 e2 => ?_, fun j k u v n e1 e2 h1 h2 => ?_, fun j u e => ?_⟩
  · rcases gset e2 with ⟨rfl, rfl⟩ | ⟨hj, e2⟩
    · have hlt : j < (env.set j s).length := (List.getElem?_eq_some_iff.mp e1).1
      rw [List.getElem?_set_self (by simpa using hlt)] at e1
      cases e1
      refine ⟨?_, o⟩
      rw [List.getElem?_set_self (by rw [r.l1]; simpa using hlt)]
    · rw [List.getElem?_set_ne (fun z => hj z.symm)] at e1 ⊢
      exact r.sl j s' t' e1 e2 e3
  · rcases gset e2 with ⟨rfl, rfl⟩ | ⟨hj, e2⟩
    · have hlt : j < (env.set j s).length := (List.getElem?_eq_some_iff.mp e1).1
      rw [List.getElem?_set_self (by simpa using hlt)] at e1
      exact absurd (Option.some.inj e1) hs
    · rw [List.getElem?_set_ne (fun z => hj z.symm)] at e1
      exact r.no j t' e1 e2
  · rcases gset e1 with ⟨rfl, rfl⟩ | ⟨hj, f1⟩ <;> rcases gset e2 with ⟨rfl, rfl⟩ | ⟨hk, f2⟩
    · rfl
    · exact absurd h1 (hf k v n f2 h2)
    · exact absurd h2 (hf j u n f1 h1)
    · exact r.nd j k u v n f1 f2 h1 h2
  · rcases gset e with ⟨rfl, rfl⟩ | ⟨hj, e⟩
    · exact hd
    · exact r.nd1 j u e
/-- a name is forgotten -/
theorem RV.forget {env : Env} {l : DL.Loc} {S : Sto} {fts : List FT} (r : RV env l S fts) (i : Nat) (o : Option D) : RV (env.set i .no) (l.set i o) S (fts.set i .val) := by
  have gset : ∀ {j : Nat} {u : FT}, (fts.set i .val)[j]? = some u → (j = i ∧ u = .val) ∨ (j ≠ i ∧ fts[j]? = some u) := fun {j u} e => by
    by_cases hj : i = j
    · subst hj
      have hlt : i < (fts.set i .val).length := (List.getElem?_eq_some_iff.mp e).1
      rw [List.getElem?_set_self (by simpa using hlt)] at e
      exact .inl ⟨rfl, (Option.some.inj e).symm⟩
    · rw [List.getElem?_set_ne hj] at e
      exact .inr ⟨fun z => hj z.symm, e⟩
  refine ⟨by simpa using r.l1, by simpa using r.l2, fun j s' t' e1 e2 e3 => ?_, fun j t' e1 e2 => ?_, fun j k u v n e1 e2 h1 h2 => ?_, fun j u e => ?_⟩
  · rcases gset e2 with ⟨rfl, rfl⟩ | ⟨hj, e2⟩
    · have hlt : j < (env.set j .no).length := (List.getElem?_eq_some_iff.mp e1).1
      rw [List.getElem?_set_self (by simpa using hlt)] at e1
      cases e1
      exact absurd rfl e3
    · rw [List.getElem?_set_ne (fun z => hj z.symm)] at e1 ⊢
      exact r.sl j s' t' e1 e2 e3
  · rcases gset e2 with ⟨rfl, rfl⟩ | ⟨hj, e2⟩
    · rfl
    · rw [List.getElem?_set_ne (fun z => hj z.symm)] at e1
      exact r.no j t' e1 e2
  · rcases gset e1 with ⟨rfl, rfl⟩ | ⟨hj, e1⟩ <;> rcases gset e2 with ⟨rfl, rfl⟩ | ⟨hk, e2⟩
    · rfl
    · unfold foot at h1; simp at h1
    · unfold foot at h2; simp at h2
    · exact r.nd j k u v n e1 e2 h1 h2
  · rcases gset e with ⟨rfl, rfl⟩ | ⟨hj, e⟩
    · unfold foot; exact List.nodup_nil
    · exact r.nd1 j u e

/-! ### the state of a def's run: what it began with, which of its parameters are the caller's -/
structure Bs where
  S0 : Sto
  ios : Nat → Bool
  l0 : DL.Loc
  fts0 : List FT
structure Ok (c : Bs) (env : Env) (l : DL.Loc) (S : Sto) (fts : List FT) : Prop where
  rv : RV env l S fts
  le : c.S0.length ≤ S.length
  io : ∀ i, c.ios i = true → l[i]? = c.l0[i]? ∧ fts[i]? = c.fts0[i]?
  lo : ∀ (i : Nat) (t : FT) (n : Nat), c.ios i = false → fts[i]? = some t → n ∈ foot t → c.S0.length ≤ n
  ln : l.length = c.l0.length
  hi : ∀ (i : Nat) (t : FT) (n : Nat), c.ios i = true → c.fts0[i]? = some t → n ∈ foot t → n < c.S0.length
  fr : ∀ n, n < c.S0.length → (∀ (i : Nat) (t : FT), c.ios i = true → c.fts0[i]? = some t → n ∉ foot t) → S[n]? = c.S0[n]?
section
variable {c : Bs} {env : Env} {l : DL.Loc} {S : Sto} {fts : List FT}
theorem Ok.grow (o : Ok c env l S fts) {S' : Sto} (hl : S.length ≤ S'.length) (h : ∀ n, n < S.length → S'[n]? = S[n]?) : Ok c env l S' fts :=
  ⟨o.rv.grow h, Nat.le_trans o.le hl, o.io, o.lo, o.ln, o.hi, fun n hn hf => (h n (Nat.lt_of_lt_of_le hn o.le)).trans (o.fr n hn hf)⟩
theorem Ok.app (o : Ok c env l S fts) (E : Sto) : Ok c env l (S ++ E) fts := o.grow (by simp) fun n hn => List.getElem?_append_left hn
theorem Ok.place (o : Ok c env l S fts) {i : Nat} {p : Path} {t : Sl} (h : getP env i p = some t) (hno : t ≠ .no) :
    ∃ s ft gt, env[i]? = some s ∧ s.get p = some t ∧ s ≠ .no ∧ fts[i]? = some ft ∧ ftP fts i p = some gt ∧ Own S t gt ∧ (∀ n ∈ foot gt, n ∈ foot ft) ∧
    ∀ (S' : Sto) (t' : Sl), Own S' t' gt → rootD t' gt = rootD t gt → S.length ≤ S'.length → (∀ n, n < S.length → n ∉ foot gt → S'[n]? = S[n]?) → Ok c (putP env i p t') l S' fts := by
  obtain ⟨s, ft, gt, e1, e1', e2, e3, e4, e5, e6, e7⟩ := o.rv.place h hno
  refine ⟨s, ft, gt, e1, e1', e2, e3, e4, e5, e6, fun S' t' a b hl k => ⟨e7 S' t' a b k, Nat.le_trans o.le hl, o.io, o.lo, o.ln, o.hi, fun n hn hf => ?_⟩⟩
  refine (k n (Nat.lt_of_lt_of_le hn o.le) fun hg => ?_).trans (o.fr n hn hf)
  cases hi : c.ios i with
  | true => exact hf i ft hi (by rw [← (o.io i hi).2]; exact e3) (e6 n hg)
  | false => exact absurd hn (Nat.not_lt.mpr (o.lo i ft n hi e3 (e6 n hg)))
theorem Ok.set (o : Ok c env l S fts) {i : Nat} (hi : c.ios i = false) {s : Sl} {t : FT} (ow : Own S s t) (hf : ∀ (j : Nat) (u : FT) (n : Nat), fts[j]? = some u → n ∈ foot u → n ∉ foot t) (hd : (foot t).Nodup) (hn : ∀ n ∈ foot t, c.S0.length ≤ n) :
    Ok c (env.set i s) (l.set i (some (rootD s t))) S (fts.set i t) := by
  refine ⟨o.rv.set i ow hf hd, o.le, fun j hj => ?_, fun j u n hj e h => ?_, (by rw [List.length_set]; exact o.ln), o.hi, o.fr⟩
  · have hne : i ≠ j := fun z => by rw [z, hj] at hi; cases hi
    rw [List.getElem?_set_ne hne, List.getElem?_set_ne hne]
    exact o.io j hj
  · by_cases hne : i = j
    · subst hne
      have hlt : i < (fts.set i t).length := (List.getElem?_eq_some_iff.mp e).1
      rw [List.getElem?_set_self (by simpa using hlt)] at e
      cases e
      exact hn n h
    · rw [List.getElem?_set_ne hne] at e
      exact o.lo j u n hj e h
theorem Ok.setV (o : Ok c env l S fts) {i : Nat} (hi : c.ios i = false) {d : D} (hd : flat d) : Ok c (env.set i (.va d)) (l.set i (some d)) S (fts.set i .val) :=
  o.set (s := .va d) (t := .val) hi (own_va.mpr hd) (fun _ _ n _ _ h => by unfold foot at h; simp at h) (by unfold foot; exact List.nodup_nil) (fun n h => by unfold foot at h; simp at h)
theorem Ok.forget (o : Ok c env l S fts) {i : Nat} (hi : c.ios i = false) (d : Option D) : Ok c (env.set i .no) (l.set i d) S (fts.set i .val) := by
  refine ⟨o.rv.forget i d, o.le, fun j hj => ?_, fun j u n hj e h => ?_, (by rw [List.length_set]; exact o.ln), o.hi, o.fr⟩
  · have hne : i ≠ j := fun z => by rw [z, hj] at hi; cases hi
    rw [List.getElem?_set_ne hne, List.getElem?_set_ne hne]
    exact o.io j hj
  · by_cases hne : i = j
    · subst hne
      have hlt : i < (fts.set i .val).length := (List.getElem?_eq_some_iff.mp e).1
      rw [List.getElem?_set_self (by simpa using hlt)] at e
      cases e
      unfold foot at h; simp at h
    · rw [List.getElem?_set_ne hne] at e
      exact o.lo j u n hj e h
end
end VL

/-! VL3: readings, operands, what operators do with live lists. -/
namespace VL
open PySem PySem.Spec PyProof.Rows L2 DL

inductive VR (α : Type) where
  | ok (a : α) (e : Env) | exc (k : Nat) (e : Env) | bad
def VR.bind {α β : Type} (r : VR α) (k : α → Env → VR β) : VR β := match r with
  | .ok a e => k a e
  | .exc x e => .exc x e
  | .bad => .bad
abbrev VE := Env → VR D
/-- an answer of the lower layer, over values -/
def toV {α : Type} (r : Res α) (e : Env) : VR α := match r with
  | .ok a _ => .ok a e
  | .exc k _ => .exc k e
  | .bad => .bad
/-- a reading: first what it does, then (with what is then held) its value -/
structure Opd where
  ev : VE
  rd : Env → D → Option D
def oV (A : VE) : Opd := ⟨A, fun _ x => some x⟩
def snapS : Sl → Option D
  | .va d => some d
  | .lv xs => some (.lst xs)
  | .di es => some (.dic false es)
  | _ => none
def snapL : Sl → Option D
  | .lv xs => some (.lst xs)
  | .di es => some (.dic false es)
  | _ => none
/-- a name that may hold a live list -/
def oN (i : Nat) : Opd := ⟨fun e => match e[i]? with
  | some s => (match snapS s with | some _ => .ok .non e | none => .bad)
  | none => .bad, fun e _ => match e[i]? with
  | some s => snapS s
  | none => none⟩
/-- a live list in a place -/
def oP (i : Nat) (p : Path) : Opd := ⟨fun e => match getP e i p with
  | some s => (match snapL s with | some _ => .ok .non e | none => .bad)
  | none => .bad, fun e _ => match getP e i p with
  | some s => snapL s
  | none => none⟩
/-- d stands for the value x -/
def Dn (S : Sto) (d x : D) : Prop := (d = x ∧ flat x) ∨ (∃ n xs, d = .ref n ∧ x = .lst xs ∧ S[n]? = some (.lst xs) ∧ flats xs) ∨ ∃ n es, d = .ref n ∧ x = .dic false es ∧ S[n]? = some (.dic false es) ∧ flats es
theorem Dn.flat {S : Sto} {d x : D} (h : Dn S d x) : flat x := by
  rcases h with ⟨_, h⟩ | ⟨n, xs, _, rfl, _, h⟩ | ⟨n, xs, _, rfl, _, h⟩
  · exact h
  · show rlt 0 _ = true; unfold rlt; exact h
  · show rlt 0 _ = true; unfold rlt; exact h

/-! ### the judgements -/
/-- what nobody owns stays -/
structure Fm (fts : List FT) (S S' : Sto) : Prop where
  le : S.length ≤ S'.length
  fr : ∀ n, n < S.length → (∀ (i : Nat) (t : FT), fts[i]? = some t → n ∉ foot t) → S'[n]? = S[n]?
theorem Fm.refl (fts : List FT) (S : Sto) : Fm fts S S := ⟨Nat.le_refl _, fun _ _ _ => rfl⟩
theorem Fm.trans {fts : List FT} {S S1 S2 : Sto} (a : Fm fts S S1) (b : Fm fts S1 S2) : Fm fts S S2 := ⟨Nat.le_trans a.le b.le, fun n h k => (b.fr n (Nat.lt_of_lt_of_le h a.le) k).trans (a.fr n h k)⟩
/-- what V says, A does -/
def Sv {α β : Type} (c : Bs) (l : DL.Loc) (S : Sto) (fts : List FT) (r : VR α) (f : Res β) (P : α → Env → β → Sto → Prop) : Prop := match r with
  | .ok x e => ∃ d S', f = .ok d S' ∧ Ok c e l S' fts ∧ Fm fts S S' ∧ P x e d S'
  | .exc k e => ∃ S', f = .exc k S' ∧ Ok c e l S' fts ∧ Fm fts S S'
  | .bad => True
section
variable {c : Bs} {l : DL.Loc} {S : Sto} {fts : List FT} {α β γ δ : Type}
theorem Sv.ret {x : α} {e : Env} {d : β} {P : α → Env → β → Sto → Prop} (o : Ok c e l S fts) (p : P x e d S) : Sv c l S fts (.ok x e) (.ok d S) P := ⟨d, S, rfl, o, .refl _ _, p⟩
theorem Sv.bind {r : VR α} {f : Res β} {P : α → Env → β → Sto → Prop} {k : α → Env → VR γ} {g : β → Sto → Res δ} {Q : γ → Env → δ → Sto → Prop} (h : Sv c l S fts r f P)
    (hk : ∀ x e d S', Ok c e l S' fts → P x e d S' → Sv c l S' fts (k x e) (g d S') Q) : Sv c l S fts (r.bind k) (f.bind g) Q := by
  cases r with
  | ok x e =>
    obtain ⟨d, S', rfl, o, m, p⟩ := h
    have q := hk x e d S' o p
    show Sv c l S fts (k x e) (g d S') Q
    cases hr : k x e with
    | ok y e2 => rw [hr] at q; obtain ⟨d2, S2, q1, q2, q3, q4⟩ := q; exact ⟨d2, S2, q1, q2, m.trans q3, q4⟩
    | exc y e2 => rw [hr] at q; obtain ⟨S2, q1, q2, q3⟩ := q; exact ⟨S2, q1, q2, m.trans q3⟩
    | bad => trivial
  | exc x e =>
    obtain ⟨S', rfl, o⟩ := h
    exact ⟨S', rfl, o⟩
  | bad => trivial
theorem Sv.weak {r : VR α} {f : Res β} {P Q : α → Env → β → Sto → Prop} (h : Sv c l S fts r f P) (i : ∀ x e d S', Ok c e l S' fts → P x e d S' → Q x e d S') : Sv c l S fts r f Q := by
  cases r with
  | ok x e => obtain ⟨d, S', h1, h2, h3, h4⟩ := h; exact ⟨d, S', h1, h2, h3, i _ _ _ _ h2 h4⟩
  | exc x e => exact h
  | bad => trivial
end
def SC (io : Nat → Bool) (A : E) (V : VE) : Prop := ∀ (c : Bs) (env : Env) (l : DL.Loc) (S : Sto) (fts : List FT), c.ios = io → Ok c env l S fts → Sv c l S fts (V env) (A l S) fun x _ d _ => d = x ∧ flat x
/-- an operand's value, later -/
def Rd (c : Bs) (l : DL.Loc) (fts : List FT) (a : Opd) (x d : D) : Prop := ∀ (e2 : Env) (S2 : Sto) (y : D), Ok c e2 l S2 fts → a.rd e2 x = some y → Dn S2 d y
def SO (io : Nat → Bool) (A : E) (a : Opd) : Prop := ∀ (c : Bs) (env : Env) (l : DL.Loc) (S : Sto) (fts : List FT), c.ios = io → Ok c env l S fts → Sv c l S fts (a.ev env) (A l S) fun x _ d _ => Rd c l fts a x d
/-- a place's expression -/
def SP (io : Nat → Bool) (A : E) (i : Nat) (p : Path) : Prop := ∀ (c : Bs) (env : Env) (l : DL.Loc) (S : Sto) (fts : List FT) (s : Sl), c.ios = io → Ok c env l S fts → getP env i p = some s → s ≠ .no → ∃ gt, ftP fts i p = some gt ∧ Own S s gt ∧ A l S = .ok (rootD s gt) S
def ST (io : Nat → Bool) (A : T) (V : Env → VR Bool) : Prop := ∀ (c : Bs) (env : Env) (l : DL.Loc) (S : Sto) (fts : List FT), c.ios = io → Ok c env l S fts → Sv c l S fts (V env) (A l S) fun x _ d _ => d = x
section
variable {io : Nat → Bool} {A B : E}
theorem SC.so {V : VE} (h : SC io A V) : SO io A (oV V) := fun c env l S fts hi o => Sv.weak (h c env l S fts hi o) fun x e d S' _ ⟨q, f⟩ e2 S2 y _ hy => by
  cases hy
  exact .inl ⟨q, f⟩

/-! ### names, constants, fields -/
def vC (d : D) : VE := fun e => .ok d e
def vVal (i : Nat) : VE := fun e => match e[i]? with
  | some (.va d) => .ok d e
  | _ => .bad
def vFld (i : Nat) (p : Path) : VE := fun e => match getP e i p with
  | some (.va d) => .ok d e
  | _ => .bad
theorem sc_c {d : D} (h : flat d := by rfl) : SC io (eC d) (vC d) := fun c env l S fts hi o => Sv.ret o ⟨rfl, h⟩
theorem sc_val (i : Nat) : SC io (eVar i) (vVal i) := fun c env l S fts hi o => by
  unfold vVal
  cases e : env[i]? with
  | none => trivial
  | some s =>
    cases s with
    | va d =>
      obtain ⟨t, ht⟩ := o.rv.at e
      obtain ⟨h1, h2⟩ := o.rv.sl i _ t e ht (by intro z; cases z)
      rcases own_cases h2 with ⟨d', z, rfl, hd⟩ | ⟨_, _, z, _⟩ | ⟨_, _, z, _⟩ | ⟨_, _, _, z, _⟩ | ⟨_, _, _, _, _, z, _⟩
      · cases z
        rw [ap_var, h1]
        exact Sv.ret o ⟨rfl, hd⟩
      all_goals cases z
    | _ => trivial
theorem own_snap {S : Sto} {s : Sl} {t : FT} {x : D} (h : Own S s t) (e : snapS s = some x) : Dn S (rootD s t) x := by
  rcases own_cases h with ⟨d, rfl, rfl, hd⟩ | ⟨xs, n, rfl, rfl, h1, h2⟩ | ⟨xs, n, rfl, rfl, h1, h2⟩ | ⟨_, _, _, rfl, _⟩ | ⟨_, _, _, _, _, rfl, _⟩
  · cases e; exact .inl ⟨rfl, hd⟩
  · cases e; exact .inr (.inl ⟨n, xs, rfl, rfl, h1, h2⟩)
  · cases e; exact .inr (.inr ⟨n, xs, rfl, rfl, h1, h2⟩)
  · cases e
  · cases e
theorem snapL_S {s : Sl} {x : D} (h : snapL s = some x) : snapS s = some x := by cases s <;> first | exact h | cases h
theorem so_n (i : Nat) : SO io (eVar i) (oN i) := fun c env l S fts hi o => by
  show Sv c l S fts (match env[i]? with
    | some s => (match snapS s with | some _ => VR.ok D.non env | none => .bad)
    | none => .bad) _ _
  cases e : env[i]? with
  | none => trivial
  | some s =>
    cases hs : snapS s with
    | none => simp only [hs]; trivial
    | some x =>
      simp only [hs]
      obtain ⟨t, ht⟩ := o.rv.at e
      have hn : s ≠ .no := fun z => by subst z; cases hs
      obtain ⟨h1, h2⟩ := o.rv.sl i s t e ht hn
      rw [ap_var, h1]
      refine Sv.ret o fun e2 S2 y o2 hy => ?_
      have hy : (match e2[i]? with | some s => snapS s | none => none) = some y := hy
      cases e3 : e2[i]? with
      | none => rw [e3] at hy; cases hy
      | some s2 =>
        rw [e3] at hy
        have hn2 : s2 ≠ .no := fun z => by subst z; cases hy
        obtain ⟨h3, h4⟩ := o2.rv.sl i s2 t e3 ht hn2
        rw [h1] at h3
        rw [show rootD s t = rootD s2 t from Option.some.inj (Option.some.inj h3)]
        exact own_snap h4 hy
theorem sp_var (i : Nat) : SP io (eVar i) i [] := fun c env l S fts s hi o h hn => by
  obtain ⟨s', ft, gt, e1, e2, e3, e4, e5, e6, _⟩ := o.place h hn
  cases e2
  obtain ⟨h1, _⟩ := o.rv.sl i s ft e1 e4 e3
  have : gt = ft := by
    unfold ftP at e5
    rw [e4] at e5
    exact (Option.some.inj e5).symm
  subst this
  exact ⟨gt, e5, e6, by rw [ap_var, h1]⟩
theorem get_snoc : ∀ (p : Path) (s : Sl) (f : Nat × Str), s.get (p ++ [f]) = (s.get p).bind fun u => u.get [f]
  | [], s, f => rfl
  | g :: p, s, f => by
    cases s with
    | ins c ns ss =>
      show (if g.1 = c then (match ss[ns.idxOf g.2]? with | some u => u.get (p ++ [f]) | none => none) else none) = Option.bind (if g.1 = c then (match ss[ns.idxOf g.2]? with | some u => u.get p | none => none) else none) _
      by_cases hc : g.1 = c
      · rw [if_pos hc, if_pos hc]
        cases ss[ns.idxOf g.2]? with
        | none => rfl
        | some u => exact get_snoc p u f
      · rw [if_neg hc, if_neg hc]; rfl
    | _ => rfl
theorem ftget_snoc : ∀ (p : Path) (s : FT) (f : Nat × Str), s.get (p ++ [f]) = (s.get p).bind fun u => u.get [f]
  | [], s, f => rfl
  | g :: p, s, f => by
    cases s with
    | node n ns ts =>
      show (match ts[ns.idxOf g.2]? with | some u => FT.get (p ++ [f]) u | none => none) = Option.bind (match ts[ns.idxOf g.2]? with | some u => FT.get p u | none => none) _
      cases ts[ns.idxOf g.2]? with
      | none => rfl
      | some u => exact ftget_snoc p u f
    | _ => rfl
theorem getP_snoc {e : Env} {i : Nat} {p : Path} {f : Nat × Str} : getP e i (p ++ [f]) = (getP e i p).bind fun u => u.get [f] := by
  unfold getP
  cases e[i]? with
  | none => rfl
  | some s => exact get_snoc p s f
theorem ftP_snoc {e : List FT} {i : Nat} {p : Path} {f : Nat × Str} : ftP e i (p ++ [f]) = (ftP e i p).bind fun u => u.get [f] := by
  unfold ftP
  cases e[i]? with
  | none => rfl
  | some s => exact ftget_snoc p s f
theorem lookup_zip : ∀ {ns : List Str} {ds : List D} {f : Str} {d : D}, ds[ns.idxOf f]? = some d → ns.length = ds.length → (ns.zip ds).lookup f = some d
  | [], ds, f, d, h, hl => by
    cases ds with
    | nil => simp at h
    | cons _ _ => simp at hl
  | n :: ns, [], f, d, h, hl => by simp at hl
  | n :: ns, e :: ds, f, d, h, hl => by
    show List.lookup f ((n, e) :: ns.zip ds) = some d
    rw [List.lookup_cons]
    rw [List.idxOf_cons] at h
    by_cases hf : (n == f) = true
    · rw [hf] at h
      have : n = f := by simpa using hf
      subst this
      rw [show (n == n) = true by simp]
      simpa using h
    · rw [Bool.not_eq_true] at hf
      rw [hf] at h
      have hf2 : (f == n) = false := by
        rw [beq_eq_false_iff_ne] at hf ⊢
        exact fun z => hf z.symm
      rw [hf2]
      exact lookup_zip (by simpa using h) (by simpa using hl)
/-- an instance in a place -/
theorem own_insOf {S : Sto} {c : Nat} {ns : List Str} {ss : List Sl} {gt : FT} (h : Own S (.ins c ns ss) gt) : ∃ n ts, gt = .node n ns ts ∧ ns.length = ss.length ∧ ns.Nodup ∧ ss.length = ts.length ∧ S[n]? = some (.ins c (ns.zip (roots ss ts))) ∧ Owns S ss ts ∧ insOf S c (rootD (.ins c ns ss) gt) = some (n, ns.zip (roots ss ts)) := by
  rcases own_cases h with ⟨d, z, _⟩ | ⟨_, _, z, _⟩ | ⟨_, _, z, _⟩ | ⟨_, _, _, z, _⟩ | ⟨_, _, _, n, ts, z, rfl, h1, h2, h3, h4⟩
  · cases z
  · cases z
  · cases z
  · cases z
  · cases z
    refine ⟨n, ts, rfl, h1, h2, (owns_iff.mp h4).1, h3, h4, ?_⟩
    show insOf S c (.ref n) = _
    unfold insOf
    simp only [h3, if_true]
theorem attr_at {S : Sto} {c : Nat} {ns : List Str} {ss : List Sl} {gt : FT} {f : Str} {u : Sl} (h : Own S (.ins c ns ss) gt) (hu : ss[ns.idxOf f]? = some u) : ∃ gu, gt.get [(c, f)] = some gu ∧ Own S u gu ∧ attrD c f (rootD (.ins c ns ss) gt) S = .ok (rootD u gu) S := by
  obtain ⟨n, ts, rfl, h1, h2, h3, h4, h5, h6⟩ := own_insOf h
  obtain ⟨hl, hh⟩ := owns_iff.mp h5
  have hk : ns.idxOf f < ts.length := by rw [← hl]; exact (List.getElem?_eq_some_iff.mp hu).1
  have hut : ts[ns.idxOf f]? = some ts[ns.idxOf f] := List.getElem?_eq_getElem hk
  refine ⟨_, ?_, hh _ _ _ hu hut, ?_⟩
  · show (match ts[ns.idxOf f]? with | some u => FT.get [] u | none => none) = _
    rw [hut]; rfl
  · unfold attrD
    rw [h6]
    simp only
    rw [lookup_zip (roots_at hu hut) (by unfold roots; rw [List.length_zipWith]; omega)]
theorem sp_fld {i : Nat} {p : Path} (k : Nat) (f : Str) (h : SP io A i p) : SP io (eOp1 (attrD k f) A) i (p ++ [(k, f)]) := fun c env l S fts s hi o hg hn => by
  rw [getP_snoc] at hg
  cases e : getP env i p with
  | none => rw [e] at hg; cases hg
  | some u =>
    rw [e] at hg
    have hg : Sl.get [(k, f)] u = some s := hg
    cases u with
    | ins c' ns ss =>
      have hg : (if k = c' then (match ss[ns.idxOf f]? with | some u => some u | none => none) else none) = some s := hg
      by_cases hc : k = c'
      · subst hc
        rw [if_pos rfl] at hg
        cases hv : ss[ns.idxOf f]? with
        | none => rw [hv] at hg; cases hg
        | some v =>
          rw [hv] at hg
          cases hg
          obtain ⟨gt, g1, g2, g3⟩ := h c env l S fts _ hi o e (by intro z; cases z)
          obtain ⟨gu, q1, q2, q3⟩ := attr_at g2 hv
          refine ⟨gu, by rw [ftP_snoc, g1]; exact q1, q2, ?_⟩
          rw [ap_op1, g3]
          exact q3
      · rw [if_neg hc] at hg; cases hg
    | _ => cases hg
theorem sc_fld {i : Nat} {p : Path} (h : SP io A i p) : SC io A (vFld i p) := fun c env l S fts hi o => by
  unfold vFld
  cases e : getP env i p with
  | none => trivial
  | some s =>
    cases s with
    | va d =>
      obtain ⟨gt, g1, g2, g3⟩ := h c env l S fts _ hi o e (by intro z; cases z)
      rcases own_cases g2 with ⟨d', z, rfl, hd⟩ | ⟨_, _, z, _⟩ | ⟨_, _, z, _⟩ | ⟨_, _, _, z, _⟩ | ⟨_, _, _, _, _, z, _⟩
      · cases z; rw [g3]; exact Sv.ret o ⟨rfl, hd⟩
      all_goals cases z
    | _ => trivial
theorem so_p {i : Nat} {p : Path} (h : SP io A i p) : SO io A (oP i p) := fun c env l S fts hi o => by
  show Sv c l S fts (match getP env i p with
    | some s => (match snapL s with | some _ => VR.ok D.non env | none => .bad)
    | none => .bad) _ _
  cases e : getP env i p with
  | none => trivial
  | some s =>
    cases hs : snapL s with
    | none => simp only [hs]; trivial
    | some x =>
      simp only [hs]
      have hn : s ≠ .no := fun z => by subst z; cases hs
      obtain ⟨gt, g1, g2, g3⟩ := h c env l S fts s hi o e hn
      rw [g3]
      refine Sv.ret o fun e2 S2 y o2 hy => ?_
      have hy : (match getP e2 i p with | some s => snapL s | none => none) = some y := hy
      cases e3 : getP e2 i p with
      | none => rw [e3] at hy; cases hy
      | some s2 =>
        rw [e3] at hy
        have hn2 : s2 ≠ .no := fun z => by subst z; cases hy
        obtain ⟨_, _, gt2, _, _, _, _, k1, k2, _⟩ := o2.place e3 hn2
        rw [g1] at k1
        cases k1
        have r : rootD s gt = rootD s2 gt := by
          rcases own_cases k2 with ⟨d, rfl, rfl, hd⟩ | ⟨xs, n, rfl, rfl, h1, h2⟩ | ⟨xs, n, rfl, rfl, h1, h2⟩ | ⟨_, _, _, rfl, _⟩ | ⟨_, _, _, _, _, rfl, _⟩
          · cases hy
          · cases s <;> first | rfl | cases hs
          · cases s <;> first | rfl | cases hs
          · cases hy
          · cases hy
        rw [r]
        exact own_snap k2 (snapL_S hy)
end

/-! ### what is asked of operators -/
/-- r over values, f over the store -/
def RQ (r f : Res D) (S : Sto) : Prop := match r with
  | .ok y _ => flat y ∧ f = .ok y S
  | .exc k _ => f = .exc k S
  | .bad => True
theorem RQ.ite {p : Prop} [Decidable p] {z : D} {f : Res D} {S S0 : Sto} (h : p → flat z ∧ f = .ok z S) : RQ (if p then .ok z S0 else .bad) f S := by
  by_cases hp : p
  · rw [if_pos hp]; exact h hp
  · rw [if_neg hp]; trivial
def Pr1 (g : D → Sto → Res D) : Prop := ∀ (S : Sto) (d x : D), Dn S d x → RQ (g x []) (g d S) S
def Pr2 (g : D → D → Sto → Res D) : Prop := ∀ (S : Sto) (d e x y : D), Dn S d x → Dn S e y → RQ (g x y []) (g d e S) S
/-- .. where no operand is a live list -/
def Pc2 (g : D → D → Sto → Res D) : Prop := ∀ (S : Sto) (x y : D), flat x → flat y → RQ (g x y []) (g x y S) S
inductive Dns (S : Sto) : List D → List D → Prop
  | nil : Dns S [] []
  | cons {d x : D} {ds xs : List D} : Dn S d x → Dns S ds xs → Dns S (d :: ds) (x :: xs)
def PrA (g : List D → Sto → Res D) : Prop := ∀ (S : Sto) (ds xs : List D), Dns S ds xs → RQ (g xs []) (g ds S) S
section
variable {S : Sto} {d x : D}
theorem dn_list (h : Dn S d x) : listOf S d = listOf [] x := by
  rcases h with ⟨rfl, h⟩ | ⟨n, xs, rfl, rfl, e, _⟩ | ⟨n, es, rfl, rfl, e, _⟩
  · cases d with
    | ref n => have h : rlt 0 (.ref n) = true := h; unfold rlt at h; exact absurd (of_decide_eq_true h) (Nat.not_lt_zero _)
    | _ => rfl
  · exact listOf_ref e
  · show (match S[n]? with
    | some (.lst xs) => some xs
    | _ => none) = none
    rw [e]
theorem dn_seq (h : Dn S d x) : seqOf S d = seqOf [] x := by
  rcases h with ⟨rfl, h⟩ | ⟨n, xs, rfl, rfl, e, _⟩ | ⟨n, es, rfl, rfl, e, _⟩
  · cases d with
    | ref n => have h : rlt 0 (.ref n) = true := h; unfold rlt at h; exact absurd (of_decide_eq_true h) (Nat.not_lt_zero _)
    | _ => rfl
  · exact listOf_ref e
  · show listOf S (.ref n) = none
    show (match S[n]? with
    | some (.lst xs) => some xs
    | _ => none) = none
    rw [e]
theorem dn_ty (h : Dn S d x) : tyD S d = tyD [] x := by
  rcases h with ⟨rfl, h⟩ | ⟨n, xs, rfl, rfl, e, _⟩ | ⟨n, es, rfl, rfl, e, _⟩
  · cases d with
    | ref n => have h : rlt 0 (.ref n) = true := h; unfold rlt at h; exact absurd (of_decide_eq_true h) (Nat.not_lt_zero _)
    | _ => rfl
  · rw [ty_ref, e]; rfl
  · rw [ty_ref, e]; rfl
theorem dn_dr (h : Dn S d x) : (dr S d = x ∧ dr [] x = x) ∨ (flatOk [] x = false) := by
  rcases h with ⟨rfl, h⟩ | ⟨n, xs, rfl, rfl, e, hx⟩ | ⟨n, es, rfl, rfl, e, _⟩
  · exact .inl ⟨dr_pure S d h, dr_pure [] d h⟩
  · refine .inl ⟨dr_ref e, dr_pure [] _ ?_⟩
    unfold rlt; exact hx
  · right
    unfold flatOk dr dp
    rfl
theorem seq_flat {xs : List D} (h : flat x) (e : seqOf [] x = some xs) : flats xs := by
  have h : rlt 0 x = true := h
  cases x with
  | tup ys => cases e; unfold rlt at h; exact h
  | lst ys => cases e; unfold rlt at h; exact h
  | ref n => unfold rlt at h; exact absurd (of_decide_eq_true h) (Nat.not_lt_zero _)
  | _ => cases e
theorem list_flat {xs : List D} (h : flat x) (e : listOf [] x = some xs) : flats xs := by
  have h : rlt 0 x = true := h
  cases x with
  | lst ys => cases e; unfold rlt at h; exact h
  | ref n => unfold rlt at h; exact absurd (of_decide_eq_true h) (Nat.not_lt_zero _)
  | _ => cases e
theorem dn_int {i : Int} (h : Dn S d (.int i)) : d = .int i := by
  rcases h with ⟨rfl, h⟩ | ⟨n, xs, _, z, _⟩ | ⟨n, xs, _, z, _⟩
  · rfl
  · cases z
  · cases z
theorem dn_bl {i : Bool} (h : Dn S d (.bl i)) : d = .bl i := by
  rcases h with ⟨rfl, h⟩ | ⟨n, xs, _, z, _⟩ | ⟨n, xs, _, z, _⟩
  · rfl
  · cases z
  · cases z
theorem dn_str {i : Str} (h : Dn S d (.str i)) : d = .str i := by
  rcases h with ⟨rfl, h⟩ | ⟨n, xs, _, z, _⟩ | ⟨n, xs, _, z, _⟩
  · rfl
  · cases z
  · cases z
theorem dn_non (h : Dn S d .non) : d = .non := by
  rcases h with ⟨rfl, h⟩ | ⟨n, xs, _, z, _⟩ | ⟨n, xs, _, z, _⟩
  · rfl
  · cases z
  · cases z
theorem dn_tup {i : List D} (h : Dn S d (.tup i)) : d = .tup i ∧ flats i := by
  rcases h with ⟨rfl, h⟩ | ⟨n, xs, _, z, _⟩ | ⟨n, xs, _, z, _⟩
  · have h : rlt 0 (.tup i) = true := h
    unfold rlt at h
    exact ⟨rfl, h⟩
  · cases z
  · cases z
theorem flat_int (i : Int) : flat (.int i) := pure_int i 0
theorem flat_bl (i : Bool) : flat (.bl i) := pure_bl i 0
theorem flat_str (i : Str) : flat (.str i) := pure_str i 0
theorem flat_non : flat .non := pure_non 0
theorem flat_tup {xs : List D} : flat (.tup xs) ↔ flats xs := by unfold flat; rw [show rlt 0 (.tup xs) = rlts 0 xs by rw [rlt]]
theorem flat_lst {xs : List D} : flat (.lst xs) ↔ flats xs := by unfold flat; rw [show rlt 0 (.lst xs) = rlts 0 xs by rw [rlt]]
theorem flat_dic {t : Bool} {xs : List D} : flat (.dic t xs) ↔ flats xs := by unfold flat; rw [show rlt 0 (.dic t xs) = rlts 0 xs by rw [rlt]]
theorem flats_iff {xs : List D} : flats xs ↔ ∀ x ∈ xs, flat x := by
  induction xs with
  | nil => exact ⟨fun _ x hx => (by cases hx), fun _ => (by unfold rlts; rfl : rlts 0 [] = true)⟩
  | cons y ys ih =>
    unfold flats at ih ⊢
    rw [rlts_cons, Bool.and_eq_true, ih]
    constructor
    · rintro ⟨h1, h2⟩ x hx
      rcases List.mem_cons.mp hx with rfl | hx
      · exact h1
      · exact h2 x hx
    · exact fun h => ⟨h y List.mem_cons_self, fun x hx => h x (List.mem_cons_of_mem _ hx)⟩
theorem flats_cons {y : D} {ys : List D} : flats (y :: ys) ↔ flat y ∧ flats ys := by unfold flats; rw [rlts_cons, Bool.and_eq_true]
theorem flats_nil : flats [] := by unfold flats rlts; rfl
theorem flats_app {xs ys : List D} : flats (xs ++ ys) ↔ flats xs ∧ flats ys := by unfold flats; rw [rlts_app, Bool.and_eq_true]
end
end VL

/-! VL4: the operators over values. -/
namespace VL
open PySem PySem.Spec PyProof.Rows L2 DL
section
variable {S : Sto} {d e x y : D}
theorem no_ref {n : Nat} (h : Dn S d (.ref n)) : False := by
  have h : rlt 0 (.ref n) = true := h.flat
  unfold rlt at h
  exact absurd (of_decide_eq_true h) (Nat.not_lt_zero _)
theorem add_lists {xs ys : List D} (h1 : DL.listOf S d = some xs) (h2 : DL.listOf S e = some ys) : addD d e S = if xs.length + ys.length ≤ sizeLine then .ok (.lst (xs ++ ys)) S else .bad := by
  have k : addD d e S = match DL.listOf S d, DL.listOf S e with
    | some xs, some ys => if xs.length + ys.length ≤ sizeLine then .ok (.lst (xs ++ ys)) S else .bad
    | _, _ => .bad := by
    cases d with
    | lst _ => cases e <;> first | rfl | cases h2
    | ref _ => cases e <;> first | rfl | cases h2
    | _ => cases h1
  rw [k, h1, h2]
theorem pr_add : Pr2 addD := fun S d e x y h1 h2 => by
  cases x with
  | ref n => exact (no_ref h1).elim
  | int i =>
    cases y with
    | int j => obtain rfl := dn_int h1; obtain rfl := dn_int h2; exact ⟨flat_int _, rfl⟩
    | _ => trivial
  | str i =>
    cases y with
    | str j =>
      obtain rfl := dn_str h1; obtain rfl := dn_str h2
      exact RQ.ite fun h => ⟨flat_str _, if_pos h⟩
    | _ => trivial
  | tup i =>
    cases y with
    | tup j =>
      obtain ⟨rfl, f1⟩ := dn_tup h1; obtain ⟨rfl, f2⟩ := dn_tup h2
      exact RQ.ite fun h => ⟨flat_tup.mpr (flats_app.mpr ⟨f1, f2⟩), if_pos h⟩
    | _ => trivial
  | lst i =>
    cases y with
    | ref n => exact (no_ref h2).elim
    | lst j =>
      have f1 := flat_lst.mp h1.flat
      have f2 := flat_lst.mp h2.flat
      rw [add_lists (dn_list h1) (dn_list h2)]
      exact RQ.ite fun h => ⟨flat_lst.mpr (flats_app.mpr ⟨f1, f2⟩), if_pos h⟩
    | _ => trivial
  | _ => cases y <;> trivial
theorem pr_sub : Pr2 subD := fun S d e x y h1 h2 => by
  cases x with
  | int i =>
    cases y with
    | int j => obtain rfl := dn_int h1; obtain rfl := dn_int h2; exact ⟨flat_int _, rfl⟩
    | _ => trivial
  | _ => trivial
theorem pr_iadd : Pr2 iaddD := fun S d e x y h1 h2 => by
  cases x with
  | int i =>
    cases y with
    | int j => obtain rfl := dn_int h1; obtain rfl := dn_int h2; exact ⟨flat_int _, rfl⟩
    | _ => trivial
  | _ => trivial
theorem flats_rep {xs : List D} (h : flats xs) (k : Nat) : flats (List.replicate k xs).flatten := flats_iff.mpr fun x hx => by
  rw [List.mem_flatten] at hx
  obtain ⟨l, hl, hx⟩ := hx
  rw [List.mem_replicate] at hl
  rw [hl.2] at hx
  exact flats_iff.mp h x hx
theorem pc_mul : Pc2 mulD := fun S x y h1 h2 => by
  cases x with
  | int i =>
    cases y with
    | int j => exact RQ.ite fun h => ⟨flat_int _, if_pos h⟩
    | _ => trivial
  | tup i =>
    cases y with
    | int k => exact RQ.ite fun h => ⟨flat_tup.mpr (flats_rep (flat_tup.mp h1) _), if_pos h⟩
    | _ => trivial
  | lst i =>
    cases y with
    | int k => exact RQ.ite fun h => ⟨flat_lst.mpr (flats_rep (flat_lst.mp h1) _), if_pos h⟩
    | _ => trivial
  | _ => trivial
theorem Pr2.c {g : D → D → Sto → Res D} (h : Pr2 g) : Pc2 g := fun S x y h1 h2 => h S x y x y (.inl ⟨rfl, h1⟩) (.inl ⟨rfl, h2⟩)
theorem pr_fdiv : Pr2 fdivD := fun S d e x y h1 h2 => by
  cases x with
  | int i =>
    cases y with
    | int j => obtain rfl := dn_int h1; obtain rfl := dn_int h2; exact RQ.ite fun h => ⟨flat_int _, if_pos h⟩
    | _ => trivial
  | _ => trivial
theorem pr_mod : Pr2 modD := fun S d e x y h1 h2 => by
  cases x with
  | int i =>
    cases y with
    | int j => obtain rfl := dn_int h1; obtain rfl := dn_int h2; exact RQ.ite fun h => ⟨flat_int _, if_pos h⟩
    | _ => trivial
  | _ => trivial
theorem pr_pow : Pr2 powD := fun S d e x y h1 h2 => by
  cases x with
  | int i =>
    cases y with
    | int j => obtain rfl := dn_int h1; obtain rfl := dn_int h2; exact RQ.ite fun h => ⟨flat_int _, if_pos h⟩
    | _ => trivial
  | _ => trivial
theorem pr_ord (p : Int → Int → Bool) : Pr2 (ordD p) := fun S d e x y h1 h2 => by
  cases x with
  | int i =>
    cases y with
    | int j => obtain rfl := dn_int h1; obtain rfl := dn_int h2; exact ⟨flat_bl _, rfl⟩
    | _ => trivial
  | _ => trivial
theorem dn_isNon (h : Dn S d x) : isNon d = isNon x := by
  rcases h with ⟨rfl, _⟩ | ⟨n, xs, rfl, rfl, _⟩ | ⟨n, xs, rfl, rfl, _⟩ <;> rfl
theorem pr_is : Pr2 isD := fun S d e x y h1 h2 => by
  cases y with
  | non => obtain rfl := dn_non h2; rw [is_non, is_non, dn_isNon h1]; exact ⟨flat_bl _, rfl⟩
  | bl j =>
    cases x with
    | bl i => obtain rfl := dn_bl h1; obtain rfl := dn_bl h2; exact ⟨flat_bl _, rfl⟩
    | _ => trivial
  | _ => cases x <;> trivial
theorem pr_isnt : Pr2 isntD := fun S d e x y h1 h2 => by
  cases y with
  | non => obtain rfl := dn_non h2; rw [isnt_non, isnt_non, dn_isNon h1]; exact ⟨flat_bl _, rfl⟩
  | bl j =>
    cases x with
    | bl i => obtain rfl := dn_bl h1; obtain rfl := dn_bl h2; exact ⟨flat_bl _, rfl⟩
    | _ => trivial
  | _ => cases x <;> trivial
theorem pr_eqv : Pr2 eqvD := fun S d e x y h1 h2 => by
  unfold eqvD
  rcases dn_dr h1 with ⟨a1, a2⟩ | a
  · rcases dn_dr h2 with ⟨b1, b2⟩ | b
    · unfold flatOk
      rw [a1, a2, b1, b2]
      exact RQ.ite fun h => ⟨flat_bl _, if_pos h⟩
    · rw [b, Bool.and_false]; trivial
  · rw [a, Bool.false_and]; trivial
theorem pr_nev : Pr2 nevD := fun S d e x y h1 h2 => by
  unfold nevD
  rcases dn_dr h1 with ⟨a1, a2⟩ | a
  · rcases dn_dr h2 with ⟨b1, b2⟩ | b
    · unfold flatOk
      rw [a1, a2, b1, b2]
      exact RQ.ite fun h => ⟨flat_bl _, if_pos h⟩
    · rw [b, Bool.and_false]; trivial
  · rw [a, Bool.false_and]; trivial
theorem in_seq (hs : ∀ i j, x = .str i → y = .str j → False) : inD x y S = match seqOf S y with
    | some ys => if (flatOk S x && decide (dps (drs S ys) ≤ 60)) = true then .ok (.bl (inL S x ys)) S else .bad
    | none => .bad := by
  cases x with
  | str i => cases y with
    | str j => exact (hs i j rfl rfl).elim
    | _ => rfl
  | _ => rfl
theorem nin_seq (hs : ∀ i j, x = .str i → y = .str j → False) : ninD x y S = match seqOf S y with
    | some ys => if (flatOk S x && decide (dps (drs S ys) ≤ 60)) = true then .ok (.bl (!inL S x ys)) S else .bad
    | none => .bad := by
  cases x with
  | str i => cases y with
    | str j => exact (hs i j rfl rfl).elim
    | _ => rfl
  | _ => rfl
theorem dn_strI {j : Str} (h : Dn S d x) (e : d = .str j) : x = .str j := by
  subst e
  rcases h with ⟨rfl, _⟩ | ⟨n, xs, z, _⟩ | ⟨n, xs, z, _⟩
  · rfl
  · cases z
  · cases z
theorem pr_in : Pr2 inD := fun S d e x y h1 h2 => by
  by_cases hs : ∃ i j, x = .str i ∧ y = .str j
  · obtain ⟨i, j, rfl, rfl⟩ := hs
    obtain rfl := dn_str h1; obtain rfl := dn_str h2
    exact ⟨flat_bl _, rfl⟩
  · rw [in_seq (fun i j a b => hs ⟨i, j, a, b⟩), in_seq (fun i j a b => hs ⟨i, j, dn_strI h1 a, dn_strI h2 b⟩), dn_seq h2]
    cases hq : seqOf [] y with
    | none => trivial
    | some ys =>
      simp only
      have hf := seq_flat h2.flat hq
      rcases dn_dr h1 with ⟨a1, a2⟩ | a
      · unfold inL flatOk
        rw [a1, a2, drs_pure S ys hf, drs_pure [] ys hf]
        exact RQ.ite fun h => ⟨flat_bl _, if_pos h⟩
      · rw [a, Bool.false_and]; trivial
theorem pr_nin : Pr2 ninD := fun S d e x y h1 h2 => by
  by_cases hs : ∃ i j, x = .str i ∧ y = .str j
  · obtain ⟨i, j, rfl, rfl⟩ := hs
    obtain rfl := dn_str h1; obtain rfl := dn_str h2
    exact ⟨flat_bl _, rfl⟩
  · rw [nin_seq (fun i j a b => hs ⟨i, j, a, b⟩), nin_seq (fun i j a b => hs ⟨i, j, dn_strI h1 a, dn_strI h2 b⟩), dn_seq h2]
    cases hq : seqOf [] y with
    | none => trivial
    | some ys =>
      simp only
      have hf := seq_flat h2.flat hq
      rcases dn_dr h1 with ⟨a1, a2⟩ | a
      · unfold inL flatOk
        rw [a1, a2, drs_pure S ys hf, drs_pure [] ys hf]
        exact RQ.ite fun h => ⟨flat_bl _, if_pos h⟩
      · rw [a, Bool.false_and]; trivial
theorem atI_flat {xs : List D} {i : Int} {z : D} (h : flats xs) (e : atI xs i = some z) : flat z := by
  unfold atI at e
  cases hi : ixN xs.length i with
  | none => rw [hi] at e; cases e
  | some j => rw [hi] at e; exact flats_iff.mp h z (List.mem_of_getElem? e)
theorem pr_ix : Pr2 ixD := fun S d e x y h1 h2 => by
  cases y with
  | int i =>
    obtain rfl := dn_int h2
    have key : ∀ (S : Sto) (d : D), (∀ z, d ≠ .str z) → ixD d (.int i) S = match seqOf S d with
      | some xs => (match atI xs i with | some d => .ok d S | none => .bad)
      | none => .bad := fun S d h => by
      cases d with
      | str z => exact absurd rfl (h z)
      | _ => rfl
    by_cases hs : ∃ z, x = .str z
    · obtain ⟨z, rfl⟩ := hs
      obtain rfl := dn_str h1
      unfold ixD
      simp only
      by_cases hz : z.length ≤ sizeLine
      · rw [if_pos hz]
        cases atI z.cps.toList i with
        | none => trivial
        | some c => exact ⟨flat_str _, by rw [if_pos hz]⟩
      · rw [if_neg hz]; trivial
    · rw [key [] x fun z q => hs ⟨z, q⟩, key S d fun z q => hs ⟨z, dn_strI h1 q⟩, dn_seq h1]
      cases hq : seqOf [] x with
      | none => trivial
      | some xs =>
        simp only
        cases hi : atI xs i with
        | none => trivial
        | some z => exact ⟨atI_flat (seq_flat h1.flat hq) hi, rfl⟩
  | _ => cases x <;> trivial
theorem pr_neg : Pr1 negD := fun S d x h => by
  cases x with
  | int i => obtain rfl := dn_int h; exact ⟨flat_int _, rfl⟩
  | _ => trivial
theorem cutL_flat {xs : List D} (h : flats xs) (lo hi : Option Int) : flats (slD.cutL xs lo hi) := flats_iff.mpr fun x hx => flats_iff.mp h x (cutL_mem hx)
theorem pr_sl (lo hi : Option Int) : Pr1 (fun x S => slD x lo hi S) := fun S d x h => by
  cases x with
  | tup i =>
    obtain ⟨rfl, f⟩ := dn_tup h
    exact ⟨flat_tup.mpr (cutL_flat f lo hi), rfl⟩
  | lst i =>
    refine ⟨flat_lst.mpr (cutL_flat (flat_lst.mp h.flat) lo hi), ?_⟩
    have hl := dn_list h
    cases d with
    | tup j => cases hl
    | _ =>
      unfold slD
      simp only
      rw [hl]
      rfl
  | ref n => exact (no_ref h).elim
  | _ => trivial
theorem pr_isi (T : String) : Pr1 (isiD T) := fun S d x h => by
  unfold isiD
  rw [dn_ty h]
  cases (tyD [] x).bind fun t => kitB t T with
  | none => trivial
  | some b => exact ⟨flat_bl _, rfl⟩
theorem pr_tix (ys : List Str) : Pr1 (tixD ys) := fun S d x h => by
  cases x with
  | str z => obtain rfl := dn_str h; exact RQ.ite fun h => ⟨flat_int _, if_pos h⟩
  | _ => trivial
end

/-! ### built-in functions -/
section
theorem pa_one {g : List D → Sto → Res D} (h1 : Pr1 fun x S => g [x] S) (h0 : ∀ S, g [] S = .bad) (h2 : ∀ x y zs S, g (x :: y :: zs) S = .bad) : PrA g := fun S ds xs h => by
  cases h with
  | nil => rw [h0]; trivial
  | cons a t =>
    cases t with
    | nil => exact h1 _ _ _ a
    | cons b t => rw [h2]; trivial
theorem pa_two {g : List D → Sto → Res D} (h1 : Pr2 fun x y S => g [x, y] S) (h0 : ∀ S, g [] S = .bad) (h3 : ∀ x S, g [x] S = .bad) (h2 : ∀ x y z zs S, g (x :: y :: z :: zs) S = .bad) : PrA g := fun S ds xs h => by
  cases h with
  | nil => rw [h0]; trivial
  | cons a t =>
    cases t with
    | nil => rw [h3]; trivial
    | cons b t =>
      cases t with
      | nil => exact h1 _ _ _ _ _ a b
      | cons c t => rw [h2]; trivial
theorem len_dn {S : Sto} {d x : D} (h : Dn S d x) (hs : ∀ z, x ≠ .str z) : lenD [d] S = match seqOf [] x with | some xs => .ok (.int xs.length) S | none => .bad := by
  rw [← dn_seq h]
  cases d with
  | str z => exact absurd (dn_strI h rfl) (hs z)
  | _ => rfl
theorem pa_len : PrA lenD := pa_one (fun S d x h => by
  by_cases hs : ∃ z, x = .str z
  · obtain ⟨z, rfl⟩ := hs
    obtain rfl := dn_str h
    exact RQ.ite fun h => ⟨flat_int _, if_pos h⟩
  · show RQ (lenD [x] []) (lenD [d] S) S
    rw [len_dn h fun z q => hs ⟨z, q⟩, len_dn (S := []) (d := x) (.inl ⟨rfl, h.flat⟩) fun z q => hs ⟨z, q⟩]
    cases seqOf [] x with
    | none => trivial
    | some xs => exact ⟨flat_int _, rfl⟩) (fun _ => rfl) (fun x y zs S => by cases x <;> rfl)
theorem pa_abs : PrA absD := pa_one (fun S d x h => by
  cases x with
  | int i => obtain rfl := dn_int h; exact ⟨flat_int _, rfl⟩
  | _ => trivial) (fun _ => rfl) (fun x y zs S => by cases x <;> rfl)
theorem pa_int : PrA intD := pa_one (fun S d x h => by
  cases x with
  | int i => obtain rfl := dn_int h; exact ⟨flat_int _, rfl⟩
  | bl i => obtain rfl := dn_bl h; exact ⟨flat_int _, rfl⟩
  | _ => trivial) (fun _ => rfl) (fun x y zs S => by cases x <;> rfl)
theorem pa_str : PrA strD := pa_one (fun S d x h => by
  cases x with
  | int i => obtain rfl := dn_int h; exact RQ.ite fun h => ⟨flat_str _, if_pos h⟩
  | _ => trivial) (fun _ => rfl) (fun x y zs S => by cases x <;> rfl)
theorem pa_list : PrA listD := pa_one (fun S d x h => by
  show RQ (match seqOf [] x with | some xs => .ok (.lst xs) [] | none => .bad) (match seqOf S d with | some xs => .ok (.lst xs) S | none => .bad) S
  rw [dn_seq h]
  cases hq : seqOf [] x with
  | none => trivial
  | some xs => exact ⟨flat_lst.mpr (seq_flat h.flat hq), rfl⟩) (fun _ => rfl) (fun x y zs S => by rfl)
theorem pa_tuple : PrA tupleD := pa_one (fun S d x h => by
  show RQ (match seqOf [] x with | some xs => .ok (.tup xs) [] | none => .bad) (match seqOf S d with | some xs => .ok (.tup xs) S | none => .bad) S
  rw [dn_seq h]
  cases hq : seqOf [] x with
  | none => trivial
  | some xs => exact ⟨flat_tup.mpr (seq_flat h.flat hq), rfl⟩) (fun _ => rfl) (fun x y zs S => by rfl)
theorem pa_all : PrA allD := pa_one (fun S d x h => by
  show RQ (match (DL.listOf [] x).bind asBls with | some bs => .ok (.bl (bs.all id)) [] | none => .bad) (match (DL.listOf S d).bind asBls with | some bs => .ok (.bl (bs.all id)) S | none => .bad) S
  rw [dn_list h]
  cases (DL.listOf [] x).bind asBls with
  | none => trivial
  | some xs => exact ⟨flat_bl _, rfl⟩) (fun _ => rfl) (fun x y zs S => by rfl)
theorem pa_sum : PrA sumD := pa_one (fun S d x h => by
  show RQ (match (DL.listOf [] x).bind asInts with | some bs => .ok (.int bs.sum) [] | none => .bad) (match (DL.listOf S d).bind asInts with | some bs => .ok (.int bs.sum) S | none => .bad) S
  rw [dn_list h]
  cases (DL.listOf [] x).bind asInts with
  | none => trivial
  | some xs => exact ⟨flat_int _, rfl⟩) (fun _ => rfl) (fun x y zs S => by rfl)
theorem pa_divmod : PrA divmodD := pa_two (fun S d e x y h1 h2 => by
  cases x with
  | int i =>
    cases y with
    | int j =>
      obtain rfl := dn_int h1; obtain rfl := dn_int h2
      exact RQ.ite fun h => ⟨flat_tup.mpr (flats_cons.mpr ⟨flat_int _, flats_cons.mpr ⟨flat_int _, flats_nil⟩⟩), if_pos h⟩
    | _ => trivial
  | _ => trivial) (fun _ => rfl) (fun x S => by cases x <;> rfl) (fun x y z zs S => by cases x <;> first | rfl | (cases y <;> rfl))
theorem pa_max : PrA maxD := pa_two (fun S d e x y h1 h2 => by
  cases x with
  | int i =>
    cases y with
    | int j => obtain rfl := dn_int h1; obtain rfl := dn_int h2; exact ⟨flat_int _, rfl⟩
    | _ => trivial
  | _ => trivial) (fun _ => rfl) (fun x S => by cases x <;> rfl) (fun x y z zs S => by cases x <;> first | rfl | (cases y <;> rfl))
theorem pa_min : PrA minD := pa_two (fun S d e x y h1 h2 => by
  cases x with
  | int i =>
    cases y with
    | int j => obtain rfl := dn_int h1; obtain rfl := dn_int h2; exact ⟨flat_int _, rfl⟩
    | _ => trivial
  | _ => trivial) (fun _ => rfl) (fun x S => by cases x <;> rfl) (fun x y z zs S => by cases x <;> first | rfl | (cases y <;> rfl))
end
end VL

/-! VL5: expressions. -/
namespace VL
open PySem PySem.Spec PyProof.Rows L2 DL
def vOp2 (g : D → D → Sto → Res D) (a b : Opd) : VE := fun e => (a.ev e).bind fun x e1 => (b.ev e1).bind fun y e2 => match a.rd e2 x, b.rd e2 y with
  | some x', some y' => toV (g x' y' []) e2
  | _, _ => .bad
def vOp1 (g : D → Sto → Res D) (a : Opd) : VE := fun e => (a.ev e).bind fun x e1 => match a.rd e1 x with
  | some x' => toV (g x' []) e1
  | none => .bad
def vChain (g g' : D → D → Sto → Res D) (a b c : Opd) : VE := fun e => (a.ev e).bind fun x e1 => (b.ev e1).bind fun y e2 => match a.rd e2 x, b.rd e2 y with
  | some x', some y' => (toV (g x' y' []) e2).bind fun z e3 => (match z with
    | .bl k => if k = true then (c.ev e3).bind fun u e4 => (match b.rd e4 y, c.rd e4 u with
      | some y', some u' => toV (g' y' u' []) e4
      | _, _ => .bad) else .ok (.bl false) e3
    | _ => .bad)
  | _, _ => .bad
def vAnd (A B : VE) : VE := fun e => (A e).bind fun x e1 => match x with
  | .bl k => if k = true then B e1 else .ok (.bl false) e1
  | _ => .bad
def vOr (A B : VE) : VE := fun e => (A e).bind fun x e1 => match x with
  | .bl k => if k = true then .ok (.bl true) e1 else B e1
  | _ => .bad
def vTr (a : Opd) : Env → VR Bool := fun e => (a.ev e).bind fun x e1 => match a.rd e1 x with
  | some x' => toV (truD x' []) e1
  | none => .bad
def vNot (a : Opd) : VE := fun e => (vTr a e).bind fun k e1 => .ok (.bl (!k)) e1
def vIf (t : Env → VR Bool) (A B : VE) : VE := fun e => (t e).bind fun k e1 => if k = true then A e1 else B e1
def vtVal (A : VE) : Env → VR Bool := fun e => (A e).bind fun x e1 => match x with
  | .bl k => .ok k e1
  | _ => .bad
def vtAnd (t u : Env → VR Bool) : Env → VR Bool := fun e => (t e).bind fun k e1 => if k = true then u e1 else .ok false e1
def vtOr (t u : Env → VR Bool) : Env → VR Bool := fun e => (t e).bind fun k e1 => if k = true then .ok true e1 else u e1
def vtNot (t : Env → VR Bool) : Env → VR Bool := fun e => (t e).bind fun k e1 => .ok (!k) e1
def vtTrue : Env → VR Bool := fun e => .ok true e
abbrev VAs := Env → VR (List D)
def vNil : VAs := fun e => .ok [] e
def vCons (A : VE) (r : VAs) : VAs := fun e => (A e).bind fun x e1 => (r e1).bind fun xs e2 => .ok (x :: xs) e2
def vTup (r : VAs) : VE := fun e => (r e).bind fun xs e1 => if xs.length ≤ sizeLine then .ok (.tup xs) e1 else .bad
def vLst (r : VAs) : VE := fun e => (r e).bind fun xs e1 => if xs.length ≤ sizeLine then .ok (.lst xs) e1 else .bad
def osEv : List Opd → VAs
  | [] => fun e => .ok [] e
  | a :: r => fun e => (a.ev e).bind fun x e1 => (osEv r e1).bind fun xs e2 => .ok (x :: xs) e2
def osRd : List Opd → Env → List D → Option (List D)
  | [], _, [] => some []
  | a :: r, e, x :: xs => (match a.rd e x, osRd r e xs with
    | some y, some ys => some (y :: ys)
    | _, _ => none)
  | _, _, _ => none
def vApp (g : List D → Sto → Res D) (os : List Opd) : VE := fun e => (osEv os e).bind fun xs e1 => match osRd os e1 xs with
  | some ys => toV (g ys []) e1
  | none => .bad
abbrev VTP := Env → VR (Option Int)
def vpNo : VTP := fun e => .ok none e
def vpAt (A : VE) : VTP := fun e => (A e).bind fun x e1 => match x with
  | .int i => .ok (some i) e1
  | _ => .bad
def vSl (a : Opd) (p q : VTP) : VE := fun e => (a.ev e).bind fun x e1 => (p e1).bind fun lo e2 => (q e2).bind fun hi e3 => match a.rd e3 x with
  | some x' => toV (slD x' lo hi []) e3
  | none => .bad

section
variable {c : Bs} {l : DL.Loc} {S : Sto} {fts : List FT}
theorem Sv.of_RQ {e : Env} {r f : Res D} (o : Ok c e l S fts) (h : RQ r f S) : Sv c l S fts (toV r e) f fun x _ d _ => d = x ∧ flat x := by
  cases r with
  | ok x _ => exact ⟨x, S, h.2, o, .refl _ _, rfl, h.1⟩
  | exc k _ => exact ⟨S, h, o, .refl _ _⟩
  | bad => trivial
end
section
variable {io : Nat → Bool} {A B C : E} {V U : VE} {a b d : Opd}
theorem SC.v (h : SC io A V) {c : Bs} {env : Env} {l : DL.Loc} {S : Sto} {fts : List FT} (hi : c.ios = io) (o : Ok c env l S fts) : Sv c l S fts (V env) (A l S) fun x _ d _ => d = x ∧ flat x := h c env l S fts hi o
theorem SC.of (h : ∀ (c : Bs) (env : Env) (l : DL.Loc) (S : Sto) (fts : List FT), c.ios = io → Ok c env l S fts → Sv c l S fts (V env) (A l S) fun x _ d _ => d = x ∧ flat x) : SC io A V := h
theorem ST.v {A : T} {V : Env → VR Bool} (h : ST io A V) {c : Bs} {env : Env} {l : DL.Loc} {S : Sto} {fts : List FT} (hi : c.ios = io) (o : Ok c env l S fts) : Sv c l S fts (V env) (A l S) fun x _ d _ => d = x := h c env l S fts hi o
theorem ST.of {A : T} {V : Env → VR Bool} (h : ∀ (c : Bs) (env : Env) (l : DL.Loc) (S : Sto) (fts : List FT), c.ios = io → Ok c env l S fts → Sv c l S fts (V env) (A l S) fun x _ d _ => d = x) : ST io A V := h
theorem SO.v (h : SO io A a) {c : Bs} {env : Env} {l : DL.Loc} {S : Sto} {fts : List FT} (hi : c.ios = io) (o : Ok c env l S fts) : Sv c l S fts (a.ev env) (A l S) fun x _ d _ => Rd c l fts a x d := h c env l S fts hi o
theorem sc_op2 {g : D → D → Sto → Res D} (hg : Pr2 g) (ha : SO io A a) (hb : SO io B b) : SC io (eOp2 g A B) (vOp2 g a b) := SC.of fun c env l S fts hi o => by
  unfold vOp2 eOp2
  refine Sv.bind (ha.v hi o) fun x e1 d1 S1 o1 r1 => Sv.bind (hb.v hi o1) fun y e2 d2 S2 o2 r2 => ?_
  cases h1 : a.rd e2 x with
  | none => trivial
  | some x' =>
    cases h2 : b.rd e2 y with
    | none => trivial
    | some y' => exact Sv.of_RQ o2 (hg S2 d1 d2 x' y' (r1 e2 S2 x' o2 h1) (r2 e2 S2 y' o2 h2))
theorem sc_op2c {g : D → D → Sto → Res D} (hg : Pc2 g) (ha : SC io A V) (hb : SC io B U) : SC io (eOp2 g A B) (vOp2 g (oV V) (oV U)) := SC.of fun c env l S fts hi o => by
  unfold vOp2 eOp2
  refine Sv.bind (ha.v hi o) fun x e1 d1 S1 o1 ⟨q1, f1⟩ => Sv.bind (hb.v hi o1) fun y e2 d2 S2 o2 ⟨q2, f2⟩ => ?_
  subst q1 q2
  exact Sv.of_RQ o2 (hg S2 d1 d2 f1 f2)
theorem sc_op1 {g : D → Sto → Res D} (hg : Pr1 g) (ha : SO io A a) : SC io (eOp1 g A) (vOp1 g a) := SC.of fun c env l S fts hi o => by
  unfold vOp1 eOp1
  refine Sv.bind (ha.v hi o) fun x e1 d1 S1 o1 r1 => ?_
  cases h1 : a.rd e1 x with
  | none => trivial
  | some x' => exact Sv.of_RQ o1 (hg S1 d1 x' (r1 e1 S1 x' o1 h1))
theorem sc_chain {g g' : D → D → Sto → Res D} (hg : Pr2 g) (hg' : Pr2 g') (ha : SO io A a) (hb : SO io B b) (hd : SO io C d) : SC io (eChain g g' A B C) (vChain g g' a b d) := SC.of fun c env l S fts hi o => by
  unfold vChain eChain
  refine Sv.bind (ha.v hi o) fun x e1 d1 S1 o1 r1 => Sv.bind (hb.v hi o1) fun y e2 d2 S2 o2 r2 => ?_
  cases h1 : a.rd e2 x with
  | none => trivial
  | some x' =>
    cases h2 : b.rd e2 y with
    | none => trivial
    | some y' =>
      refine Sv.bind (Sv.of_RQ o2 (hg S2 d1 d2 x' y' (r1 e2 S2 x' o2 h1) (r2 e2 S2 y' o2 h2))) fun z e3 d3 S3 o3 ⟨q3, f3⟩ => ?_
      subst q3
      cases d3 with
      | bl k =>
        cases k with
        | false => simp only [Bool.false_eq_true, if_false]; exact Sv.ret o3 ⟨rfl, flat_bl _⟩
        | true =>
          simp only [if_true]
          show Sv c l S3 fts _ ((C l S3).bind fun u S5 => g' d2 u S5) _
          refine Sv.bind (hd.v hi o3) fun u e4 d4 S4 o4 r4 => ?_
          cases h3 : b.rd e4 y with
          | none => trivial
          | some y2 =>
            cases h4 : d.rd e4 u with
            | none => trivial
            | some u' => exact Sv.of_RQ o4 (hg' S4 d2 d4 y2 u' (r2 e4 S4 y2 o4 h3) (r4 e4 S4 u' o4 h4))
      | _ => trivial
theorem sc_and (ha : SC io A V) (hb : SC io B U) : SC io (eAnd A B) (vAnd V U) := SC.of fun c env l S fts hi o => by
  unfold vAnd eAnd
  refine Sv.bind (ha.v hi o) fun x e1 d1 S1 o1 ⟨q1, f1⟩ => ?_
  subst q1
  cases d1 with
  | bl k =>
    cases k with
    | false => simp only [Bool.false_eq_true, if_false]; exact Sv.ret o1 ⟨rfl, flat_bl _⟩
    | true => simp only [if_true]; exact hb.v hi o1
  | _ => trivial
theorem sc_or (ha : SC io A V) (hb : SC io B U) : SC io (eOr A B) (vOr V U) := SC.of fun c env l S fts hi o => by
  unfold vOr eOr
  refine Sv.bind (ha.v hi o) fun x e1 d1 S1 o1 ⟨q1, f1⟩ => ?_
  subst q1
  cases d1 with
  | bl k =>
    cases k with
    | false => simp only [Bool.false_eq_true, if_false]; exact hb.v hi o1
    | true => simp only [if_true]; exact Sv.ret o1 ⟨rfl, flat_bl _⟩
  | _ => trivial
theorem tru_dn {S : Sto} {d x : D} (h : Dn S d x) : (∃ b, truD x [] = .ok b [] ∧ truD d S = .ok b S) ∨ truD x [] = .bad := by
  cases x with
  | ref n => exact (no_ref h).elim
  | exc n => exact .inr rfl
  | non => obtain rfl := dn_non h; exact .inl ⟨_, rfl, rfl⟩
  | bl i => obtain rfl := dn_bl h; exact .inl ⟨_, rfl, rfl⟩
  | int i => obtain rfl := dn_int h; exact .inl ⟨_, rfl, rfl⟩
  | str i =>
    obtain rfl := dn_str h
    by_cases hz : i.length ≤ sizeLine
    · exact .inl ⟨_, if_pos hz, if_pos hz⟩
    · exact .inr (if_neg hz)
  | tup i => obtain ⟨rfl, _⟩ := dn_tup h; exact .inl ⟨_, rfl, rfl⟩
  | lst i =>
    refine .inl ⟨!i.isEmpty, rfl, ?_⟩
    have hl := dn_list h
    cases d with
    | lst j => cases hl; rfl
    | ref n =>
      show (match DL.listOf S (.ref n) with
        | some xs => Res.ok (!xs.isEmpty) S
        | none => .bad) = _
      rw [hl]; rfl
    | _ => cases hl
  | dic t es => exact .inr rfl
theorem st_truth (ha : SO io A a) : ST io (tTruth A) (vTr a) := ST.of fun c env l S fts hi o => by
  unfold vTr tTruth
  refine Sv.bind (ha.v hi o) fun x e1 d1 S1 o1 r1 => ?_
  cases h1 : a.rd e1 x with
  | none => trivial
  | some x' =>
    simp only
    rcases tru_dn (r1 e1 S1 x' o1 h1) with ⟨b, q1, q2⟩ | q
    · rw [q1, q2]; exact Sv.ret o1 rfl
    · rw [q]; trivial
theorem sc_not (ha : SO io A a) : SC io (eNot A) (vNot a) := SC.of fun c env l S fts hi o => by
  unfold vNot
  have k : eNot A l S = (tTruth A l S).bind fun c S2 => .ok (.bl (!c)) S2 := by
    unfold eNot tTruth
    cases A l S <;> rfl
  rw [k]
  refine Sv.bind ((st_truth ha).v hi o) fun x e1 d1 S1 o1 q => ?_
  subst q
  exact Sv.ret o1 ⟨rfl, flat_bl _⟩
theorem sc_if {t : T} {vt : Env → VR Bool} (ht : ST io t vt) (ha : SC io A V) (hb : SC io B U) : SC io (eIf t A B) (vIf vt V U) := SC.of fun c env l S fts hi o => by
  unfold vIf eIf
  refine Sv.bind (ht.v hi o) fun x e1 d1 S1 o1 q => ?_
  subst q
  cases d1 with
  | false => simp only [Bool.false_eq_true, if_false]; exact hb.v hi o1
  | true => simp only [if_true]; exact ha.v hi o1
theorem st_val (ha : SC io A V) : ST io (tVal A) (vtVal V) := ST.of fun c env l S fts hi o => by
  unfold vtVal tVal
  refine Sv.bind (ha.v hi o) fun x e1 d1 S1 o1 ⟨q1, f1⟩ => ?_
  subst q1
  cases d1 with
  | bl k => exact Sv.ret o1 rfl
  | _ => trivial
section
variable {t u : T} {vt vu : Env → VR Bool}
theorem st_and (ht : ST io t vt) (hu : ST io u vu) : ST io (tAndD t u) (vtAnd vt vu) := ST.of fun c env l S fts hi o => by
  unfold vtAnd tAndD
  refine Sv.bind (ht.v hi o) fun x e1 d1 S1 o1 q => ?_
  subst q
  cases d1 with
  | false => simp only [Bool.false_eq_true, if_false]; exact Sv.ret o1 rfl
  | true => simp only [if_true]; exact hu.v hi o1
theorem st_or (ht : ST io t vt) (hu : ST io u vu) : ST io (tOrD t u) (vtOr vt vu) := ST.of fun c env l S fts hi o => by
  unfold vtOr tOrD
  refine Sv.bind (ht.v hi o) fun x e1 d1 S1 o1 q => ?_
  subst q
  cases d1 with
  | false => simp only [Bool.false_eq_true, if_false]; exact hu.v hi o1
  | true => simp only [if_true]; exact Sv.ret o1 rfl
theorem st_not (ht : ST io t vt) : ST io (tNotD t) (vtNot vt) := ST.of fun c env l S fts hi o => by
  unfold vtNot tNotD
  refine Sv.bind (ht.v hi o) fun x e1 d1 S1 o1 q => ?_
  subst q
  exact Sv.ret o1 rfl
theorem st_true : ST io tTrue vtTrue := ST.of fun c env l S fts hi o => Sv.ret o rfl
end
/-- lists of values -/
def SL (io : Nat → Bool) (As : As) (V : VAs) : Prop := ∀ (c : Bs) (env : Env) (l : DL.Loc) (S : Sto) (fts : List FT), c.ios = io → Ok c env l S fts → Sv c l S fts (V env) (As l S) fun x _ d _ => d = x ∧ flats x
theorem sl_nil : SL io aNil vNil := fun c env l S fts hi o => Sv.ret o ⟨rfl, flats_nil⟩
theorem sl_cons {r : As} {vr : VAs} (ha : SC io A V) (hr : SL io r vr) : SL io (aCons A r) (vCons V vr) := fun c env l S fts hi o => by
  unfold vCons aCons
  refine Sv.bind (ha.v hi o) fun x e1 d1 S1 o1 ⟨q1, f1⟩ => Sv.bind (hr c e1 l S1 fts hi o1) fun y e2 d2 S2 o2 ⟨q2, f2⟩ => ?_
  subst q1 q2
  exact Sv.ret o2 ⟨rfl, flats_cons.mpr ⟨f1, f2⟩⟩
theorem sc_tup {r : As} {vr : VAs} (hr : SL io r vr) : SC io (eTup r) (vTup vr) := SC.of fun c env l S fts hi o => by
  unfold vTup eTup
  refine Sv.bind (hr c env l S fts hi o) fun x e1 d1 S1 o1 ⟨q1, f1⟩ => ?_
  subst q1
  by_cases hz : d1.length ≤ sizeLine
  · rw [if_pos hz, if_pos hz]; exact Sv.ret o1 ⟨rfl, flat_tup.mpr f1⟩
  · rw [if_neg hz]; trivial
theorem sc_lst {r : As} {vr : VAs} (hr : SL io r vr) : SC io (eLst r) (vLst vr) := SC.of fun c env l S fts hi o => by
  unfold vLst eLst
  refine Sv.bind (hr c env l S fts hi o) fun x e1 d1 S1 o1 ⟨q1, f1⟩ => ?_
  subst q1
  by_cases hz : d1.length ≤ sizeLine
  · rw [if_pos hz, if_pos hz]; exact Sv.ret o1 ⟨rfl, flat_lst.mpr f1⟩
  · rw [if_neg hz]; trivial
/-- lists of operands -/
def Rds (c : Bs) (l : DL.Loc) (fts : List FT) (os : List Opd) (xs ds : List D) : Prop := ∀ (e2 : Env) (S2 : Sto) (ys : List D), Ok c e2 l S2 fts → osRd os e2 xs = some ys → Dns S2 ds ys
def SOs (io : Nat → Bool) (As : As) (os : List Opd) : Prop := ∀ (c : Bs) (env : Env) (l : DL.Loc) (S : Sto) (fts : List FT), c.ios = io → Ok c env l S fts → Sv c l S fts (osEv os env) (As l S) fun x _ d _ => Rds c l fts os x d
theorem so_nil : SOs io aNil [] := fun c env l S fts hi o => Sv.ret o fun e2 S2 ys _ h => by cases h; exact .nil
theorem so_cons {r : As} {os : List Opd} (ha : SO io A a) (hr : SOs io r os) : SOs io (aCons A r) (a :: os) := fun c env l S fts hi o => by
  unfold osEv aCons
  refine Sv.bind (ha.v hi o) fun x e1 d1 S1 o1 r1 => Sv.bind (hr c e1 l S1 fts hi o1) fun y e2 d2 S2 o2 r2 => ?_
  refine Sv.ret o2 fun e3 S3 ys o3 h => ?_
  unfold osRd at h
  cases h1 : a.rd e3 x with
  | none => rw [h1] at h; cases h
  | some z =>
    cases h2 : osRd os e3 y with
    | none => rw [h1, h2] at h; cases h
    | some zs =>
      rw [h1, h2] at h
      cases h
      exact .cons (r1 e3 S3 z o3 h1) (r2 e3 S3 zs o3 h2)
theorem sc_app {g : List D → Sto → Res D} {r : As} {os : List Opd} (hg : PrA g) (hr : SOs io r os) : SC io (eApp g r) (vApp g os) := SC.of fun c env l S fts hi o => by
  unfold vApp eApp
  refine Sv.bind (hr c env l S fts hi o) fun x e1 d1 S1 o1 r1 => ?_
  cases h1 : osRd os e1 x with
  | none => trivial
  | some ys => exact Sv.of_RQ o1 (hg S1 d1 ys (r1 e1 S1 ys o1 h1))
def STP (io : Nat → Bool) (A : TP) (V : VTP) : Prop := ∀ (c : Bs) (env : Env) (l : DL.Loc) (S : Sto) (fts : List FT), c.ios = io → Ok c env l S fts → Sv c l S fts (V env) (A l S) fun x _ d _ => d = x
theorem sp_no : STP io pNo vpNo := fun c env l S fts hi o => Sv.ret o rfl
theorem sp_at (ha : SC io A V) : STP io (pAt A) (vpAt V) := fun c env l S fts hi o => by
  unfold vpAt pAt
  refine Sv.bind (ha.v hi o) fun x e1 d1 S1 o1 ⟨q1, f1⟩ => ?_
  subst q1
  cases d1 with
  | int i => exact Sv.ret o1 rfl
  | _ => trivial
theorem sc_sl {p q : TP} {vp vq : VTP} (ha : SO io A a) (hp : STP io p vp) (hq : STP io q vq) : SC io (eSl A p q) (vSl a vp vq) := SC.of fun c env l S fts hi o => by
  unfold vSl eSl
  refine Sv.bind (ha.v hi o) fun x e1 d1 S1 o1 r1 => Sv.bind (hp c e1 l S1 fts hi o1) fun lo e2 lo' S2 o2 q2 => Sv.bind (hq c e2 l S2 fts hi o2) fun h e3 h' S3 o3 q3 => ?_
  subst q2 q3
  cases h1 : a.rd e3 x with
  | none => trivial
  | some x' => exact Sv.of_RQ o3 (pr_sl lo' h' S3 d1 x' (r1 e3 S3 x' o3 h1))
end
end VL

/-! VL6: calls of defs, what a def promises. -/
namespace VL
open PySem PySem.Spec PyProof.Rows L2 DL
inductive FR where
  | ok (r : Sl) (outs : List Sl) | exc (k : Nat) (outs : List Sl) | bad
/-- what is left of the caller's things -/
structure Post (io : Nat → Bool) (S S' : Sto) (ds : List D) (ss outs : List Sl) (fts : List FT) : Prop where
  le : S.length ≤ S'.length
  ln : outs.length = ss.length
  out : ∀ (i : Nat) (s : Sl) (t : FT), io i = true → outs[i]? = some s → fts[i]? = some t → Own S' s t ∧ ds[i]? = some (rootD s t)
  fr : ∀ n, n < S.length → (∀ (i : Nat) (t : FT), io i = true → fts[i]? = some t → n ∉ foot t) → S'[n]? = S[n]?
/-- a def's ending -/
def Gl (io : Nat → Bool) (S : Sto) (ds : List D) (ss : List Sl) (fts : List FT) (X : Res D) (r : FR) : Prop := match r with
  | .ok r outs => ∃ d S' ft, X = .ok d S' ∧ Post io S S' ds ss outs fts ∧ Own S' r ft ∧ d = rootD r ft ∧ (foot ft).Nodup ∧ ∀ n ∈ foot ft, S.length ≤ n
  | .exc k outs => ∃ S', X = .exc k S' ∧ Post io S S' ds ss outs fts
  | .bad => True
/-- a def, over values: io tells which parameters are live things of the caller's -/
def SF (io : Nat → Bool) (F : List D → Sto → Res D) (VF : List Sl → FR) : Prop := ∀ (S : Sto) (ds : List D) (ss : List Sl) (fts : List FT), RV ss (ds.map some) S fts → (∀ s ∈ ss, s ≠ .no) → (∀ (i : Nat) (t : FT), io i = false → fts[i]? = some t → t = .val) → Gl io S ds ss fts (F ds S) (VF ss)
inductive Arg where
  | v (V : VE) | p (i : Nat) (p : Path)
def isVa : Sl → Bool
  | .va _ => true
  | _ => false
/-- a thing handed over -/
def handP (e : Env) (i : Nat) (p : Path) : Option Sl := match getP e i p with
  | some .no => none
  | some (.va d) => if p = [] then some (.va d) else none
  | some s => some s
  | none => none
def gEv : List Arg → VAs
  | [] => fun e => .ok [] e
  | .v V :: r => fun e => (V e).bind fun x e1 => (gEv r e1).bind fun xs e2 => .ok (x :: xs) e2
  | .p i p :: r => fun e => match handP e i p with
    | some _ => (gEv r e).bind fun xs e2 => .ok (.non :: xs) e2
    | none => .bad
def gSl : List Arg → Env → List D → Option (List Sl)
  | [], _, [] => some []
  | .v _ :: r, e, x :: xs => (match gSl r e xs with
    | some ss => some (.va x :: ss)
    | none => none)
  | .p i p :: r, e, _ :: xs => (match handP e i p, gSl r e xs with
    | some s, some ss => some (s :: ss)
    | _, _ => none)
  | _, _, _ => none
def gPut : List Arg → List Sl → Env → Env
  | [], _, e => e
  | .v _ :: r, os, e => gPut r os.tail e
  | .p i p :: r, os, e => (match os with
    | o :: os' => gPut r os' (putP e i p o)
    | [] => e)
def argRoots : List Arg → List Nat
  | [] => []
  | .v _ :: r => argRoots r
  | .p i _ :: r => i :: argRoots r
def argIo (io : Nat → Bool) : Nat → List Arg → Bool
  | _, [] => true
  | k, .v _ :: r => argIo io (k + 1) r
  | k, .p _ _ :: r => io k && argIo io (k + 1) r
def vCall (VF : List Sl → FR) (as : List Arg) : Env → VR Sl := fun e => (gEv as e).bind fun xs e1 => match gSl as e1 xs with
  | some ss => (match VF ss with
    | .ok r outs => .ok r (gPut as outs e1)
    | .exc k outs => .exc k (gPut as outs e1)
    | .bad => .bad)
  | none => .bad
def vCallV (VF : List Sl → FR) (as : List Arg) : VE := fun e => (vCall VF as e).bind fun r e1 => match r with
  | .va x => .ok x e1
  | _ => .bad
/-- arguments and what they stand for -/
inductive AR (S2 : Sto) (e2 : Env) (fts : List FT) : List Arg → List D → List Sl → List FT → Prop
  | nil : AR S2 e2 fts [] [] [] []
  | v {V : VE} {x : D} {as : List Arg} {ds : List D} {ss : List Sl} {ts : List FT} : flat x → AR S2 e2 fts as ds ss ts → AR S2 e2 fts (.v V :: as) (x :: ds) (.va x :: ss) (.val :: ts)
  | p {i : Nat} {p : Path} {s : Sl} {gt : FT} {as : List Arg} {ds : List D} {ss : List Sl} {ts : List FT} : getP e2 i p = some s → s ≠ .no → ftP fts i p = some gt → Own S2 s gt → AR S2 e2 fts as ds ss ts → AR S2 e2 fts (.p i p :: as) (rootD s gt :: ds) (s :: ss) (gt :: ts)
def Gr (c : Bs) (l : DL.Loc) (fts : List FT) (as : List Arg) (xs ds : List D) : Prop := ∀ (e2 : Env) (S2 : Sto) (ss : List Sl), Ok c e2 l S2 fts → gSl as e2 xs = some ss → ∃ ts, AR S2 e2 fts as ds ss ts
def SG (io : Nat → Bool) (As : As) (as : List Arg) : Prop := ∀ (c : Bs) (env : Env) (l : DL.Loc) (S : Sto) (fts : List FT), c.ios = io → Ok c env l S fts → Sv c l S fts (gEv as env) (As l S) fun xs _ ds _ => Gr c l fts as xs ds
section
variable {io : Nat → Bool} {A : E} {V : VE} {r : As} {as : List Arg}
theorem sg_nil : SG io aNil [] := fun c env l S fts hi o => Sv.ret o fun e2 S2 ss _ h => by cases h; exact ⟨[], .nil⟩
theorem sg_v (ha : SC io A V) (hr : SG io r as) : SG io (aCons A r) (.v V :: as) := fun c env l S fts hi o => by
  unfold gEv aCons
  refine Sv.bind (ha.v hi o) fun x e1 d1 S1 o1 ⟨q1, f1⟩ => Sv.bind (hr c e1 l S1 fts hi o1) fun xs e2 ds S2 o2 r2 => ?_
  subst q1
  refine Sv.ret o2 fun e3 S3 ss o3 h => ?_
  unfold gSl at h
  cases h1 : gSl as e3 xs with
  | none => rw [h1] at h; cases h
  | some ss' =>
    rw [h1] at h; cases h
    obtain ⟨ts, ht⟩ := r2 e3 S3 ss' o3 h1
    exact ⟨_, .v f1 ht⟩
theorem hand_some {e : Env} {i : Nat} {p : Path} {s : Sl} (h : handP e i p = some s) : getP e i p = some s ∧ s ≠ .no ∧ (isVa s = true → p = []) := by
  unfold handP at h
  split at h
  · cases h
  · next d hd =>
    split at h
    · next hp => cases h; exact ⟨hd, (by intro z; cases z), fun _ => hp⟩
    · cases h
  · next s' h1 h2 h3 =>
    cases h
    refine ⟨h3, h1, fun z => ?_⟩
    cases s with
    | va d => exact absurd rfl (h2 d)
    | _ => cases z
  · cases h
theorem root_same {S S2 : Sto} {s s2 : Sl} {gt : FT} (h : Own S s gt) (h2 : Own S2 s2 gt) (hv : isVa s2 = false) : rootD s gt = rootD s2 gt := by
  rcases own_cases h2 with ⟨d, rfl, rfl, hd⟩ | ⟨xs, n, rfl, rfl, h1, _⟩ | ⟨xs, n, rfl, rfl, h1, _⟩ | ⟨_, _, _, rfl, rfl, _⟩ | ⟨_, _, _, _, _, rfl, rfl, _⟩
  · cases hv
  all_goals (rcases own_cases h with ⟨d, rfl, z, hd⟩ | ⟨xs, n, rfl, z, _⟩ | ⟨xs, n, rfl, z, _⟩ | ⟨_, _, _, rfl, z, _⟩ | ⟨_, _, _, _, _, rfl, z, _⟩ <;> cases z <;> rfl)
theorem sg_p {i : Nat} {p : Path} (ha : SP io A i p) (hr : SG io r as) : SG io (aCons A r) (.p i p :: as) := fun c env l S fts hi o => by
  unfold gEv aCons
  cases hh : handP env i p with
  | none => simp only [hh]; trivial
  | some s =>
    simp only [hh]
    obtain ⟨h1, h2, h3⟩ := hand_some hh
    obtain ⟨gt, g1, g2, g3⟩ := ha c env l S fts s hi o h1 h2
    rw [g3]
    show Sv c l S fts _ ((r l S).bind fun ds S2 => .ok (rootD s gt :: ds) S2) _
    refine Sv.bind (hr c env l S fts hi o) fun xs e2 ds S2 o2 r2 => ?_
    refine Sv.ret o2 fun e3 S3 ss o3 h => ?_
    unfold gSl at h
    cases k1 : handP e3 i p with
    | none => rw [k1] at h; cases h
    | some s3 =>
      cases k2 : gSl as e3 xs with
      | none => rw [k1, k2] at h; cases h
      | some ss' =>
        rw [k1, k2] at h; cases h
        obtain ⟨ts, ht⟩ := r2 e3 S3 ss' o3 k2
        obtain ⟨q1, q2, q3⟩ := hand_some k1
        obtain ⟨s', ft, gt3, m1, m1', m2, m3, m4, m5, _⟩ := o3.place q1 q2
        rw [g1] at m4
        cases m4
        have hroot : rootD s gt = rootD s3 gt := by
          cases hv : isVa s3 with
          | false => exact root_same g2 m5 hv
          | true =>
            have hp := q3 hv
            subst hp
            cases m1'
            obtain ⟨w1, _⟩ := o3.rv.sl i _ ft m1 m3 m2
            have hgt : gt = ft := by
              unfold ftP at g1
              rw [m3] at g1
              exact (Option.some.inj g1).symm
            subst hgt
            have h1' : env[i]? = some s := by
              unfold getP at h1
              split at h1
              · next u hu => rw [hu]; exact h1
              · cases h1
            obtain ⟨w2, _⟩ := o.rv.sl i s gt h1' m3 h2
            rw [w1] at w2
            exact (Option.some.inj (Option.some.inj w2)).symm
        exact ⟨gt :: ts, by rw [hroot]; exact AR.p q1 q2 g1 m5 ht⟩
theorem ftget_nd : ∀ (p : Path) {ft gt : FT}, ft.get p = some gt → (foot ft).Nodup → (foot gt).Nodup
  | [], ft, gt, h, nd => by cases h; exact nd
  | f :: p, ft, gt, h, nd => by
    cases ft with
    | node n ns ts =>
      unfold FT.get at h
      unfold foot at nd
      split at h
      · next u hu => exact ftget_nd p h (foots_nd (List.nodup_cons.mp nd).2 hu)
      · cases h
    | _ => cases h
theorem ftget_sub : ∀ (p : Path) {ft gt : FT}, ft.get p = some gt → ∀ n ∈ foot gt, n ∈ foot ft
  | [], ft, gt, h => by cases h; exact fun _ h => h
  | f :: p, ft, gt, h => by
    cases ft with
    | node m ns ts =>
      unfold FT.get at h
      split at h
      · next u hu =>
        intro n hn
        unfold foot
        exact List.mem_cons_of_mem _ (foots_at hu (ftget_sub p h n hn))
      · cases h
    | _ => cases h
theorem AR.get {S2 : Sto} {e2 : Env} {fts : List FT} {as : List Arg} {ds : List D} {ss : List Sl} {ts : List FT} (h : AR S2 e2 fts as ds ss ts) : ds.length = ss.length ∧ ts.length = ss.length ∧ as.length = ss.length ∧ ∀ (k : Nat) (s : Sl), ss[k]? = some s → s ≠ .no ∧ ∃ t, ts[k]? = some t ∧ ds[k]? = some (rootD s t) ∧ Own S2 s t ∧
    ((∃ V, as[k]? = some (.v V) ∧ t = .val) ∨ ∃ i p, as[k]? = some (.p i p) ∧ getP e2 i p = some s ∧ ftP fts i p = some t) := by
  induction h with
  | nil => exact ⟨rfl, rfl, rfl, fun k s h => by simp at h⟩
  | @«v» V x as ds ss ts hf _ ih =>
    obtain ⟨h1, h2, h3, h4⟩ := ih
    refine ⟨by simp [h1], by simp [h2], by simp [h3], fun k s hk => ?_⟩
    cases k with
    | zero => simp at hk; subst hk; exact ⟨(by intro z; cases z), .val, rfl, rfl, own_va.mpr hf, .inl ⟨V, rfl, rfl⟩⟩
    | succ k => simpa using h4 k s (by simpa using hk)
  | @p i p s' gt as ds ss ts q1 q2 q3 q4 _ ih =>
    obtain ⟨h1, h2, h3, h4⟩ := ih
    refine ⟨by simp [h1], by simp [h2], by simp [h3], fun k s hk => ?_⟩
    cases k with
    | zero => simp at hk; subst hk; exact ⟨q2, gt, rfl, rfl, q4, .inr ⟨i, p, rfl, q1, q3⟩⟩
    | succ k => simpa using h4 k s (by simpa using hk)
theorem argRoots_mem : ∀ {as : List Arg} {k i : Nat} {p : Path}, as[k]? = some (.p i p) → i ∈ argRoots as
  | [], k, i, p, h => by simp at h
  | .v _ :: as, 0, i, p, h => by simp at h
  | .v _ :: as, k + 1, i, p, h => by unfold argRoots; exact argRoots_mem (k := k) (by simpa using h)
  | .p j q :: as, 0, i, p, h => by simp at h; obtain ⟨rfl, rfl⟩ := h; unfold argRoots; simp
  | .p j q :: as, k + 1, i, p, h => by unfold argRoots; exact List.mem_cons_of_mem _ (argRoots_mem (k := k) (by simpa using h))
theorem argRoots_inj : ∀ {as : List Arg} {k j i : Nat} {p q : Path}, (argRoots as).Nodup → as[k]? = some (.p i p) → as[j]? = some (.p i q) → k = j
  | [], k, j, i, p, q, _, h, _ => by simp at h
  | .v _ :: as, 0, j, i, p, q, nd, h, _ => by simp at h
  | .v _ :: as, k + 1, 0, i, p, q, nd, _, h => by simp at h
  | .v _ :: as, k + 1, j + 1, i, p, q, nd, h1, h2 => by unfold argRoots at nd; rw [argRoots_inj (k := k) (j := j) nd (by simpa using h1) (by simpa using h2)]
  | .p a b :: as, 0, 0, i, p, q, nd, h1, h2 => rfl
  | .p a b :: as, 0, j + 1, i, p, q, nd, h1, h2 => by
    unfold argRoots at nd
    simp at h1
    obtain ⟨rfl, rfl⟩ := h1
    exact absurd (argRoots_mem (k := j) (by simpa using h2)) (List.nodup_cons.mp nd).1
  | .p a b :: as, k + 1, 0, i, p, q, nd, h1, h2 => by
    unfold argRoots at nd
    simp at h2
    obtain ⟨rfl, rfl⟩ := h2
    exact absurd (argRoots_mem (k := k) (by simpa using h1)) (List.nodup_cons.mp nd).1
  | .p a b :: as, k + 1, j + 1, i, p, q, nd, h1, h2 => by
    unfold argRoots at nd
    rw [argRoots_inj (k := k) (j := j) (List.nodup_cons.mp nd).2 (by simpa using h1) (by simpa using h2)]
theorem argIo_at : ∀ {as : List Arg} {m k i : Nat} {p : Path}, argIo io m as = true → as[k]? = some (.p i p) → io (m + k) = true
  | [], m, k, i, p, _, h => by simp at h
  | .v _ :: as, m, 0, i, p, _, h => by simp at h
  | .v _ :: as, m, k + 1, i, p, a, h => by
    unfold argIo at a
    have := argIo_at (m := m + 1) (k := k) a (by simpa using h)
    rwa [show m + 1 + k = m + (k + 1) by omega] at this
  | .p j q :: as, m, 0, i, p, a, h => by
    unfold argIo at a
    rw [Bool.and_eq_true] at a
    exact a.1
  | .p j q :: as, m, k + 1, i, p, a, h => by
    unfold argIo at a
    rw [Bool.and_eq_true] at a
    have := argIo_at (m := m + 1) (k := k) a.2 (by simpa using h)
    rwa [show m + 1 + k = m + (k + 1) by omega] at this
theorem putP_len {e : Env} {i : Nat} {p : Path} {s : Sl} : (putP e i p s).length = e.length := by
  unfold putP; split <;> simp
theorem gPut_len : ∀ {as : List Arg} {os : List Sl} {e : Env}, (gPut as os e).length = e.length
  | [], _, e => rfl
  | .v _ :: r, os, e => by unfold gPut; exact gPut_len
  | .p _ _ :: r, [], e => rfl
  | .p i p :: r, o :: os, e => by unfold gPut; simp only; rw [gPut_len]; exact putP_len
theorem putP_ne {e : Env} {i j : Nat} {p : Path} {s : Sl} (h : i ≠ j) : (putP e i p s)[j]? = e[j]? := by
  unfold putP; split
  · rw [List.getElem?_set_ne h]
  · rfl
theorem putP_eq {e : Env} {i : Nat} {p : Path} {s : Sl} : (putP e i p s)[i]? = (e[i]?).map fun u => u.put p s := by
  unfold putP
  cases h : e[i]? with
  | none => simp only; rw [h]; rfl
  | some u =>
    simp only
    rw [List.getElem?_set_self (List.getElem?_eq_some_iff.mp h).1]; rfl
theorem gPut_off : ∀ {as : List Arg} {os : List Sl} {e : Env} {i : Nat}, i ∉ argRoots as → (gPut as os e)[i]? = e[i]?
  | [], _, e, i, _ => rfl
  | .p _ _ :: r, [], e, i, _ => rfl
  | .v _ :: r, os, e, i, h => by unfold argRoots at h; unfold gPut; exact gPut_off h
  | .p j p :: r, o :: os, e, i, h => by
    unfold argRoots at h
    unfold gPut
    simp only
    rw [gPut_off fun z => h (List.mem_cons_of_mem _ z), putP_ne fun z => h (by rw [z]; simp)]
theorem gPut_on : ∀ {as : List Arg} {os : List Sl} {e : Env} {k i : Nat} {p : Path} {o : Sl}, (argRoots as).Nodup → as[k]? = some (.p i p) → os[k]? = some o → (gPut as os e)[i]? = (e[i]?).map fun u => u.put p o
  | [], _, e, k, i, p, o, _, h, _ => by simp at h
  | .p _ _ :: r, [], e, k, i, p, o, _, _, h => by simp at h
  | .v _ :: r, os, e, 0, i, p, o, nd, h1, h2 => by simp at h1
  | .v _ :: r, os, e, k + 1, i, p, o, nd, h1, h2 => by
    unfold argRoots at nd; unfold gPut; exact gPut_on (k := k) nd (by simpa using h1) (by rw [List.getElem?_tail]; exact h2)
  | .p j q :: r, o' :: os, e, 0, i, p, o, nd, h1, h2 => by
    unfold argRoots at nd
    simp at h1 h2
    obtain ⟨rfl, rfl⟩ := h1
    subst h2
    unfold gPut
    simp only
    rw [gPut_off (List.nodup_cons.mp nd).1, putP_eq]
  | .p j q :: r, o' :: os, e, k + 1, i, p, o, nd, h1, h2 => by
    unfold argRoots at nd
    unfold gPut
    simp only
    have hm := argRoots_mem (as := r) (k := k) (i := i) (p := p) (by simpa using h1)
    rw [gPut_on (k := k) (List.nodup_cons.mp nd).2 (by simpa using h1) (by simpa using h2), putP_ne fun z => (List.nodup_cons.mp nd).1 (by rw [z]; exact hm)]
/-- the caller, behind a call -/
theorem call_back {c : Bs} {e2 : Env} {l : DL.Loc} {S2 S3 : Sto} {fts : List FT} {fio : Nat → Bool} {ds : List D} {ss outs : List Sl} {ts : List FT} (o : Ok c e2 l S2 fts) (h : AR S2 e2 fts as ds ss ts) (nd : (argRoots as).Nodup) (hio : argIo fio 0 as = true)
    (p : Post fio S2 S3 ds ss outs ts) : Ok c (gPut as outs e2) l S3 fts := by
  obtain ⟨a1, a2, a3, a4⟩ := h.get
  have hout : ∀ k s, ss[k]? = some s → ∃ u, outs[k]? = some u := fun k s hk => ⟨_, List.getElem?_eq_getElem (by rw [p.ln]; exact (List.getElem?_eq_some_iff.mp hk).1)⟩
  -- a cell of a name that is not handed over stays
  have keep : ∀ (i : Nat) (ft : FT) (n : Nat), fts[i]? = some ft → n ∈ foot ft → (∀ k q s t, as[k]? = some (Arg.p i q) → ss[k]? = some s → ts[k]? = some t → n ∉ foot t) → S3[n]? = S2[n]? := fun i ft n hf hn hno => by
    refine p.fr n (o.rv.lt hf hn) fun k t hk ht hnt => ?_
    have hks : k < ss.length := by rw [← a2]; exact (List.getElem?_eq_some_iff.mp ht).1
    obtain ⟨_, t', q1, q2, q3, q4⟩ := a4 k _ (List.getElem?_eq_getElem hks)
    rw [ht] at q1
    cases q1
    rcases q4 with ⟨V, w1, rfl⟩ | ⟨j, q, w1, w2, w3⟩
    · unfold foot at hnt; simp at hnt
    · unfold ftP at w3
      split at w3
      · next fj hj =>
        have hij : i = j := o.rv.nd i j ft fj n hf hj hn (ftget_sub q w3 n hnt)
        subst hij
        exact hno k q _ t w1 (List.getElem?_eq_getElem hks) ht hnt
      · cases w3
  have atv : ∀ (i : Nat) (s' : Sl) (ft : FT), (gPut as outs e2)[i]? = some s' → fts[i]? = some ft → (s' ≠ .no → l[i]? = some (some (rootD s' ft)) ∧ Own S3 s' ft) ∧ (s' = .no → ft = .val) := fun i s' ft hs hf => by
    by_cases hr : i ∈ argRoots as
    · -- handed over
      obtain ⟨k, q, hk⟩ : ∃ k q, as[k]? = some (Arg.p i q) := by
        have : ∀ as : List Arg, i ∈ argRoots as → ∃ (k : Nat) (q : Path), as[k]? = some (Arg.p i q) := by
          intro as
          induction as with
          | nil => intro h; cases h
          | cons a as ih =>
            intro h
            cases a with
            | v V => unfold argRoots at h; obtain ⟨k, q, hk⟩ := ih h; exact ⟨k + 1, q, by simpa using hk⟩
            | p j q =>
              unfold argRoots at h
              rcases List.mem_cons.mp h with rfl | h
              · exact ⟨0, q, rfl⟩
              · obtain ⟨k, q, hk⟩ := ih h; exact ⟨k + 1, q, by simpa using hk⟩
        exact this as hr
      have hks : k < ss.length := by rw [← a3]; exact (List.getElem?_eq_some_iff.mp hk).1
      obtain ⟨_, t, q1, q2, q3, q4⟩ := a4 k _ (List.getElem?_eq_getElem hks)
      rcases q4 with ⟨V, w1, _⟩ | ⟨j, q', w1, w2, w3⟩
      · rw [hk] at w1; cases w1
      · rw [hk] at w1
        cases w1
        obtain ⟨u, hu⟩ := hout k _ (List.getElem?_eq_getElem hks)
        rw [gPut_on nd hk hu] at hs
        have hiot : fio k = true := by have := argIo_at (m := 0) hio hk; simpa using this
        obtain ⟨b1, b2⟩ := p.out k u t hiot hu q1
        obtain ⟨s0, ft', gt, m1, m1', m2, m3, m4, m5, m6, _⟩ := o.place w2 (fun z => by rw [z] at q3; exact own_no q3)
        rw [hf] at m3
        cases m3
        rw [w3] at m4
        cases m4
        rw [m1] at hs
        cases hs
        obtain ⟨r1, r2⟩ := o.rv.sl i s0 ft m1 hf m2
        obtain ⟨gt', z1, z2, z3, z4⟩ := own_focus q r2 m1'
        have : gt' = t := by
          unfold ftP at w3
          rw [hf] at w3
          have w3 : FT.get q ft = some t := w3
          rw [w3] at z1
          exact (Option.some.inj z1).symm
        subst this
        have hroot : rootD u gt' = rootD (ss[k]) gt' := by
          rw [q2] at b2
          exact (Option.some.inj b2).symm
        obtain ⟨y1, y2⟩ := z4 (o.rv.nd1 i ft hf) S3 u b1 hroot fun n hn hn' => keep i ft n hf hn fun k' q' s' t' e1 e2' e3 => by
          have : k' = k := argRoots_inj nd e1 hk
          subst this
          rw [q1] at e3
          cases e3
          exact hn'
        exact ⟨fun _ => ⟨by rw [y2]; exact r1, y1⟩, fun z => by have z : s0.put q u = .no := z; rw [z] at y1; exact absurd y1 own_no⟩
    · rw [gPut_off hr] at hs
      refine ⟨fun hno => ?_, fun z => by rw [z] at hs; exact o.rv.no i ft hs hf⟩
      obtain ⟨r1, r2⟩ := o.rv.sl i s' ft hs hf hno
      exact ⟨r1, Own.keep ft s' (fun n hn => keep i ft n hf hn fun k q s t e1 _ _ => absurd (argRoots_mem e1) hr) r2⟩
  refine ⟨⟨by rw [gPut_len]; exact o.rv.l1, by rw [gPut_len]; exact o.rv.l2, fun i s t e1 e2' e3 => (atv i s t e1 e2').1 e3, fun i t e1 e2' => (atv i _ t e1 e2').2 rfl, o.rv.nd, o.rv.nd1⟩, Nat.le_trans o.le p.le, o.io, o.lo, o.ln, o.hi, fun n hn hf => ?_⟩
  refine (p.fr n (Nat.lt_of_lt_of_le hn o.le) fun k t hk ht hnt => ?_).trans (o.fr n hn hf)
  have hks : k < ss.length := by rw [← a2]; exact (List.getElem?_eq_some_iff.mp ht).1
  obtain ⟨_, t', q1, q2, q3, q4⟩ := a4 k _ (List.getElem?_eq_getElem hks)
  rw [ht] at q1
  cases q1
  rcases q4 with ⟨V, w1, rfl⟩ | ⟨j, q, w1, w2, w3⟩
  · unfold foot at hnt; simp at hnt
  · unfold ftP at w3
    split at w3
    · next fj hj =>
      have hnf := ftget_sub q w3 n hnt
      cases hi : c.ios j with
      | true => exact hf j fj hi (by rw [← (o.io j hi).2]; exact hj) hnf
      | false => exact absurd hn (Nat.not_lt.mpr (o.lo j fj n hi hj hnf))
    · cases w3
theorem call_fm {c : Bs} {e2 : Env} {l : DL.Loc} {S2 S3 : Sto} {fts : List FT} {fio : Nat → Bool} {ds : List D} {ss outs : List Sl} {ts : List FT} (h : AR S2 e2 fts as ds ss ts) (p : Post fio S2 S3 ds ss outs ts) : Fm fts S2 S3 := by
  obtain ⟨a1, a2, a3, a4⟩ := h.get
  refine ⟨p.le, fun n hn hf => p.fr n hn fun k t hk ht hnt => ?_⟩
  have hks : k < ss.length := by rw [← a2]; exact (List.getElem?_eq_some_iff.mp ht).1
  obtain ⟨_, t', q1, q2, q3, q4⟩ := a4 k _ (List.getElem?_eq_getElem hks)
  rw [ht] at q1
  cases q1
  rcases q4 with ⟨V, w1, rfl⟩ | ⟨j, q, w1, w2, w3⟩
  · unfold foot at hnt; simp at hnt
  · unfold ftP at w3
    split at w3
    · next fj hj => exact hf j fj hj (ftget_sub q w3 n hnt)
    · cases w3
/-- the callee's parameters -/
theorem call_in {c : Bs} {e2 : Env} {l : DL.Loc} {S2 : Sto} {fts : List FT} {fio : Nat → Bool} {ds : List D} {ss : List Sl} {ts : List FT} (o : Ok c e2 l S2 fts) (h : AR S2 e2 fts as ds ss ts) (nd : (argRoots as).Nodup) (hio : argIo fio 0 as = true) :
    RV ss (ds.map some) S2 ts ∧ (∀ s ∈ ss, s ≠ .no) ∧ ∀ (i : Nat) (t : FT), fio i = false → ts[i]? = some t → t = .val := by
  obtain ⟨a1, a2, a3, a4⟩ := h.get
  have tk : ∀ (k : Nat) (t : FT), ts[k]? = some t → ∃ s, ss[k]? = some s ∧ ((∃ V, as[k]? = some (Arg.v V) ∧ t = .val) ∨ ∃ i p, as[k]? = some (Arg.p i p) ∧ ftP fts i p = some t) := fun k t ht => by
    have hks : k < ss.length := by rw [← a2]; exact (List.getElem?_eq_some_iff.mp ht).1
    obtain ⟨_, t', q1, q2, q3, q4⟩ := a4 k _ (List.getElem?_eq_getElem hks)
    rw [ht] at q1
    cases q1
    refine ⟨_, List.getElem?_eq_getElem hks, ?_⟩
    rcases q4 with w | ⟨i, p, w1, _, w3⟩
    · exact .inl w
    · exact .inr ⟨i, p, w1, w3⟩
  refine ⟨⟨by simp [a1], a2, fun k s t e1 e2' e3 => ?_, fun k t e1 _ => absurd rfl (a4 k _ e1).1, fun k j t u n e1 e2' n1 n2 => ?_, fun k t e1 => ?_⟩, fun s hs => ?_, fun k t hk ht => ?_⟩
  · obtain ⟨_, t', q1, q2, q3, _⟩ := a4 k s e1
    rw [e2'] at q1
    cases q1
    exact ⟨by rw [List.getElem?_map, q2]; rfl, q3⟩
  · obtain ⟨s, _, w⟩ := tk k t e1
    obtain ⟨s', _, w'⟩ := tk j u e2'
    rcases w with ⟨V, w1, rfl⟩ | ⟨i, p, w1, w3⟩
    · unfold foot at n1; simp at n1
    · rcases w' with ⟨V, x1, rfl⟩ | ⟨i', p', x1, x3⟩
      · unfold foot at n2; simp at n2
      · unfold ftP at w3 x3
        split at w3
        · next fi hfi =>
          split at x3
          · next fi' hfi' =>
            have := o.rv.nd i i' fi fi' n hfi hfi' (ftget_sub p w3 n n1) (ftget_sub p' x3 n n2)
            subst this
            exact argRoots_inj nd w1 x1
          · cases x3
        · cases w3
  · obtain ⟨s, _, w⟩ := tk k t e1
    rcases w with ⟨V, w1, rfl⟩ | ⟨i, p, w1, w3⟩
    · unfold foot; exact List.nodup_nil
    · unfold ftP at w3
      split at w3
      · next fi hfi => exact ftget_nd p w3 (o.rv.nd1 i fi hfi)
      · cases w3
  · obtain ⟨k, hk⟩ := List.mem_iff_getElem?.mp hs
    exact (a4 k s hk).1
  · obtain ⟨s, _, w⟩ := tk k t ht
    rcases w with ⟨V, w1, rfl⟩ | ⟨i, p, w1, w3⟩
    · rfl
    · have := argIo_at (m := 0) hio w1
      simp at this
      rw [this] at hk; cases hk
/-- fresh live things -/
def SM (io : Nat → Bool) (A : E) (V : Env → VR Sl) : Prop := ∀ (c : Bs) (env : Env) (l : DL.Loc) (S : Sto) (fts : List FT), c.ios = io → Ok c env l S fts → Sv c l S fts (V env) (A l S) fun r _ d S' => ∃ ft, Own S' r ft ∧ d = rootD r ft ∧ (foot ft).Nodup ∧ ∀ n ∈ foot ft, c.S0.length ≤ n ∧ ∀ (i : Nat) (t : FT), fts[i]? = some t → n ∉ foot t
theorem sm_call {fio : Nat → Bool} {F : List D → Sto → Res D} {VF : List Sl → FR} (hF : SF fio F VF) (hr : SG io r as) (nd : (argRoots as).Nodup := by decide) (hio : argIo fio 0 as = true := by rfl) : SM io (eApp F r) (vCall VF as) := fun c env l S fts hi o => by
  unfold vCall eApp
  refine Sv.bind (hr c env l S fts hi o) fun xs e1 ds S1 o1 g1 => ?_
  cases hs : gSl as e1 xs with
  | none => trivial
  | some ss =>
    obtain ⟨ts, ar⟩ := g1 e1 S1 ss o1 hs
    obtain ⟨c1, c2, c3⟩ := call_in o1 ar nd hio
    have q := hF S1 ds ss ts c1 c2 c3
    simp only
    cases hv : VF ss with
    | bad => trivial
    | exc k outs =>
      rw [hv] at q
      obtain ⟨S2, q1, q2⟩ := q
      exact ⟨S2, q1, call_back o1 ar nd hio q2, call_fm (c := c) (l := l) ar q2⟩
    | ok rr outs =>
      rw [hv] at q
      obtain ⟨d, S2, ft, q1, q2, q3, q4, q5, q6⟩ := q
      refine ⟨d, S2, q1, call_back o1 ar nd hio q2, call_fm (c := c) (l := l) ar q2, ft, q3, q4, q5, fun n hn => ?_⟩
      have := q6 n hn
      exact ⟨Nat.le_trans o1.le this, fun i t ht hnt => absurd (o1.rv.lt ht hnt) (Nat.not_lt.mpr this)⟩
end
end VL

/-! VL7: calls as values, methods; statements. -/
namespace VL
open PySem PySem.Spec PyProof.Rows L2 DL
section
variable {io : Nat → Bool} {A : E} {V : VE} {r : As} {as : List Arg}
def vVa (M : Env → VR Sl) : VE := fun e => (M e).bind fun r e1 => match r with
  | .va x => .ok x e1
  | _ => .bad
theorem sc_sm {M : Env → VR Sl} (h : SM io A M) : SC io A (vVa M) := SC.of fun c env l S fts hi o => by
  have q := h c env l S fts hi o
  unfold vVa
  cases e : M env with
  | bad => trivial
  | exc k e' => rw [e] at q; exact q
  | ok s e' =>
    rw [e] at q
    obtain ⟨d, S', h1, h2, h2', ft, h3, rfl, _, _⟩ := q
    cases s with
    | va x =>
      rcases own_cases h3 with ⟨d', z, rfl, hd⟩ | ⟨_, _, z, _⟩ | ⟨_, _, z, _⟩ | ⟨_, _, _, z, _⟩ | ⟨_, _, _, _, _, z, _⟩
      · cases z; exact ⟨x, S', h1, h2, h2', rfl, hd⟩
      all_goals cases z
    | _ => trivial
def vMeth (c : Nat) (m : Str) (VF : List Sl → FR) (i : Nat) (p : Path) (as : List Arg) : Env → VR Sl := fun e => match getP e i p with
  | some (.ins c' ns _) => if c' = c ∧ m ∉ ns then vCall VF (.p i p :: as) e else .bad
  | _ => .bad
theorem lookup_none : ∀ {ns : List Str} {ds : List D} {m : Str}, m ∉ ns → (ns.zip ds).lookup m = none
  | [], ds, m, h => by simp
  | n :: ns, [], m, h => by simp
  | n :: ns, d :: ds, m, h => by
    show List.lookup m ((n, d) :: ns.zip ds) = none
    rw [List.lookup_cons]
    have : (m == n) = false := by
      rw [beq_eq_false_iff_ne]; exact fun z => h (by rw [z]; simp)
    rw [this]
    exact lookup_none fun z => h (List.mem_cons_of_mem _ z)
theorem sm_meth {fio : Nat → Bool} {c : Nat} {m : Str} {F : List D → Sto → Res D} {VF : List Sl → FR} {i : Nat} {p : Path} (hF : SF fio F VF) (ha : SP io A i p) (hr : SG io r as) (nd : (argRoots (.p i p :: as)).Nodup := by decide) (hio : argIo fio 0 (.p i p :: as) = true := by rfl) :
    SM io (eMeth c m F A r) (vMeth c m VF i p as) := fun c0 env l S fts hi o => by
  unfold vMeth
  cases h : getP env i p with
  | none => trivial
  | some s =>
    cases s with
    | ins c' ns ss =>
      simp only
      by_cases hc : c' = c ∧ m ∉ ns
      · rw [if_pos hc]
        obtain ⟨rfl, hm⟩ := hc
        obtain ⟨gt, g1, g2, g3⟩ := ha c0 env l S fts _ hi o h (by intro z; cases z)
        obtain ⟨n, ts, rfl, _, _, _, _, _, hins⟩ := own_insOf g2
        have e : eMeth c' m F A r l S = eApp F (aCons A r) l S := by
          unfold eMeth eApp aCons
          rw [g3]
          simp only [bind_ok]
          rw [hins]
          simp only
          rw [lookup_none hm]
          simp only
          cases r l S <;> rfl
        rw [e]
        exact sm_call hF (sg_p ha hr) nd hio c0 env l S fts hi o
      · rw [if_neg hc]; trivial
    | _ => trivial
/-! ### methods of live lists -/
def LM (g : D → List D → Sto → Res D) (m : List D → List D → Option (D × List D)) : Prop := ∀ (S : Sto) (n : Nat) (xs ds : List D) (r : D) (xs' : List D), S[n]? = some (.lst xs) → flats xs → flats ds → m xs ds = some (r, xs') → flat r ∧ flats xs' ∧ g (.ref n) ds S = .ok r (S.set n (.lst xs'))
def vMtL (m : List D → List D → Option (D × List D)) (i : Nat) (p : Path) (vr : VAs) : VE := fun e => match getP e i p with
  | some (.lv _) => (vr e).bind fun ds e1 => (match getP e1 i p with
    | some (.lv xs) => (match m xs ds with
      | some (r, xs') => .ok r (putP e1 i p (.lv xs'))
      | none => .bad)
    | _ => .bad)
  | _ => .bad
theorem own_lvOf {S : Sto} {xs : List D} {gt : FT} (h : Own S (.lv xs) gt) : ∃ n, gt = .cell n ∧ S[n]? = some (.lst xs) ∧ flats xs := by
  rcases own_cases h with ⟨d, z, _⟩ | ⟨_, n, z, rfl, h1, h2⟩ | ⟨_, _, z, _⟩ | ⟨_, _, _, z, _⟩ | ⟨_, _, _, _, _, z, _⟩
  · cases z
  · cases z; exact ⟨n, rfl, h1, h2⟩
  all_goals cases z
theorem own_diOf {S : Sto} {xs : List D} {gt : FT} (h : Own S (.di xs) gt) : ∃ n, gt = .cell n ∧ S[n]? = some (.dic false xs) ∧ flats xs := by
  rcases own_cases h with ⟨d, z, _⟩ | ⟨_, _, z, _⟩ | ⟨_, n, z, rfl, h1, h2⟩ | ⟨_, _, _, z, _⟩ | ⟨_, _, _, _, _, z, _⟩
  · cases z
  · cases z
  · cases z; exact ⟨n, rfl, h1, h2⟩
  all_goals cases z
theorem set_other {S : Sto} {n m : Nat} {c : Cell} (h : m ≠ n) : (S.set n c)[m]? = S[m]? := List.getElem?_set_ne fun z => h z.symm
/-- a live list, changed -/
theorem Ok.putL {c : Bs} {env : Env} {l : DL.Loc} {S : Sto} {fts : List FT} (o : Ok c env l S fts) {i : Nat} {p : Path} {xs : List D} (h : getP env i p = some (.lv xs)) {n : Nat} (hn : ftP fts i p = some (.cell n)) {ys : List D} (hy : flats ys) : Ok c (putP env i p (.lv ys)) l (S.set n (.lst ys)) fts := by
  obtain ⟨s, ft, gt, _, _, _, _, e4, e5, _, e7⟩ := o.place h (by intro z; cases z)
  rw [hn] at e4
  cases e4
  obtain ⟨m, z, h1, _⟩ := own_lvOf e5
  cases z
  have hlt := (List.getElem?_eq_some_iff.mp h1).1
  exact e7 _ (.lv ys) (own_lv.mpr ⟨List.getElem?_set_self hlt, hy⟩) rfl (by simp) fun k hk hk' => set_other fun z => hk' (by unfold foot; simp [z])
theorem sc_mtL {g : D → List D → Sto → Res D} {m : List D → List D → Option (D × List D)} {i : Nat} {p : Path} {vr : VAs} (hg : LM g m) (ha : SP io A i p) (hr : SL io r vr) : SC io (eMt "list" g A r) (vMtL m i p vr) := SC.of fun c env l S fts hi o => by
  unfold vMtL
  cases h : getP env i p with
  | none => trivial
  | some s =>
    cases s with
    | lv xs0 =>
      obtain ⟨gt, g1, g2, g3⟩ := ha c env l S fts _ hi o h (by intro z; cases z)
      obtain ⟨n, rfl, k1, k2⟩ := own_lvOf g2
      have hty : tyD S (.ref n) = some "list" := by rw [ty_ref, k1]
      have e : eMt "list" g A r l S = (r l S).bind fun ds S2 => g (.ref n) ds S2 := by
        unfold eMt
        rw [g3]
        show (if tyD S (.ref n) = some "list" then (r l S).bind fun ds S2 => g (.ref n) ds S2 else .bad) = _
        rw [if_pos hty]
      rw [e]
      refine Sv.bind (hr c env l S fts hi o) fun ds e1 ds' S1 o1 ⟨q1, f1⟩ => ?_
      subst q1
      cases h2 : getP e1 i p with
      | none => trivial
      | some s1 =>
        cases s1 with
        | lv xs =>
          simp only
          obtain ⟨_, _, gt2, _, _, _, _, m4, m5, _⟩ := o1.place h2 (by intro z; cases z)
          rw [g1] at m4
          cases m4
          obtain ⟨n', z, k3, k4⟩ := own_lvOf m5
          cases z
          cases hm : m xs ds' with
          | none => trivial
          | some rx =>
            obtain ⟨rr, xs'⟩ := rx
            obtain ⟨w1, w2, w3⟩ := hg S1 n xs ds' rr xs' k3 k4 f1 hm
            refine ⟨rr, _, w3, o1.putL h2 g1 w2, ⟨by simp, fun k hk hk' => set_other fun z => ?_⟩, rfl, w1⟩
            unfold ftP at g1
            split at g1
            · next fi hfi => exact hk' i fi hfi (ftget_sub p g1 k (by rw [z]; unfold foot; simp))
            · cases g1
        | _ => trivial
    | _ => trivial
def appendL (xs ds : List D) : Option (D × List D) := match ds with
  | [y] => if xs.length < sizeLine then some (.non, xs ++ [y]) else none
  | _ => none
theorem lm_append : LM appendD appendL := fun S n xs ds r xs' h1 h2 h3 h => by
  unfold appendL at h
  split at h
  · next y =>
    split at h
    · next hz =>
      cases h
      refine ⟨flat_non, flats_app.mpr ⟨h2, h3⟩, ?_⟩
      unfold appendD
      simp only
      rw [cellL_ref h1]
      simp only
      rw [if_pos hz]
    · cases h
  · cases h
def popL (xs ds : List D) : Option (D × List D) := match ds with
  | [] => (match xs[xs.length - 1]? with | some y => some (y, xs.dropLast) | none => none)
  | _ => none
theorem lm_pop : LM popD popL := fun S n xs ds r xs' h1 h2 h3 h => by
  unfold popL at h
  split at h
  · split at h
    · next y hy =>
      cases h
      refine ⟨flats_iff.mp h2 _ (List.mem_of_getElem? hy), flats_iff.mpr fun x hx => flats_iff.mp h2 x (List.dropLast_subset _ hx), ?_⟩
      unfold popD
      simp only
      rw [cellL_ref h1]
      simp only
      rw [hy]
    · cases h
  · cases h
def popAtL (xs ds : List D) : Option (D × List D) := match ds with
  | [.int i] => if -(2 ^ 63) ≤ i ∧ i < 2 ^ 63 then (match seqIndex? i xs.length with | some k => (match xs[k]? with | some y => some (y, xs.eraseIdx k) | none => none) | none => none) else none
  | _ => none
theorem lm_popAt : LM popAtD popAtL := fun S n xs ds r xs' h1 h2 h3 h => by
  unfold popAtL at h
  split at h
  · next i =>
    split at h
    · next hz =>
      split at h
      · next k hk =>
        split at h
        · next y hy =>
          cases h
          refine ⟨flats_iff.mp h2 _ (List.mem_of_getElem? hy), flats_iff.mpr fun x hx => flats_iff.mp h2 x (List.mem_of_mem_eraseIdx hx), ?_⟩
          unfold popAtD
          simp only
          rw [cellL_ref h1]
          simp only
          rw [if_pos hz, hk]
          simp only
          rw [hy]
        · cases h
      · cases h
    · cases h
  · cases h
def insertL (xs ds : List D) : Option (D × List D) := match ds with
  | [.int i, y] => if xs.length < sizeLine ∧ 0 ≤ i ∧ i < 2 ^ 63 then some (.non, xs.take i.toNat ++ [y] ++ xs.drop i.toNat) else none
  | _ => none
theorem lm_insert : LM insertD insertL := fun S n xs ds r xs' h1 h2 h3 h => by
  unfold insertL at h
  split at h
  · next i y =>
    split at h
    · next hz =>
      cases h
      refine ⟨flat_non, flats_app.mpr ⟨flats_app.mpr ⟨flats_iff.mpr fun x hx => flats_iff.mp h2 x (List.mem_of_mem_take hx), ?_⟩, flats_iff.mpr fun x hx => flats_iff.mp h2 x (List.mem_of_mem_drop hx)⟩, ?_⟩
      · exact (flats_cons.mp h3).2
      · unfold insertD
        simp only
        rw [cellL_ref h1]
        simp only
        rw [if_pos hz]
    · cases h
  · cases h
/-! ### methods that only read -/
def PM (g : D → List D → Sto → Res D) : Prop := ∀ (S : Sto) (d x : D) (ds : List D), Dn S d x → flats ds → RQ (g x ds []) (g d ds S) S
def vMtP (T : String) (g : D → List D → Sto → Res D) (a : Opd) (vr : VAs) : VE := fun e => (a.ev e).bind fun x e1 => match a.rd e1 x with
  | some x0 => if tyD [] x0 = some T then (vr e1).bind fun ds e2 => (match a.rd e2 x with
    | some y => toV (g y ds []) e2
    | none => .bad) else .bad
  | none => .bad
theorem sc_mtP {T : String} {g : D → List D → Sto → Res D} {a : Opd} {vr : VAs} (hg : PM g) (ha : SO io A a) (hr : SL io r vr) : SC io (eMt T g A r) (vMtP T g a vr) := SC.of fun c env l S fts hi o => by
  unfold vMtP eMt
  refine Sv.bind (ha.v hi o) fun x e1 d1 S1 o1 r1 => ?_
  cases h1 : a.rd e1 x with
  | none => trivial
  | some x0 =>
    have hd := r1 e1 S1 x0 o1 h1
    simp only
    rw [dn_ty hd]
    by_cases hz : tyD [] x0 = some T
    · rw [if_pos hz, if_pos hz]
      refine Sv.bind (hr c e1 l S1 fts hi o1) fun ds e2 ds' S2 o2 ⟨q2, f2⟩ => ?_
      subst q2
      cases h2 : a.rd e2 x with
      | none => trivial
      | some y => exact Sv.of_RQ o2 (hg S2 d1 y ds' (r1 e2 S2 y o2 h2) f2)
    · rw [if_neg hz]; trivial
theorem pm_index : PM indexD := fun S d x ds h hf => by
  unfold indexD
  split
  · next y =>
    rw [dn_list h]
    cases DL.listOf [] x with
    | none => trivial
    | some xs => exact RQ.ite fun h => ⟨flat_int _, if_pos h⟩
  · trivial
end

/-! ### statements -/
inductive VO where
  | next (e : Env) | ret (r : Sl) (e : Env) | retf (x : D) (e : Env) | brk (e : Env) | cont (e : Env) | exc (k : Nat) (e : Env) | bad
abbrev VS := Env → VO
def VR.toO {α : Type} (r : VR α) (k : α → Env → VO) : VO := match r with
  | .ok a e => k a e
  | .exc x e => .exc x e
  | .bad => .bad
def So (c : Bs) (r : VO) (f : Out) : Prop := match r with
  | .next e => ∃ l S fts, f = .next l S ∧ Ok c e l S fts
  | .brk e => ∃ l S fts, f = .brk l S ∧ Ok c e l S fts
  | .cont e => ∃ l S fts, f = .cont l S ∧ Ok c e l S fts
  | .exc k e => ∃ l S fts, f = .exc k l S ∧ Ok c e l S fts
  | .ret r e => ∃ d l S fts ft, f = .ret d S ∧ Ok c e l S fts ∧ Own S r ft ∧ d = rootD r ft ∧ (foot ft).Nodup ∧ ∀ n ∈ foot ft, c.S0.length ≤ n
  | .retf x e => ∃ d l S fts, f = .ret d S ∧ Ok c e l S fts ∧ flat x ∧ fzD 4 c.S0.length S d = some x
  | .bad => True
def SS (io : Nat → Bool) (A : Stm) (V : VS) : Prop := ∀ (c : Bs) (env : Env) (l : DL.Loc) (S : Sto) (fts : List FT), c.ios = io → Ok c env l S fts → So c (V env) (A l S)
def vsNil : VS := fun e => .next e
def vsSeq (a b : VS) : VS := fun e => match a e with
  | .next e1 => b e1
  | o => o
def vsBrk : VS := fun e => .brk e
def vsCont : VS := fun e => .cont e
def vsExpr (A : VE) : VS := fun e => (A e).toO fun _ e1 => .next e1
def vsExprM (A : Env → VR Sl) : VS := fun e => (A e).toO fun _ e1 => .next e1
def vsRet (A : VE) : VS := fun e => (A e).toO fun d e1 => .ret (.va d) e1
def vsRetN : VS := fun e => .ret (.va .non) e
def vsRetM (A : Env → VR Sl) : VS := fun e => (A e).toO fun r e1 => .ret r e1
/-- a name's live thing given back -/
def vsRetI (i : Nat) : VS := fun e => match e[i]? with
  | some .no => .bad
  | some s => .ret s e
  | none => .bad
def vsIf (t : Env → VR Bool) (a b : VS) : VS := fun e => (t e).toO fun k e1 => if k = true then a e1 else b e1
def vsSet (i : Nat) (A : VE) : VS := fun e => (A e).toO fun d e1 => .next (e1.set i (.va d))
def vsSetM (i : Nat) (A : Env → VR Sl) : VS := fun e => (A e).toO fun s e1 => .next (e1.set i s)
section
variable {io : Nat → Bool} {A B : E} {a b : Stm} {va vb : VS} {V : VE} {t : T} {vt : Env → VR Bool}
theorem So.of {α β : Type} {c : Bs} {l : DL.Loc} {S : Sto} {fts : List FT} {r : VR α} {f : Res β} {P : α → Env → β → Sto → Prop} {k : α → Env → VO} {g : β → Sto → Out} (h : Sv c l S fts r f P) (hk : ∀ x e d S', Ok c e l S' fts → P x e d S' → So c (k x e) (g d S')) : So c (r.toO k) (f.toS l g) := by
  cases r with
  | ok x e =>
    obtain ⟨d, S', rfl, o, _, p⟩ := h
    exact hk x e d S' o p
  | exc x e =>
    obtain ⟨S', rfl, o, _⟩ := h
    exact ⟨l, S', fts, rfl, o⟩
  | bad => trivial
theorem ss_nil : SS io sNil vsNil := fun c env l S fts hi o => ⟨l, S, fts, rfl, o⟩
theorem ss_brk : SS io sBrk vsBrk := fun c env l S fts hi o => ⟨l, S, fts, rfl, o⟩
theorem ss_cont : SS io sCont vsCont := fun c env l S fts hi o => ⟨l, S, fts, rfl, o⟩
theorem ss_seq (ha : SS io a va) (hb : SS io b vb) : SS io (sSeq a b) (vsSeq va vb) := fun c env l S fts hi o => by
  have q := ha c env l S fts hi o
  unfold vsSeq sSeq
  cases e : va env with
  | next e1 =>
    rw [e] at q
    obtain ⟨l1, S1, fts1, h1, o1⟩ := q
    rw [h1]
    exact hb c e1 l1 S1 fts1 hi o1
  | ret r e1 => rw [e] at q; obtain ⟨d, l1, S1, fts1, ft, h1, h2⟩ := q; rw [h1]; exact ⟨d, l1, S1, fts1, ft, rfl, h2⟩
  | retf r e1 => rw [e] at q; obtain ⟨d, l1, S1, fts1, h1, h2⟩ := q; rw [h1]; exact ⟨d, l1, S1, fts1, rfl, h2⟩
  | brk e1 => rw [e] at q; obtain ⟨l1, S1, fts1, h1, h2⟩ := q; rw [h1]; exact ⟨l1, S1, fts1, rfl, h2⟩
  | cont e1 => rw [e] at q; obtain ⟨l1, S1, fts1, h1, h2⟩ := q; rw [h1]; exact ⟨l1, S1, fts1, rfl, h2⟩
  | exc k e1 => rw [e] at q; obtain ⟨l1, S1, fts1, h1, h2⟩ := q; rw [h1]; exact ⟨l1, S1, fts1, rfl, h2⟩
  | bad => trivial
theorem ss_expr (ha : SC io A V) : SS io (sExpr A) (vsExpr V) := fun c env l S fts hi o => So.of (ha.v hi o) fun x e d S' o' _ => ⟨l, S', fts, rfl, o'⟩
theorem ss_exprM {M : Env → VR Sl} (ha : SM io A M) : SS io (sExpr A) (vsExprM M) := fun c env l S fts hi o => So.of (ha c env l S fts hi o) fun x e d S' o' _ => ⟨l, S', fts, rfl, o'⟩
theorem foot_val : foot .val = [] := by unfold foot; rfl
theorem ss_ret (ha : SC io A V) : SS io (sRet A) (vsRet V) := fun c env l S fts hi o => So.of (ha.v hi o) fun x e d S' o' ⟨q, f⟩ => by
  subst q
  exact ⟨d, l, S', fts, .val, rfl, o', own_va.mpr f, rfl, by rw [foot_val]; exact List.nodup_nil, fun n hn => by rw [foot_val] at hn; cases hn⟩
theorem ss_retn : SS io sRetN vsRetN := fun c env l S fts hi o => ⟨.non, l, S, fts, .val, rfl, o, own_va.mpr flat_non, rfl, by rw [foot_val]; exact List.nodup_nil, fun n hn => by rw [foot_val] at hn; cases hn⟩
theorem ss_retM {M : Env → VR Sl} (ha : SM io A M) : SS io (sRet A) (vsRetM M) := fun c env l S fts hi o => So.of (ha c env l S fts hi o) fun x e d S' o' ⟨ft, h1, h2, h3, h4⟩ => ⟨d, l, S', fts, ft, rfl, o', h1, h2, h3, fun n hn => (h4 n hn).1⟩
theorem ss_retI (i : Nat) (hio : io i = false := by rfl) : SS io (sRet (eVar i)) (vsRetI i) := fun c env l S fts hi o => by
  unfold vsRetI
  cases h : env[i]? with
  | none => trivial
  | some s =>
    by_cases hs : s = .no
    · subst hs; trivial
    · have e : (match (some s : Option Sl) with | some .no => VO.bad | some s => .ret s env | none => .bad) = .ret s env := by cases s <;> first | rfl | exact absurd rfl hs
      rw [e]
      obtain ⟨ft, hf⟩ := o.rv.at h
      obtain ⟨h1, h2⟩ := o.rv.sl i s ft h hf hs
      refine ⟨_, l, S, fts, ft, ?_, o, h2, rfl, o.rv.nd1 i ft hf, fun n hn => o.lo i ft n (by rw [hi]; exact hio) hf hn⟩
      unfold sRet
      rw [ap_var, h1]; rfl
theorem ss_if (ht : ST io t vt) (ha : SS io a va) (hb : SS io b vb) : SS io (sIf t a b) (vsIf vt va vb) := fun c env l S fts hi o => So.of (ht.v hi o) fun x e d S' o' q => by
  subst q
  cases d with
  | true => simp only [if_true]; exact ha c e l S' fts hi o'
  | false => simp only [Bool.false_eq_true, if_false]; exact hb c e l S' fts hi o'
theorem ss_set (i : Nat) (ha : SC io A V) (hio : io i = false := by rfl) : SS io (sSet i A) (vsSet i V) := fun c env l S fts hi o => So.of (ha.v hi o) fun x e d S' o' ⟨q, f⟩ => by
  subst q
  exact ⟨_, S', _, rfl, o'.setV (by rw [hi]; exact hio) f⟩
theorem ss_setM (i : Nat) {M : Env → VR Sl} (ha : SM io A M) (hio : io i = false := by rfl) : SS io (sSet i A) (vsSetM i M) := fun c env l S fts hi o => So.of (ha c env l S fts hi o) fun x e d S' o' ⟨ft, h1, h2, h3, h4⟩ => by
  subst h2
  exact ⟨_, S', _, rfl, o'.set (by rw [hi]; exact hio) h1 (fun j u n hu hn hn' => (h4 n hn').2 j u hu hn) h3 fun n hn => (h4 n hn).1⟩
end
end VL

/-! VL8: targets, loops. -/
namespace VL
open PySem PySem.Spec PyProof.Rows L2 DL
/-! ### targets -/
abbrev VG := D → Env → Option Env
def vgNm (i : Nat) : VG := fun d e => some (e.set i (.va d))
def vgNms : List Nat → List D → Env → Option Env
  | [], [], e => some e
  | i :: is, d :: ds, e => vgNms is ds (e.set i (.va d))
  | _, _, _ => none
def vgTp (is : List Nat) : VG := fun d e => match d with
  | .tup xs => vgNms is xs e
  | _ => none
/-- names that may be given values -/
def freeN (io : Nat → Bool) (is : List Nat) : Bool := is.all fun i => !io i
def SGt (io : Nat → Bool) (is : List Nat) (G : GD) (V : VG) : Prop := ∀ (c : Bs) (env : Env) (l : DL.Loc) (S : Sto) (fts : List FT) (d : D) (e : Env), c.ios = io → Ok c env l S fts → flat d → V d env = some e →
  ∃ l' fts', G d l S = some (l', S) ∧ Ok c e l' S fts' ∧ (∀ j, j ∉ is → l'[j]? = l[j]? ∧ fts'[j]? = fts[j]?) ∧ (∀ j ∈ is, fts'[j]? = some .val ∨ fts'[j]? = none) ∧ l'.length = l.length
section
variable {io : Nat → Bool}
theorem sgt_nm (i : Nat) (hio : io i = false := by rfl) : SGt io [i] (gNm i) (vgNm i) := fun c env l S fts d e hi o hf h => by
  cases h
  refine ⟨_, _, rfl, o.setV (by rw [hi]; exact hio) hf, fun j hj => ?_, fun j hj => ?_, by simp⟩
  · have hne : i ≠ j := fun z => hj (by rw [z]; simp)
    rw [List.getElem?_set_ne hne, List.getElem?_set_ne hne]; exact ⟨rfl, rfl⟩
  · simp at hj; subst hj
    by_cases hlt : j < fts.length
    · left; rw [List.getElem?_set_self hlt]
    · right; rw [List.getElem?_eq_none]; simp; omega
theorem vgNms_ok {c : Bs} {S : Sto} (hc : c.ios = io) : ∀ (is : List Nat) (ds : List D) (env : Env) (l : DL.Loc) (fts : List FT) (e : Env), freeN io is = true → flats ds → Ok c env l S fts → vgNms is ds env = some e →
    ∃ l' fts', gNms is ds l = some l' ∧ Ok c e l' S fts' ∧ (∀ j, j ∉ is → l'[j]? = l[j]? ∧ fts'[j]? = fts[j]?) ∧ (∀ j, (j ∈ is ∨ fts[j]? = some .val ∨ fts[j]? = none) → fts'[j]? = some .val ∨ fts'[j]? = none) ∧ l'.length = l.length
  | [], [], env, l, fts, e, _, _, o, h => by cases h; exact ⟨l, fts, rfl, o, fun j _ => ⟨rfl, rfl⟩, fun j hj => (by rcases hj with hj | hj; cases hj; exact hj), rfl⟩
  | [], _ :: _, env, l, fts, e, _, _, o, h => by cases h
  | _ :: _, [], env, l, fts, e, _, _, o, h => by cases h
  | i :: is, d :: ds, env, l, fts, e, hf, hd, o, h => by
    unfold freeN at hf
    rw [List.all_cons, Bool.and_eq_true] at hf
    have hio : c.ios i = false := by rw [hc]; simpa using hf.1
    obtain ⟨l', fts', h1, h2, h3, h4, h5⟩ := vgNms_ok hc is ds _ _ _ e hf.2 (flats_cons.mp hd).2 (o.setV hio (flats_cons.mp hd).1) h
    refine ⟨l', fts', h1, h2, fun j hj => ?_, fun j hj => ?_, by rw [h5, List.length_set]⟩
    · rw [List.mem_cons, not_or] at hj
      obtain ⟨a, b⟩ := h3 j hj.2
      rw [a, b, List.getElem?_set_ne fun z => hj.1 z.symm, List.getElem?_set_ne fun z => hj.1 z.symm]; exact ⟨rfl, rfl⟩
    · refine h4 j ?_
      by_cases hji : i = j
      · subst hji
        by_cases hlt : i < fts.length
        · right; left; rw [List.getElem?_set_self hlt]
        · right; right; rw [List.getElem?_eq_none]; simp; omega
      · rcases hj with hj | hj
        · rcases List.mem_cons.mp hj with rfl | hj
          · exact absurd rfl hji
          · exact .inl hj
        · rw [List.getElem?_set_ne hji]; exact .inr hj
theorem sgt_tp (is : List Nat) (hio : freeN io is = true := by rfl) : SGt io is (gTp is) (vgTp is) := fun c env l S fts d e hi o hf h => by
  cases d with
  | tup xs =>
    obtain ⟨l', fts', h1, h2, h3, h4, h5⟩ := vgNms_ok hi is xs env l fts e hio (flat_tup.mp hf) o h
    exact ⟨l', fts', by rw [ap_gtp, h1]; rfl, h2, h3, fun j hj => h4 j (.inl hj), h5⟩
  | _ => cases h
end

/-! ### storing -/
def vsAsg (A : VE) (G : VG) : VS := fun e => (A e).toO fun d e1 => match G d e1 with
  | some e2 => .next e2
  | none => .bad
/-- xs[k] = v, xs a live list -/
def vsSub (i : Nat) (p : Path) (K A : VE) : VS := fun e => (A e).toO fun d e1 => match getP e1 i p with
  | some (.lv _) => (match K e1 with
    | .ok (.int k) e2 => (match getP e2 i p with
      | some (.lv xs) => (match ixN xs.length k with
        | some j => .next (putP e2 i p (.lv (xs.set j d)))
        | none => .bad)
      | _ => .bad)
    | _ => .bad)
  | _ => .bad
def vsAug (i : Nat) (g : D → D → Sto → Res D) (A : VE) : VS := fun e => match e[i]? with
  | some (.va x) => (A e).toO fun y e1 => (toV (g x y []) e1).toO fun z e2 => .next (e2.set i (.va z))
  | _ => .bad
def vsPar (i j : Nat) (r : VAs) : VS := fun e => (r e).toO fun ds e1 => match ds with
  | [x, y] => .next ((e1.set i (.va x)).set j (.va y))
  | _ => .bad
/-- o.f = v, a field that holds a value -/
def vsAttr (c : Nat) (f : Str) (i : Nat) (p : Path) (V : VE) : VS := fun e => (V e).toO fun y e1 => match getP e1 i p with
  | some (.ins c' ns ss) => if c' = c ∧ ns.length < 1000 then (match ss[ns.idxOf f]? with
    | some (.va _) => .next (putP e1 i p (.ins c ns (ss.set (ns.idxOf f) (.va y))))
    | _ => .bad) else .bad
  | _ => .bad
section
variable {io : Nat → Bool} {A B : E} {V U : VE} {r : As} {vr : VAs}
theorem ss_asg {is : List Nat} {G : GD} {vg : VG} (ha : SC io A V) (hg : SGt io is G vg) : SS io (sAsg A G) (vsAsg V vg) := fun c env l S fts hi o => So.of (ha.v hi o) fun x e d S' o' ⟨q, f⟩ => by
  subst q
  cases h : vg d e with
  | none => trivial
  | some e2 =>
    obtain ⟨l', fts', h1, h2, _⟩ := hg c e l S' fts d e2 hi o' f h
    rw [h1]
    exact ⟨l', S', fts', rfl, h2⟩
theorem flats_set {xs : List D} {j : Nat} {d : D} (h : flats xs) (hd : flat d) : flats (xs.set j d) := flats_iff.mpr fun x hx => by
  rcases List.mem_or_eq_of_mem_set hx with h' | rfl
  · exact flats_iff.mp h x h'
  · exact hd
theorem ss_sub {C : E} {i : Nat} {p : Path} (hp : SP io A i p) (hk : SC io B U) (ha : SC io C V) : SS io (sAsg C (gSubD A B setLD)) (vsSub i p U V) := fun c env l S fts hi o => So.of (ha.v hi o) fun x e d S' o' ⟨q, f⟩ => by
  subst q
  cases h0 : getP e i p with
  | none => trivial
  | some s0 =>
    cases s0 with
    | lv xs0 =>
      obtain ⟨gt, g1, g2, g3⟩ := hp c e l S' fts _ hi o' h0 (by intro z; cases z)
      obtain ⟨n, rfl, _, _⟩ := own_lvOf g2
      have q := hk c e l S' fts hi o'
      simp only
      cases h : U e with
      | bad => trivial
      | exc k e' => trivial
      | ok y e2 =>
        rw [h] at q
        obtain ⟨y', S2, h1, o2, _, rfl, _⟩ := q
        cases y' with
        | int k =>
          simp only
          cases h2 : getP e2 i p with
          | none => trivial
          | some s =>
            cases s with
            | lv xs =>
              simp only
              cases hj : ixN xs.length k with
              | none => trivial
              | some j =>
                simp only
                obtain ⟨_, _, gt2, _, _, _, _, m4, m5, _⟩ := o2.place h2 (by intro z; cases z)
                rw [g1] at m4
                cases m4
                obtain ⟨n', z, k3, k4⟩ := own_lvOf m5
                cases z
                have e : gSubD A B setLD d l S' = some (l, S2.set n (.lst (xs.set j d))) := by
                  unfold gSubD
                  rw [g3]
                  show (match B l S' with
                    | .ok y S2 => (setLD (.ref n) y d S2).map fun S3 => (l, S3)
                    | _ => none) = _
                  rw [h1]
                  simp only
                  unfold setLD
                  simp only
                  rw [cellL_ref k3]
                  simp only
                  rw [hj]; rfl
                rw [e]
                exact ⟨l, _, fts, rfl, o2.putL h2 g1 (flats_set k4 f)⟩
            | _ => trivial
        | _ => trivial
    | _ => trivial
theorem ss_aug (i : Nat) {g : D → D → Sto → Res D} (hg : Pr2 g) (ha : SC io A V) (hio : io i = false := by rfl) : SS io (sAug i g A) (vsAug i g V) := fun c env l S fts hi o => by
  unfold vsAug
  cases h : env[i]? with
  | none => trivial
  | some s =>
    cases s with
    | va x =>
      obtain ⟨t, ht⟩ := o.rv.at h
      obtain ⟨h1, h2⟩ := o.rv.sl i _ t h ht (by intro z; cases z)
      have hx : flat x := by
        rcases own_cases h2 with ⟨d', z, rfl, hd⟩ | ⟨_, _, z, _⟩ | ⟨_, _, z, _⟩ | ⟨_, _, _, z, _⟩ | ⟨_, _, _, _, _, z, _⟩
        · cases z; exact hd
        all_goals cases z
      have e : sAug i g A l S = (A l S).toS l fun y S1 => (g x y S1).toS l fun z S2 => .next (l.set i (some z)) S2 := by
        unfold sAug
        rw [h1]; rfl
      rw [e]
      refine So.of (ha.v hi o) fun y e1 d S' o' ⟨q, f⟩ => ?_
      subst q
      exact So.of (Sv.of_RQ o' (hg.c S' x d hx f)) fun z e2 z' S2 o2 ⟨q, f2⟩ => by
        subst q
        exact ⟨_, S2, _, rfl, o2.setV (by rw [hi]; exact hio) f2⟩
    | _ => trivial
theorem ss_par (i j : Nat) (hr : SL io r vr) (hio : io i = false := by rfl) (hjo : io j = false := by rfl) : SS io (sPar i j r) (vsPar i j vr) := fun c env l S fts hi o => So.of (hr c env l S fts hi o) fun x e d S' o' ⟨q, f⟩ => by
  subst q
  match d, f with
  | [x, y], f =>
    have f1 := (flats_cons.mp f).1
    have f2 := (flats_cons.mp (flats_cons.mp f).2).1
    exact ⟨_, S', _, rfl, (o'.setV (by rw [hi]; exact hio) f1).setV (by rw [hi]; exact hjo) f2⟩
  | [], _ => trivial
  | [_], _ => trivial
  | _ :: _ :: _ :: _, _ => trivial
theorem putD_zip : ∀ {ns : List Str} {ss : List Sl} {ts : List FT} {f : Str} {y : D}, ns.length = ss.length → ss.length = ts.length → ns.idxOf f < ss.length → putD f y (ns.zip (roots ss ts)) = ns.zip (roots (ss.set (ns.idxOf f) (.va y)) ts)
  | [], ss, ts, f, y, h1, h2, h3 => by
    have h1 : 0 = ss.length := h1
    rw [← h1] at h3
    exact absurd h3 (Nat.not_lt_zero _)
  | n :: ns, [], ts, f, y, h1, h2, h3 => by simp at h1
  | n :: ns, s :: ss, [], f, y, h1, h2, h3 => by simp at h2
  | n :: ns, s :: ss, t :: ts, f, y, h1, h2, h3 => by
    rw [List.idxOf_cons] at h3 ⊢
    show putD f y ((n, rootD s t) :: ns.zip (roots ss ts)) = _
    unfold putD
    by_cases hf : n = f
    · subst hf
      rw [if_pos rfl]
      simp [roots, rootD]
    · rw [if_neg hf]
      have hb : (n == f) = false := beq_eq_false_iff_ne.mpr hf
      rw [hb] at h3 ⊢
      simp only [cond_false] at h3 ⊢
      rw [putD_zip (by simpa using h1) (by simpa using h2) (by simpa using h3)]
      simp [roots]
theorem ss_attr (k : Nat) (f : Str) {i : Nat} {p : Path} (hp : SP io A i p) (ha : SC io B V) : SS io (sAttr k f A B) (vsAttr k f i p V) := fun c env l S fts hi o => So.of (ha.v hi o) fun x e d S' o' ⟨q, fd⟩ => by
  subst q
  cases h0 : getP e i p with
  | none => trivial
  | some s0 =>
    cases s0 with
    | ins c' ns ss =>
      simp only
      by_cases hc : c' = k ∧ ns.length < 1000
      case neg => rw [if_neg hc]; trivial
      rw [if_pos hc]
      obtain ⟨rfl, hlen⟩ := hc
      cases h1 : ss[ns.idxOf f]? with
      | none => trivial
      | some u =>
        cases u with
        | va y0 =>
          obtain ⟨gt, g1, g2, g3⟩ := hp c e l S' fts _ hi o' h0 (by intro z; cases z)
          obtain ⟨n, ts, rfl, w1, w2, w3, w4, w5, w6⟩ := own_insOf g2
          have hk := (List.getElem?_eq_some_iff.mp h1).1
          rw [g3]
          show So c _ (match insOf S' c' (rootD (.ins c' ns ss) (.node n ns ts)) with
            | some (n, fs) => if fs.length < 1000 then Out.next l (S'.set n (.ins c' (putD f d fs))) else .bad
            | none => .bad)
          rw [w6]
          simp only
          have hl : (ns.zip (roots ss ts)).length < 1000 := by rw [List.length_zip]; omega
          rw [if_pos hl, putD_zip w1 w3 hk]
          obtain ⟨s', ft, gt', _, _, _, _, m4, m5, _, m7⟩ := o'.place h0 (by intro z; cases z)
          rw [g1] at m4
          cases m4
          obtain ⟨hl2, hh⟩ := owns_iff.mp w5
          have hkt : ns.idxOf f < ts.length := by omega
          have htv : ts[ns.idxOf f]? = some .val := by
            have := hh _ _ _ h1 (List.getElem?_eq_getElem hkt)
            rcases own_cases this with ⟨d', z, e1, hd⟩ | ⟨_, _, z, _⟩ | ⟨_, _, z, _⟩ | ⟨_, _, _, z, _⟩ | ⟨_, _, _, _, _, z, _⟩
            · rw [List.getElem?_eq_getElem hkt, e1]
            all_goals cases z
          have hlt : n < S'.length := (List.getElem?_eq_some_iff.mp w4).1
          have nd : (foot (.node n ns ts)).Nodup := by
            unfold ftP at g1
            split at g1
            · next fi hfi => exact ftget_nd p g1 (o'.rv.nd1 i fi hfi)
            · cases g1
          have hnn : n ∉ foots ts := by unfold foot at nd; exact (List.nodup_cons.mp nd).1
          refine ⟨l, _, fts, rfl, m7 _ (.ins c' ns (ss.set (ns.idxOf f) (.va d))) (own_ins.mpr ⟨rfl, by simpa using w1, w2, List.getElem?_set_self hlt, owns_iff.mpr ⟨by simpa using hl2, fun j s2 t2 e1 e2 => ?_⟩⟩) rfl (by simp) fun m hm hm' => set_other fun z => hm' (by rw [z]; unfold foot; simp)⟩
          by_cases hj : ns.idxOf f = j
          · subst hj
            rw [List.getElem?_set_self hk] at e1
            rw [htv] at e2
            cases e1; cases e2
            exact own_va.mpr fd
          · rw [List.getElem?_set_ne hj] at e1
            exact Own.keep t2 s2 (fun m hm => set_other fun z => hnn (by rw [← z]; exact foots_at e2 hm)) (hh j s2 t2 e1 e2)
        | _ => trivial
    | _ => trivial
end

/-! ### loops -/
def vLoop (G : VG) (body : VS) : List D → VS
  | [], e => .next e
  | d :: ds, e => match G d e with
    | none => .bad
    | some e1 => match body e1 with
      | .next e2 => vLoop G body ds e2
      | .cont e2 => vLoop G body ds e2
      | .brk e2 => .next e2
      | o => o
abbrev VI := Env → VR (List D)
def vsFor (it : VI) (G : VG) (body : VS) : VS := fun e => (it e).toO fun ds e1 => vLoop G body ds e1
/-- items that stay whatever happens -/
def SI (io : Nat → Bool) (A : I) (V : VI) : Prop := ∀ (c : Bs) (env : Env) (l : DL.Loc) (S : Sto) (fts : List FT), c.ios = io → Ok c env l S fts → Sv c l S fts (V env) (A l S) fun xs _ q _ => q.items = xs ∧ flats xs ∧ ∀ S2, q.gd S2
def viSeq (A : VE) : VI := fun e => (A e).bind fun x e1 => match seqOf [] x with
  | some xs => .ok xs e1
  | none => .bad
def viRev (A : VE) : VI := fun e => (A e).bind fun x e1 => match seqOf [] x with
  | some xs => .ok xs.reverse e1
  | none => .bad
/-- a look that the kernel shall not run -/
noncomputable def rgK (b : Bool) (A : VR (List D)) : VR (List D) := @ite _ (b = true) (Classical.propDecidable _) A .bad
theorem rgk_t {b : Bool} {A : VR (List D)} (h : b = true) : rgK b A = A := by
  unfold rgK
  exact @if_pos _ (Classical.propDecidable _) h _ _ _
theorem rgk_f {b : Bool} {A : VR (List D)} (h : ¬ b = true) : rgK b A = .bad := by
  unfold rgK
  exact @if_neg _ (Classical.propDecidable _) h _ _ _
noncomputable def viR1 (A : VAs) : VI := fun e => (A e).bind fun xs e1 => match xs with
  | [.int j] => rgK (small62 j) (.ok (rangeI 0 j.toNat) e1)
  | _ => .bad
noncomputable def viR2 (A : VAs) : VI := fun e => (A e).bind fun xs e1 => match xs with
  | [.int i, .int j] => rgK (small62 i && small62 j) (.ok (rangeI i (j - i).toNat) e1)
  | _ => .bad
section
variable {io : Nat → Bool} {A B : E} {V U : VE} {r : As} {vr : VAs}
theorem seq_flatS {S : Sto} {d : D} (h : flat d) : seqOf S d = seqOf [] d := dn_seq (.inl ⟨rfl, h⟩)
theorem si_seq (ha : SC io A V) : SI io (iSeq A) (viSeq V) := fun c env l S fts hi o => by
  unfold viSeq iSeq
  refine Sv.bind (ha.v hi o) fun x e d S1 o1 ⟨q, f⟩ => ?_
  subst q
  rw [seq_flatS (S := S1) f]
  cases h : seqOf [] d with
  | none => trivial
  | some xs => exact Sv.ret o1 ⟨rfl, seq_flat f h, fun S2 => by show seqOf S2 d = some xs; rw [seq_flatS f, h]⟩
theorem si_rev (ha : SC io A V) : SI io (iRevD A) (viRev V) := fun c env l S fts hi o => by
  unfold viRev iRevD
  refine Sv.bind (ha.v hi o) fun x e d S1 o1 ⟨q, f⟩ => ?_
  subst q
  rw [seq_flatS (S := S1) f]
  cases h : seqOf [] d with
  | none => trivial
  | some xs => exact Sv.ret o1 ⟨rfl, flats_iff.mpr fun x hx => flats_iff.mp (seq_flat f h) x (List.mem_reverse.mp hx), fun S2 => by show seqOf S2 d = some xs; rw [seq_flatS f, h]⟩
theorem flats_range (lo : Int) (n : Nat) : flats (rangeI lo n) := flats_iff.mpr fun x hx => by
  unfold rangeI at hx
  rw [List.mem_map] at hx
  obtain ⟨i, _, rfl⟩ := hx
  exact flat_int _
theorem si_r1 (ha : SL io r vr) : SI io (iR1 r) (viR1 vr) := fun c env l S fts hi o => by
  unfold viR1 iR1
  refine Sv.bind (ha c env l S fts hi o) fun x e d S1 o1 ⟨q, f⟩ => ?_
  subst q
  rcases d with _ | ⟨d0, _ | ⟨d1, ds⟩⟩
  · trivial
  · cases d0 with
    | int j =>
      simp only
      by_cases hz : small62 j = true
      · rw [rgk_t hz, if_pos hz]; exact Sv.ret o1 ⟨rfl, flats_range _ _, fun _ => trivial⟩
      · rw [rgk_f hz]; trivial
    | _ => trivial
  · cases d0 <;> trivial
theorem si_r2 (ha : SL io r vr) : SI io (iR2 r) (viR2 vr) := fun c env l S fts hi o => by
  unfold viR2 iR2
  refine Sv.bind (ha c env l S fts hi o) fun x e d S1 o1 ⟨q, f⟩ => ?_
  subst q
  rcases d with _ | ⟨d0, _ | ⟨d1, _ | ⟨d2, ds⟩⟩⟩
  · trivial
  · cases d0 <;> trivial
  · cases d0 with
    | int i =>
      cases d1 with
      | int j =>
        simp only
        by_cases hz : (small62 i && small62 j) = true
        · rw [rgk_t hz, if_pos hz]; exact Sv.ret o1 ⟨rfl, flats_range _ _, fun _ => trivial⟩
        · rw [rgk_f hz]; trivial
      | _ => trivial
    | _ => trivial
  · cases d0 with
    | int i => cases d1 <;> trivial
    | _ => trivial
theorem loop_ok {is : List Nat} {G : GD} {vg : VG} {b : Stm} {vb : VS} {gd : Sto → Prop} (hG : SGt io is G vg) (hb : SS io b vb) (hgd : ∀ S, gd S) {c : Bs} (hi : c.ios = io) : ∀ (ds : List D) (env : Env) (l : DL.Loc) (S : Sto) (fts : List FT), flats ds → Ok c env l S fts → So c (vLoop vg vb ds env) (forL gd G b ds l S)
  | [], env, l, S, fts, _, o => by
    unfold forL vLoop
    rw [if_pos (hgd S)]
    exact ⟨l, S, fts, rfl, o⟩
  | d :: ds, env, l, S, fts, hf, o => by
    unfold forL vLoop
    rw [if_pos (hgd S)]
    cases h : vg d env with
    | none => trivial
    | some e1 =>
      obtain ⟨l1, fts1, h1, o1, _⟩ := hG c env l S fts d e1 hi o (flats_cons.mp hf).1 h
      rw [h1]
      simp only
      have q := hb c e1 l1 S fts1 hi o1
      cases hv : vb e1 with
      | next e2 => rw [hv] at q; obtain ⟨l2, S2, fts2, q1, q2⟩ := q; rw [q1]; exact loop_ok hG hb hgd hi ds e2 l2 S2 fts2 (flats_cons.mp hf).2 q2
      | cont e2 => rw [hv] at q; obtain ⟨l2, S2, fts2, q1, q2⟩ := q; rw [q1]; exact loop_ok hG hb hgd hi ds e2 l2 S2 fts2 (flats_cons.mp hf).2 q2
      | brk e2 => rw [hv] at q; obtain ⟨l2, S2, fts2, q1, q2⟩ := q; rw [q1]; exact ⟨l2, S2, fts2, rfl, q2⟩
      | ret r e2 => rw [hv] at q; obtain ⟨d, l2, S2, fts2, ft, q1, q2⟩ := q; rw [q1]; exact ⟨d, l2, S2, fts2, ft, rfl, q2⟩
      | retf r e2 => rw [hv] at q; obtain ⟨d, l2, S2, fts2, q1, q2⟩ := q; rw [q1]; exact ⟨d, l2, S2, fts2, rfl, q2⟩
      | exc k e2 => rw [hv] at q; obtain ⟨l2, S2, fts2, q1, q2⟩ := q; rw [q1]; exact ⟨l2, S2, fts2, rfl, q2⟩
      | bad => trivial
theorem ss_for {it : I} {vi : VI} {is : List Nat} {G : GD} {vg : VG} {b : Stm} {vb : VS} (hI : SI io it vi) (hG : SGt io is G vg) (hb : SS io b vb) : SS io (sFor it G b) (vsFor vi vg vb) := fun c env l S fts hi o => So.of (hI c env l S fts hi o) fun x e q S' o' ⟨q1, q2, q3⟩ => by
  subst q1
  exact loop_ok hG hb q3 hi q.items e l S' fts q2 o'
def vWhF (t : Env → VR Bool) (body : VS) : Nat → VS
  | 0 => fun _ => .bad
  | n + 1 => fun e => (t e).toO fun k e1 => if k = true then (match body e1 with
    | .next e2 => vWhF t body n e2
    | .cont e2 => vWhF t body n e2
    | .brk e2 => .next e2
    | o => o) else .next e1
open Classical in
noncomputable def vsWhile (t : Env → VR Bool) (body : VS) : VS := fun e => if h : ∃ n, vWhF t body n e ≠ .bad then vWhF t body (choose h) e else .bad
theorem So.nb {c : Bs} {r : VO} {f : Out} (h : So c r f) (hr : r ≠ .bad) : f ≠ .bad := fun z => by
  subst z
  cases r with
  | bad => exact hr rfl
  | next e => obtain ⟨_, _, _, q, _⟩ := h; cases q
  | brk e => obtain ⟨_, _, _, q, _⟩ := h; cases q
  | cont e => obtain ⟨_, _, _, q, _⟩ := h; cases q
  | exc k e => obtain ⟨_, _, _, q, _⟩ := h; cases q
  | ret k e => obtain ⟨_, _, _, _, _, q, _⟩ := h; cases q
  | retf k e => obtain ⟨_, _, _, _, q, _⟩ := h; cases q
theorem whF_ok {t : T} {vt : Env → VR Bool} {b : Stm} {vb : VS} (ht : ST io t vt) (hb : SS io b vb) {c : Bs} (hi : c.ios = io) : ∀ (n : Nat) (env : Env) (l : DL.Loc) (S : Sto) (fts : List FT), Ok c env l S fts → So c (vWhF vt vb n env) (whF t b n l S)
  | 0, env, l, S, fts, o => trivial
  | n + 1, env, l, S, fts, o => by
    unfold vWhF whF
    refine So.of (ht.v hi o) fun x e k S' o' q => ?_
    subst q
    cases k with
    | false => simp only [Bool.false_eq_true, if_false]; exact ⟨l, S', fts, rfl, o'⟩
    | true =>
      simp only [if_true]
      have q := hb c e l S' fts hi o'
      cases hv : vb e with
      | next e2 => rw [hv] at q; obtain ⟨l2, S2, fts2, q1, q2⟩ := q; rw [q1]; exact whF_ok ht hb hi n e2 l2 S2 fts2 q2
      | cont e2 => rw [hv] at q; obtain ⟨l2, S2, fts2, q1, q2⟩ := q; rw [q1]; exact whF_ok ht hb hi n e2 l2 S2 fts2 q2
      | brk e2 => rw [hv] at q; obtain ⟨l2, S2, fts2, q1, q2⟩ := q; rw [q1]; exact ⟨l2, S2, fts2, rfl, q2⟩
      | ret r e2 => rw [hv] at q; obtain ⟨d, l2, S2, fts2, ft, q1, q2⟩ := q; rw [q1]; exact ⟨d, l2, S2, fts2, ft, rfl, q2⟩
      | retf r e2 => rw [hv] at q; obtain ⟨d, l2, S2, fts2, q1, q2⟩ := q; rw [q1]; exact ⟨d, l2, S2, fts2, rfl, q2⟩
      | exc k e2 => rw [hv] at q; obtain ⟨l2, S2, fts2, q1, q2⟩ := q; rw [q1]; exact ⟨l2, S2, fts2, rfl, q2⟩
      | bad => trivial
open Classical in
theorem ss_while {t : T} {vt : Env → VR Bool} {b : Stm} {vb : VS} (ht : ST io t vt) (hb : SS io b vb) : SS io (sWhile t b) (vsWhile vt vb) := fun c env l S fts hi o => by
  unfold vsWhile
  by_cases h : ∃ n, vWhF vt vb n env ≠ .bad
  · rw [dif_pos h]
    have hn := choose_spec h
    have q := whF_ok ht hb hi (choose h) env l S fts o
    have hw := q.nb hn
    have h2 : ∃ n, whF t b n l S ≠ .bad := ⟨_, hw⟩
    have e : sWhile t b l S = whF t b (choose h) l S := by
      unfold sWhile
      rw [dif_pos h2]
      have hm := choose_spec h2
      rcases Nat.le_total (choose h2) (choose h) with hle | hle
      · exact (whF_up t b _ l S hm _ hle).symm
      · exact whF_up t b _ l S hw _ hle
    rw [e]; exact q
  · rw [dif_neg h]; trivial
end
end VL

/-! VL9: comprehensions, the rule of a def. -/
namespace VL
open PySem PySem.Spec PyProof.Rows L2 DL
theorem fz_lst {S : Sto} {N k : Nat} {xs : List D} (h : S[k]? = some (.lst xs)) (hk : N ≤ k) (hf : flats xs) : fzD 4 N S (.ref k) = some (.lst xs) := by
  unfold fzD sbD fzR
  rw [if_neg (Nat.not_lt.mpr hk)]
  unfold cellV
  rw [h]
  simp only
  rw [fzs_rlt 3 N S xs (rlts_up (Nat.zero_le _) xs hf)]
  rfl
theorem fz_dic {S : Sto} {N k : Nat} {xs : List D} (h : S[k]? = some (.dic false xs)) (hk : N ≤ k) (hf : flats xs) : fzD 4 N S (.ref k) = some (.dic false xs) := by
  unfold fzD sbD fzR
  rw [if_neg (Nat.not_lt.mpr hk)]
  unfold cellV
  rw [h]
  simp only
  rw [fzs_rlt 3 N S xs (rlts_up (Nat.zero_le _) xs hf)]
  rfl
theorem fz_flat {S : Sto} {N : Nat} {d : D} (h : flat d) : fzD 4 N S d = some d := fz_rlt 4 N S d (rlt_up (Nat.zero_le _) d h)
theorem tr_ok {S S' : Sto} (P : Nat → Prop) (hl : S.length ≤ S'.length) (h1 : ∀ n, n < S.length → ¬ P n → S'[n]? = S[n]?) (h2 : ∀ n, n < S.length → P n → ∃ c, S'[n]? = some c ∧ cellRlt S.length c = true) : TrOk S S' := ⟨hl, fun n hn => by
  by_cases hp : P n
  · exact .inr (h2 n hn hp)
  · exact .inl (h1 n hn hp)⟩
theorem exitD_of {S S' : Sto} {d e : D} (t : TrOk S S') (h : fzD 4 S.length S' d = some e) : exitD S d S' = .ok e (S'.take S.length) := by
  unfold exitD
  rw [if_pos t, h]
theorem exitX_of {S S' : Sto} {k : Nat} (t : TrOk S S') : exitX S k S' = .exc k (S'.take S.length) := by
  unfold exitX
  rw [if_pos t]
theorem exitN_of {S S' : Sto} {k : Nat} {xs : List D} (t : TrOk S S') (hk : S.length ≤ k) (h : S'[k]? = some (.lst xs)) (hf : flats xs) : exitN S (.ref k) S' = .ok (.ref S.length) (S'.take S.length ++ [.lst xs]) := by
  unfold exitN
  rw [if_pos t]
  simp only
  rw [if_neg (Nat.not_lt.mpr hk), h]
  simp only
  rw [show fzDs 4 S.length (S'.set k .dead) xs = some xs from fzs_rlt 4 _ _ xs (rlts_up (Nat.zero_le _) xs hf)]
theorem take_at {S : Sto} {N n : Nat} (h : n < N) : (S.take N)[n]? = S[n]? := List.getElem?_take_of_lt h

/-! ### comprehensions -/
def wipeE (e : Env) : List Nat → Env
  | [] => e
  | i :: is => (wipeE e is).set i .no
def wipeT (f : List FT) : List Nat → List FT
  | [] => f
  | i :: is => (wipeT f is).set i .val
def restE (e e0 : Env) : List Nat → Env
  | [] => e
  | i :: is => (match e0[i]? with | some s => (restE e e0 is).set i s | none => restE e e0 is)
def plainS : Option Sl → Bool
  | some (.va _) => true
  | some .no => true
  | none => true
  | _ => false
def vNox {α : Type} (r : VR α) : VR α := match r with
  | .exc _ _ => .bad
  | r => r
abbrev VIc := Env → VR (List D × (Env → Prop))
def vcI (A : VI) : VIc := fun e => (A e).bind fun xs e1 => .ok (xs, fun _ => True) e1
def vcO (a : Opd) : VIc := fun e => (a.ev e).bind fun x e1 => match a.rd e1 x with
  | some y => (match seqOf [] y with
    | some xs => .ok (xs, fun e2 => (match a.rd e2 x with | some y2 => seqOf [] y2 | none => none) = some xs) e1
    | none => .bad)
  | none => .bad
open Classical in
noncomputable def vLcL (gd : Env → Prop) (G : VG) (t : Env → VR Bool) (el : VE) (own : List Nat) (e0 : Env) : List D → Env → List D → VR (List D)
  | [], e, acc => if gd e then .ok acc e else .bad
  | d :: ds, e, acc => if gd e then (match G d (wipeE e own) with
    | none => .bad
    | some e1 => (t e1).bind fun k e2 => if k = true then ((el e2).bind fun y e3 => if acc.length < sizeLine then vLcL gd G t el own e0 ds (restE e3 e0 own) (acc ++ [y]) else .bad) else vLcL gd G t el own e0 ds (restE e2 e0 own) acc) else .bad
noncomputable def vLcX (it : VIc) (G : VG) (t : Env → VR Bool) (el : VE) (own : List Nat) : Env → VR (List D) := fun e => (it e).bind fun q e1 => if (own.all fun i => plainS e1[i]?) = true then vNox (vLcL q.2 G t el own e1 q.1 e1 []) else .bad
noncomputable def vLc (it : VIc) (G : VG) (t : Env → VR Bool) (el : VE) (own : List Nat) : VE := fun e => (vLcX it G t el own e).bind fun acc e1 => .ok (.lst acc) e1
noncomputable def vLcM (it : VIc) (G : VG) (t : Env → VR Bool) (el : VE) (own : List Nat) : Env → VR Sl := fun e => (vLcX it G t el own e).bind fun acc e1 => .ok (.lv acc) e1
/-- items of a walk in a comprehension -/
def SIc (io : Nat → Bool) (A : I) (V : VIc) : Prop := ∀ (c : Bs) (env : Env) (l : DL.Loc) (S : Sto) (fts : List FT), c.ios = io → Ok c env l S fts → Sv c l S fts (V env) (A l S) fun q _ q' _ => q'.items = q.1 ∧ flats q.1 ∧ ∀ e2 S2, Ok c e2 l S2 fts → q.2 e2 → q'.gd S2
section
variable {io : Nat → Bool}
theorem sic_i {A : I} {V : VI} (h : SI io A V) : SIc io A (vcI V) := fun c env l S fts hi o => by
  unfold vcI
  have q := h c env l S fts hi o
  cases e : V env with
  | bad => trivial
  | exc k e1 => rw [e] at q; exact q
  | ok xs e1 =>
    rw [e] at q
    obtain ⟨q', S', h1, h2, h3, h4, h5, h6⟩ := q
    exact ⟨q', S', h1, h2, h3, h4, h5, fun _ S2 _ _ => h6 S2⟩
theorem sic_o {A : E} {a : Opd} (ha : SO io A a) : SIc io (iSeq A) (vcO a) := fun c env l S fts hi o => by
  unfold vcO iSeq
  refine Sv.bind (ha c env l S fts hi o) fun x e d S1 o1 r1 => ?_
  cases h1 : a.rd e x with
  | none => trivial
  | some y =>
    have hd := r1 e S1 y o1 h1
    simp only
    rw [dn_seq hd]
    cases h2 : seqOf [] y with
    | none => trivial
    | some xs =>
      refine Sv.ret o1 ⟨rfl, seq_flat hd.flat h2, fun e2 S2 o2 hq => ?_⟩
      have hq : (match a.rd e2 x with | some y2 => seqOf [] y2 | none => none) = some xs := hq
      cases h3 : a.rd e2 x with
      | none => rw [h3] at hq; cases hq
      | some y2 =>
        rw [h3] at hq
        show seqOf S2 d = some xs
        rw [dn_seq (r1 e2 S2 y2 o2 h3)]; exact hq
theorem wipeE_at : ∀ {own : List Nat} {e : Env} {i : Nat}, i ∉ own → (wipeE e own)[i]? = e[i]?
  | [], e, i, _ => rfl
  | j :: own, e, i, h => by unfold wipeE; rw [List.getElem?_set_ne fun z => h (by rw [z]; simp)]; exact wipeE_at fun z => h (List.mem_cons_of_mem _ z)
theorem wipeT_at : ∀ {own : List Nat} {e : List FT} {i : Nat}, i ∉ own → (wipeT e own)[i]? = e[i]?
  | [], e, i, _ => rfl
  | j :: own, e, i, h => by unfold wipeT; rw [List.getElem?_set_ne fun z => h (by rw [z]; simp)]; exact wipeT_at fun z => h (List.mem_cons_of_mem _ z)
theorem wipeL_at : ∀ {own : List Nat} {e : DL.Loc} {i : Nat}, i ∉ own → (wipeL e own)[i]? = e[i]?
  | [], e, i, _ => rfl
  | j :: own, e, i, h => by unfold wipeL; rw [List.getElem?_set_ne fun z => h (by rw [z]; simp)]; exact wipeL_at fun z => h (List.mem_cons_of_mem _ z)
theorem restE_len : ∀ {own : List Nat} {e e0 : Env}, (restE e e0 own).length = e.length
  | [], e, e0 => rfl
  | j :: own, e, e0 => by
    unfold restE
    split
    · rw [List.length_set]; exact restE_len
    · exact restE_len
theorem restE_off : ∀ {own : List Nat} {e e0 : Env} {i : Nat}, i ∉ own → (restE e e0 own)[i]? = e[i]?
  | [], e, e0, i, _ => rfl
  | j :: own, e, e0, i, h => by
    unfold restE
    split
    · rw [List.getElem?_set_ne fun z => h (by rw [z]; simp)]; exact restE_off fun z => h (List.mem_cons_of_mem _ z)
    · exact restE_off fun z => h (List.mem_cons_of_mem _ z)
theorem restE_on : ∀ {own : List Nat} {e e0 : Env} {i : Nat}, e.length = e0.length → i ∈ own → (restE e e0 own)[i]? = e0[i]?
  | [], e, e0, i, _, h => by cases h
  | j :: own, e, e0, i, hl, h => by
    unfold restE
    by_cases hj : j = i
    · subst hj
      cases h0 : e0[j]? with
      | none =>
        simp only
        rw [List.getElem?_eq_none (by rw [restE_len, hl]; exact List.getElem?_eq_none_iff.mp h0)]
      | some s =>
        simp only
        rw [List.getElem?_set_self (by rw [restE_len, hl]; exact (List.getElem?_eq_some_iff.mp h0).1)]
    · have hi : i ∈ own := by
        rcases List.mem_cons.mp h with rfl | h
        · exact absurd rfl hj
        · exact h
      split
      · rw [List.getElem?_set_ne hj]; exact restE_on hl hi
      · exact restE_on hl hi
theorem Ok.wipe {c : Bs} (hc : c.ios = io) {env : Env} {l : DL.Loc} {S : Sto} {fts : List FT} (o : Ok c env l S fts) : ∀ {own : List Nat}, freeN io own = true → Ok c (wipeE env own) (wipeL l own) S (wipeT fts own)
  | [], _ => o
  | i :: own, h => by
    unfold freeN at h
    rw [List.all_cons, Bool.and_eq_true] at h
    exact (Ok.wipe hc o (own := own) h.2).forget (by rw [hc]; simpa using h.1) none
theorem wipeT_sub : ∀ {own : List Nat} {fts : List FT} {i : Nat} {t : FT}, (wipeT fts own)[i]? = some t → t = .val ∨ fts[i]? = some t
  | [], fts, i, t, h => .inr h
  | j :: own, fts, i, t, h => by
    unfold wipeT at h
    by_cases hj : j = i
    · subst hj
      have hlt := (List.getElem?_eq_some_iff.mp h).1
      rw [List.getElem?_set_self (by simpa using hlt)] at h
      exact .inl (Option.some.inj h).symm
    · rw [List.getElem?_set_ne hj] at h; exact wipeT_sub h
/-- behind an element: the names of the comprehension have what they had -/
theorem Ok.rest {c : Bs} {e e3 e0 : Env} {l l1 : DL.Loc} {S S3 : Sto} {fts ftsT : List FT} {own : List Nat} (o : Ok c e l S fts) (o3 : Ok c e3 l1 S3 ftsT) (hE : ∀ i ∈ own, e0[i]? = e[i]?) (hp : ∀ i ∈ own, plainS e[i]? = true)
    (hoff : ∀ i, i ∉ own → l1[i]? = l[i]? ∧ ftsT[i]? = fts[i]?) (hl0 : e0.length = e.length) (hlen : l1.length = l.length) (hle : c.S0.length ≤ S3.length) : Ok c (restE e3 e0 own) l S3 fts := by
  have hl3 : e3.length = e0.length := by
    have := o3.rv.l1; have := o.rv.l1; omega
  refine ⟨⟨by rw [restE_len, hl3, hl0]; exact o.rv.l1, by rw [restE_len, hl3, hl0]; exact o.rv.l2, fun i s t e1 e2 e4 => ?_, fun i t e1 e2 => ?_, o.rv.nd, o.rv.nd1⟩, hle, o.io, o.lo, o.ln, o.hi, o3.fr⟩
  · by_cases hi : i ∈ own
    · rw [restE_on hl3 hi, hE i hi] at e1
      have hpl := hp i hi
      rw [e1] at hpl
      cases s with
      | va d =>
        obtain ⟨a, b⟩ := o.rv.sl i _ t e1 e2 e4
        refine ⟨a, ?_⟩
        rcases own_cases b with ⟨d', z, rfl, hd⟩ | ⟨_, _, z, _⟩ | ⟨_, _, z, _⟩ | ⟨_, _, _, z, _⟩ | ⟨_, _, _, _, _, z, _⟩
        · cases z; exact own_va.mpr hd
        all_goals cases z
      | no => exact absurd rfl e4
      | _ => cases hpl
    · rw [restE_off hi] at e1
      obtain ⟨a, b⟩ := hoff i hi
      rw [← a]
      exact o3.rv.sl i s t e1 (by rw [b]; exact e2) e4
  · by_cases hi : i ∈ own
    · rw [restE_on hl3 hi, hE i hi] at e1
      exact o.rv.no i t e1 e2
    · rw [restE_off hi] at e1
      exact o3.rv.no i t e1 (by rw [(hoff i hi).2]; exact e2)
/-- the list that is filled -/
theorem Ok.acc {c : Bs} {e : Env} {l : DL.Loc} {S : Sto} {fts : List FT} (o : Ok c e l S fts) {n : Nat} (hn : c.S0.length ≤ n) (hf : ∀ (i : Nat) (t : FT), fts[i]? = some t → n ∉ foot t) (x : Cell) : Ok c e l (S.set n x) fts := by
  refine ⟨⟨o.rv.l1, o.rv.l2, fun i s t e1 e2 e3 => ⟨(o.rv.sl i s t e1 e2 e3).1, Own.keep t s (fun m hm => set_other fun z => hf i t e2 (by rw [← z]; exact hm)) (o.rv.sl i s t e1 e2 e3).2⟩, o.rv.no, o.rv.nd, o.rv.nd1⟩, by simpa using o.le, o.io, o.lo, o.ln, o.hi, fun m hm hk => ?_⟩
  rw [set_other (by omega)]
  exact o.fr m hm hk
section
variable {is own : List Nat} {G : GD} {vg : VG} {t : T} {vt : Env → VR Bool} {el : E} {vel : VE} {gd : Sto → Prop} {vgd : Env → Prop} {c : Bs} {l : DL.Loc} {fts : List FT}
open Classical in
theorem lc_loop (hc : c.ios = io) (hfr : freeN io own = true) (his : ∀ i ∈ is, i ∈ own) (hG : SGt io is G vg) (ht : ST io t vt) (hel : SC io el vel) (hgd : ∀ e2 S2, Ok c e2 l S2 fts → vgd e2 → gd S2) {n : Nat} (hn : c.S0.length ≤ n) (hnf : ∀ (i : Nat) (t : FT), fts[i]? = some t → n ∉ foot t) {e0 : Env} (hp : ∀ i ∈ own, plainS e0[i]? = true) :
    ∀ (ds : List D) (e : Env) (S : Sto) (acc acc' : List D) (e' : Env), flats ds → flats acc → Ok c e l S fts → S[n]? = some (.lst acc) → (∀ i ∈ own, e0[i]? = e[i]?) → e0.length = e.length → vLcL vgd vg vt vel own e0 ds e acc = .ok acc' e' →
    ∃ S', lcL gd G t el n ds (wipeL l own) S = .ok () S' ∧ Ok c e' l S' fts ∧ S'[n]? = some (.lst acc') ∧ flats acc' ∧ S.length ≤ S'.length ∧ ∀ m, m < S.length → m ≠ n → (∀ (i : Nat) (t : FT), fts[i]? = some t → m ∉ foot t) → S'[m]? = S[m]?
  | [], e, S, acc, acc', e', _, ha, o, hS, _, _, h => by
    unfold vLcL at h
    split at h
    · next hg =>
      cases h
      unfold lcL
      rw [if_pos (hgd e S o hg)]
      exact ⟨S, rfl, o, hS, ha, Nat.le_refl _, fun _ _ _ _ => rfl⟩
    · cases h
  | d :: ds, e, S, acc, acc', e', hd, ha, o, hS, hE, hl0, h => by
    unfold vLcL at h
    split at h
    case isFalse => cases h
    next hg =>
    unfold lcL
    rw [if_pos (hgd e S o hg)]
    have ow := o.wipe hc hfr
    cases h1 : vg d (wipeE e own) with
    | none => rw [h1] at h; cases h
    | some e1 =>
      rw [h1] at h
      obtain ⟨l1, ftsT, g1, o1, g3, g4, g5⟩ := hG c (wipeE e own) (wipeL l own) S (wipeT fts own) d e1 hc ow (flats_cons.mp hd).1 h1
      rw [g1]
      simp only at h ⊢
      have hlen : l1.length = l.length := by
        have w : ∀ own : List Nat, (wipeL l own).length = l.length := by
          intro own
          induction own with
          | nil => rfl
          | cons i own ih => unfold wipeL; rw [List.length_set, ih]
        rw [g5, w]
      have hoff : ∀ i, i ∉ own → l1[i]? = l[i]? ∧ ftsT[i]? = fts[i]? := fun i hi => by
        obtain ⟨a, b⟩ := g3 i fun z => hi (his i z)
        rw [a, b, wipeL_at hi, wipeT_at hi]; exact ⟨rfl, rfl⟩
      have hsub : ∀ (i : Nat) (t : FT), ftsT[i]? = some t → t = .val ∨ fts[i]? = some t := fun i t hi => by
        by_cases hj : i ∈ is
        · rcases g4 i hj with q | q
          · rw [hi] at q; exact .inl (Option.some.inj q)
          · rw [hi] at q; cases q
        · rw [(g3 i hj).2] at hi; exact wipeT_sub hi
      have hnT : ∀ (i : Nat) (t : FT), ftsT[i]? = some t → n ∉ foot t := fun i t hi hm => by
        rcases hsub i t hi with rfl | q
        · rw [foot_val] at hm; cases hm
        · exact hnf i t q hm
      have hmT : ∀ m, (∀ (i : Nat) (t : FT), fts[i]? = some t → m ∉ foot t) → ∀ (i : Nat) (t : FT), ftsT[i]? = some t → m ∉ foot t := fun m hm i t hi hmm => by
        rcases hsub i t hi with rfl | q
        · rw [foot_val] at hmm; cases hmm
        · exact hm i t q hmm
      have hnS : n < S.length := (List.getElem?_eq_some_iff.mp hS).1
      have hpe : ∀ i ∈ own, plainS e[i]? = true := fun i hi => by rw [← hE i hi]; exact hp i hi
      have qt := ht c e1 l1 S ftsT hc o1
      cases ht1 : vt e1 with
      | bad => rw [ht1] at h; cases h
      | exc k e2 => rw [ht1] at h; cases h
      | ok k e2 =>
        rw [ht1] at qt h
        obtain ⟨k', S2, t1, o2, m2, rfl⟩ := qt
        rw [t1]
        simp only [bind_ok]
        have h : (if k' = true then ((vel e2).bind fun y e3 => if acc.length < sizeLine then vLcL vgd vg vt vel own e0 ds (restE e3 e0 own) (acc ++ [y]) else .bad) else vLcL vgd vg vt vel own e0 ds (restE e2 e0 own) acc) = .ok acc' e' := h
        cases k' with
        | false =>
          simp only [Bool.false_eq_true, if_false] at h ⊢
          have o2' := o.rest o2 hE hpe hoff hl0 hlen o2.le
          have hE2 : ∀ i ∈ own, e0[i]? = (restE e2 e0 own)[i]? := fun i hi => (restE_on (by have := o2.rv.l1; have := o.rv.l1; omega) hi).symm
          obtain ⟨S', q1, q2, q3, q4, q5, q6⟩ := lc_loop hc hfr his hG ht hel hgd hn hnf hp ds _ S2 acc acc' e' (flats_cons.mp hd).2 ha o2' ((m2.fr n hnS hnT).trans hS) hE2 (by rw [restE_len]; have := o2.rv.l1; have := o.rv.l1; omega) h
          exact ⟨S', q1, q2, q3, q4, Nat.le_trans m2.le q5, fun m hm hmn hmf => (q6 m (Nat.lt_of_lt_of_le hm m2.le) hmn hmf).trans (m2.fr m hm (hmT m hmf))⟩
        | true =>
          simp only [if_true] at h ⊢
          have qe := hel c e2 l1 S2 ftsT hc o2
          cases he1 : vel e2 with
          | bad => rw [he1] at h; cases h
          | exc k e3 => rw [he1] at h; cases h
          | ok y e3 =>
            rw [he1] at qe h
            obtain ⟨y', S3, t3, o3, m3, rfl, fy⟩ := qe
            rw [t3]
            simp only [bind_ok]
            have h : (if acc.length < sizeLine then vLcL vgd vg vt vel own e0 ds (restE e3 e0 own) (acc ++ [y']) else .bad) = .ok acc' e' := h
            split at h
            · next hz =>
              have hS3 : S3[n]? = some (.lst acc) := (m3.fr n (Nat.lt_of_lt_of_le hnS m2.le) hnT).trans ((m2.fr n hnS hnT).trans hS)
              have hp3 : pushC n y' S3 = some (S3.set n (.lst (acc ++ [y']))) := by
                unfold pushC
                rw [hS3]
                simp only
                rw [if_pos hz]
              rw [hp3]
              simp only
              have o3' := (o.rest o3 hE hpe hoff hl0 hlen o3.le).acc hn hnf (.lst (acc ++ [y']))
              have hE2 : ∀ i ∈ own, e0[i]? = (restE e3 e0 own)[i]? := fun i hi => (restE_on (by have := o3.rv.l1; have := o.rv.l1; omega) hi).symm
              have hn3 : n < S3.length := (List.getElem?_eq_some_iff.mp hS3).1
              obtain ⟨S', q1, q2, q3, q4, q5, q6⟩ := lc_loop hc hfr his hG ht hel hgd hn hnf hp ds _ (S3.set n (.lst (acc ++ [y']))) (acc ++ [y']) acc' e' (flats_cons.mp hd).2 (flats_app.mpr ⟨ha, flats_cons.mpr ⟨fy, flats_nil⟩⟩) o3' (List.getElem?_set_self hn3) hE2 (by rw [restE_len]; have := o3.rv.l1; have := o.rv.l1; omega) h
              have hle : S.length ≤ S3.length := Nat.le_trans m2.le m3.le
              refine ⟨S', q1, q2, q3, q4, by have : (S3.set n (.lst (acc ++ [y']))).length = S3.length := by simp
                                             omega, fun m hm hmn hmf => ?_⟩
              rw [q6 m (by simp; omega) hmn hmf, set_other hmn, m3.fr m (Nat.lt_of_lt_of_le hm m2.le) (hmT m hmf), m2.fr m hm (hmT m hmf)]
            · cases h
end
end
end VL

/-! VL10: comprehensions as expressions; the rule of a def; answers that hold live lists. -/
namespace VL
open PySem PySem.Spec PyProof.Rows L2 DL
theorem Ok.cut {c : Bs} {e : Env} {l : DL.Loc} {S : Sto} {fts : List FT} (o : Ok c e l S fts) {N : Nat} (h1 : c.S0.length ≤ N) (h2 : N ≤ S.length) (hf : ∀ (i : Nat) (t : FT) (n : Nat), fts[i]? = some t → n ∈ foot t → n < N) : Ok c e l (S.take N) fts :=
  ⟨⟨o.rv.l1, o.rv.l2, fun i s t e1 e2 e3 => ⟨(o.rv.sl i s t e1 e2 e3).1, Own.keep t s (fun m hm => take_at (hf i t m e2 hm)) (o.rv.sl i s t e1 e2 e3).2⟩, o.rv.no, o.rv.nd, o.rv.nd1⟩, by rw [List.length_take]; omega, o.io, o.lo, o.ln, o.hi, fun n hn hk => (take_at (by omega)).trans (o.fr n hn hk)⟩
/-- cells under names name cells under names -/
theorem Ok.cells {c : Bs} {e : Env} {l : DL.Loc} {S : Sto} {fts : List FT} (o : Ok c e l S fts) {N : Nat} (hf : ∀ (i : Nat) (t : FT) (n : Nat), fts[i]? = some t → n ∈ foot t → n < N) {i : Nat} {t : FT} {n : Nat} (h : fts[i]? = some t) (hn : n ∈ foot t) : ∃ x, S[n]? = some x ∧ cellRlt N x = true := by
  have hi : i < e.length := by rw [← o.rv.l2]; exact (List.getElem?_eq_some_iff.mp h).1
  have he : e[i]? = some e[i] := List.getElem?_eq_getElem hi
  by_cases hs : e[i] = .no
  · have := o.rv.no i t (by rw [he, hs]) h
    subst this
    rw [foot_val] at hn; cases hn
  · exact ((Own.cells t _ (o.rv.sl i _ t he h hs).2).1 N fun m hm => hf i t m h hm).2 n hn
section
variable {io : Nat → Bool} {is own : List Nat} {A : I} {vi : VIc} {G : GD} {vg : VG} {t : T} {vt : Env → VR Bool} {el : E} {vel : VE}
theorem lc_core (hI : SIc io A vi) (hG : SGt io is G vg) (ht : ST io t vt) (hel : SC io el vel) (his : ∀ i ∈ is, i ∈ own) (hfr : freeN io own = true) {c : Bs} {env : Env} {l : DL.Loc} {S : Sto} {fts : List FT} (hc : c.ios = io) (o : Ok c env l S fts) (m : Mode) {β : Type} (R : VR (List D) → VR β) {P : β → Env → D → Sto → Prop}
    (hb : R .bad = .bad) (hx : ∀ k e, R (.exc k e) = .exc k e) (hk : ∀ acc e S1 S2, Ok c e l S2 fts → S2[S1.length]? = some (.lst acc) → flats acc → TrOk S1 S2 → (∀ (i : Nat) (t : FT) (n : Nat), fts[i]? = some t → n ∈ foot t → n < S1.length) → c.S0.length ≤ S1.length →
      (∀ m, m < S1.length → (∀ (i : Nat) (t : FT), fts[i]? = some t → m ∉ foot t) → S2[m]? = S1[m]?) → Sv c l S1 fts (R (.ok acc e)) (exitM m S1 (.ref S1.length) S2) P) :
    Sv c l S fts (R (vLcX vi vg vt vel own env)) (eLcX m A G t el own l S) P := by
  unfold vLcX eLcX
  have q := hI c env l S fts hc o
  cases h1 : vi env with
  | bad => show Sv c l S fts (R .bad) _ _; rw [hb]; trivial
  | exc k e =>
    show Sv c l S fts (R (.exc k e)) _ _
    rw [h1] at q
    obtain ⟨S1, q1, q2⟩ := q
    rw [q1, hx]
    exact ⟨S1, rfl, q2⟩
  | ok qq e1 =>
    rw [h1] at q
    obtain ⟨q', S1, q1, o1, m1, q3, q4, q5⟩ := q
    rw [q1]
    show Sv c l S fts (R (if (own.all fun i => plainS e1[i]?) = true then vNox (vLcL qq.2 vg vt vel own e1 qq.1 e1 []) else .bad)) ((nox (lcL q'.gd G t el S1.length q'.items (wipeL l own) (S1 ++ [.lst []]))).bind fun _ S2 => exitM m S1 (.ref S1.length) S2) P
    by_cases hp : (own.all fun i => plainS e1[i]?) = true
    · rw [if_pos hp]
      cases h2 : vLcL qq.2 vg vt vel own e1 qq.1 e1 [] with
      | bad => show Sv c l S fts (R .bad) _ _; rw [hb]; trivial
      | exc k e => show Sv c l S fts (R .bad) _ _; rw [hb]; trivial
      | ok acc e2 =>
        have hlt : ∀ (i : Nat) (t : FT) (n : Nat), fts[i]? = some t → n ∈ foot t → n < S1.length := fun i t n a b => o1.rv.lt a b
        obtain ⟨S2, w1, w2, w3, w4, w5, w6⟩ := lc_loop (gd := q'.gd) (vgd := qq.2) hc hfr his hG ht hel q5 (n := S1.length) o1.le (fun i t a b => absurd (hlt i t _ a b) (Nat.lt_irrefl _)) (e0 := e1) (fun i hi => List.all_eq_true.mp hp i hi) qq.1 e1 (S1 ++ [.lst []]) [] acc e2 q4 flats_nil (o1.app _) get_last (fun _ _ => rfl) rfl h2
        rw [q3, w1]
        show Sv c l S fts (R (.ok acc e2)) (exitM m S1 (.ref S1.length) S2) P
        have fr : ∀ m, m < S1.length → (∀ (i : Nat) (t : FT), fts[i]? = some t → m ∉ foot t) → S2[m]? = S1[m]? := fun m hm hf => (w6 m (by simp; omega) (by omega) hf).trans (List.getElem?_append_left hm)
        have tr : TrOk S1 S2 := tr_ok (fun n => ∃ (i : Nat) (t : FT), fts[i]? = some t ∧ n ∈ foot t) (by simp at w5; omega) (fun n hn hP => fr n hn fun i t a b => hP ⟨i, t, a, b⟩) fun n hn ⟨i, t, a, b⟩ => w2.cells hlt a b
        have r := hk acc e2 S1 S2 w2 w3 w4 tr hlt o1.le fr
        cases hr : R (.ok acc e2) with
        | bad => trivial
        | exc k e => rw [hr] at r; obtain ⟨S', r1, r2, r3⟩ := r; exact ⟨S', r1, r2, m1.trans r3⟩
        | ok b e => rw [hr] at r; obtain ⟨d, S', r1, r2, r3, r4⟩ := r; exact ⟨d, S', r1, r2, m1.trans r3, r4⟩
    · rw [if_neg hp, hb]; trivial
theorem sc_lc (hI : SIc io A vi) (hG : SGt io is G vg) (ht : ST io t vt) (hel : SC io el vel) (his : ∀ i ∈ is, i ∈ own := by decide) (hfr : freeN io own = true := by rfl) : SC io (eLcX .fr A G t el own) (vLc vi vg vt vel own) := fun c env l S fts hc o =>
  lc_core (β := D) hI hG ht hel his hfr hc o .fr (fun r => r.bind fun acc e1 => VR.ok (D.lst acc) e1) rfl (fun _ _ => rfl) fun acc e S1 S2 o2 h1 h2 tr hlt hle fr => by
    show Sv c l S1 fts (VR.ok (D.lst acc) e) (exitD S1 (.ref S1.length) S2) _
    rw [exitD_of tr (fz_lst h1 (Nat.le_refl _) h2)]
    refine ⟨_, _, rfl, o2.cut hle tr.1 hlt, ⟨by rw [List.length_take]; have := tr.1; omega, fun n hn hf => (take_at hn).trans (fr n hn hf)⟩, rfl, flat_lst.mpr h2⟩
theorem sm_lc (hI : SIc io A vi) (hG : SGt io is G vg) (ht : ST io t vt) (hel : SC io el vel) (his : ∀ i ∈ is, i ∈ own := by decide) (hfr : freeN io own = true := by rfl) : SM io (eLcX .nw A G t el own) (vLcM vi vg vt vel own) := fun c env l S fts hc o =>
  lc_core (β := Sl) hI hG ht hel his hfr hc o .nw (fun r => r.bind fun acc e1 => VR.ok (Sl.lv acc) e1) rfl (fun _ _ => rfl) fun acc e S1 S2 o2 h1 h2 tr hlt hle fr => by
    show Sv c l S1 fts (VR.ok (Sl.lv acc) e) (exitN S1 (.ref S1.length) S2) _
    rw [exitN_of tr (Nat.le_refl _) h1 h2]
    have hl : (S2.take S1.length).length = S1.length := by rw [List.length_take]; have := tr.1; omega
    refine ⟨_, _, rfl, (o2.cut hle tr.1 hlt).app _, ⟨by simp [hl], fun n hn hf => (List.getElem?_append_left (by omega)).trans ((take_at hn).trans (fr n hn hf))⟩, .cell S1.length, own_lv.mpr ⟨(by have w := @get_last (S2.take S1.length) (.lst acc); rw [hl] at w; exact w), h2⟩, rfl, by unfold foot; simp, fun n hn => ?_⟩
    unfold foot at hn
    simp at hn
    subst hn
    exact ⟨hle, fun i t a b => absurd (hlt i t _ a b) (Nat.lt_irrefl _)⟩
end
/-! ### new live lists -/
def vLstM (r : VAs) : Env → VR Sl := fun e => (r e).bind fun xs e1 => if xs.length ≤ sizeLine then .ok (.lv xs) e1 else .bad
def vListM (a : Opd) : Env → VR Sl := fun e => (a.ev e).bind fun x e1 => match a.rd e1 x with
  | some y => (match seqOf [] y with
    | some xs => .ok (.lv xs) e1
    | none => .bad)
  | none => .bad
section
variable {io : Nat → Bool} {r : As} {vr : VAs} {A : E} {a : Opd}
theorem new_cell {c : Bs} {e : Env} {l : DL.Loc} {S : Sto} {fts : List FT} (o : Ok c e l S fts) {xs : List D} (hf : flats xs) : Sv c l S fts (.ok (.lv xs) e) (newCell xs S) fun r _ d S' => ∃ ft, Own S' r ft ∧ d = rootD r ft ∧ (foot ft).Nodup ∧ ∀ n ∈ foot ft, c.S0.length ≤ n ∧ ∀ (i : Nat) (t : FT), fts[i]? = some t → n ∉ foot t := by
  refine ⟨_, _, rfl, o.app _, ⟨by simp, fun n hn _ => List.getElem?_append_left hn⟩, .cell S.length, own_lv.mpr ⟨get_last, hf⟩, rfl, by unfold foot; simp, fun n hn => ?_⟩
  unfold foot at hn
  simp at hn
  subst hn
  exact ⟨o.le, fun i t a b => absurd (o.rv.lt a b) (Nat.lt_irrefl _)⟩
theorem sm_lst (hr : SL io r vr) : SM io (eLstM r) (vLstM vr) := fun c env l S fts hi o => by
  unfold vLstM eLstM
  refine Sv.bind (hr c env l S fts hi o) fun x e d S1 o1 ⟨q, f⟩ => ?_
  subst q
  by_cases hz : d.length ≤ sizeLine
  · rw [if_pos hz, if_pos hz]; exact new_cell o1 f
  · rw [if_neg hz]; trivial
theorem sm_list (ha : SO io A a) : SM io (eApp listDM (aCons A aNil)) (vListM a) := fun c env l S fts hi o => by
  unfold vListM
  have e : eApp listDM (aCons A aNil) l S = (A l S).bind fun x S1 => listDM [x] S1 := by
    unfold eApp aCons aNil
    cases A l S <;> rfl
  rw [e]
  refine Sv.bind (ha c env l S fts hi o) fun x e d S1 o1 r1 => ?_
  cases h1 : a.rd e x with
  | none => trivial
  | some y =>
    have hd := r1 e S1 y o1 h1
    show Sv c l S1 fts (match seqOf [] y with | some xs => VR.ok (Sl.lv xs) e | none => .bad) (match seqOf S1 d with | some xs => newCell xs S1 | none => .bad) _
    rw [dn_seq hd]
    cases h2 : seqOf [] y with
    | none => trivial
    | some xs => exact new_cell o1 (seq_flat hd.flat h2)
end
/-! ### answers that hold live lists -/
/-- an element of an answer -/
def SR (io : Nat → Bool) (A : E) (a : Opd) : Prop := ∀ (c : Bs) (env : Env) (l : DL.Loc) (S : Sto) (fts : List FT), c.ios = io → Ok c env l S fts → Sv c l S fts (a.ev env) (A l S) fun x _ d _ => ∀ (e2 : Env) (S2 : Sto) (y : D), Ok c e2 l S2 fts → a.rd e2 x = some y → flat y ∧ fzD 4 c.S0.length S2 d = some y
def SRs (io : Nat → Bool) (As : As) (os : List Opd) : Prop := ∀ (c : Bs) (env : Env) (l : DL.Loc) (S : Sto) (fts : List FT), c.ios = io → Ok c env l S fts → Sv c l S fts (osEv os env) (As l S) fun xs _ ds _ => ∀ (e2 : Env) (S2 : Sto) (ys : List D), Ok c e2 l S2 fts → osRd os e2 xs = some ys → flats ys ∧ fzDs 4 c.S0.length S2 ds = some ys ∧ ds.length = ys.length
def vsRetT (os : List Opd) : VS := fun e => (osEv os e).toO fun xs e1 => match osRd os e1 xs with
  | some ys => if ys.length ≤ sizeLine then .retf (.tup ys) e1 else .bad
  | none => .bad
section
variable {io : Nat → Bool} {r : As} {os : List Opd} {A : E} {a : Opd} {V : VE}
theorem sr_c (h : SC io A V) : SR io A (oV V) := fun c env l S fts hi o => Sv.weak (h c env l S fts hi o) fun x e d S' _ ⟨q, f⟩ e2 S2 y _ hy => by
  cases hy
  subst q
  exact ⟨f, fz_flat f⟩
theorem sr_n (i : Nat) (hio : io i = false := by rfl) : SR io (eVar i) (oN i) := fun c env l S fts hi o => by
  have q := so_n (io := io) i c env l S fts hi o
  have hev : ∀ e2 S2, Ok c e2 l S2 fts → ∀ y s, e2[i]? = some s → snapS s = some y → ∃ d, eVar i l S2 = .ok d S2 ∧ flat y ∧ fzD 4 c.S0.length S2 d = some y := fun e2 S2 o2 y s h1 h2 => by
    have hs : s ≠ .no := fun z => by subst z; cases h2
    obtain ⟨t, ht⟩ := o2.rv.at h1
    obtain ⟨w1, w2⟩ := o2.rv.sl i s t h1 ht hs
    have hlo : ∀ n ∈ foot t, c.S0.length ≤ n := fun n hn => o2.lo i t n (by rw [hi]; exact hio) ht hn
    refine ⟨rootD s t, by rw [ap_var, w1], ?_⟩
    rcases own_cases w2 with ⟨d, rfl, rfl, hd⟩ | ⟨xs, n, rfl, rfl, h3, h4⟩ | ⟨xs, n, rfl, rfl, h3, h4⟩ | ⟨_, _, _, rfl, _⟩ | ⟨_, _, _, _, _, rfl, _⟩
    · cases h2; exact ⟨hd, fz_flat hd⟩
    · cases h2; exact ⟨flat_lst.mpr h4, fz_lst h3 (hlo n (by unfold foot; simp)) h4⟩
    · cases h2; exact ⟨flat_dic.mpr h4, fz_dic h3 (hlo n (by unfold foot; simp)) h4⟩
    · cases h2
    · cases h2
  refine Sv.weak (P := fun x _ d _ => eVar i l [] = .ok d [] ∧ x = .non) ?_ fun x e d S' _ ⟨q, qx⟩ e2 S2 y o2 hy => ?_
  · show Sv c l S fts (match env[i]? with
      | some s => (match snapS s with | some _ => VR.ok D.non env | none => .bad)
      | none => .bad) _ _
    cases h : env[i]? with
    | none => trivial
    | some s =>
      cases hs : snapS s with
      | none => simp only [hs]; trivial
      | some y =>
        simp only [hs]
        obtain ⟨d, w, _⟩ := hev env S o y s h hs
        rw [w]
        refine Sv.ret o ⟨?_, rfl⟩
        rw [ap_var] at w ⊢
        cases hl : l[i]? with
        | none => rw [hl] at w; cases w
        | some od =>
          cases od with
          | none => rw [hl] at w; cases w
          | some d' => rw [hl] at w; cases w; rfl
  · have hy : (match e2[i]? with | some s => snapS s | none => none) = some y := hy
    cases h : e2[i]? with
    | none => rw [h] at hy; cases hy
    | some s =>
      rw [h] at hy
      obtain ⟨d', w, w2⟩ := hev e2 S2 o2 y s h hy
      have : d' = d := by
        rw [ap_var] at w q
        cases hl : l[i]? with
        | none => rw [hl] at w; cases w
        | some od =>
          cases od with
          | none => rw [hl] at w; cases w
          | some d2 => rw [hl] at w q; cases w; cases q; rfl
      subst this
      exact w2
theorem srs_nil : SRs io aNil [] := fun c env l S fts hi o => Sv.ret o fun e2 S2 ys _ h => by cases h; exact ⟨flats_nil, fzs_nil, rfl⟩
theorem srs_cons (ha : SR io A a) (hr : SRs io r os) : SRs io (aCons A r) (a :: os) := fun c env l S fts hi o => by
  unfold osEv aCons
  refine Sv.bind (ha c env l S fts hi o) fun x e1 d1 S1 o1 r1 => Sv.bind (hr c e1 l S1 fts hi o1) fun y e2 d2 S2 o2 r2 => ?_
  refine Sv.ret o2 fun e3 S3 ys o3 h => ?_
  unfold osRd at h
  cases h1 : a.rd e3 x with
  | none => rw [h1] at h; cases h
  | some z =>
    cases h2 : osRd os e3 y with
    | none => rw [h1, h2] at h; cases h
    | some zs =>
      rw [h1, h2] at h
      cases h
      obtain ⟨a1, a2⟩ := r1 e3 S3 z o3 h1
      obtain ⟨b1, b2, b3⟩ := r2 e3 S3 zs o3 h2
      refine ⟨flats_cons.mpr ⟨a1, b1⟩, ?_, by simp [b3]⟩
      show sbDs _ (d1 :: d2) = _
      rw [fzs_cons, show sbD (fzR c.S0.length S3 4) d1 = some z from a2, show sbDs (fzR c.S0.length S3 4) d2 = some zs from b2]
      rfl
theorem ss_retT (hr : SRs io r os) : SS io (sRet (eTup r)) (vsRetT os) := fun c env l S fts hi o => by
  have e : sRet (eTup r) l S = (r l S).toS l fun ds S1 => if ds.length ≤ sizeLine then .ret (.tup ds) S1 else .bad := by
    unfold sRet eTup
    cases r l S with
    | ok ds S1 =>
      show ((if ds.length ≤ sizeLine then Res.ok (D.tup ds) S1 else .bad).toS l fun d S1 => .ret d S1) = if ds.length ≤ sizeLine then .ret (.tup ds) S1 else .bad
      by_cases hz : ds.length ≤ sizeLine
      · rw [if_pos hz, if_pos hz]; rfl
      · rw [if_neg hz, if_neg hz]; rfl
    | exc k S1 => rfl
    | bad => rfl
  rw [e]
  refine So.of (hr c env l S fts hi o) fun x e1 ds S1 o1 r1 => ?_
  cases h : osRd os e1 x with
  | none => trivial
  | some ys =>
    obtain ⟨a1, a2, a3⟩ := r1 e1 S1 ys o1 h
    simp only
    by_cases hz : ys.length ≤ sizeLine
    · rw [if_pos hz, if_pos (by rw [a3]; exact hz)]
      refine ⟨_, l, S1, fts, rfl, o1, flat_tup.mpr a1, ?_⟩
      unfold fzD sbD
      rw [show sbDs (fzR c.S0.length S1 4) ds = some ys from a2]
      rfl
    · rw [if_neg hz]; trivial
end
end VL

/-! VL11: the rule of a def; the end of a law. -/
namespace VL
open PySem PySem.Spec PyProof.Rows L2 DL
def ioF (l : List Bool) : Nat → Bool := fun i => l.getD i false
def mskO (b : Bool) (s : Sl) : Sl := if b = true then s else .no
def isNo : Sl → Bool
  | .no => true
  | _ => false
def okOuts : List Bool → Env → Bool
  | b :: bs, s :: ss => (!b || !isNo s) && okOuts bs ss
  | _, _ => true
def fin (ios : List Bool) (r : Sl) (e : Env) : FR := if okOuts ios e = true then .ok r (List.zipWith mskO ios e) else .bad
/-- what comes out by the way of ending -/
def outM : Mode → Sl → Option Sl
  | .fr, .va x => some (.va x)
  | .fr, .lv xs => some (.va (.lst xs))
  | .fr, .di es => some (.va (.dic false es))
  | .nw, .lv xs => some (.lv xs)
  | .rw, r => some r
  | _, _ => none
def vFun (m : Mode) (ios : List Bool) (N : Nat) (V : VS) : List Sl → FR := fun ss => if ss.length = ios.length then (match V (ss ++ List.replicate (N - ios.length) .no) with
  | .next e => (match outM m (.va .non) with | some r => fin ios r e | none => .bad)
  | .ret r e => (match outM m r with | some r' => fin ios r' e | none => .bad)
  | .retf x e => (match m with | .fr => fin ios (.va x) e | _ => .bad)
  | .exc k e => if okOuts ios e = true then .exc k (List.zipWith mskO ios e) else .bad
  | _ => .bad) else .bad
theorem rep_at {α : Type} {a : α} {k i : Nat} {x : α} (h : (List.replicate k a)[i]? = some x) : x = a := by
  rw [List.getElem?_replicate] at h
  split at h
  · exact (Option.some.inj h).symm
  · cases h
theorem app_at {α : Type} {xs : List α} {a : α} {k i : Nat} {x : α} (h : (xs ++ List.replicate k a)[i]? = some x) : (xs[i]? = some x ∧ i < xs.length) ∨ (x = a ∧ xs.length ≤ i) := by
  by_cases hi : i < xs.length
  · rw [List.getElem?_append_left hi] at h; exact .inl ⟨h, hi⟩
  · rw [List.getElem?_append_right (by omega)] at h; exact .inr ⟨rep_at h, by omega⟩
theorem RV.ext {ss : List Sl} {ds : List D} {S : Sto} {fts : List FT} (r : RV ss (ds.map some) S fts) (k : Nat) : RV (ss ++ List.replicate k .no) (ds.map some ++ List.replicate k none) S (fts ++ List.replicate k .val) := by
  have h1 : ds.length = ss.length := by simpa using r.l1
  have h2 := r.l2
  refine ⟨by simp [h1], by simp [h2], fun i s t e1 e2 e3 => ?_, fun i t e1 e2 => ?_, fun i j t u n e1 e2 a b => ?_, fun i t e => ?_⟩
  · rcases app_at e1 with ⟨a, ha⟩ | ⟨rfl, _⟩
    · rcases app_at e2 with ⟨b, hb⟩ | ⟨_, hb⟩
      · obtain ⟨x, y⟩ := r.sl i s t a b e3
        exact ⟨by rw [List.getElem?_append_left (by simp; omega)]; exact x, y⟩
      · omega
    · exact absurd rfl e3
  · rcases app_at e2 with ⟨b, hb⟩ | ⟨rfl, _⟩
    · rcases app_at e1 with ⟨a, ha⟩ | ⟨_, ha⟩
      · exact r.no i t a b
      · omega
    · rfl
  · rcases app_at e1 with ⟨x, _⟩ | ⟨rfl, _⟩
    · rcases app_at e2 with ⟨y, _⟩ | ⟨rfl, _⟩
      · exact r.nd i j t u n x y a b
      · rw [foot_val] at b; cases b
    · rw [foot_val] at a; cases a
  · rcases app_at e with ⟨x, _⟩ | ⟨rfl, _⟩
    · exact r.nd1 i t x
    · rw [foot_val]; exact List.nodup_nil
theorem okOuts_at : ∀ {ios : List Bool} {e : Env} {i : Nat}, okOuts ios e = true → ioF ios i = true → e[i]? = some .no → False
  | [], e, i, _, h, _ => by unfold ioF at h; simp at h
  | b :: bs, [], i, _, _, h => by simp at h
  | b :: bs, s :: ss, 0, h, hi, he => by
    simp at he
    subst he
    have hb : b = true := by simpa [ioF] using hi
    subst hb
    unfold okOuts isNo at h
    simp at h
  | b :: bs, s :: ss, i + 1, h, hi, he => by
    unfold okOuts at h
    rw [Bool.and_eq_true] at h
    exact okOuts_at (ios := bs) (e := ss) (i := i) h.2 (by simpa [ioF] using hi) (by simpa using he)
theorem msk_at {ios : List Bool} {e : Env} {i : Nat} {s : Sl} (hi : ioF ios i = true) (h : (List.zipWith mskO ios e)[i]? = some s) : e[i]? = some s := by
  rw [List.getElem?_zipWith] at h
  unfold ioF at hi
  rw [List.getD_eq_getElem?_getD] at hi
  cases hb : ios[i]? with
  | none => rw [hb] at hi; cases hi
  | some b =>
    rw [hb] at hi h
    have hb : b = true := hi
    subst hb
    cases he : e[i]? with
    | none => rw [he] at h; cases h
    | some s' => rw [he] at h; simpa [mskO] using h
section
variable {ios : List Bool} {N : Nat} {B : Stm} {V : VS}
/-- the run of a def, from its arguments -/
theorem fun_in (hb : SS (ioF ios) B V) {S : Sto} {ds : List D} {ss : List Sl} {fts : List FT} (r : RV ss (ds.map some) S fts) (hv : ∀ (i : Nat) (t : FT), ioF ios i = false → fts[i]? = some t → t = .val) :
    So ⟨S, ioF ios, ds.map some ++ List.replicate (N - ios.length) none, fts ++ List.replicate (N - ios.length) .val⟩ (V (ss ++ List.replicate (N - ios.length) .no)) (B (ds.map some ++ List.replicate (N - ios.length) none) S) := by
  refine hb _ _ _ _ (fts ++ List.replicate (N - ios.length) .val) rfl ⟨r.ext _, Nat.le_refl _, fun i _ => ⟨rfl, rfl⟩, fun i t m hi ht hm => ?_, rfl, fun i t m _ ht hm => (r.ext (N - ios.length)).lt ht hm, fun _ _ _ => rfl⟩
  rcases app_at ht with ⟨x, _⟩ | ⟨rfl, _⟩
  · rw [hv i t hi x, foot_val] at hm; cases hm
  · rw [foot_val] at hm; cases hm
/-- behind it -/
theorem fun_out {S S' : Sto} {ds : List D} {ss : List Sl} {fts fts' : List FT} {e : Env} {l' : DL.Loc} (r : RV ss (ds.map some) S fts) (hs : ss.length = ios.length) (hN : ios.length ≤ N) (o : Ok ⟨S, ioF ios, ds.map some ++ List.replicate (N - ios.length) none, fts ++ List.replicate (N - ios.length) .val⟩ e l' S' fts') (hok : okOuts ios e = true) :
    TrOk S S' ∧ Post (ioF ios) S S' ds ss (List.zipWith mskO ios e) fts ∧ ∀ S2 : Sto, S.length ≤ S2.length → (∀ m, m < S.length → S2[m]? = S'[m]?) → Post (ioF ios) S S2 ds ss (List.zipWith mskO ios e) fts := by
  have h1 : ds.length = ss.length := by simpa using r.l1
  have h2 := r.l2
  have he : e.length = N := by
    have := o.ln
    have := o.rv.l1
    simp at *
    omega
  have iot : ∀ (i : Nat) (t : FT), ioF ios i = true → fts[i]? = some t → i < ios.length ∧ fts'[i]? = some t ∧ l'[i]? = (ds.map some)[i]? := fun i t hi ht => by
    have hin : i < ios.length := by have := (List.getElem?_eq_some_iff.mp ht).1; omega
    obtain ⟨a, b⟩ := o.io i hi
    refine ⟨hin, ?_, ?_⟩
    · rw [b]; show (fts ++ List.replicate (N - ios.length) .val)[i]? = _; rw [List.getElem?_append_left (by omega)]; exact ht
    · rw [a]; show (ds.map some ++ List.replicate (N - ios.length) none)[i]? = _; rw [List.getElem?_append_left (by simp; omega)]
  have out : ∀ (i : Nat) (s : Sl) (t : FT), ioF ios i = true → (List.zipWith mskO ios e)[i]? = some s → fts[i]? = some t → Own S' s t ∧ ds[i]? = some (rootD s t) ∧ ∀ m ∈ foot t, m < S.length := fun i s t hi hs' ht => by
    obtain ⟨hin, q1, q2⟩ := iot i t hi ht
    have hs2 : e[i]? = some s := msk_at hi hs'
    have hno : s ≠ .no := fun z => by subst z; exact okOuts_at hok hi hs2
    obtain ⟨a, b⟩ := o.rv.sl i s t hs2 q1 hno
    rw [q2] at a
    rw [List.getElem?_map] at a
    cases hd : ds[i]? with
    | none => rw [hd] at a; cases a
    | some d => rw [hd] at a; exact ⟨b, by rw [Option.some.inj (Option.some.inj a)], fun m hm => r.lt ht hm⟩
  have fr : ∀ m, m < S.length → (∀ (i : Nat) (t : FT), ioF ios i = true → fts[i]? = some t → m ∉ foot t) → S'[m]? = S[m]? := fun m hm hf => o.fr m hm fun i t hi ht hmt => by
    have ht : (fts ++ List.replicate (N - ios.length) .val)[i]? = some t := ht
    rcases app_at ht with ⟨x, _⟩ | ⟨rfl, _⟩
    · exact hf i t hi x hmt
    · rw [foot_val] at hmt; cases hmt
  have ln : (List.zipWith mskO ios e).length = ss.length := by rw [List.length_zipWith]; omega
  refine ⟨tr_ok (fun m => ∃ (i : Nat) (t : FT), ioF ios i = true ∧ fts[i]? = some t ∧ m ∈ foot t) o.le (fun m hm hP => fr m hm fun i t a b c => hP ⟨i, t, a, b, c⟩) fun m hm ⟨i, t, a, b, c⟩ => ?_, ⟨o.le, ln, fun i s t a b c => ⟨(out i s t a b c).1, (out i s t a b c).2.1⟩, fr⟩, fun S2 hl2 hk => ⟨hl2, ln, fun i s t a b c => ?_, fun m hm hf => (hk m hm).trans (fr m hm hf)⟩⟩
  · have hin := (iot i t a b).1
    have hi : i < (List.zipWith mskO ios e).length := by omega
    obtain ⟨x, _, z⟩ := out i _ t a (List.getElem?_eq_getElem hi) b
    exact ((Own.cells t _ x).1 S.length z).2 m c
  · obtain ⟨x, y, z⟩ := out i s t a b c
    exact ⟨Own.keep t s (fun m hm => hk m (z m hm)) x, y⟩
theorem take_back {S S' : Sto} (h : S.length ≤ S'.length) : S.length ≤ (S'.take S.length).length ∧ ∀ m, m < S.length → (S'.take S.length)[m]? = S'[m]? := ⟨by rw [List.length_take]; omega, fun m hm => take_at hm⟩
theorem len_of {c : Bs} {e : Env} {l : DL.Loc} {S : Sto} {fts : List FT} (o : Ok c e l S fts) : l.length = e.length := o.rv.l1
theorem Gl.fin {S : Sto} {ds : List D} {ss : List Sl} {fts : List FT} {X : Res D} {r : Sl} {e : Env} (h : okOuts ios e = true → Gl (ioF ios) S ds ss fts X (.ok r (List.zipWith mskO ios e))) : Gl (ioF ios) S ds ss fts X (fin ios r e) := by
  unfold VL.fin
  by_cases hok : okOuts ios e = true
  · rw [if_pos hok]; exact h hok
  · rw [if_neg hok]; trivial
theorem val_nd : (foot .val).Nodup := by rw [foot_val]; exact List.nodup_nil
theorem val_lo {N : Nat} : ∀ n ∈ foot .val, N ≤ n := fun n hn => by rw [foot_val] at hn; cases hn
/-- THE RULE OF A DEF -/
theorem sf_of (m : Mode) (hb : SS (ioF ios) B V) (hN : ios.length ≤ N := by decide) : SF (ioF ios) (runF ios.length N m B) (vFun m ios N V) := fun S ds ss fts r hno hv => by
  have h1 : ds.length = ss.length := by simpa using r.l1
  unfold vFun
  by_cases hs : ss.length = ios.length
  case neg => rw [if_neg hs]; trivial
  rw [if_pos hs]
  have q := fun_in (N := N) hb r hv
  have run : runF ios.length N m B ds S = match B (ds.map some ++ List.replicate (N - ios.length) none) S with
    | .next _ S' => exitM m S .non S'
    | .ret d S' => exitM m S d S'
    | .exc x _ S' => exitMX m S x S'
    | _ => .bad := by
    unfold runF
    rw [if_pos (by omega)]
    first | done | (cases B (ds.map some ++ List.replicate (N - ios.length) none) S <;> rfl)
  rw [run]
  cases hVe : V (ss ++ List.replicate (N - ios.length) .no) with
  | brk e => trivial
  | cont e => trivial
  | bad => trivial
  | next e =>
    rw [hVe] at q
    obtain ⟨l', S', fts', h, o⟩ := q
    rw [h]
    cases m with
    | nw => trivial
    | fr =>
      refine Gl.fin fun hok => ?_
      obtain ⟨t1, t2, t3⟩ := fun_out r hs hN o hok
      obtain ⟨w1, w2⟩ := take_back t1.1
      exact ⟨.non, _, .val, exitD_of t1 (fz_flat flat_non), t3 _ w1 w2, own_va.mpr flat_non, rfl, val_nd, val_lo⟩
    | rw =>
      refine Gl.fin fun hok => ?_
      obtain ⟨t1, t2, t3⟩ := fun_out r hs hN o hok
      exact ⟨.non, S', .val, rfl, t2, own_va.mpr flat_non, rfl, val_nd, val_lo⟩
  | exc k e =>
    rw [hVe] at q
    obtain ⟨l', S', fts', h, o⟩ := q
    rw [h]
    show Gl (ioF ios) S ds ss fts (exitMX m S k S') (if okOuts ios e = true then FR.exc k (List.zipWith mskO ios e) else .bad)
    by_cases hok : okOuts ios e = true
    · rw [if_pos hok]
      obtain ⟨t1, t2, t3⟩ := fun_out r hs hN o hok
      obtain ⟨w1, w2⟩ := take_back t1.1
      cases m with
      | fr => exact ⟨_, exitX_of t1, t3 _ w1 w2⟩
      | nw => exact ⟨_, exitX_of t1, t3 _ w1 w2⟩
      | rw => exact ⟨S', rfl, t2⟩
    · rw [if_neg hok]; trivial
  | retf x e =>
    rw [hVe] at q
    obtain ⟨d, l', S', fts', h, o, f1, f2⟩ := q
    rw [h]
    cases m with
    | nw => trivial
    | rw => trivial
    | fr =>
      refine Gl.fin fun hok => ?_
      obtain ⟨t1, t2, t3⟩ := fun_out r hs hN o hok
      obtain ⟨w1, w2⟩ := take_back t1.1
      exact ⟨x, _, .val, exitD_of t1 f2, t3 _ w1 w2, own_va.mpr f1, rfl, val_nd, val_lo⟩
  | ret rr e =>
    rw [hVe] at q
    obtain ⟨d, l', S', fts', ft, h, o, f1, rfl, f3, f4⟩ := q
    rw [h]
    show Gl (ioF ios) S ds ss fts (exitM m S (rootD rr ft) S') (match outM m rr with | some r' => fin ios r' e | none => .bad)
    cases ho : outM m rr with
    | none => trivial
    | some r' =>
      refine Gl.fin fun hok => ?_
      obtain ⟨t1, t2, t3⟩ := fun_out r hs hN o hok
      obtain ⟨w1, w2⟩ := take_back t1.1
      have lo : ∀ k ∈ foot ft, S.length ≤ k := f4
      cases m with
      | rw => cases ho; exact ⟨_, S', ft, rfl, t2, f1, rfl, f3, lo⟩
      | fr =>
        rcases own_cases f1 with ⟨x, rfl, rfl, hd⟩ | ⟨xs, k, rfl, rfl, h3, h4⟩ | ⟨xs, k, rfl, rfl, h3, h4⟩ | ⟨_, _, _, rfl, _⟩ | ⟨_, _, _, _, _, rfl, _⟩
        · cases ho
          exact ⟨x, _, .val, exitD_of t1 (fz_flat hd), t3 _ w1 w2, own_va.mpr hd, rfl, val_nd, val_lo⟩
        · cases ho
          exact ⟨_, _, .val, exitD_of t1 (fz_lst h3 (lo k (by unfold foot; simp)) h4), t3 _ w1 w2, own_va.mpr (flat_lst.mpr h4), rfl, val_nd, val_lo⟩
        · cases ho
          exact ⟨_, _, .val, exitD_of t1 (fz_dic h3 (lo k (by unfold foot; simp)) h4), t3 _ w1 w2, own_va.mpr (flat_dic.mpr h4), rfl, val_nd, val_lo⟩
        · cases ho
        · cases ho
      | nw =>
        rcases own_cases f1 with ⟨x, rfl, rfl, hd⟩ | ⟨xs, k, rfl, rfl, h3, h4⟩ | ⟨xs, k, rfl, rfl, h3, h4⟩ | ⟨_, _, _, rfl, _⟩ | ⟨_, _, _, _, _, rfl, _⟩
        · cases ho
        · cases ho
          have hl : (S'.take S.length).length = S.length := by rw [List.length_take]; have := t1.1; omega
          refine ⟨_, _, .cell S.length, exitN_of t1 (lo k (by unfold foot; simp)) h3 h4, t3 _ (by simp [hl]) fun m hm => (List.getElem?_append_left (by omega)).trans (take_at hm), own_lv.mpr ⟨?_, h4⟩, rfl, by unfold foot; simp, fun n hn => ?_⟩
          · have w := @get_last (S'.take S.length) (.lst xs)
            rw [hl] at w
            exact w
          · unfold foot at hn; simp at hn; omega
        · cases ho
        · cases ho
        · cases ho
end
/-- a def of values alone: from its run over values, its run over the store -/
theorem sf_pure {F : List D → Sto → Res D} {VF : List Sl → FR} {io : Nat → Bool} (h : SF io F VF) {xs : List D} {y : D} {outs : List Sl} (hf : flats xs) (hv : VF (xs.map .va) = .ok (.va y) outs) (S : Sto) : ∃ S', F xs S = .ok y S' := by
  have r : RV (xs.map .va) (xs.map some) S (List.replicate xs.length .val) := by
    refine ⟨by simp, by simp, fun i s t e1 e2 _ => ?_, fun i t _ e => rep_at e, fun i j t u n e1 _ a _ => ?_, fun i t e => ?_⟩
    · rw [List.getElem?_map] at e1 ⊢
      cases hx : xs[i]? with
      | none => rw [hx] at e1; cases e1
      | some x =>
        rw [hx] at e1
        cases e1
        obtain rfl := rep_at e2
        exact ⟨rfl, own_va.mpr (flats_iff.mp hf x (List.mem_of_getElem? hx))⟩
    · obtain rfl := rep_at e1
      rw [foot_val] at a; cases a
    · obtain rfl := rep_at e; exact val_nd
  have q := h S xs (xs.map .va) _ r (fun s hs => by rw [List.mem_map] at hs; obtain ⟨x, _, rfl⟩ := hs; intro z; cases z) fun i t _ e => rep_at e
  rw [hv] at q
  obtain ⟨d, S', ft, h1, _, h2, rfl, _⟩ := q
  rcases own_cases h2 with ⟨d', z, rfl, _⟩ | ⟨_, _, z, _⟩ | ⟨_, _, z, _⟩ | ⟨_, _, _, z, _⟩ | ⟨_, _, _, _, _, z, _⟩
  · cases z; exact ⟨S', h1⟩
  all_goals cases z
end VL

/-! VL12: reading what the second reading says. -/
namespace VL
open PySem PySem.Spec PyProof.Rows L2 DL
section
variable {α β : Type} {e : Env} {A B : VE} {a b c : Opd} {g g' : D → D → Sto → Res D} {h : D → Sto → Res D} {i : Nat} {p : Path} {d x y : D}
theorem vb_ok {x : α} {k : α → Env → VR β} : (VR.ok x e).bind k = k x e := rfl
theorem vb_exc {n : Nat} {k : α → Env → VR β} : (VR.exc n e : VR α).bind k = .exc n e := rfl
theorem vo_ok {x : α} {k : α → Env → VO} : (VR.ok x e).toO k = k x e := rfl
theorem vo_exc {n : Nat} {k : α → Env → VO} : (VR.exc n e : VR α).toO k = .exc n e := rfl
theorem tv_ok {x : α} {S : Sto} : toV (Res.ok x S) e = .ok x e := rfl
theorem tv_exc {n : Nat} {S : Sto} : toV (Res.exc n S : Res α) e = .exc n e := rfl
theorem ov_ev : (oV A).ev e = A e := rfl
theorem ov_rd : (oV A).rd e x = some x := rfl
theorem on_ev : (oN i).ev e = match e[i]? with
  | some s => (match snapS s with | some _ => .ok .non e | none => .bad)
  | none => .bad := rfl
theorem on_rd : (oN i).rd e x = match e[i]? with
  | some s => snapS s
  | none => none := rfl
theorem op_ev : (oP i p).ev e = match getP e i p with
  | some s => (match snapL s with | some _ => .ok .non e | none => .bad)
  | none => .bad := rfl
theorem op_rd : (oP i p).rd e x = match getP e i p with
  | some s => snapL s
  | none => none := rfl
theorem snap_va : snapS (.va d) = some d := rfl
theorem snap_lv {xs : List D} : snapS (.lv xs) = some (.lst xs) := rfl
theorem snap_di {xs : List D} : snapS (.di xs) = some (.dic false xs) := rfl
theorem snapl_lv {xs : List D} : snapL (.lv xs) = some (.lst xs) := rfl
theorem snapl_di {xs : List D} : snapL (.di xs) = some (.dic false xs) := rfl
def rd1 (h : D → Sto → Res α) (x : Option D) (e : Env) : VR α := match x with
  | some x => toV (h x []) e
  | none => .bad
def rd2 (g : D → D → Sto → Res D) (x y : Option D) (e : Env) : VR D := match x, y with
  | some x, some y => toV (g x y []) e
  | _, _ => .bad
theorem rd1_some {h : D → Sto → Res α} : rd1 h (some x) e = toV (h x []) e := rfl
theorem rd2_some : rd2 g (some x) (some y) e = toV (g x y []) e := rfl
theorem av_c : vC d e = .ok d e := rfl
theorem av_val : vVal i e = match e[i]? with
  | some (.va d) => .ok d e
  | _ => .bad := rfl
theorem av_fld : vFld i p e = match getP e i p with
  | some (.va d) => .ok d e
  | _ => .bad := rfl
theorem av_op2 : vOp2 g a b e = (a.ev e).bind fun x e1 => (b.ev e1).bind fun y e2 => rd2 g (a.rd e2 x) (b.rd e2 y) e2 := rfl
theorem av_op1 : vOp1 h a e = (a.ev e).bind fun x e1 => rd1 h (a.rd e1 x) e1 := rfl
def vBl (x : D) (k : Bool → VR β) : VR β := match x with
  | .bl b => k b
  | _ => .bad
theorem vbl {b : Bool} {k : Bool → VR β} : vBl (.bl b) k = k b := rfl
theorem av_chain : vChain g g' a b c e = (a.ev e).bind fun x e1 => (b.ev e1).bind fun y e2 => (rd2 g (a.rd e2 x) (b.rd e2 y) e2).bind fun z e3 => vBl z fun k => if k = true then (c.ev e3).bind fun u e4 => rd2 g' (b.rd e4 y) (c.rd e4 u) e4 else .ok (.bl false) e3 := by
  unfold vChain rd2 vBl
  congr 1; funext x e1; congr 1; funext y e2
  cases a.rd e2 x <;> cases b.rd e2 y <;> rfl
theorem av_and : vAnd A B e = (A e).bind fun x e1 => vBl x fun k => if k = true then B e1 else .ok (.bl false) e1 := rfl
theorem av_or : vOr A B e = (A e).bind fun x e1 => vBl x fun k => if k = true then .ok (.bl true) e1 else B e1 := rfl
theorem av_tr : vTr a e = (a.ev e).bind fun x e1 => rd1 truD (a.rd e1 x) e1 := rfl
theorem av_not : vNot a e = (vTr a e).bind fun k e1 => .ok (.bl (!k)) e1 := rfl
variable {t u : Env → VR Bool}
theorem av_if : vIf t A B e = (t e).bind fun k e1 => if k = true then A e1 else B e1 := rfl
theorem av_tval : vtVal A e = (A e).bind fun x e1 => vBl x fun k => .ok k e1 := rfl
theorem av_tand : vtAnd t u e = (t e).bind fun k e1 => if k = true then u e1 else .ok false e1 := rfl
theorem av_tor : vtOr t u e = (t e).bind fun k e1 => if k = true then .ok true e1 else u e1 := rfl
theorem av_tnot : vtNot t e = (t e).bind fun k e1 => .ok (!k) e1 := rfl
theorem av_ttrue : vtTrue e = .ok true e := rfl
variable {r : VAs}
theorem av_nil : vNil e = .ok [] e := rfl
theorem av_cons : vCons A r e = (A e).bind fun x e1 => (r e1).bind fun xs e2 => .ok (x :: xs) e2 := rfl
theorem av_tup : vTup r e = (r e).bind fun xs e1 => if xs.length ≤ sizeLine then .ok (.tup xs) e1 else .bad := rfl
theorem av_lst : vLst r e = (r e).bind fun xs e1 => if xs.length ≤ sizeLine then .ok (.lst xs) e1 else .bad := rfl
theorem av_lstm : vLstM r e = (r e).bind fun xs e1 => if xs.length ≤ sizeLine then .ok (.lv xs) e1 else .bad := rfl
def rdA (f : List D → Sto → Res D) (x : Option (List D)) (e : Env) : VR D := match x with
  | some xs => toV (f xs []) e
  | none => .bad
theorem rda_some {f : List D → Sto → Res D} {xs : List D} : rdA f (some xs) e = toV (f xs []) e := rfl
theorem av_app {f : List D → Sto → Res D} {os : List Opd} : vApp f os e = (osEv os e).bind fun xs e1 => rdA f (osRd os e1 xs) e1 := rfl
theorem os_nil : osEv [] e = .ok [] e := rfl
theorem os_cons {os : List Opd} : osEv (a :: os) e = (a.ev e).bind fun x e1 => (osEv os e1).bind fun xs e2 => .ok (x :: xs) e2 := rfl
theorem osr_nil : osRd [] e [] = some [] := rfl
def cons2 (x : Option D) (xs : Option (List D)) : Option (List D) := match x, xs with
  | some x, some xs => some (x :: xs)
  | _, _ => none
theorem cons2_some {xs : List D} : cons2 (some x) (some xs) = some (x :: xs) := rfl
theorem osr_cons {os : List Opd} {xs : List D} : osRd (a :: os) e (x :: xs) = cons2 (a.rd e x) (osRd os e xs) := rfl
theorem av_sl {q q' : VTP} : vSl a q q' e = (a.ev e).bind fun x e1 => (q e1).bind fun lo e2 => (q' e2).bind fun hi e3 => rd1 (fun x S => slD x lo hi S) (a.rd e3 x) e3 := rfl
theorem av_pno : vpNo e = .ok none e := rfl
theorem av_pat : vpAt A e = (A e).bind fun x e1 => (match x with
  | .int i => .ok (some i) e1
  | _ => .bad) := rfl
theorem av_va {M : Env → VR Sl} : vVa M e = (M e).bind fun r e1 => (match r with
  | .va x => .ok x e1
  | _ => .bad) := rfl
/-- calls -/
def frK (r : FR) (as : List Arg) (e : Env) : VR Sl := match r with
  | .ok r outs => .ok r (gPut as outs e)
  | .exc k outs => .exc k (gPut as outs e)
  | .bad => .bad
def slK (ss : Option (List Sl)) (VF : List Sl → FR) (as : List Arg) (e : Env) : VR Sl := match ss with
  | some ss => frK (VF ss) as e
  | none => .bad
theorem frk_ok {s : Sl} {os : List Sl} {as : List Arg} : frK (.ok s os) as e = .ok s (gPut as os e) := rfl
theorem frk_exc {k : Nat} {os : List Sl} {as : List Arg} : frK (.exc k os) as e = .exc k (gPut as os e) := rfl
theorem slk_some {ss : List Sl} {VF : List Sl → FR} {as : List Arg} : slK (some ss) VF as e = frK (VF ss) as e := rfl
theorem av_call {VF : List Sl → FR} {as : List Arg} : vCall VF as e = (gEv as e).bind fun xs e1 => slK (gSl as e1 xs) VF as e1 := rfl
theorem ge_nil : gEv [] e = .ok [] e := rfl
theorem ge_v {as : List Arg} : gEv (.v A :: as) e = (A e).bind fun x e1 => (gEv as e1).bind fun xs e2 => .ok (x :: xs) e2 := rfl
theorem ge_p {as : List Arg} : gEv (.p i p :: as) e = match handP e i p with
  | some _ => (gEv as e).bind fun xs e2 => .ok (.non :: xs) e2
  | none => .bad := rfl
def consS (x : Option Sl) (xs : Option (List Sl)) : Option (List Sl) := match x, xs with
  | some x, some xs => some (x :: xs)
  | _, _ => none
theorem conss_some {s : Sl} {xs : List Sl} : consS (some s) (some xs) = some (s :: xs) := rfl
theorem gs_nil : gSl [] e [] = some [] := rfl
theorem gs_v {as : List Arg} {xs : List D} : gSl (.v A :: as) e (x :: xs) = consS (some (.va x)) (gSl as e xs) := by
  show (match gSl as e xs with | some ss => some (Sl.va x :: ss) | none => none) = _
  cases gSl as e xs <;> rfl
theorem gs_p {as : List Arg} {xs : List D} : gSl (.p i p :: as) e (x :: xs) = consS (handP e i p) (gSl as e xs) := rfl
theorem gp_nil {os : List Sl} : gPut [] os e = e := rfl
theorem gp_v {as : List Arg} {s : Sl} {os : List Sl} : gPut (.v A :: as) (s :: os) e = gPut as os e := rfl
theorem gp_p {as : List Arg} {s : Sl} {os : List Sl} : gPut (.p i p :: as) (s :: os) e = gPut as os (putP e i p s) := rfl
theorem hand_lv {xs : List D} (h : e[i]? = some (.lv xs)) : handP e i [] = some (.lv xs) := by unfold handP getP; rw [h]; rfl
theorem hand_di {xs : List D} (h : e[i]? = some (.di xs)) : handP e i [] = some (.di xs) := by unfold handP getP; rw [h]; rfl
theorem hand_ins {k : Nat} {ns : List Str} {ss : List Sl} (h : e[i]? = some (.ins k ns ss)) : handP e i [] = some (.ins k ns ss) := by unfold handP getP; rw [h]; rfl
theorem hand_va (h : e[i]? = some (.va d)) : handP e i [] = some (.va d) := by unfold handP getP; rw [h]; rfl
def handS (s : Option Sl) : Option Sl := match s with
  | some .no => none
  | s => s
theorem hand_nil : handP e i [] = handS e[i]? := by
  unfold handP getP handS
  cases e[i]? with
  | none => rfl
  | some s => cases s <;> rfl
theorem hs_lv {xs : List D} : handS (some (.lv xs)) = some (.lv xs) := rfl
theorem hs_di {xs : List D} : handS (some (.di xs)) = some (.di xs) := rfl
theorem hs_va : handS (some (.va d)) = some (.va d) := rfl
theorem hs_ins {k : Nat} {ns : List Str} {ss : List Sl} : handS (some (.ins k ns ss)) = some (.ins k ns ss) := rfl
theorem get_nil : getP e i [] = e[i]? := by unfold getP; cases e[i]? <;> rfl
theorem put_nil {s : Sl} : putP e i [] s = e.set i s := by
  unfold putP
  cases h : e[i]? with
  | none => simp only; rw [List.set_eq_of_length_le (List.getElem?_eq_none_iff.mp h)]
  | some u => rfl
theorem av_mtl {m : List D → List D → Option (D × List D)} : vMtL m i p r e = match getP e i p with
  | some (.lv _) => (r e).bind fun ds e1 => (match getP e1 i p with
    | some (.lv xs) => (match m xs ds with
      | some (r, xs') => .ok r (putP e1 i p (.lv xs'))
      | none => .bad)
    | _ => .bad)
  | _ => .bad := rfl
theorem append_l {xs : List D} (h : xs.length < sizeLine) : appendL xs [y] = some (.non, xs ++ [y]) := by
  unfold appendL; simp only; rw [if_pos h]
theorem av_mtp {T : String} {f : D → List D → Sto → Res D} : vMtP T f a r e = (a.ev e).bind fun x e1 => match a.rd e1 x with
  | some x0 => if tyD [] x0 = some T then (r e1).bind fun ds e2 => (match a.rd e2 x with
    | some y => toV (f y ds []) e2
    | none => .bad) else .bad
  | none => .bad := rfl
end
section
variable {e : Env} {A : VE} {a b : VS} {t : Env → VR Bool} {i j : Nat} {d : D}
def vsK (o : VO) (b : VS) : VO := match o with
  | .next e1 => b e1
  | o => o
theorem vs_seq : vsSeq a b e = vsK (a e) b := rfl
theorem vsk_next : vsK (.next e) b = b e := rfl
theorem vsk_ret {r : Sl} : vsK (.ret r e) b = .ret r e := rfl
theorem vsk_retf : vsK (.retf d e) b = .retf d e := rfl
theorem vsk_brk : vsK (.brk e) b = .brk e := rfl
theorem vsk_cont : vsK (.cont e) b = .cont e := rfl
theorem vsk_exc {k : Nat} : vsK (.exc k e) b = .exc k e := rfl
theorem vs_nil : vsNil e = .next e := rfl
theorem vs_brk : vsBrk e = .brk e := rfl
theorem vs_cont : vsCont e = .cont e := rfl
theorem vs_expr : vsExpr A e = (A e).toO fun _ e1 => .next e1 := rfl
theorem vs_ret : vsRet A e = (A e).toO fun d e1 => .ret (.va d) e1 := rfl
theorem vs_retn : vsRetN e = .ret (.va .non) e := rfl
theorem vs_retm {M : Env → VR Sl} : vsRetM M e = (M e).toO fun r e1 => .ret r e1 := rfl
theorem vs_reti : vsRetI i e = match e[i]? with
  | some .no => .bad
  | some s => .ret s e
  | none => .bad := rfl
theorem vs_if : vsIf t a b e = (t e).toO fun k e1 => if k = true then a e1 else b e1 := rfl
theorem vs_set : vsSet i A e = (A e).toO fun d e1 => .next (e1.set i (.va d)) := rfl
theorem vs_setm {M : Env → VR Sl} : vsSetM i M e = (M e).toO fun s e1 => .next (e1.set i s) := rfl
theorem vs_asg {G : VG} : vsAsg A G e = (A e).toO fun d e1 => match G d e1 with
  | some e2 => .next e2
  | none => .bad := rfl
theorem vg_nm : vgNm i d e = some (e.set i (.va d)) := rfl
theorem vg_tp {is : List Nat} {xs : List D} : vgTp is (.tup xs) e = vgNms is xs e := rfl
theorem vgs_nil : vgNms [] [] e = some e := rfl
theorem vgs_cons {is : List Nat} {ds : List D} : vgNms (i :: is) (d :: ds) e = vgNms is ds (e.set i (.va d)) := rfl
theorem vs_par {r : VAs} : vsPar i j r e = (r e).toO fun ds e1 => match ds with
  | [x, y] => .next ((e1.set i (.va x)).set j (.va y))
  | _ => .bad := rfl
theorem vs_aug {g : D → D → Sto → Res D} : vsAug i g A e = match e[i]? with
  | some (.va x) => (A e).toO fun y e1 => (toV (g x y []) e1).toO fun z e2 => .next (e2.set i (.va z))
  | _ => .bad := rfl
theorem vs_sub {p : Path} {K : VE} : vsSub i p K A e = (A e).toO fun d e1 => match getP e1 i p with
  | some (.lv _) => (match K e1 with
    | .ok (.int k) e2 => (match getP e2 i p with
      | some (.lv xs) => (match ixN xs.length k with
        | some j => .next (putP e2 i p (.lv (xs.set j d)))
        | none => .bad)
      | _ => .bad)
    | _ => .bad)
  | _ => .bad := rfl
theorem vs_for {it : VI} {G : VG} {body : VS} : vsFor it G body e = (it e).toO fun ds e1 => vLoop G body ds e1 := rfl
theorem vi_seq : viSeq A e = (A e).bind fun x e1 => match seqOf [] x with
  | some xs => .ok xs e1
  | none => .bad := rfl
theorem vi_r1 {r : VAs} : viR1 r e = (r e).bind fun xs e1 => match xs with
  | [.int j] => rgK (small62 j) (.ok (rangeI 0 j.toNat) e1)
  | _ => .bad := rfl
theorem vi_r2 {r : VAs} : viR2 r e = (r e).bind fun xs e1 => match xs with
  | [.int i, .int j] => rgK (small62 i && small62 j) (.ok (rangeI i (j - i).toNat) e1)
  | _ => .bad := rfl
def loopV (o : VO) : VO := match o with
  | .cont e => .next e
  | o => o
theorem loopv_next : loopV (.next e) = .next e := rfl
theorem loopv_cont : loopV (.cont e) = .next e := rfl
/-- a loop that goes through -/
theorem vLoop_inv {G : VG} {body : VS} (P : Nat → Env → Prop) : ∀ (items : List D) {k : Nat} {e : Env}, P k e → (∀ i d e, items[i]? = some d → P (k + i) e → ∃ e1, G d e = some e1 ∧ ∃ e2, loopV (body e1) = .next e2 ∧ P (k + i + 1) e2) → ∃ e', vLoop G body items e = .next e' ∧ P (k + items.length) e'
  | [], k, e, h0, _ => ⟨e, rfl, h0⟩
  | d :: ds, k, e, h0, hs => by
    obtain ⟨e1, h1, e2, h2, h3⟩ := hs 0 d e rfl h0
    obtain ⟨e', q1, q2⟩ := vLoop_inv P ds (k := k + 1) (e := e2) h3 fun i d' e0 hd hp => by
      have := hs (i + 1) d' e0 (by simpa using hd) (by rw [show k + (i + 1) = k + 1 + i by omega]; exact hp)
      rwa [show k + (i + 1) + 1 = k + 1 + i + 1 by omega] at this
    refine ⟨e', ?_, by rw [List.length_cons, show k + (ds.length + 1) = k + 1 + ds.length by omega]; exact q2⟩
    unfold vLoop
    rw [h1]
    simp only
    cases hb : body e1 with
    | next e3 => rw [hb] at h2; cases h2; exact q1
    | cont e3 => rw [hb] at h2; cases h2; exact q1
    | _ => rw [hb] at h2; cases h2
/-- a loop that goes through, or ends in its body -/
theorem vLoop_or {G : VG} {body : VS} (P : Nat → Env → Prop) (Q : VO → Prop) : ∀ (items : List D) {k : Nat} {e : Env}, P k e → (∀ i d e, items[i]? = some d → P (k + i) e → ∃ e1, G d e = some e1 ∧ ((∃ e2, loopV (body e1) = .next e2 ∧ P (k + i + 1) e2) ∨ ((∀ e2, loopV (body e1) ≠ .next e2) ∧ Q (match body e1 with | .brk e => .next e | o => o)))) → (∃ e', vLoop G body items e = .next e' ∧ P (k + items.length) e') ∨ Q (vLoop G body items e)
  | [], k, e, h0, _ => .inl ⟨e, rfl, h0⟩
  | d :: ds, k, e, h0, hs => by
    obtain ⟨e1, h1, h2⟩ := hs 0 d e rfl h0
    have hv : vLoop G body (d :: ds) e = match body e1 with
      | .next e2 => vLoop G body ds e2
      | .cont e2 => vLoop G body ds e2
      | .brk e2 => .next e2
      | o => o := by
      show (match G d e with
        | none => VO.bad
        | some e1 => match body e1 with
          | .next e2 => vLoop G body ds e2
          | .cont e2 => vLoop G body ds e2
          | .brk e2 => .next e2
          | o => o) = _
      rw [h1]
    rw [hv]
    rcases h2 with ⟨e2, h2, h3⟩ | ⟨h2, h3⟩
    · have q := vLoop_or P Q ds (k := k + 1) (e := e2) h3 fun i d' e0 hd hp => by
        have := hs (i + 1) d' e0 (by simpa using hd) (by rw [show k + (i + 1) = k + 1 + i by omega]; exact hp)
        rwa [show k + (i + 1) + 1 = k + 1 + i + 1 by omega] at this
      rw [List.length_cons, show k + (ds.length + 1) = k + 1 + ds.length by omega]
      cases hb : body e1 with
      | next e3 => rw [hb] at h2; cases h2; exact q
      | cont e3 => rw [hb] at h2; cases h2; exact q
      | _ => rw [hb] at h2; cases h2
    · right
      cases hb : body e1 with
      | next e3 => rw [hb] at h2; exact absurd rfl (h2 e3)
      | cont e3 => rw [hb] at h2; exact absurd rfl (h2 e3)
      | _ => rw [hb] at h3; exact h3
/-- a loop as a fold -/
theorem vLoop_fold {G : VG} {body : VS} {σ : Type} (mk : σ → Env) (step : σ → D → σ) : ∀ (items : List D) (s : σ), (∀ s d, d ∈ items → ∃ e1, G d (mk s) = some e1 ∧ loopV (body e1) = .next (mk (step s d))) → vLoop G body items (mk s) = .next (mk (items.foldl step s))
  | [], s, _ => rfl
  | d :: ds, s, h => by
    obtain ⟨e1, h1, h2⟩ := h s d List.mem_cons_self
    unfold vLoop
    rw [h1]
    simp only
    have q := vLoop_fold mk step ds (step s d) fun s d' hd => h s d' (List.mem_cons_of_mem _ hd)
    cases hb : body e1 with
    | next e3 => rw [hb] at h2; cases h2; exact q
    | cont e3 => rw [hb] at h2; cases h2; exact q
    | _ => rw [hb] at h2; cases h2
end
/-! ### a def's run -/
section
variable {m : Mode} {ios : List Bool} {N : Nat} {V : VS} {ss : List Sl} {e : Env} {r r' : Sl} {x : D}
def vfK (m : Mode) (ios : List Bool) (o : VO) : FR := match o with
  | .next e => (match outM m (.va .non) with | some r => fin ios r e | none => .bad)
  | .ret r e => (match outM m r with | some r' => fin ios r' e | none => .bad)
  | .retf x e => (match m with | .fr => fin ios (.va x) e | _ => .bad)
  | .exc k e => if okOuts ios e = true then .exc k (List.zipWith mskO ios e) else .bad
  | _ => .bad
theorem vf_eq (hl : ss.length = ios.length) : vFun m ios N V ss = vfK m ios (V (ss ++ List.replicate (N - ios.length) .no)) := by
  unfold vFun vfK
  rw [if_pos hl]
  first | done | (cases V (ss ++ List.replicate (N - ios.length) .no) <;> rfl)
theorem vfk_va : vfK .fr ios (.ret (.va x) e) = fin ios (.va x) e := rfl
theorem vfk_lv {xs : List D} : vfK .fr ios (.ret (.lv xs) e) = fin ios (.va (.lst xs)) e := rfl
theorem vfk_di {xs : List D} : vfK .fr ios (.ret (.di xs) e) = fin ios (.va (.dic false xs)) e := rfl
theorem vfk_nlv {xs : List D} : vfK .nw ios (.ret (.lv xs) e) = fin ios (.lv xs) e := rfl
theorem vfk_rw : vfK .rw ios (.ret r e) = fin ios r e := by unfold vfK outM; cases r <;> rfl
theorem vfk_retf : vfK .fr ios (.retf x e) = fin ios (.va x) e := rfl
theorem vfk_next : vfK .fr ios (.next e) = fin ios (.va .non) e := rfl
theorem vfk_exc {k : Nat} : vfK m ios (.exc k e) = if okOuts ios e = true then .exc k (List.zipWith mskO ios e) else .bad := rfl
theorem fin_eq : fin ios r e = if okOuts ios e = true then .ok r (List.zipWith mskO ios e) else .bad := rfl
theorem oko_nil : okOuts [] e = true := by unfold okOuts; rfl
theorem oko_t {bs : List Bool} {s : Sl} : okOuts (true :: bs) (s :: e) = (!isNo s && okOuts bs e) := rfl
theorem oko_f {bs : List Bool} {s : Sl} : okOuts (false :: bs) (s :: e) = okOuts bs e := rfl
theorem no_va : isNo (.va x) = false := rfl
theorem no_lv {xs : List D} : isNo (.lv xs) = false := rfl
theorem no_di {xs : List D} : isNo (.di xs) = false := rfl
theorem no_ins {c : Nat} {ns : List Str} {ss : List Sl} : isNo (.ins c ns ss) = false := rfl
theorem msk_t {s : Sl} : mskO true s = s := rfl
theorem msk_f {s : Sl} : mskO false s = .no := rfl
theorem vf_ret (h : V (ss ++ List.replicate (N - ios.length) .no) = .ret r e) (ho : outM m r = some r') (hk : okOuts ios e = true) (hl : ss.length = ios.length) : vFun m ios N V ss = .ok r' (List.zipWith mskO ios e) := by
  unfold vFun
  rw [if_pos hl, h]
  simp only
  rw [ho]
  simp only
  unfold fin
  rw [if_pos hk]
theorem vf_retf (h : V (ss ++ List.replicate (N - ios.length) .no) = .retf x e) (hk : okOuts ios e = true) (hl : ss.length = ios.length) : vFun .fr ios N V ss = .ok (.va x) (List.zipWith mskO ios e) := by
  unfold vFun
  rw [if_pos hl, h]
  unfold fin
  simp only
  rw [if_pos hk]
theorem vf_next (h : V (ss ++ List.replicate (N - ios.length) .no) = .next e) (ho : outM m (.va .non) = some r') (hk : okOuts ios e = true) (hl : ss.length = ios.length) : vFun m ios N V ss = .ok r' (List.zipWith mskO ios e) := by
  unfold vFun
  rw [if_pos hl, h]
  simp only
  rw [ho]
  simp only
  unfold fin
  rw [if_pos hk]
theorem vf_exc {k : Nat} (h : V (ss ++ List.replicate (N - ios.length) .no) = .exc k e) (hk : okOuts ios e = true) (hl : ss.length = ios.length) : vFun m ios N V ss = .exc k (List.zipWith mskO ios e) := by
  unfold vFun
  rw [if_pos hl, h]
  simp only
  rw [if_pos hk]
end
theorem kb_NoneType_int : kitB "NoneType" "int" = some false := by decide +kernel
theorem kb_NoneType_bool : kitB "NoneType" "bool" = some false := by decide +kernel
theorem kb_NoneType_str : kitB "NoneType" "str" = some false := by decide +kernel
theorem kb_NoneType_tuple : kitB "NoneType" "tuple" = some false := by decide +kernel
theorem kb_NoneType_list : kitB "NoneType" "list" = some false := by decide +kernel
theorem kb_NoneType_dict : kitB "NoneType" "dict" = some false := by decide +kernel
theorem kb_bool_int : kitB "bool" "int" = some true := by decide +kernel
theorem kb_bool_bool : kitB "bool" "bool" = some true := by decide +kernel
theorem kb_bool_str : kitB "bool" "str" = some false := by decide +kernel
theorem kb_bool_tuple : kitB "bool" "tuple" = some false := by decide +kernel
theorem kb_bool_list : kitB "bool" "list" = some false := by decide +kernel
theorem kb_bool_dict : kitB "bool" "dict" = some false := by decide +kernel
theorem kb_int_int : kitB "int" "int" = some true := by decide +kernel
theorem kb_int_bool : kitB "int" "bool" = some false := by decide +kernel
theorem kb_int_str : kitB "int" "str" = some false := by decide +kernel
theorem kb_int_tuple : kitB "int" "tuple" = some false := by decide +kernel
theorem kb_int_list : kitB "int" "list" = some false := by decide +kernel
theorem kb_int_dict : kitB "int" "dict" = some false := by decide +kernel
theorem kb_str_int : kitB "str" "int" = some false := by decide +kernel
theorem kb_str_bool : kitB "str" "bool" = some false := by decide +kernel
theorem kb_str_str : kitB "str" "str" = some true := by decide +kernel
theorem kb_str_tuple : kitB "str" "tuple" = some false := by decide +kernel
theorem kb_str_list : kitB "str" "list" = some false := by decide +kernel
theorem kb_str_dict : kitB "str" "dict" = some false := by decide +kernel
theorem kb_tuple_int : kitB "tuple" "int" = some false := by decide +kernel
theorem kb_tuple_bool : kitB "tuple" "bool" = some false := by decide +kernel
theorem kb_tuple_str : kitB "tuple" "str" = some false := by decide +kernel
theorem kb_tuple_tuple : kitB "tuple" "tuple" = some true := by decide +kernel
theorem kb_tuple_list : kitB "tuple" "list" = some false := by decide +kernel
theorem kb_tuple_dict : kitB "tuple" "dict" = some false := by decide +kernel
theorem kb_list_int : kitB "list" "int" = some false := by decide +kernel
theorem kb_list_bool : kitB "list" "bool" = some false := by decide +kernel
theorem kb_list_str : kitB "list" "str" = some false := by decide +kernel
theorem kb_list_tuple : kitB "list" "tuple" = some false := by decide +kernel
theorem kb_list_list : kitB "list" "list" = some true := by decide +kernel
theorem kb_list_dict : kitB "list" "dict" = some false := by decide +kernel
theorem kb_dict_int : kitB "dict" "int" = some false := by decide +kernel
theorem kb_dict_bool : kitB "dict" "bool" = some false := by decide +kernel
theorem kb_dict_str : kitB "dict" "str" = some false := by decide +kernel
theorem kb_dict_tuple : kitB "dict" "tuple" = some false := by decide +kernel
theorem kb_dict_list : kitB "dict" "list" = some false := by decide +kernel
theorem kb_dict_dict : kitB "dict" "dict" = some true := by decide +kernel
theorem pow10 {j : Int} {S : Sto} (h0 : 0 ≤ j) (h1 : j ≤ 1000) : powD (.int 10) (.int j) S = .ok (.int (10 ^ j.toNat)) S := pow_ii ⟨h0, by omega, by decide⟩
/-! ### comprehensions -/
section
variable {it : VIc} {items : List D} {gd : Env → Prop} {e : Env} {i : Nat} {el : VE} {f : D → D} {t : Env → VR Bool} {q : D → Bool}
theorem rest1 {d : D} : restE (e.set i (.va d)) e [i] = e := by
  unfold restE restE
  cases h : e[i]? with
  | none => simp only; rw [List.set_eq_of_length_le (List.getElem?_eq_none_iff.mp h)]
  | some s =>
    simp only
    rw [List.set_set]
    obtain ⟨hi, rfl⟩ := List.getElem?_eq_some_iff.mp h
    exact List.set_getElem_self hi
theorem wipe1 {s : Sl} : (wipeE e [i]).set i s = e.set i s := by
  unfold wipeE wipeE; rw [List.set_set]
open Classical in
theorem lcl_map (hgd : gd e) : ∀ (items acc : List D), (∀ d ∈ items, t (e.set i (.va d)) = .ok (q d) (e.set i (.va d)) ∧ (q d = true → el (e.set i (.va d)) = .ok (f d) (e.set i (.va d)))) → acc.length + items.length ≤ sizeLine → vLcL gd (vgNm i) t el [i] e items e acc = .ok (acc ++ (items.filter q).map f) e
  | [], acc, _, _ => by unfold vLcL; rw [if_pos hgd]; simp
  | d :: ds, acc, h, hz => by
    unfold vLcL
    rw [if_pos hgd]
    rw [show vgNm i d (wipeE e [i]) = some (e.set i (.va d)) from congrArg some wipe1]
    simp only
    obtain ⟨h1, h2⟩ := h d List.mem_cons_self
    rw [h1, vb_ok]
    cases hq : q d with
    | true =>
      rw [if_pos rfl, h2 hq, vb_ok, if_pos (by simp at hz; omega), rest1, lcl_map hgd ds _ (fun d' hd => h d' (List.mem_cons_of_mem _ hd)) (by simp at hz ⊢; omega), List.filter_cons, hq]
      simp
    | false =>
      rw [if_neg Bool.false_ne_true, rest1, lcl_map hgd ds _ (fun d' hd => h d' (List.mem_cons_of_mem _ hd)) (by simp at hz ⊢; omega), List.filter_cons, hq]
      simp
theorem lcx_map (h0 : it e = .ok (items, gd) e) (hgd : gd e) (hp : plainS e[i]? = true) (h : ∀ d ∈ items, t (e.set i (.va d)) = .ok (q d) (e.set i (.va d)) ∧ (q d = true → el (e.set i (.va d)) = .ok (f d) (e.set i (.va d)))) (hz : items.length ≤ sizeLine) :
    vLcX it (vgNm i) t el [i] e = .ok ((items.filter q).map f) e := by
  unfold vLcX
  rw [h0, vb_ok, if_pos (by simp [hp]), lcl_map hgd items [] h (by simpa using hz)]
  rfl
theorem lcv_map (h0 : it e = .ok (items, gd) e) (hgd : gd e) (hp : plainS e[i]? = true) (h : ∀ d ∈ items, el (e.set i (.va d)) = .ok (f d) (e.set i (.va d))) (hz : items.length ≤ sizeLine) :
    vLc it (vgNm i) vtTrue el [i] e = .ok (.lst (items.map f)) e := by
  unfold vLc
  rw [lcx_map (t := vtTrue) (q := fun _ => true) h0 hgd hp (fun d hd => ⟨rfl, fun _ => h d hd⟩) hz, vb_ok, List.filter_eq_self.mpr (fun _ _ => rfl)]
theorem lcv_filter (h0 : it e = .ok (items, gd) e) (hgd : gd e) (hp : plainS e[i]? = true) (h : ∀ d ∈ items, t (e.set i (.va d)) = .ok (q d) (e.set i (.va d)) ∧ (q d = true → el (e.set i (.va d)) = .ok (f d) (e.set i (.va d)))) (hz : items.length ≤ sizeLine) :
    vLc it (vgNm i) t el [i] e = .ok (.lst ((items.filter q).map f)) e := by
  unfold vLc
  rw [lcx_map h0 hgd hp h hz, vb_ok]
theorem vc_i {V : VI} {xs : List D} {e1 : Env} (h : V e = .ok xs e1) : vcI V e = .ok (xs, fun _ => True) e1 := by unfold vcI; rw [h]; rfl
/-- an element's effects on what is held -/
theorem lcl_ex (P : Env → Prop) (Q : D → Prop) {e0 : Env} (hgd : ∀ e, P e → gd e) (hl : ∀ e, P e → e.length = e0.length ∧ e[i]? = e0[i]?) : ∀ (items acc : List D) (e : Env), P e → (∀ d ∈ items, ∀ e, P e → ∃ y e', el (e.set i (.va d)) = .ok y e' ∧ Q y ∧ P (restE e' e0 [i])) → acc.length + items.length ≤ sizeLine →
    ∃ ys e', vLcL gd (vgNm i) vtTrue el [i] e0 items e acc = .ok (acc ++ ys) e' ∧ P e' ∧ ys.length = items.length ∧ ∀ y ∈ ys, Q y
  | [], acc, e, hp, _, _ => ⟨[], e, by unfold vLcL; rw [if_pos (hgd e hp), List.append_nil], hp, rfl, fun y hy => by cases hy⟩
  | d :: ds, acc, e, hp, h, hz => by
    obtain ⟨y, e1, h1, h2, h3⟩ := h d List.mem_cons_self e hp
    obtain ⟨ys, e', q1, q2, q3, q4⟩ := lcl_ex P Q hgd hl ds (acc ++ [y]) _ h3 (fun d' hd => h d' (List.mem_cons_of_mem _ hd)) (by simp at hz ⊢; omega)
    refine ⟨y :: ys, e', ?_, q2, by simp [q3], fun z hz => by rcases List.mem_cons.mp hz with rfl | hz; exact h2; exact q4 z hz⟩
    unfold vLcL
    rw [if_pos (hgd e hp), show vgNm i d (wipeE e [i]) = some (e.set i (.va d)) from congrArg some wipe1]
    simp only
    rw [av_ttrue, vb_ok, if_pos rfl, h1, vb_ok, if_pos (by simp at hz; omega), q1]
    simp
end
end VL

/-! VL13: one turn of a loop. -/
namespace VL
open PySem PySem.Spec PyProof.Rows L2 DL
section
variable {G : VG} {body : VS} {d : D} {ds : List D} {e e1 e2 : Env} {t : Env → VR Bool} {r : Sl} {o : VO}
theorem vl_nil : vLoop G body [] e = .next e := rfl
theorem vl_next (h : G d e = some e1) (hb : loopV (body e1) = .next e2) : vLoop G body (d :: ds) e = vLoop G body ds e2 := by
  show (match G d e with
    | none => VO.bad
    | some e1 => match body e1 with
      | .next e2 => vLoop G body ds e2
      | .cont e2 => vLoop G body ds e2
      | .brk e2 => .next e2
      | o => o) = _
  rw [h]
  simp only
  cases hv : body e1 with
  | next e3 => rw [hv] at hb; cases hb; rfl
  | cont e3 => rw [hv] at hb; cases hb; rfl
  | _ => rw [hv] at hb; cases hb
theorem vl_ret (h : G d e = some e1) (hb : body e1 = .ret r e2) : vLoop G body (d :: ds) e = .ret r e2 := by
  show (match G d e with
    | none => VO.bad
    | some e1 => match body e1 with
      | .next e2 => vLoop G body ds e2
      | .cont e2 => vLoop G body ds e2
      | .brk e2 => .next e2
      | o => o) = _
  rw [h, ]
  simp only
  rw [hb]
theorem vl_brk (h : G d e = some e1) (hb : body e1 = .brk e2) : vLoop G body (d :: ds) e = .next e2 := by
  show (match G d e with
    | none => VO.bad
    | some e1 => match body e1 with
      | .next e2 => vLoop G body ds e2
      | .cont e2 => vLoop G body ds e2
      | .brk e2 => .next e2
      | o => o) = _
  rw [h]
  simp only
  rw [hb]
theorem vl_exc {k : Nat} (h : G d e = some e1) (hb : body e1 = .exc k e2) : vLoop G body (d :: ds) e = .exc k e2 := by
  show (match G d e with
    | none => VO.bad
    | some e1 => match body e1 with
      | .next e2 => vLoop G body ds e2
      | .cont e2 => vLoop G body ds e2
      | .brk e2 => .next e2
      | o => o) = _
  rw [h]
  simp only
  rw [hb]
theorem vwF_mono : ∀ (n : Nat) (e : Env), vWhF t body n e ≠ .bad → vWhF t body (n + 1) e = vWhF t body n e
  | 0, e, h => absurd rfl h
  | n + 1, e, h => by
    have q : ∀ m, vWhF t body (m + 1) e = (t e).toO fun k e1 => if k = true then (match body e1 with
      | .next e2 => vWhF t body m e2
      | .cont e2 => vWhF t body m e2
      | .brk e2 => .next e2
      | o => o) else .next e1 := fun m => rfl
    rw [q n] at h ⊢
    rw [q (n + 1)]
    cases ht : t e with
    | ok k e1 =>
      rw [ht, vo_ok] at h
      rw [vo_ok, vo_ok]
      cases k with
      | false => rfl
      | true =>
        rw [if_pos rfl] at h
        rw [if_pos rfl, if_pos rfl]
        cases hb : body e1 with
        | next e2 => rw [hb] at h; exact vwF_mono n e2 h
        | cont e2 => rw [hb] at h; exact vwF_mono n e2 h
        | _ => rfl
    | exc k e1 => rfl
    | bad => rfl
theorem vwF_le {n m : Nat} (hnm : n ≤ m) (h : vWhF t body n e ≠ .bad) : vWhF t body m e = vWhF t body n e := by
  induction hnm with
  | refl => rfl
  | step hk ih => rw [vwF_mono _ _ (by rw [ih]; exact h), ih]
theorem vw_of {n : Nat} (h : vWhF t body n e ≠ .bad) : vsWhile t body e = vWhF t body n e := by
  unfold vsWhile
  rw [dif_pos ⟨n, h⟩]
  have hc := Classical.choose_spec (p := fun n => vWhF t body n e ≠ .bad) ⟨n, h⟩
  rcases Nat.le_total n (Classical.choose (p := fun n => vWhF t body n e ≠ .bad) ⟨n, h⟩) with hl | hl
  · exact vwF_le hl h
  · exact (vwF_le hl hc).symm
theorem vw_end (h : t e = .ok false e1) : vsWhile t body e = .next e1 := by
  have : vWhF t body 1 e = .next e1 := by
    show (t e).toO _ = _
    rw [h]; rfl
  rw [vw_of (n := 1) (by rw [this]; intro z; cases z), this]
theorem vw_ret (h : t e = .ok true e1) (hb : body e1 = .ret r e2) : vsWhile t body e = .ret r e2 := by
  have : vWhF t body 1 e = .ret r e2 := by
    show (t e).toO _ = _
    rw [h, vo_ok, if_pos rfl, hb]
  rw [vw_of (n := 1) (by rw [this]; intro z; cases z), this]
theorem vw_brk (h : t e = .ok true e1) (hb : body e1 = .brk e2) : vsWhile t body e = .next e2 := by
  have : vWhF t body 1 e = .next e2 := by
    show (t e).toO _ = _
    rw [h, vo_ok, if_pos rfl, hb]
  rw [vw_of (n := 1) (by rw [this]; intro z; cases z), this]
theorem vw_next (h : t e = .ok true e1) (hb : loopV (body e1) = .next e2) : vsWhile t body e = vsWhile t body e2 := by
  have q : ∀ m, vWhF t body (m + 1) e = vWhF t body m e2 := fun m => by
    show (t e).toO _ = _
    rw [h, vo_ok, if_pos rfl]
    cases hv : body e1 with
    | next e3 => rw [hv] at hb; cases hb; rfl
    | cont e3 => rw [hv] at hb; cases hb; rfl
    | _ => rw [hv] at hb; cases hb
  by_cases hx : ∃ n, vWhF t body n e2 ≠ .bad
  · obtain ⟨n, hn⟩ := hx
    rw [vw_of hn, vw_of (n := n + 1) (by rw [q]; exact hn), q]
  · unfold vsWhile
    rw [dif_neg hx, dif_neg]
    rintro ⟨n, hn⟩
    cases n with
    | zero => exact hn rfl
    | succ n => exact hx ⟨n, by rw [q] at hn; exact hn⟩
end
end VL

/-! VL14: cuts, cells, walks over parts. -/
namespace VL
open PySem PySem.Spec PyProof.Rows L2 DL
theorem cut_to (xs : List D) (k : Nat) : slD.cutL xs none (some (k : Int)) = xs.take k := by
  unfold slD.cutL
  rw [HT.sIx_none, HT.sIx_nat, List.drop_zero, Nat.sub_zero]
  rcases Nat.le_total k xs.length with h | h
  · rw [Nat.min_eq_left h]
  · rw [Nat.min_eq_right h, List.take_of_length_le (Nat.le_refl _), List.take_of_length_le h]
theorem cut_from (xs : List D) (k : Nat) : slD.cutL xs (some (k : Int)) none = xs.drop k := by
  unfold slD.cutL
  rw [HT.sIx_none, HT.sIx_nat]
  rcases Nat.le_total k xs.length with h | h
  · rw [Nat.min_eq_left h, List.take_of_length_le (by rw [List.length_drop]; omega)]
  · rw [Nat.min_eq_right h, Nat.sub_self, List.drop_of_length_le h]; rfl
theorem cut_mid (xs : List D) (j k : Nat) : slD.cutL xs (some (j : Int)) (some (k : Int)) = (xs.drop j).take (k - j) := by
  unfold slD.cutL
  rw [HT.sIx_nat, HT.sIx_nat]
  rcases Nat.le_total j xs.length with h | h
  · rcases Nat.le_total k xs.length with h2 | h2
    · rw [Nat.min_eq_left h, Nat.min_eq_left h2]
    · rw [Nat.min_eq_left h, Nat.min_eq_right h2, List.take_of_length_le (by rw [List.length_drop]; omega), List.take_of_length_le (by rw [List.length_drop]; omega)]
  · rw [Nat.min_eq_right h, List.drop_of_length_le (Nat.le_refl _), List.drop_of_length_le h]
    simp
theorem atI_nat {xs : List D} {j : Nat} {d : D} (h : xs[j]? = some d) : atI xs (j : Int) = some d := by
  rw [atI_lit (j := j) rfl (List.getElem?_eq_some_iff.mp h).1, h]
/-- a walk over parts: through the first -/
theorem vl_pass {G : VG} {body : VS} {ys : List D} (P : Env → Prop) : ∀ (xs : List D) {e : Env}, P e → (∀ d ∈ xs, ∀ e, P e → ∃ e1, G d e = some e1 ∧ ∃ e2, loopV (body e1) = .next e2 ∧ P e2) → ∃ e', P e' ∧ vLoop G body (xs ++ ys) e = vLoop G body ys e'
  | [], e, h, _ => ⟨e, h, rfl⟩
  | x :: xs, e, h, hs => by
    obtain ⟨e1, h1, e2, h2, h3⟩ := hs x List.mem_cons_self e h
    obtain ⟨e', q1, q2⟩ := vl_pass P xs h3 fun d hd => hs d (List.mem_cons_of_mem _ hd)
    exact ⟨e', q1, by rw [List.cons_append, vl_next h1 h2, q2]⟩
theorem range_split {n k : Nat} (h : k < n) : rangeI 0 n = rangeI 0 k ++ D.int (k : Int) :: rangeI ((k : Int) + 1) (n - k - 1) := by
  have e1 : List.range n = List.range k ++ k :: (List.range (n - k - 1)).map fun i => k + 1 + i := by
    have q : n = k + (1 + (n - k - 1)) := by omega
    rw [q, List.range_add, List.range_add]
    have q2 : k + (1 + (n - k - 1)) - k - 1 = n - k - 1 := by omega
    rw [q2]
    simp [Nat.add_assoc]
  unfold rangeI
  rw [e1]
  simp only [List.map_append, List.map_cons, List.map_map]
  congr 2
  · congr 1; omega
  · apply List.map_congr_left
    intro i _
    show D.int _ = D.int _
    congr 1
    push_cast
    omega
end VL

/-! VL15: enumerate, zip; a walk over a live list; a part in which some live names are not rebound. -/
namespace VL
open PySem PySem.Spec PyProof.Rows L2 DL
def enV : List D → Env → VR (List D)
  | [.lst ys], e => .ok (enumI 0 ys) e
  | [.tup ys], e => .ok (enumI 0 ys) e
  | _, _ => .bad
theorem env_l {ys : List D} {e : Env} : enV [.lst ys] e = .ok (enumI 0 ys) e := rfl
theorem env_t {ys : List D} {e : Env} : enV [.tup ys] e = .ok (enumI 0 ys) e := rfl
noncomputable def viEnum (A : VAs) : VI := fun e => (A e).bind enV
noncomputable def viZip (A : VAs) : VI := fun e => (A e).bind fun xs e1 => match xs with
  | [.lst ys, .lst zs] => .ok (zipI ys zs) e1
  | [.tup ys, .tup zs] => .ok (zipI ys zs) e1
  | _ => .bad
theorem vi_enum {r : VAs} {e : Env} : viEnum r e = (r e).bind enV := rfl
theorem vi_zip {r : VAs} {e : Env} : viZip r e = (r e).bind fun xs e1 => match xs with
  | [.lst ys, .lst zs] => .ok (zipI ys zs) e1
  | [.tup ys, .tup zs] => .ok (zipI ys zs) e1
  | _ => .bad := rfl
theorem flats_enum : ∀ (k : Nat) (xs : List D), flats xs → flats (enumI k xs)
  | _, [], _ => flats_nil
  | k, x :: xs, h => by
    rw [enumI]
    exact flats_cons.mpr ⟨flat_tup.mpr (flats_cons.mpr ⟨flat_int _, flats_cons.mpr ⟨(flats_cons.mp h).1, flats_nil⟩⟩), flats_enum (k + 1) xs (flats_cons.mp h).2⟩
theorem flats_zip {xs ys : List D} (hx : flats xs) (hy : flats ys) : flats (zipI xs ys) := flats_iff.mpr fun d hd => by
  obtain ⟨i, hi⟩ := List.mem_iff_getElem?.mp hd
  obtain ⟨x, y, h1, h2, rfl⟩ := zipI_get hi
  exact flat_tup.mpr (flats_cons.mpr ⟨flats_iff.mp hx x (List.mem_of_getElem? h1), flats_cons.mpr ⟨flats_iff.mp hy y (List.mem_of_getElem? h2), flats_nil⟩⟩)
section
variable {io : Nat → Bool} {r : As} {vr : VAs}
theorem si_enum (ha : SL io r vr) : SI io (i_enumerate r) (viEnum vr) := fun c env l S fts hi o => by
  unfold viEnum i_enumerate
  refine Sv.bind (ha c env l S fts hi o) fun x e d S1 o1 ⟨q, f⟩ => ?_
  subst q
  rcases d with _ | ⟨d0, _ | ⟨d1, ds⟩⟩
  · trivial
  · cases d0 with
    | lst ys => exact Sv.ret o1 ⟨rfl, flats_enum 0 ys (flat_lst.mp (flats_cons.mp f).1), fun _ => rfl⟩
    | tup ys => exact Sv.ret o1 ⟨rfl, flats_enum 0 ys (flat_tup.mp (flats_cons.mp f).1), fun _ => trivial⟩
    | _ => trivial
  · cases d0 <;> trivial
theorem si_zip (ha : SL io r vr) : SI io (i_zip r) (viZip vr) := fun c env l S fts hi o => by
  unfold viZip i_zip
  refine Sv.bind (ha c env l S fts hi o) fun x e d S1 o1 ⟨q, f⟩ => ?_
  subst q
  rcases d with _ | ⟨d0, _ | ⟨d1, _ | ⟨d2, ds⟩⟩⟩
  · trivial
  · cases d0 <;> trivial
  · cases d0 with
    | lst ys =>
      cases d1 with
      | lst zs => exact Sv.ret o1 ⟨rfl, flats_zip (flat_lst.mp (flats_cons.mp f).1) (flat_lst.mp (flats_cons.mp (flats_cons.mp f).2).1), fun _ => ⟨rfl, rfl⟩⟩
      | _ => trivial
    | tup ys =>
      cases d1 with
      | tup zs => exact Sv.ret o1 ⟨rfl, flats_zip (flat_tup.mp (flats_cons.mp f).1) (flat_tup.mp (flats_cons.mp (flats_cons.mp f).2).1), fun _ => trivial⟩
      | _ => trivial
    | _ => trivial
  · cases d0 with
    | lst _ => cases d1 <;> trivial
    | tup _ => cases d1 <;> trivial
    | _ => trivial
end
/-! ### a walk over a live list that is not rebound -/
def lvIs (e : Env) (i : Nat) (xs : List D) : Prop := e[i]? = some (.lv xs)
open Classical in
noncomputable def vLoopO (i : Nat) (xs : List D) (G : VG) (body : VS) : List D → Env → VO
  | [], e => if lvIs e i xs then .next e else .bad
  | d :: ds, e => if lvIs e i xs then (match G d e with
    | none => .bad
    | some e1 => match body e1 with
      | .next e2 => vLoopO i xs G body ds e2
      | .cont e2 => vLoopO i xs G body ds e2
      | .brk e2 => .next e2
      | o => o) else .bad
noncomputable def vsForO (i : Nat) (G : VG) (body : VS) : VS := fun e => match e[i]? with
  | some (.lv xs) => vLoopO i xs G body xs e
  | _ => .bad
section
variable {io : Nat → Bool} {is : List Nat} {G : GD} {vg : VG} {b : Stm} {vb : VS}
theorem own_lvc {S : Sto} {xs : List D} {t : FT} (h : Own S (.lv xs) t) : ∃ n, t = .cell n ∧ S[n]? = some (.lst xs) ∧ flats xs := by
  cases t with
  | cell n => exact ⟨n, rfl, h⟩
  | _ => exact h.elim
theorem loopO_ok {i n : Nat} {xs : List D} (hG : SGt io is G vg) (hb : SS io b vb) (hio : io i = true) {c : Bs} (hi : c.ios = io) (hn : c.fts0[i]? = some (.cell n)) : ∀ (ds : List D) (env : Env) (l : DL.Loc) (S : Sto) (fts : List FT), flats ds → Ok c env l S fts → So c (vLoopO i xs vg vb ds env) (forL (fun S' => seqOf S' (.ref n) = some xs) G b ds l S)
  | [], env, l, S, fts, _, o => by
    unfold forL vLoopO
    by_cases hl : lvIs env i xs
    · rw [if_pos hl, if_pos]
      · exact ⟨l, S, fts, rfl, o⟩
      · have hf : fts[i]? = some (.cell n) := by rw [(o.io i (by rw [hi]; exact hio)).2, hn]
        have w := (o.rv.sl i _ _ hl hf (by intro z; cases z)).2
        obtain ⟨m, hm, w1, _⟩ := own_lvc w
        cases hm
        show (match S[n]? with | some (.lst xs) => some xs | _ => none) = some xs
        rw [w1]
    · rw [if_neg hl]; trivial
  | d :: ds, env, l, S, fts, hf, o => by
    unfold forL vLoopO
    by_cases hl : lvIs env i xs
    · rw [if_pos hl, if_pos]
      · cases h : vg d env with
        | none => trivial
        | some e1 =>
          obtain ⟨l1, fts1, h1, o1, _⟩ := hG c env l S fts d e1 hi o (flats_cons.mp hf).1 h
          rw [h1]
          simp only
          have q := hb c e1 l1 S fts1 hi o1
          cases hv : vb e1 with
          | next e2 => rw [hv] at q; obtain ⟨l2, S2, fts2, q1, q2⟩ := q; rw [q1]; exact loopO_ok hG hb hio hi hn ds e2 l2 S2 fts2 (flats_cons.mp hf).2 q2
          | cont e2 => rw [hv] at q; obtain ⟨l2, S2, fts2, q1, q2⟩ := q; rw [q1]; exact loopO_ok hG hb hio hi hn ds e2 l2 S2 fts2 (flats_cons.mp hf).2 q2
          | brk e2 => rw [hv] at q; obtain ⟨l2, S2, fts2, q1, q2⟩ := q; rw [q1]; exact ⟨l2, S2, fts2, rfl, q2⟩
          | ret r e2 => rw [hv] at q; obtain ⟨d, l2, S2, fts2, ft, q1, q2⟩ := q; rw [q1]; exact ⟨d, l2, S2, fts2, ft, rfl, q2⟩
          | retf r e2 => rw [hv] at q; obtain ⟨d, l2, S2, fts2, q1, q2⟩ := q; rw [q1]; exact ⟨d, l2, S2, fts2, rfl, q2⟩
          | exc k e2 => rw [hv] at q; obtain ⟨l2, S2, fts2, q1, q2⟩ := q; rw [q1]; exact ⟨l2, S2, fts2, rfl, q2⟩
          | bad => trivial
      · have hf : fts[i]? = some (.cell n) := by rw [(o.io i (by rw [hi]; exact hio)).2, hn]
        have w := (o.rv.sl i _ _ hl hf (by intro z; cases z)).2
        obtain ⟨m, hm, w1, _⟩ := own_lvc w
        cases hm
        show (match S[n]? with | some (.lst xs) => some xs | _ => none) = some xs
        rw [w1]
    · rw [if_neg hl]; trivial
theorem ss_forO (i : Nat) (hG : SGt io is G vg) (hb : SS io b vb) (hio : io i = true := by rfl) : SS io (sFor (iSeq (eVar i)) G b) (vsForO i vg vb) := fun c env l S fts hi o => by
  unfold vsForO
  cases he : env[i]? with
  | none => trivial
  | some s =>
    cases s with
    | lv xs =>
      simp only
      have hlt : i < fts.length := by rw [o.rv.l2]; exact (List.getElem?_eq_some_iff.mp he).1
      have ht : fts[i]? = some fts[i] := List.getElem?_eq_getElem hlt
      obtain ⟨w0, w⟩ := o.rv.sl i _ _ he ht (by intro z; cases z)
      obtain ⟨n, hn, w1, w2⟩ := own_lvc w
      rw [hn] at w0 ht
      have hA : iSeq (eVar i) l S = Res.ok (Seqn.mk xs fun S' => seqOf S' (.ref n) = some xs) S := by
        have hv : eVar i l S = .ok (.ref n) S := by
          unfold eVar
          rw [w0]
          rfl
        have hs : seqOf S (.ref n) = some xs := by
          show (match S[n]? with | some (.lst xs) => some xs | _ => none) = some xs
          rw [w1]
        unfold iSeq
        rw [hv]
        show (match seqOf S (.ref n) with
          | some xs => Res.ok (Seqn.mk xs fun S' => seqOf S' (.ref n) = some xs) S
          | none => .bad) = _
        rw [hs]
      unfold sFor
      rw [hA]
      exact loopO_ok hG hb hio hi (by rw [← (o.io i (by rw [hi]; exact hio)).2]; exact ht) xs env l S fts w2 o
    | _ => trivial
end
/-! ### a part in which some live names are not rebound -/
def isPl : Sl → Bool
  | .va _ => true
  | .no => true
  | _ => false
def plB : List Bool → Env → Bool
  | true :: bs, _ :: e => plB bs e
  | false :: bs, s :: e => isPl s && plB bs e
  | [], s :: e => isPl s && plB [] e
  | _, [] => true
theorem plB_at : ∀ {bs : List Bool} {e : Env} {i : Nat} {s : Sl}, plB bs e = true → ioF bs i = false → e[i]? = some s → isPl s = true
  | true :: bs, s0 :: e, 0, s, _, h2, _ => by simp [ioF] at h2
  | true :: bs, s0 :: e, i + 1, s, h1, h2, h3 => plB_at (bs := bs) (e := e) (i := i) h1 (by simpa [ioF] using h2) h3
  | false :: bs, s0 :: e, 0, s, h1, _, h3 => by
    unfold plB at h1
    rw [Bool.and_eq_true] at h1
    cases h3
    exact h1.1
  | false :: bs, s0 :: e, i + 1, s, h1, h2, h3 => by
    unfold plB at h1
    rw [Bool.and_eq_true] at h1
    exact plB_at (bs := bs) (e := e) (i := i) h1.2 (by simpa [ioF] using h2) h3
  | [], s0 :: e, 0, s, h1, _, h3 => by
    unfold plB at h1
    rw [Bool.and_eq_true] at h1
    cases h3
    exact h1.1
  | [], s0 :: e, i + 1, s, h1, h2, h3 => by
    unfold plB at h1
    rw [Bool.and_eq_true] at h1
    exact plB_at (bs := []) (e := e) (i := i) h1.2 rfl h3
  | [], [], i, s, _, _, h3 => by cases h3
  | true :: bs, [], i, s, _, _, h3 => by cases h3
  | false :: bs, [], i, s, _, _, h3 => by cases h3
def reK : VO → VO
  | .retf _ _ => .bad
  | o => o
noncomputable def vsRe (bs : List Bool) (V : VS) : VS := fun e => if plB bs e = true then reK (V e) else .bad
theorem pl_val {S : Sto} {env : Env} {l : DL.Loc} {fts : List FT} (rv : RV env l S fts) {i : Nat} {s : Sl} {t : FT} (hs : env[i]? = some s) (ht : fts[i]? = some t) (h : isPl s = true) : t = .val := by
  cases s with
  | no => exact rv.no i t hs ht
  | va d =>
    have w := (rv.sl i _ _ hs ht (by intro z; cases z)).2
    cases t with
    | val => rfl
    | _ => exact w.elim
  | _ => cases h
section
variable {c : Bs} {env e : Env} {l l1 : DL.Loc} {S S1 : Sto} {fts fts1 : List FT} {bs : List Bool}
theorem Ok.reb (o : Ok c env l S fts) (hp : plB bs env = true) : Ok ⟨S, ioF bs, l, fts⟩ env l S fts where
  rv := o.rv
  le := Nat.le_refl _
  io := fun i _ => ⟨rfl, rfl⟩
  lo := fun i t n hi ht hn => by
    have hlt : i < env.length := by rw [← o.rv.l2]; exact (List.getElem?_eq_some_iff.mp ht).1
    have := pl_val o.rv (List.getElem?_eq_getElem hlt) ht (plB_at hp hi (List.getElem?_eq_getElem hlt))
    subst this
    unfold foot at hn
    cases hn
  ln := rfl
  hi := fun i t n hi ht hn => by
    have hlt : i < env.length := by rw [← o.rv.l2]; exact (List.getElem?_eq_some_iff.mp ht).1
    have hs : env[i]? = some env[i] := List.getElem?_eq_getElem hlt
    by_cases hno : env[i] = .no
    · have := o.rv.no i t (by rw [hs, hno]) ht
      subst this
      unfold foot at hn
      cases hn
    · exact (Own.cells t _ (o.rv.sl i _ _ hs ht hno).2).2 n hn
  fr := fun n _ _ => rfl
theorem Ok.unreb (o : Ok c env l S fts) (hsub : ∀ i, c.ios i = true → ioF bs i = true) (o1 : Ok ⟨S, ioF bs, l, fts⟩ e l1 S1 fts1) : Ok c e l1 S1 fts1 where
  rv := o1.rv
  le := Nat.le_trans o.le o1.le
  io := fun i hi => by
    obtain ⟨a, b⟩ := o1.io i (hsub i hi)
    obtain ⟨a2, b2⟩ := o.io i hi
    exact ⟨a.trans a2, b.trans b2⟩
  lo := fun i t n hi ht hn => by
    cases h : ioF bs i with
    | true =>
      have b := (o1.io i h).2
      rw [b] at ht
      exact o.lo i t n hi ht hn
    | false => exact Nat.le_trans o.le (o1.lo i t n h ht hn)
  ln := o1.ln.trans o.ln
  hi := o.hi
  fr := fun n hn hf => by
    refine (o1.fr n (Nat.lt_of_lt_of_le hn o.le) fun i t hi ht hnt => ?_).trans (o.fr n hn hf)
    have ht : fts[i]? = some t := ht
    cases hc : c.ios i with
    | true => exact hf i t hc (by rw [← (o.io i hc).2]; exact ht) hnt
    | false => exact absurd (o.lo i t n hc ht hnt) (by omega)
end
theorem ss_re {io : Nat → Bool} {A : Stm} {V : VS} (bs : List Bool) (hb : SS (ioF bs) A V) (hsub : ∀ i, io i = true → ioF bs i = true) : SS io A (vsRe bs V) := fun c env l S fts hi o => by
  unfold vsRe
  by_cases hp : plB bs env = true
  · rw [if_pos hp]
    have q := hb ⟨S, ioF bs, l, fts⟩ env l S fts rfl (o.reb hp)
    have hs : ∀ i, c.ios i = true → ioF bs i = true := by rw [hi]; exact hsub
    cases hv : V env with
    | next e2 => rw [hv] at q; obtain ⟨l2, S2, fts2, q1, q2⟩ := q; rw [q1]; exact ⟨l2, S2, fts2, rfl, o.unreb hs q2⟩
    | cont e2 => rw [hv] at q; obtain ⟨l2, S2, fts2, q1, q2⟩ := q; rw [q1]; exact ⟨l2, S2, fts2, rfl, o.unreb hs q2⟩
    | brk e2 => rw [hv] at q; obtain ⟨l2, S2, fts2, q1, q2⟩ := q; rw [q1]; exact ⟨l2, S2, fts2, rfl, o.unreb hs q2⟩
    | ret r e2 => rw [hv] at q; obtain ⟨d, l2, S2, fts2, ft, q1, q2, q3, q4, q5, q6⟩ := q; rw [q1]; exact ⟨d, l2, S2, fts2, ft, rfl, o.unreb hs q2, q3, q4, q5, fun n hn => Nat.le_trans o.le (q6 n hn)⟩
    | exc k e2 => rw [hv] at q; obtain ⟨l2, S2, fts2, q1, q2⟩ := q; rw [q1]; exact ⟨l2, S2, fts2, rfl, o.unreb hs q2⟩
    | retf r e2 => trivial
    | bad => trivial
  · rw [if_neg hp]; trivial
theorem io_sub {as bs : List Bool} (h : (List.range (max as.length bs.length)).all (fun i => !ioF as i || ioF bs i) = true) : ∀ i, ioF as i = true → ioF bs i = true := fun i hi => by
  by_cases hl : i < max as.length bs.length
  · have := List.all_eq_true.mp h i (List.mem_range.mpr hl)
    rw [hi] at this
    simpa using this
  · unfold ioF at hi
    rw [List.getD_eq_getElem?_getD, List.getElem?_eq_none (by omega)] at hi
    cases hi
/-! ### reading -/
section
variable {i : Nat} {xs : List D} {G : VG} {body : VS} {d : D} {ds : List D} {e e1 e2 : Env}
theorem vs_forO {f : VS} : vsForO i G body e = match e[i]? with
  | some (.lv xs) => vLoopO i xs G body xs e
  | _ => .bad := rfl
theorem vlo_nil (h : lvIs e i xs) : vLoopO i xs G body [] e = .next e := by unfold vLoopO; rw [if_pos h]
theorem vlo_next (h0 : lvIs e i xs) (h : G d e = some e1) (hb : loopV (body e1) = .next e2) : vLoopO i xs G body (d :: ds) e = vLoopO i xs G body ds e2 := by
  rw [vLoopO, if_pos h0, h]
  simp only
  cases hv : body e1 with
  | next e3 => rw [hv] at hb; cases hb; rfl
  | cont e3 => rw [hv] at hb; cases hb; rfl
  | _ => rw [hv] at hb; cases hb
theorem vlo_ret {r : Sl} (h0 : lvIs e i xs) (h : G d e = some e1) (hb : body e1 = .ret r e2) : vLoopO i xs G body (d :: ds) e = .ret r e2 := by
  rw [vLoopO, if_pos h0, h]
  simp only
  rw [hb]
theorem vs_re {bs : List Bool} {V : VS} (h : plB bs e = true) : vsRe bs V e = reK (V e) := if_pos h
theorem rek_next : reK (.next e) = .next e := rfl
theorem rek_ret {r : Sl} : reK (.ret r e) = .ret r e := rfl
theorem rek_brk : reK (.brk e) = .brk e := rfl
theorem rek_cont : reK (.cont e) = .cont e := rfl
theorem rek_exc {k : Nat} : reK (.exc k e) = .exc k e := rfl
theorem plb_t {bs : List Bool} {s : Sl} : plB (true :: bs) (s :: e) = plB bs e := rfl
theorem plb_f {bs : List Bool} {s : Sl} : plB (false :: bs) (s :: e) = (isPl s && plB bs e) := rfl
theorem plb_n {s : Sl} : plB [] (s :: e) = (isPl s && plB [] e) := rfl
theorem plb_e {bs : List Bool} : plB bs [] = true := by cases bs with | nil => rfl | cons b bs => cases b <;> rfl
theorem ispl_va : isPl (.va d) = true := rfl
theorem ispl_no : isPl .no = true := rfl
end
end VL

/-! VL16: raise, try; loops over lists of live things. -/
namespace VL
open PySem PySem.Spec PyProof.Rows L2 DL
def vsRaise (c : Nat) : VS := fun e => .exc c e
def vsTry (m : Nat → Option Bool) (V U : VS) : VS := fun e => match V e with
  | .exc x e1 => (match m x with
    | some true => (match U e1 with
      | .exc _ _ => .bad
      | o => o)
    | some false => .exc x e1
    | none => .bad)
  | o => o
def vsTryE (m : Nat → Option Bool) (i j : Nat) (bs : List (Nat × List Bool)) (V : VS) : VS := fun e => match V e with
  | .exc x e1 => (match m x with
    | some true => (match tabL bs x with
      | some ys => if i < e1.length ∧ ys.length ≤ sizeLine then .next (((e1.set i .no).set j (.va (.lst (ys.map D.bl)))).set i .no) else .bad
      | none => .bad)
    | some false => .exc x e1
    | none => .bad)
  | o => o
section
variable {io : Nat → Bool} {A B : Stm} {V U : VS}
theorem ss_raise (c : Nat) : SS io (sRaise c) (vsRaise c) := fun c env l S fts hi o => ⟨l, S, fts, rfl, o⟩
theorem ss_try (m : Nat → Option Bool) (ha : SS io A V) (hb : SS io B U) : SS io (sTry m A B) (vsTry m V U) := fun c env l S fts hi o => by
  have q := ha c env l S fts hi o
  unfold vsTry sTry
  cases e : V env with
  | exc x e1 =>
    rw [e] at q
    obtain ⟨l1, S1, fts1, h1, o1⟩ := q
    rw [h1]
    simp only
    cases hm : m x with
    | none => trivial
    | some b =>
      cases b with
      | false => exact ⟨l1, S1, fts1, rfl, o1⟩
      | true =>
        simp only
        have q2 := hb c e1 l1 S1 fts1 hi o1
        cases e2 : U e1 with
        | exc _ _ => trivial
        | next e3 => rw [e2] at q2; obtain ⟨l2, S2, fts2, h2, h3⟩ := q2; rw [h2]; exact ⟨l2, S2, fts2, rfl, h3⟩
        | brk e3 => rw [e2] at q2; obtain ⟨l2, S2, fts2, h2, h3⟩ := q2; rw [h2]; exact ⟨l2, S2, fts2, rfl, h3⟩
        | cont e3 => rw [e2] at q2; obtain ⟨l2, S2, fts2, h2, h3⟩ := q2; rw [h2]; exact ⟨l2, S2, fts2, rfl, h3⟩
        | ret r e3 => rw [e2] at q2; obtain ⟨d, l2, S2, fts2, ft, h2, h3⟩ := q2; rw [h2]; exact ⟨d, l2, S2, fts2, ft, rfl, h3⟩
        | retf r e3 => rw [e2] at q2; obtain ⟨d, l2, S2, fts2, h2, h3⟩ := q2; rw [h2]; exact ⟨d, l2, S2, fts2, rfl, h3⟩
        | bad => trivial
  | next e1 => rw [e] at q; obtain ⟨l1, S1, fts1, h1, o1⟩ := q; rw [h1]; exact ⟨l1, S1, fts1, rfl, o1⟩
  | brk e1 => rw [e] at q; obtain ⟨l1, S1, fts1, h1, o1⟩ := q; rw [h1]; exact ⟨l1, S1, fts1, rfl, o1⟩
  | cont e1 => rw [e] at q; obtain ⟨l1, S1, fts1, h1, o1⟩ := q; rw [h1]; exact ⟨l1, S1, fts1, rfl, o1⟩
  | ret r e1 => rw [e] at q; obtain ⟨d, l1, S1, fts1, ft, h1, h2⟩ := q; rw [h1]; exact ⟨d, l1, S1, fts1, ft, rfl, h2⟩
  | retf r e1 => rw [e] at q; obtain ⟨d, l1, S1, fts1, h1, h2⟩ := q; rw [h1]; exact ⟨d, l1, S1, fts1, rfl, h2⟩
  | bad => trivial
theorem flats_bls : ∀ ys : List Bool, flats (ys.map D.bl)
  | [] => flats_nil
  | y :: ys => flats_cons.mpr ⟨flat_bl y, flats_bls ys⟩
theorem ss_tryE (m : Nat → Option Bool) (i j : Nat) (bs : List (Nat × List Bool)) (ha : SS io A V) (hii : io i = false := by rfl) (hij : io j = false := by rfl) : SS io (sTryE m i j bs A) (vsTryE m i j bs V) := fun c env l S fts hi o => by
  have q := ha c env l S fts hi o
  unfold vsTryE sTryE
  cases e : V env with
  | exc x e1 =>
    rw [e] at q
    obtain ⟨l1, S1, fts1, h1, o1⟩ := q
    rw [h1]
    simp only
    cases hm : m x with
    | none => trivial
    | some b =>
      cases b with
      | false => exact ⟨l1, S1, fts1, rfl, o1⟩
      | true =>
        simp only
        cases ht : tabL bs x with
        | none => trivial
        | some ys =>
          simp only
          rw [o1.rv.l1]
          by_cases hz : i < e1.length ∧ ys.length ≤ sizeLine
          · rw [if_pos hz, if_pos hz]
            exact ⟨_, S1, _, rfl, ((o1.forget (by rw [hi]; exact hii) none).setV (by rw [hi]; exact hij) (flat_lst.mpr (flats_bls ys))).forget (by rw [hi]; exact hii) none⟩
          · rw [if_neg hz]; trivial
  | next e1 => rw [e] at q; obtain ⟨l1, S1, fts1, h1, o1⟩ := q; rw [h1]; exact ⟨l1, S1, fts1, rfl, o1⟩
  | brk e1 => rw [e] at q; obtain ⟨l1, S1, fts1, h1, o1⟩ := q; rw [h1]; exact ⟨l1, S1, fts1, rfl, o1⟩
  | cont e1 => rw [e] at q; obtain ⟨l1, S1, fts1, h1, o1⟩ := q; rw [h1]; exact ⟨l1, S1, fts1, rfl, o1⟩
  | ret r e1 => rw [e] at q; obtain ⟨d, l1, S1, fts1, ft, h1, h2⟩ := q; rw [h1]; exact ⟨d, l1, S1, fts1, ft, rfl, h2⟩
  | retf r e1 => rw [e] at q; obtain ⟨d, l1, S1, fts1, h1, h2⟩ := q; rw [h1]; exact ⟨d, l1, S1, fts1, rfl, h2⟩
  | bad => trivial
end
/-! ### a walk over live things: each is lent to a name -/
def takeS (x : Nat) (e : Env) : Option (Sl × Env) := match e[x]? with
  | some s => if isNo s = true then none else some (s, e.set x .no)
  | none => none
def consR (s : Sl) (r : List Sl × VO) : List Sl × VO := (s :: r.1, r.2)
def preS (kx : Option Nat) (j : Nat) (e : Env) : Env := match kx with
  | some k => e.set k (.va (.int (j : Int)))
  | none => e
/-- what is left of the walk's things, and how it ended; kx: where the place goes -/
def vLoopS (x : Nat) (kx : Option Nat) (bs : List Bool) (body : VS) : Nat → List Sl → Env → List Sl × VO
  | _, [], e => ([], .next e)
  | j, s :: ss, e => if (plB bs e && !isNo s && decide (x < e.length)) = true then (match body ((preS kx j e).set x s) with
    | .next e2 => (match takeS x e2 with
      | some (s2, e3) => consR s2 (vLoopS x kx bs body (j + 1) ss e3)
      | none => (ss, .bad))
    | .cont e2 => (match takeS x e2 with
      | some (s2, e3) => consR s2 (vLoopS x kx bs body (j + 1) ss e3)
      | none => (ss, .bad))
    | .brk e2 => (match takeS x e2 with
      | some (s2, e3) => (s2 :: ss, .next e3)
      | none => (ss, .bad))
    | .ret r e2 => (match takeS x e2 with
      | some (s2, e3) => (s2 :: ss, .ret r e3)
      | none => (ss, .bad))
    | .exc k e2 => (match takeS x e2 with
      | some (s2, e3) => (s2 :: ss, .exc k e3)
      | none => (ss, .bad))
    | _ => (ss, .bad)) else (ss, .bad)
/-- a part of a run: bs are kept as they stand; the cells of Ex may have changed -/
structure Stp (bs : Nat → Bool) (Ex : Nat → Prop) (l : DL.Loc) (S : Sto) (fts : List FT) (e1 : Env) (l1 : DL.Loc) (S1 : Sto) (fts1 : List FT) : Prop where
  rv : RV e1 l1 S1 fts1
  le : S.length ≤ S1.length
  io : ∀ i, bs i = true → l1[i]? = l[i]? ∧ fts1[i]? = fts[i]?
  lo : ∀ (i : Nat) (t : FT) (n : Nat), bs i = false → fts1[i]? = some t → n ∈ foot t → S.length ≤ n ∨ fts[i]? = some t
  ln : l1.length = l.length
  fr : ∀ n, n < S.length → ¬ Ex n → (∀ (i : Nat) (t : FT), bs i = true → fts[i]? = some t → n ∉ foot t) → S1[n]? = S[n]?
section
variable {bs : Nat → Bool} {Ex Ex2 : Nat → Prop} {l l1 l2 : DL.Loc} {S S1 S2 : Sto} {fts fts1 fts2 : List FT} {e e1 e2 : Env}
theorem Stp.trans (a : Stp bs Ex l S fts e1 l1 S1 fts1) (b : Stp bs Ex l1 S1 fts1 e2 l2 S2 fts2) : Stp bs Ex l S fts e2 l2 S2 fts2 where
  rv := b.rv
  le := Nat.le_trans a.le b.le
  io := fun i hi => ⟨(b.io i hi).1.trans (a.io i hi).1, (b.io i hi).2.trans (a.io i hi).2⟩
  lo := fun i t n hi ht hn => (b.lo i t n hi ht hn).elim (fun h => .inl (Nat.le_trans a.le h)) fun h => a.lo i t n hi h hn
  ln := b.ln.trans a.ln
  fr := fun n hn hx hf => (b.fr n (Nat.lt_of_lt_of_le hn a.le) hx fun i t hi ht => hf i t hi (by rw [← (a.io i hi).2]; exact ht)).trans (a.fr n hn hx hf)
theorem Stp.wide (a : Stp bs Ex l S fts e1 l1 S1 fts1) (h : ∀ n, Ex n → Ex2 n) : Stp bs Ex2 l S fts e1 l1 S1 fts1 :=
  ⟨a.rv, a.le, a.io, a.lo, a.ln, fun n hn hx hf => a.fr n hn (fun z => hx (h n z)) hf⟩
theorem Ok.stp {c : Bs} (o : Ok c e l S fts) (a : Stp bs Ex l S fts e1 l1 S1 fts1) (hsub : ∀ i, c.ios i = true → bs i = true) (hx : ∀ n, Ex n → c.S0.length ≤ n) : Ok c e1 l1 S1 fts1 where
  rv := a.rv
  le := Nat.le_trans o.le a.le
  io := fun i hi => ⟨(a.io i (hsub i hi)).1.trans (o.io i hi).1, (a.io i (hsub i hi)).2.trans (o.io i hi).2⟩
  lo := fun i t n hi ht hn => by
    cases h : bs i with
    | true =>
      rw [(a.io i h).2] at ht
      exact o.lo i t n hi ht hn
    | false => exact (a.lo i t n h ht hn).elim (fun h => Nat.le_trans o.le h) fun h => o.lo i t n hi h hn
  ln := a.ln.trans o.ln
  hi := o.hi
  fr := fun n hn hf => by
    refine (a.fr n (Nat.lt_of_lt_of_le hn o.le) (fun z => absurd (hx n z) (by omega)) fun i t hi ht hnt => ?_).trans (o.fr n hn hf)
    cases hc : c.ios i with
    | true => exact hf i t hc (by rw [← (o.io i hc).2]; exact ht) hnt
    | false => exact absurd (o.lo i t n hc ht hnt) (by omega)
theorem RV.reb {bs : List Bool} (rv : RV e l S fts) (hp : ∀ (i : Nat) (s : Sl), ioF bs i = false → e[i]? = some s → isPl s = true) : Ok ⟨S, ioF bs, l, fts⟩ e l S fts where
  rv := rv
  le := Nat.le_refl _
  io := fun i _ => ⟨rfl, rfl⟩
  lo := fun i t n hi ht hn => by
    have hlt : i < e.length := by rw [← rv.l2]; exact (List.getElem?_eq_some_iff.mp ht).1
    have := pl_val rv (List.getElem?_eq_getElem hlt) ht (hp i _ hi (List.getElem?_eq_getElem hlt))
    subst this
    unfold foot at hn
    cases hn
  ln := rfl
  hi := fun i t n hi ht hn => rv.lt ht hn
  fr := fun n _ _ => rfl
theorem RV.forgetE (rv : RV e l S fts) (i : Nat) : RV (e.set i .no) l S (fts.set i .val) := by
  have h := rv.forget i (l.getD i none)
  have : l.set i (l.getD i none) = l := by
    apply List.ext_getElem?
    intro j
    by_cases hj : i = j
    · subst hj
      by_cases hl : i < l.length
      · rw [List.getElem?_set_self hl, List.getD_eq_getElem?_getD, List.getElem?_eq_getElem hl]; rfl
      · rw [List.getElem?_eq_none (by simp; omega), List.getElem?_eq_none (by omega)]
    · rw [List.getElem?_set_ne hj]
  rwa [this] at h
theorem isNo_f {s : Sl} (h : (!isNo s) = true) : s ≠ .no := fun z => by subst z; cases h
theorem take_some {x : Nat} {s : Sl} {e e3 : Env} (h : takeS x e = some (s, e3)) : e[x]? = some s ∧ s ≠ .no ∧ e3 = e.set x .no := by
  unfold takeS at h
  split at h
  · next s' hs =>
    split at h
    · cases h
    · next hn =>
      cases h
      exact ⟨hs, fun z => hn (by rw [z]; rfl), rfl⟩
  · cases h
end
theorem foots_cons {t : FT} {ts : List FT} {n : Nat} : n ∈ foots (t :: ts) ↔ n ∈ foot t ∨ n ∈ foots ts := by rw [foots]; exact List.mem_append
theorem foots_ndc {t : FT} {ts : List FT} : (foots (t :: ts)).Nodup ↔ (foot t).Nodup ∧ (foots ts).Nodup ∧ ∀ n ∈ foot t, n ∉ foots ts := by
  rw [foots, List.nodup_append]
  exact ⟨fun ⟨a, b, c⟩ => ⟨a, b, fun n h1 h2 => c n h1 n h2 rfl⟩, fun ⟨a, b, c⟩ => ⟨a, b, fun n h1 m h2 e => c n h1 (e ▸ h2)⟩⟩
/-- one thing lent, the part behind it -/
theorem lend {bs : List Bool} {x : Nat} {s : Sl} {t : FT} {e e2 : Env} {l l2 : DL.Loc} {S S2 : Sto} {fts fts2 : List FT} (rv : RV e l S fts) (hx : x < e.length) (ow : Own S s t) (hf : ∀ (j : Nat) (u : FT) (n : Nat), fts[j]? = some u → n ∈ foot u → n ∉ foot t)
    (hbx : ioF bs x = true) (o : Ok ⟨S, ioF bs, l.set x (some (rootD s t)), fts.set x t⟩ e2 l2 S2 fts2) {s2 : Sl} (h2 : e2[x]? = some s2) (hn : s2 ≠ .no) :
    Own S2 s2 t ∧ rootD s2 t = rootD s t ∧ Stp (fun i => ioF bs i && decide (i ≠ x)) (fun n => n ∈ foot t) l S fts (e2.set x .no) l2 S2 (fts2.set x .val) ∧ l2[x]? = some (some (rootD s t)) := by
  have hxl : x < l.length := by rw [rv.l1]; exact hx
  have hxf : x < fts.length := by rw [rv.l2]; exact hx
  obtain ⟨a1, a2⟩ := o.io x hbx
  have a1 : l2[x]? = (l.set x (some (rootD s t)))[x]? := a1
  have a2 : fts2[x]? = (fts.set x t)[x]? := a2
  rw [List.getElem?_set_self hxl] at a1
  rw [List.getElem?_set_self hxf] at a2
  obtain ⟨b1, b2⟩ := o.rv.sl x s2 t h2 a2 hn
  rw [a1] at b1
  have hr : rootD s2 t = rootD s t := (Option.some.inj (Option.some.inj b1)).symm
  refine ⟨b2, hr, ⟨o.rv.forgetE x, o.le, fun i hi => ?_, fun i u n hi hu hnu => ?_, by rw [o.ln]; simp, fun n hn hne hnf => ?_⟩, a1⟩
  · rw [Bool.and_eq_true] at hi
    have hne : x ≠ i := fun z => of_decide_eq_true hi.2 z.symm
    obtain ⟨c1, c2⟩ := o.io i hi.1
    have c1 : l2[i]? = (l.set x (some (rootD s t)))[i]? := c1
    have c2 : fts2[i]? = (fts.set x t)[i]? := c2
    rw [List.getElem?_set_ne hne] at c1 c2
    exact ⟨c1, by rw [List.getElem?_set_ne hne]; exact c2⟩
  · by_cases hxi : x = i
    · subst hxi
      have hlt : x < (fts2.set x FT.val).length := (List.getElem?_eq_some_iff.mp hu).1
      rw [List.getElem?_set_self (by simpa using hlt)] at hu
      cases hu
      rw [foot_val] at hnu; cases hnu
    · rw [List.getElem?_set_ne hxi] at hu
      refine .inl (o.lo i u n ?_ hu hnu)
      have : decide (i ≠ x) = true := decide_eq_true fun z => hxi z.symm
      rw [this, Bool.and_true] at hi
      exact hi
  · refine o.fr n hn fun i u hi hu hnu => ?_
    have hu : (fts.set x t)[i]? = some u := hu
    by_cases hxi : x = i
    · subst hxi
      rw [List.getElem?_set_self hxf] at hu
      cases hu
      exact hne hnu
    · rw [List.getElem?_set_ne hxi] at hu
      refine hnf i u ?_ hu hnu
      show (ioF bs i && decide (i ≠ x)) = true
      rw [Bool.and_eq_true]
      exact ⟨hi, decide_eq_true fun z => hxi z.symm⟩
end VL

/-! VL17: loops over lists of live things. -/
namespace VL
open PySem PySem.Spec PyProof.Rows L2 DL
section
variable {bs : Nat → Bool} {Ex : Nat → Prop} {l : DL.Loc} {S : Sto} {fts : List FT} {e : Env}
theorem Stp.refl (rv : RV e l S fts) : Stp bs Ex l S fts e l S fts := ⟨rv, Nat.le_refl _, fun _ _ => ⟨rfl, rfl⟩, fun _ _ _ _ h _ => .inr h, rfl, fun _ _ _ _ => rfl⟩
theorem Stp.setV (rv : RV e l S fts) {k : Nat} (hk : bs k = false) {d : D} (hd : flat d) : Stp bs Ex l S fts (e.set k (.va d)) (l.set k (some d)) S (fts.set k .val) := by
  have r := rv.set k (s := .va d) (t := .val) (own_va.mpr hd) (fun _ _ n _ _ h => by rw [foot_val] at h; cases h) (by rw [foot_val]; exact List.nodup_nil)
  refine ⟨r, Nat.le_refl _, fun i hi => ?_, fun i t n hi ht hn => ?_, by simp, fun _ _ _ _ => rfl⟩
  · have hne : k ≠ i := fun z => by rw [z, hi] at hk; cases hk
    rw [List.getElem?_set_ne hne, List.getElem?_set_ne hne]; exact ⟨rfl, rfl⟩
  · by_cases hj : k = i
    · subst hj
      have hlt : k < (fts.set k FT.val).length := (List.getElem?_eq_some_iff.mp ht).1
      rw [List.getElem?_set_self (by simpa using hlt)] at ht
      cases ht
      rw [foot_val] at hn; cases hn
    · rw [List.getElem?_set_ne hj] at ht; exact .inr ht
end
/-- the items that the lower loop has -/
def itS (kx : Option Nat) (j : Nat) (d : D) : D := match kx with
  | some _ => D.tup [.int (j : Int), d]
  | none => d
def itemsS (kx : Option Nat) : Nat → List D → List D
  | _, [] => []
  | j, d :: ds => itS kx j d :: itemsS kx (j + 1) ds
theorem itemsS_none : ∀ (j : Nat) (ds : List D), itemsS none j ds = ds
  | _, [] => rfl
  | j, d :: ds => by rw [itemsS, itemsS_none]; rfl
theorem itemsS_some (k : Nat) : ∀ (j : Nat) (ds : List D), itemsS (some k) j ds = enumI j ds
  | _, [] => rfl
  | j, d :: ds => by rw [itemsS, itemsS_some]; rfl
def gS (kx : Option Nat) (x : Nat) : GD := match kx with
  | some k => gTp [k, x]
  | none => gNm x
def bsX (bs : List Bool) (x : Nat) : Nat → Bool := fun i => ioF bs i && decide (i ≠ x)
theorem bsX_x {bs : List Bool} {x : Nat} : bsX bs x x = false := by unfold bsX; simp
/-- a loop's guard bears what the loop changes -/
def GdOk (gd : Sto → Prop) (bs : Nat → Bool) (N : List Nat) (S : Sto) (fts : List FT) : Prop := ∀ S' : Sto, S.length ≤ S'.length → (∀ n, n < S.length → n ∉ N → (∀ (i : Nat) (t : FT), bs i = true → fts[i]? = some t → n ∉ foot t) → S'[n]? = S[n]?) → gd S'
theorem GdOk.now {gd : Sto → Prop} {bs : Nat → Bool} {N : List Nat} {S : Sto} {fts : List FT} (h : GdOk gd bs N S fts) : gd S := h S (Nat.le_refl _) fun _ _ _ _ => rfl
theorem GdOk.next {gd : Sto → Prop} {bs : Nat → Bool} {N N2 : List Nat} {l l1 : DL.Loc} {S S1 : Sto} {fts fts1 : List FT} {e1 : Env} (h : GdOk gd bs N S fts) (a : Stp bs (fun n => n ∈ N) l S fts e1 l1 S1 fts1) (hN : ∀ n ∈ N2, n ∈ N) : GdOk gd bs N2 S1 fts1 := fun S' hle hk =>
  h S' (Nat.le_trans a.le hle) fun n hn hN' hf => (hk n (Nat.lt_of_lt_of_le hn a.le) (fun z => hN' (hN n z)) fun i t hi ht => hf i t hi (by rw [← (a.io i hi).2]; exact ht)).trans (a.fr n hn hN' hf)
/-- what the walk leaves -/
def EndS (bs : Nat → Bool) (ts : List FT) (l : DL.Loc) (S : Sto) (fts : List FT) (ss : List Sl) (f : Out) (r : List Sl × VO) : Prop := match r.2 with
  | .next e1 => ∃ l1 S1 fts1, f = .next l1 S1 ∧ Stp bs (fun n => n ∈ foots ts) l S fts e1 l1 S1 fts1 ∧ Owns S1 r.1 ts ∧ roots r.1 ts = roots ss ts
  | .ret d e1 => ∃ d' l1 S1 fts1 ft, f = .ret d' S1 ∧ Stp bs (fun n => n ∈ foots ts) l S fts e1 l1 S1 fts1 ∧ Owns S1 r.1 ts ∧ roots r.1 ts = roots ss ts ∧ Own S1 d ft ∧ d' = rootD d ft ∧ (foot ft).Nodup ∧ ∀ n ∈ foot ft, S.length ≤ n
  | .exc k e1 => ∃ l1 S1 fts1, f = .exc k l1 S1 ∧ Stp bs (fun n => n ∈ foots ts) l S fts e1 l1 S1 fts1 ∧ Owns S1 r.1 ts ∧ roots r.1 ts = roots ss ts
  | _ => True
theorem owns_lt {S : Sto} {ss : List Sl} {ts : List FT} (h : Owns S ss ts) : ∀ n ∈ foots ts, n < S.length := fun n hn => (Owns.cells ts ss h).2 n hn
theorem roots_cons {s : Sl} {ss : List Sl} {t : FT} {ts : List FT} : roots (s :: ss) (t :: ts) = rootD s t :: roots ss ts := rfl
theorem loopS_ok {x : Nat} {kx : Option Nat} {bs : List Bool} {b : Stm} {vb : VS} (hb : SS (ioF bs) b vb) (hbx : ioF bs x = true) (hkx : ∀ k, kx = some k → ioF bs k = false) (gd : Sto → Prop) :
    ∀ (ss : List Sl) (ts : List FT) (j : Nat) (e : Env) (l : DL.Loc) (S : Sto) (fts : List FT), RV e l S fts → Owns S ss ts → (foots ts).Nodup → (∀ (i : Nat) (u : FT) (n : Nat), fts[i]? = some u → n ∈ foot u → n ∉ foots ts) → GdOk gd (bsX bs x) (foots ts) S fts →
      EndS (bsX bs x) ts l S fts ss (forL gd (gS kx x) b (itemsS kx j (roots ss ts)) l S) (vLoopS x kx bs vb j ss e)
  | [], ts, j, e, l, S, fts, rv, ow, nd, dj, hg => by
    cases ts with
    | cons t ts => unfold Owns at ow; exact ow.elim
    | nil =>
      refine ⟨l, S, fts, ?_, Stp.refl rv, owns_nil, rfl⟩
      show forL gd (gS kx x) b [] l S = _
      unfold forL
      rw [if_pos hg.now]
  | s :: ss, [], j, e, l, S, fts, rv, ow, nd, dj, hg => by unfold Owns at ow; exact ow.elim
  | s :: ss, t :: ts, j, e, l, S, fts, rv, ow, nd, dj, hg => by
    obtain ⟨ow1, ow2⟩ := owns_cons.mp ow
    obtain ⟨nd1, nd2, nd3⟩ := foots_ndc.mp nd
    unfold vLoopS
    by_cases hz : (plB bs e && !isNo s && decide (x < e.length)) = true
    case neg => rw [if_neg hz]; trivial
    rw [if_pos hz]
    rw [Bool.and_eq_true, Bool.and_eq_true] at hz
    obtain ⟨⟨hp, hno⟩, hxl⟩ := hz
    have hno := isNo_f hno
    have hxl := of_decide_eq_true hxl
    -- the place, then the thing
    have st0 : ∃ e0 l0 fts0, preS kx j e = e0 ∧ gS kx x (itS kx j (rootD s t)) l S = some (l0.set x (some (rootD s t)), S) ∧ Stp (bsX bs x) (fun n => n ∈ foots (t :: ts)) l S fts e0 l0 S fts0 ∧ (∀ (i : Nat) (u : FT) (n : Nat), fts0[i]? = some u → n ∈ foot u → n ∉ foots (t :: ts)) ∧ (∀ (i : Nat) (s : Sl), ioF bs i = false → e0[i]? = some s → isPl s = true) ∧ e0.length = e.length := by
      cases kx with
      | none => exact ⟨e, l, fts, rfl, rfl, Stp.refl rv, dj, fun i s hi hs => plB_at hp hi hs, rfl⟩
      | some k =>
        have hk := hkx k rfl
        refine ⟨_, _, _, rfl, rfl, Stp.setV rv (k := k) (by unfold bsX; rw [hk]; rfl) (flat_int _), fun i u n hu hn => ?_, fun i s' hi hs => ?_, by unfold preS; simp⟩
        · by_cases hj : k = i
          · subst hj
            have hlt : k < (fts.set k FT.val).length := (List.getElem?_eq_some_iff.mp hu).1
            rw [List.getElem?_set_self (by simpa using hlt)] at hu
            cases hu
            rw [foot_val] at hn; cases hn
          · rw [List.getElem?_set_ne hj] at hu; exact dj i u n hu hn
        · unfold preS at hs
          simp only at hs
          by_cases hj : k = i
          · subst hj
            have hlt : k < (e.set k (Sl.va (.int (j : Int)))).length := (List.getElem?_eq_some_iff.mp hs).1
            rw [List.getElem?_set_self (by simpa using hlt)] at hs
            cases hs; rfl
          · rw [List.getElem?_set_ne hj] at hs; exact plB_at hp hi hs
    obtain ⟨e0, l0, fts0, q1, q2, a0, dj0, pl0, ln0⟩ := st0
    rw [q1]
    have hxl0 : x < e0.length := by rw [ln0]; exact hxl
    have dj1 : ∀ (i : Nat) (u : FT) (n : Nat), fts0[i]? = some u → n ∈ foot u → n ∉ foot t := fun i u n hu hn hn' => dj0 i u n hu hn (foots_cons.mpr (.inl hn'))
    have rv1 := a0.rv.set x ow1 dj1 nd1
    have o1 : Ok ⟨S, ioF bs, l0.set x (some (rootD s t)), fts0.set x t⟩ (e0.set x s) (l0.set x (some (rootD s t))) S (fts0.set x t) := rv1.reb fun i s' hi hs => by
      have hne : x ≠ i := fun z => by rw [← z, hbx] at hi; cases hi
      rw [List.getElem?_set_ne hne] at hs
      exact pl0 i s' hi hs
    have qb := hb _ (e0.set x s) _ S _ rfl o1
    have hF : forL gd (gS kx x) b (itemsS kx j (roots (s :: ss) (t :: ts))) l S = (match b (l0.set x (some (rootD s t))) S with
      | .next l2 S2 => forL gd (gS kx x) b (itemsS kx (j + 1) (roots ss ts)) l2 S2
      | .cont l2 S2 => forL gd (gS kx x) b (itemsS kx (j + 1) (roots ss ts)) l2 S2
      | .brk l2 S2 => .next l2 S2
      | .ret d S2 => .ret d S2
      | .exc x l2 S2 => .exc x l2 S2
      | .bad => .bad) := by
      rw [roots_cons, itemsS, forL, if_pos hg.now, q2]
      try rfl
    rw [hF]
    -- behind the body
    have back : ∀ {e2 : Env} {l2 : DL.Loc} {S2 : Sto} {fts2 : List FT} {s2 : Sl} {e3 : Env}, Ok ⟨S, ioF bs, l0.set x (some (rootD s t)), fts0.set x t⟩ e2 l2 S2 fts2 → takeS x e2 = some (s2, e3) →
        Own S2 s2 t ∧ rootD s2 t = rootD s t ∧ Stp (bsX bs x) (fun n => n ∈ foots (t :: ts)) l S fts e3 l2 S2 (fts2.set x .val) ∧ Owns S2 ss ts ∧ (∀ (i : Nat) (u : FT) (n : Nat), (fts2.set x FT.val)[i]? = some u → n ∈ foot u → n ∉ foots ts) := fun {e2 l2 S2 fts2 s2 e3} o2 ht => by
      obtain ⟨t1, t2, rfl⟩ := take_some ht
      obtain ⟨w1, w2, w3, w4⟩ := lend a0.rv hxl0 ow1 dj1 hbx o2 t1 t2
      refine ⟨w1, w2, a0.trans (w3.wide fun n hn => foots_cons.mpr (.inl hn)), Owns.keep ts ss (fun n hn => w3.fr n (owns_lt ow2 n hn) (fun z => nd3 n z hn) fun i u hi hu hnu => dj0 i u n hu hnu (foots_cons.mpr (.inr hn))) ow2, fun i u n hu hnu hn => ?_⟩
      cases hi : bsX bs x i with
      | true =>
        rw [(w3.io i hi).2] at hu
        exact dj0 i u n hu hnu (foots_cons.mpr (.inr hn))
      | false =>
        rcases w3.lo i u n hi hu hnu with h | h
        · exact absurd (owns_lt ow2 n hn) (Nat.not_lt.mpr h)
        · exact dj0 i u n h hnu (foots_cons.mpr (.inr hn))
    -- on
    have go : ∀ {e2 : Env} {l2 : DL.Loc} {S2 : Sto} {fts2 : List FT}, Ok ⟨S, ioF bs, l0.set x (some (rootD s t)), fts0.set x t⟩ e2 l2 S2 fts2 →
        EndS (bsX bs x) (t :: ts) l S fts (s :: ss) (forL gd (gS kx x) b (itemsS kx (j + 1) (roots ss ts)) l2 S2) (match takeS x e2 with
          | some (s2, e3) => consR s2 (vLoopS x kx bs vb (j + 1) ss e3)
          | none => (ss, .bad)) := fun {e2 l2 S2 fts2} o2 => by
      cases ht : takeS x e2 with
      | none => trivial
      | some p =>
        obtain ⟨s2, e3⟩ := p
        obtain ⟨w1, w2, w3, w4, w5⟩ := back o2 ht
        have ih := loopS_ok hb hbx hkx gd ss ts (j + 1) e3 l2 S2 _ w3.rv w4 nd2 w5 (hg.next w3 fun n hn => foots_cons.mpr (.inr hn))
        show EndS _ _ _ _ _ _ _ (consR s2 (vLoopS x kx bs vb (j + 1) ss e3))
        generalize vLoopS x kx bs vb (j + 1) ss e3 = r at ih
        obtain ⟨rs, ro⟩ := r
        have keep : ∀ {e4 : Env} {l4 : DL.Loc} {S4 : Sto} {fts4 : List FT}, Stp (bsX bs x) (fun n => n ∈ foots ts) l2 S2 (fts2.set x .val) e4 l4 S4 fts4 → Own S4 s2 t := fun {e4 l4 S4 fts4} a => Own.keep t s2 (fun n hn => a.fr n ((Own.cells t s2 w1).2 n hn) (nd3 n hn) fun i u hi hu hnu => by
          rw [(w3.io i hi).2] at hu
          exact dj i u n hu hnu (foots_cons.mpr (.inl hn))) w1
        have wid : ∀ {e4 : Env} {l4 : DL.Loc} {S4 : Sto} {fts4 : List FT}, Stp (bsX bs x) (fun n => n ∈ foots ts) l2 S2 (fts2.set x .val) e4 l4 S4 fts4 → Stp (bsX bs x) (fun n => n ∈ foots (t :: ts)) l S fts e4 l4 S4 fts4 := fun {e4 l4 S4 fts4} a => w3.trans (a.wide fun n hn => foots_cons.mpr (.inr hn))
        cases ro with
        | next e4 =>
          obtain ⟨l4, S4, fts4, h1, h2, h3, h4⟩ := ih
          exact ⟨l4, S4, fts4, h1, wid h2, owns_cons.mpr ⟨keep h2, h3⟩, by show roots (s2 :: rs) (t :: ts) = _; rw [roots_cons, roots_cons, w2]; exact congrArg _ h4⟩
        | ret d e4 =>
          obtain ⟨d', l4, S4, fts4, ft, h1, h2, h3, h4, h5, h6, h7, h8⟩ := ih
          exact ⟨d', l4, S4, fts4, ft, h1, wid h2, owns_cons.mpr ⟨keep h2, h3⟩, by show roots (s2 :: rs) (t :: ts) = _; rw [roots_cons, roots_cons, w2]; exact congrArg _ h4, h5, h6, h7, fun n hn => Nat.le_trans w3.le (h8 n hn)⟩
        | exc k e4 =>
          obtain ⟨l4, S4, fts4, h1, h2, h3, h4⟩ := ih
          exact ⟨l4, S4, fts4, h1, wid h2, owns_cons.mpr ⟨keep h2, h3⟩, by show roots (s2 :: rs) (t :: ts) = _; rw [roots_cons, roots_cons, w2]; exact congrArg _ h4⟩
        | _ => trivial
    cases hv : vb (e0.set x s) with
    | next e2 => rw [hv] at qb; obtain ⟨l2, S2, fts2, h1, h2⟩ := qb; rw [h1]; exact go h2
    | cont e2 => rw [hv] at qb; obtain ⟨l2, S2, fts2, h1, h2⟩ := qb; rw [h1]; exact go h2
    | brk e2 =>
      rw [hv] at qb; obtain ⟨l2, S2, fts2, h1, h2⟩ := qb; rw [h1]
      simp only
      cases ht : takeS x e2 with
      | none => trivial
      | some p =>
        obtain ⟨s2, e3⟩ := p
        obtain ⟨w1, w2, w3, w4, w5⟩ := back h2 ht
        exact ⟨l2, S2, _, rfl, w3, owns_cons.mpr ⟨w1, w4⟩, by show roots (s2 :: ss) (t :: ts) = _; rw [roots_cons, roots_cons, w2]⟩
    | ret r e2 =>
      rw [hv] at qb; obtain ⟨d, l2, S2, fts2, ft, h1, h2, h3, h4, h5, h6⟩ := qb; rw [h1]
      simp only
      cases ht : takeS x e2 with
      | none => trivial
      | some p =>
        obtain ⟨s2, e3⟩ := p
        obtain ⟨w1, w2, w3, w4, w5⟩ := back h2 ht
        exact ⟨d, l2, S2, _, ft, rfl, w3, owns_cons.mpr ⟨w1, w4⟩, by show roots (s2 :: ss) (t :: ts) = _; rw [roots_cons, roots_cons, w2], h3, h4, h5, h6⟩
    | exc k e2 =>
      rw [hv] at qb; obtain ⟨l2, S2, fts2, h1, h2⟩ := qb; rw [h1]
      simp only
      cases ht : takeS x e2 with
      | none => trivial
      | some p =>
        obtain ⟨s2, e3⟩ := p
        obtain ⟨w1, w2, w3, w4, w5⟩ := back h2 ht
        exact ⟨l2, S2, _, rfl, w3, owns_cons.mpr ⟨w1, w4⟩, by show roots (s2 :: ss) (t :: ts) = _; rw [roots_cons, roots_cons, w2]⟩
    | retf r e2 => trivial
    | bad => trivial
end VL

/-! VL18: loops over lists of live things, as statements. -/
namespace VL
open PySem PySem.Spec PyProof.Rows L2 DL
/-- a walk's end -/
def nbO : VO → VO
  | .next e => .next e
  | .ret d e => .ret d e
  | .exc k e => .exc k e
  | _ => .bad
/-- for x in M[:N], M a new list of live things -/
def vsForS (x : Nat) (bs : List Bool) (N : Nat) (M : Env → VR Sl) (body : VS) : VS := fun e => (M e).toO fun r e1 => match r with
  | .ls ss => nbO (vLoopS x none bs body 0 (ss.take N) e1).2
  | _ => .bad
/-- .. its list is given back to the name i -/
def bkO (i : Nat) (r : List Sl × VO) : VO := match r.2 with
  | .next e => .next (e.set i (.ls r.1))
  | .ret d e => .ret d (e.set i (.ls r.1))
  | .exc k e => .exc k (e.set i (.ls r.1))
  | _ => .bad
/-- for x in i, for k, x in enumerate(i): i a name of a list of live things -/
def vsForL (i x : Nat) (kx : Option Nat) (bs : List Bool) (body : VS) : VS := fun e => match e[i]? with
  | some (.ls ss) => bkO i (vLoopS x kx bs body 0 ss (e.set i .no))
  | _ => .bad
theorem roots_take : ∀ (N : Nat) (ss : List Sl) (ts : List FT), roots (ss.take N) (ts.take N) = (roots ss ts).take N
  | 0, ss, ts => by simp [roots]
  | N + 1, [], ts => by simp [roots]
  | N + 1, s :: ss, [] => by simp [roots]
  | N + 1, s :: ss, t :: ts => by
    have := roots_take N ss ts
    unfold roots at this ⊢
    simp [this]
theorem owns_take {S : Sto} : ∀ (N : Nat) {ss : List Sl} {ts : List FT}, Owns S ss ts → Owns S (ss.take N) (ts.take N)
  | 0, ss, ts, _ => by rw [List.take_zero, List.take_zero]; exact owns_nil
  | N + 1, [], [], _ => owns_nil
  | N + 1, [], t :: ts, h => by unfold Owns at h; exact h.elim
  | N + 1, s :: ss, [], h => by unfold Owns at h; exact h.elim
  | N + 1, s :: ss, t :: ts, h => by
    obtain ⟨a, b⟩ := owns_cons.mp h
    exact owns_cons.mpr ⟨a, owns_take N b⟩
theorem foots_take : ∀ (N : Nat) {ts : List FT} {n : Nat}, n ∈ foots (ts.take N) → n ∈ foots ts
  | 0, ts, n, h => by rw [List.take_zero] at h; unfold foots at h; cases h
  | N + 1, [], n, h => h
  | N + 1, t :: ts, n, h => by
    rw [List.take_succ_cons] at h
    rcases foots_cons.mp h with h | h
    · exact foots_cons.mpr (.inl h)
    · exact foots_cons.mpr (.inr (foots_take N h))
theorem foots_take_nd : ∀ (N : Nat) {ts : List FT}, (foots ts).Nodup → (foots (ts.take N)).Nodup
  | 0, ts, _ => by rw [List.take_zero]; unfold foots; exact List.nodup_nil
  | N + 1, [], h => h
  | N + 1, t :: ts, h => by
    rw [List.take_succ_cons]
    obtain ⟨a, b, c⟩ := foots_ndc.mp h
    exact foots_ndc.mpr ⟨a, foots_take_nd N b, fun n h1 h2 => c n h1 (foots_take N h2)⟩
theorem own_lsOf {S : Sto} {ss : List Sl} {t : FT} (h : Own S (.ls ss) t) : ∃ n ts, t = .lnode n ts ∧ S[n]? = some (.lst (roots ss ts)) ∧ Owns S ss ts := by
  cases t with
  | lnode n ts => exact ⟨n, ts, rfl, own_ls.mp h⟩
  | _ => exact h.elim
theorem foot_lnode {n : Nat} {ts : List FT} {m : Nat} : m ∈ foot (.lnode n ts) ↔ m = n ∨ m ∈ foots ts := by rw [foot]; exact List.mem_cons
theorem nd_lnode {n : Nat} {ts : List FT} : (foot (.lnode n ts)).Nodup ↔ n ∉ foots ts ∧ (foots ts).Nodup := by rw [foot]; exact List.nodup_cons
section
variable {io : Nat → Bool} {b : Stm} {vb : VS} {A : E} {M : Env → VR Sl}
theorem ss_forS (x : Nat) (bs : List Bool) (N : Nat) (hM : SM io A M) (hb : SS (ioF bs) b vb) (hbx : ioF bs x = true) (hsub : ∀ i, io i = true → bsX bs x i = true) : SS io (sFor (iSeq (eSl A pNo (pAt (eC (.int (N : Int)))))) (gNm x) b) (vsForS x bs N M vb) := fun c env l S fts hi o => by
  unfold vsForS
  have q := hM c env l S fts hi o
  cases hr : M env with
  | bad => trivial
  | exc k e1 =>
    rw [hr] at q
    obtain ⟨S1, h1, o1, _⟩ := q
    refine ⟨l, S1, fts, ?_, o1⟩
    unfold sFor iSeq eSl
    rw [h1]; rfl
  | ok r e1 =>
    rw [hr] at q
    obtain ⟨d, S1, h1, o1, _, ft, w1, rfl, w3, w4⟩ := q
    cases r with
    | ls ss =>
      obtain ⟨n, ts, rfl, hn, hw⟩ := own_lsOf w1
      obtain ⟨nd1, nd2⟩ := nd_lnode.mp w3
      have hA : iSeq (eSl A pNo (pAt (eC (.int (N : Int))))) l S = Res.ok ⟨(roots ss ts).take N, fun S' => seqOf S' (.lst ((roots ss ts).take N)) = some ((roots ss ts).take N)⟩ S1 := by
        have hv : eSl A pNo (pAt (eC (.int (N : Int)))) l S = .ok (.lst ((roots ss ts).take N)) S1 := by
          unfold eSl
          rw [h1]
          show slD (.ref n) none (some (N : Int)) S1 = _
          have hl : DL.listOf S1 (.ref n) = some (roots ss ts) := by
            show (match S1[n]? with | some (.lst xs) => some xs | _ => none) = _
            rw [hn]
          show (match DL.listOf S1 (.ref n) with
            | some xs => Res.ok (D.lst (slD.cutL xs none (some (N : Int)))) S1
            | none => Res.bad) = _
          rw [hl]
          show Res.ok (D.lst (slD.cutL (roots ss ts) none (some (N : Int)))) S1 = _
          rw [cut_to]
        unfold iSeq
        rw [hv]; rfl
      have key := loopS_ok (kx := none) hb hbx (fun _ h => by cases h) (fun S' => seqOf S' (.lst ((roots ss ts).take N)) = some ((roots ss ts).take N)) (ss.take N) (ts.take N) 0 e1 l S1 fts o1.rv (owns_take N hw) (foots_take_nd N nd2) (fun i u m hu hm hm' => (w4 m (foot_lnode.mpr (.inr (foots_take N hm')))).2 i u hu hm) (fun _ _ _ => rfl)
      rw [itemsS_none, roots_take] at key
      have hx : ∀ m, m ∈ foots (ts.take N) → c.S0.length ≤ m := fun m hm => (w4 m (foot_lnode.mpr (.inr (foots_take N hm)))).1
      have hs : ∀ i, c.ios i = true → bsX bs x i = true := by rw [hi]; exact hsub
      show So c (nbO (vLoopS x none bs vb 0 (ss.take N) e1).2) (sFor _ _ b l S)
      unfold sFor
      rw [hA]
      show So c (nbO (vLoopS x none bs vb 0 (ss.take N) e1).2) (forL _ (gNm x) b ((roots ss ts).take N) l S1)
      unfold EndS at key
      generalize vLoopS x none bs vb 0 (ss.take N) e1 = r at key
      obtain ⟨rs, ro⟩ := r
      cases ro with
      | next e2 => obtain ⟨l2, S2, fts2, k1, k2, _⟩ := key; exact ⟨l2, S2, fts2, k1, o1.stp k2 hs hx⟩
      | ret d e2 => obtain ⟨d', l2, S2, fts2, ft2, k1, k2, _, _, k5, k6, k7, k8⟩ := key; exact ⟨d', l2, S2, fts2, ft2, k1, o1.stp k2 hs hx, k5, k6, k7, fun m hm => Nat.le_trans o1.le (k8 m hm)⟩
      | exc k e2 => obtain ⟨l2, S2, fts2, k1, k2, _⟩ := key; exact ⟨l2, S2, fts2, k1, o1.stp k2 hs hx⟩
      | brk e2 => trivial
      | cont e2 => trivial
      | retf d e2 => trivial
      | bad => trivial
    | _ => trivial
/-- the list is back in its name -/
theorem Ok.putS {c : Bs} {env e1 : Env} {l l1 : DL.Loc} {S S1 : Sto} {fts fts1 : List FT} {i n : Nat} {ts : List FT} {ss ss1 : List Sl} {bs : Nat → Bool} (o : Ok c env l S fts) (he : env[i]? = some (.ls ss)) (hf : fts[i]? = some (.lnode n ts)) (hbi : bs i = true)
    (a : Stp bs (fun m => m ∈ foots ts) l S (fts.set i .val) e1 l1 S1 fts1) (hw : Owns S1 ss1 ts) (hr : roots ss1 ts = roots ss ts) (hsub : ∀ j, c.ios j = true → bs j = true) : Ok c (e1.set i (.ls ss1)) l1 S1 (fts1.set i (.lnode n ts)) := by
  obtain ⟨hl, ho⟩ := o.rv.sl i _ _ he hf (by intro z; cases z)
  obtain ⟨hn, hws⟩ := own_ls.mp ho
  obtain ⟨nd1, nd2⟩ := nd_lnode.mp (o.rv.nd1 i _ hf)
  have hnlt : n < S.length := (List.getElem?_eq_some_iff.mp hn).1
  have hil : i < fts.length := (List.getElem?_eq_some_iff.mp hf).1
  have hset : ∀ {j : Nat} {u : FT}, (fts.set i FT.val)[j]? = some u → ∀ m ∈ foot u, j ≠ i ∧ fts[j]? = some u := fun {j u} hu m hm => by
    by_cases hj : i = j
    · subst hj
      rw [List.getElem?_set_self hil] at hu
      cases hu
      rw [foot_val] at hm; cases hm
    · rw [List.getElem?_set_ne hj] at hu
      exact ⟨fun z => hj z.symm, hu⟩
  have hSn : S1[n]? = some (.lst (roots ss1 ts)) := by
    rw [a.fr n hnlt nd1 fun j u hj hu hnu => ?_, hr]
    · exact hn
    · obtain ⟨h1, h2⟩ := hset hu n hnu
      exact h1 (o.rv.nd j i u _ n h2 hf hnu (foot_lnode.mpr (.inl rfl)))
  have hl1 : l1[i]? = some (some (.ref n)) := (a.io i hbi).1.trans hl
  have ow1 : Own S1 (.ls ss1) (.lnode n ts) := own_ls.mpr ⟨hSn, hw⟩
  have rv := a.rv.set i ow1 (fun j u m hu hm hm' => by
    have hmS : m < S.length := by
      rcases foot_lnode.mp hm' with rfl | h
      · exact hnlt
      · exact owns_lt hws m h
    cases hj : bs j with
    | true =>
      rw [(a.io j hj).2] at hu
      obtain ⟨h1, h2⟩ := hset hu m hm
      exact h1 (o.rv.nd j i u _ m h2 hf hm hm')
    | false =>
      rcases a.lo j u m hj hu hm with h | h
      · exact absurd hmS (Nat.not_lt.mpr h)
      · obtain ⟨h1, h2⟩ := hset h m hm
        exact h1 (o.rv.nd j i u _ m h2 hf hm hm')) (o.rv.nd1 i _ hf)
  have hls : l1.set i (some (rootD (.ls ss1) (.lnode n ts))) = l1 := by
    apply List.ext_getElem?
    intro j
    by_cases hj : i = j
    · subst hj
      rw [List.getElem?_set_self (List.getElem?_eq_some_iff.mp hl1).1, hl1]; rfl
    · rw [List.getElem?_set_ne hj]
  rw [hls] at rv
  have hi1 : i < fts1.length := by
    have := a.rv.l1
    have := a.rv.l2
    have := (List.getElem?_eq_some_iff.mp hl1).1
    omega
  have mem : ∀ m, m ∈ foots ts → m ∈ foot (.lnode n ts) := fun m hm => foot_lnode.mpr (.inr hm)
  refine ⟨rv, Nat.le_trans o.le a.le, fun j hj => ?_, fun j u m hj hu hm => ?_, a.ln.trans o.ln, o.hi, fun m hm hnf => ?_⟩
  · obtain ⟨h1, h2⟩ := a.io j (hsub j hj)
    refine ⟨h1.trans (o.io j hj).1, ?_⟩
    by_cases hij : i = j
    · subst hij
      rw [List.getElem?_set_self hi1, ← hf]; exact (o.io i hj).2
    · rw [List.getElem?_set_ne hij, h2, List.getElem?_set_ne hij]; exact (o.io j hj).2
  · by_cases hij : i = j
    · subst hij
      rw [List.getElem?_set_self hi1] at hu
      cases hu
      exact o.lo i _ m hj hf hm
    · rw [List.getElem?_set_ne hij] at hu
      cases hb : bs j with
      | true =>
        rw [(a.io j hb).2] at hu
        exact o.lo j u m hj (hset hu m hm).2 hm
      | false =>
        rcases a.lo j u m hb hu hm with h | h
        · exact Nat.le_trans o.le h
        · exact o.lo j u m hj (hset h m hm).2 hm
  · refine (a.fr m (Nat.lt_of_lt_of_le hm o.le) (fun hmt => ?_) fun j u hj hu hmu => ?_).trans (o.fr m hm hnf)
    · cases hc : c.ios i with
      | true => exact hnf i _ hc (by rw [← (o.io i hc).2]; exact hf) (mem m hmt)
      | false => exact absurd (o.lo i _ m hc hf (mem m hmt)) (by omega)
    · obtain ⟨h1, h2⟩ := hset hu m hmu
      cases hc : c.ios j with
      | true => exact hnf j u hc (by rw [← (o.io j hc).2]; exact h2) hmu
      | false => exact absurd (o.lo j u m hc h2 hmu) (by omega)
/-- a walk over the cell n -/
def WalkS (i : Nat) (kx : Option Nat) (A : I) : Prop := ∀ (l : DL.Loc) (S : Sto) (n : Nat) (xs : List D), l[i]? = some (some (.ref n)) → S[n]? = some (.lst xs) → ∃ gd : Sto → Prop, A l S = .ok ⟨itemsS kx 0 xs, gd⟩ S ∧ ∀ S' : Sto, S'[n]? = some (.lst xs) → gd S'
theorem eVar_at {l : DL.Loc} {S : Sto} {i : Nat} {d : D} (h : l[i]? = some (some d)) : eVar i l S = .ok d S := by
  unfold eVar
  rw [h]
theorem walk_seq (i : Nat) : WalkS i none (iSeq (eVar i)) := fun l S n xs h1 h2 => by
  have hs : ∀ {S' : Sto}, S'[n]? = some (.lst xs) → seqOf S' (.ref n) = some xs := fun {S'} h => by
    show (match S'[n]? with | some (.lst xs) => some xs | _ => none) = some xs
    rw [h]
  refine ⟨fun S' => seqOf S' (.ref n) = some xs, ?_, fun S' h => hs h⟩
  unfold iSeq
  rw [eVar_at h1]
  show (match seqOf S (.ref n) with
    | some xs => Res.ok (Seqn.mk xs fun S' => seqOf S' (.ref n) = some xs) S
    | none => .bad) = _
  rw [hs h2, itemsS_none]
theorem walk_enum (i k : Nat) : WalkS i (some k) (i_enumerate (aCons (eVar i) aNil)) := fun l S n xs h1 h2 => by
  have hs : ∀ {S' : Sto}, S'[n]? = some (.lst xs) → DL.listOf S' (.ref n) = some xs := fun {S'} h => by
    show (match S'[n]? with | some (.lst xs) => some xs | _ => none) = some xs
    rw [h]
  refine ⟨fun S' => DL.listOf S' (.ref n) = some xs, ?_, fun S' h => hs h⟩
  unfold i_enumerate aCons aNil
  rw [eVar_at h1]
  show (match DL.listOf S (.ref n) with
    | some xs => Res.ok (Seqn.mk (enumI 0 xs) fun S' => DL.listOf S' (.ref n) = some xs) S
    | none => .bad) = _
  rw [hs h2, itemsS_some]
theorem ss_forL (i x : Nat) (kx : Option Nat) (bs : List Bool) {A : I} (hA : WalkS i kx A) (hb : SS (ioF bs) b vb) (hbx : ioF bs x = true) (hkx : ∀ k, kx = some k → ioF bs k = false) (hbi : bsX bs x i = true) (hsub : ∀ i, io i = true → bsX bs x i = true) : SS io (sFor A (gS kx x) b) (vsForL i x kx bs vb) := fun c env l S fts hi o => by
  unfold vsForL
  cases he : env[i]? with
  | none => trivial
  | some s =>
    cases s with
    | ls ss =>
      simp only
      have hlt : i < fts.length := by rw [o.rv.l2]; exact (List.getElem?_eq_some_iff.mp he).1
      have ht : fts[i]? = some fts[i] := List.getElem?_eq_getElem hlt
      obtain ⟨w0, w⟩ := o.rv.sl i _ _ he ht (by intro z; cases z)
      obtain ⟨n, ts, hn, w1, w2⟩ := own_lsOf w
      rw [hn] at w0 ht w
      obtain ⟨nd1, nd2⟩ := nd_lnode.mp (o.rv.nd1 i _ ht)
      obtain ⟨gd, hA1, hA2⟩ := hA l S n _ w0 w1
      have hs : ∀ i, c.ios i = true → bsX bs x i = true := by rw [hi]; exact hsub
      have hset : ∀ {j : Nat} {u : FT}, (fts.set i FT.val)[j]? = some u → ∀ m ∈ foot u, j ≠ i ∧ fts[j]? = some u := fun {j u} hu m hm => by
        by_cases hj : i = j
        · subst hj
          rw [List.getElem?_set_self hlt] at hu
          cases hu
          rw [foot_val] at hm; cases hm
        · rw [List.getElem?_set_ne hj] at hu
          exact ⟨fun z => hj z.symm, hu⟩
      have key := loopS_ok (kx := kx) hb hbx hkx gd ss ts 0 (env.set i .no) l S (fts.set i .val) (o.rv.forgetE i) w2 nd2 (fun j u m hu hm hm' => by
        obtain ⟨h1, h2⟩ := hset hu m hm
        exact h1 (o.rv.nd j i u _ m h2 ht hm (foot_lnode.mpr (.inr hm')))) (fun S' hle hk => hA2 S' (by
        exact (hk n (List.getElem?_eq_some_iff.mp w1).1 nd1 fun j u hj hu hm => by
          obtain ⟨h1, h2⟩ := hset hu n hm
          exact h1 (o.rv.nd j i u _ n h2 ht hm (foot_lnode.mpr (.inl rfl)))).trans w1))
      show So c (bkO i (vLoopS x kx bs vb 0 ss (env.set i .no))) (sFor A (gS kx x) b l S)
      unfold sFor
      rw [hA1]
      show So c (bkO i (vLoopS x kx bs vb 0 ss (env.set i .no))) (forL gd (gS kx x) b (itemsS kx 0 (roots ss ts)) l S)
      unfold EndS at key
      generalize vLoopS x kx bs vb 0 ss (env.set i .no) = r at key
      obtain ⟨rs, ro⟩ := r
      cases ro with
      | next e2 => obtain ⟨l2, S2, fts2, k1, k2, k3, k4⟩ := key; exact ⟨l2, S2, _, k1, o.putS he ht hbi k2 k3 k4 hs⟩
      | ret d e2 => obtain ⟨d', l2, S2, fts2, ft2, k1, k2, k3, k4, k5, k6, k7, k8⟩ := key; exact ⟨d', l2, S2, _, ft2, k1, o.putS he ht hbi k2 k3 k4 hs, k5, k6, k7, fun m hm => Nat.le_trans o.le (k8 m hm)⟩
      | exc k e2 => obtain ⟨l2, S2, fts2, k1, k2, k3, k4⟩ := key; exact ⟨l2, S2, _, k1, o.putS he ht hbi k2 k3 k4 hs⟩
      | _ => trivial
    | _ => trivial
end
end VL

/-! VL19: comprehensions whose items are live things. -/
namespace VL
open PySem PySem.Spec PyProof.Rows L2 DL
def vLcLS (bs : List Bool) (G : VG) (el : Env → VR Sl) (own : List Nat) (e0 : Env) : List D → Env → List Sl → VR (List Sl)
  | [], e, acc => .ok acc e
  | d :: ds, e, acc => match G d (wipeE e own) with
    | none => .bad
    | some e1 => if plB bs e1 = true then ((el e1).bind fun s e3 => if acc.length < sizeLine then vLcLS bs G el own e0 ds (restE e3 e0 own) (acc ++ [s]) else .bad) else .bad
def vLcS (bs : List Bool) (it : VI) (G : VG) (el : Env → VR Sl) (own : List Nat) : Env → VR Sl := fun e => (it e).bind fun xs e1 => if (own.all fun i => plainS e1[i]?) = true then (vNox (vLcLS bs G el own e1 xs e1 [])).bind fun acc e2 => .ok (.ls acc) e2 else .bad
theorem roots_app : ∀ {as bs : List Sl} {ts us : List FT}, as.length = ts.length → roots (as ++ bs) (ts ++ us) = roots as ts ++ roots bs us
  | [], bs, [], us, _ => rfl
  | [], bs, t :: ts, us, h => by simp at h
  | a :: as, bs, [], us, h => by simp at h
  | a :: as, bs, t :: ts, us, h => by
    have := roots_app (as := as) (bs := bs) (ts := ts) (us := us) (by simpa using h)
    unfold roots at this ⊢
    simp [this]
theorem owns_app {S : Sto} : ∀ {as bs : List Sl} {ts us : List FT}, Owns S as ts → Owns S bs us → Owns S (as ++ bs) (ts ++ us)
  | [], bs, [], us, _, h => h
  | [], bs, t :: ts, us, h, _ => by unfold Owns at h; exact h.elim
  | a :: as, bs, [], us, h, _ => by unfold Owns at h; exact h.elim
  | a :: as, bs, t :: ts, us, h, h2 => by
    obtain ⟨x, y⟩ := owns_cons.mp h
    exact owns_cons.mpr ⟨x, owns_app y h2⟩
theorem foots_app : ∀ {ts us : List FT}, foots (ts ++ us) = foots ts ++ foots us
  | [], us => by simp [foots]
  | t :: ts, us => by rw [List.cons_append, foots, foots, foots_app, List.append_assoc]
theorem foots_one {t : FT} : foots [t] = foot t := by simp [foots]
section
variable {io : Nat → Bool} {is own : List Nat} {G : GD} {vg : VG} {el : E} {vel : Env → VR Sl} {gd : Sto → Prop} {c : Bs} {l : DL.Loc} {fts : List FT} {bs : List Bool}
theorem lcS_loop (hc : c.ios = io) (hsub : ∀ i, io i = true → ioF bs i = true) (hfr : freeN io own = true) (his : ∀ i ∈ is, i ∈ own) (hG : SGt io is G vg) (hel : SM (ioF bs) el vel) (hgd : ∀ S2, gd S2) {n : Nat} (hn : c.S0.length ≤ n) (hnf : ∀ (i : Nat) (t : FT), fts[i]? = some t → n ∉ foot t) {e0 : Env} (hp : ∀ i ∈ own, plainS e0[i]? = true) :
    ∀ (ds : List D) (e : Env) (S : Sto) (acc acc' : List Sl) (ts : List FT) (e' : Env), flats ds → Ok c e l S fts → S[n]? = some (.lst (roots acc ts)) → Owns S acc ts → (foots ts).Nodup → n ∉ foots ts → (∀ m ∈ foots ts, c.S0.length ≤ m ∧ ∀ (i : Nat) (t : FT), fts[i]? = some t → m ∉ foot t) →
    (∀ i ∈ own, e0[i]? = e[i]?) → e0.length = e.length → vLcLS bs vg vel own e0 ds e acc = .ok acc' e' →
    ∃ S' ts', lcL gd G tTrue el n ds (wipeL l own) S = .ok () S' ∧ Ok c e' l S' fts ∧ S'[n]? = some (.lst (roots acc' ts')) ∧ Owns S' acc' ts' ∧ (foots ts').Nodup ∧ n ∉ foots ts' ∧ (∀ m ∈ foots ts', c.S0.length ≤ m ∧ ∀ (i : Nat) (t : FT), fts[i]? = some t → m ∉ foot t) ∧ S.length ≤ S'.length ∧
      ∀ m, m < S.length → m ≠ n → m ∉ foots ts → (∀ (i : Nat) (t : FT), fts[i]? = some t → m ∉ foot t) → S'[m]? = S[m]?
  | [], e, S, acc, acc', ts, e', _, o, hS, hw, nd, hnn, hlo, _, _, h => by
    cases h
    refine ⟨S, ts, ?_, o, hS, hw, nd, hnn, hlo, Nat.le_refl _, fun _ _ _ _ _ => rfl⟩
    unfold lcL
    rw [if_pos (hgd S)]
  | d :: ds, e, S, acc, acc', ts, e', hd, o, hS, hw, nd, hnn, hlo, hE, hl0, h => by
    unfold vLcLS at h
    unfold lcL
    rw [if_pos (hgd S)]
    have ow := o.wipe hc hfr
    cases h1 : vg d (wipeE e own) with
    | none => rw [h1] at h; cases h
    | some e1 =>
      rw [h1] at h
      simp only at h
      split at h
      case isFalse => cases h
      next hpl =>
      obtain ⟨l1, ftsT, g1, o1, g3, g4, g5⟩ := hG c (wipeE e own) (wipeL l own) S (wipeT fts own) d e1 hc ow (flats_cons.mp hd).1 h1
      rw [g1]
      simp only
      have hlen : l1.length = l.length := by
        have w : ∀ own : List Nat, (wipeL l own).length = l.length := by
          intro own
          induction own with
          | nil => rfl
          | cons i own ih => unfold wipeL; rw [List.length_set, ih]
        rw [g5, w]
      have hoff : ∀ i, i ∉ own → l1[i]? = l[i]? ∧ ftsT[i]? = fts[i]? := fun i hi => by
        obtain ⟨a, b⟩ := g3 i fun z => hi (his i z)
        rw [a, b, wipeL_at hi, wipeT_at hi]; exact ⟨rfl, rfl⟩
      have hsubT : ∀ (i : Nat) (t : FT), ftsT[i]? = some t → t = .val ∨ fts[i]? = some t := fun i t hi => by
        by_cases hj : i ∈ is
        · rcases g4 i hj with q | q
          · rw [hi] at q; exact .inl (Option.some.inj q)
          · rw [hi] at q; cases q
        · rw [(g3 i hj).2] at hi; exact wipeT_sub hi
      have hmT : ∀ m, (∀ (i : Nat) (t : FT), fts[i]? = some t → m ∉ foot t) → ∀ (i : Nat) (t : FT), ftsT[i]? = some t → m ∉ foot t := fun m hm i t hi hmm => by
        rcases hsubT i t hi with rfl | q
        · rw [foot_val] at hmm; cases hmm
        · exact hm i t q hmm
      have hnS : n < S.length := (List.getElem?_eq_some_iff.mp hS).1
      have hpe : ∀ i ∈ own, plainS e[i]? = true := fun i hi => by rw [← hE i hi]; exact hp i hi
      have qe := hel ⟨S, ioF bs, l1, ftsT⟩ e1 l1 S ftsT rfl (o1.reb hpl)
      cases he1 : vel e1 with
      | bad => rw [he1] at h; cases h
      | exc k e3 => rw [he1] at h; cases h
      | ok s e3 =>
        rw [he1] at qe h
        obtain ⟨y, S3, t3, o3', m3, ft, w1, w2, w3, w4⟩ := qe
        have hT : tTrue l1 S = .ok true S := rfl
        rw [hT]
        simp only [bind_ok, if_true]
        rw [t3]
        simp only [bind_ok]
        have h : (if acc.length < sizeLine then vLcLS bs vg vel own e0 ds (restE e3 e0 own) (acc ++ [s]) else .bad) = .ok acc' e' := h
        split at h
        case isFalse => cases h
        next hz =>
        have hs : ∀ i, c.ios i = true → ioF bs i = true := by rw [hc]; exact hsub
        have o3 := o1.unreb hs o3'
        have hlenA : acc.length = ts.length := (owns_iff.mp hw).1
        have hS3 : S3[n]? = some (.lst (roots acc ts)) := (m3.fr n hnS (hmT n hnf)).trans hS
        have hp3 : pushC n y S3 = some (S3.set n (.lst (roots acc ts ++ [y]))) := by
          unfold pushC
          rw [hS3]
          simp only
          rw [if_pos (by unfold roots; rw [List.length_zipWith]; omega)]
        rw [hp3]
        simp only
        have o3' := (o.rest o3 hE hpe hoff hl0 hlen o3.le).acc hn hnf (.lst (roots acc ts ++ [y]))
        have hE2 : ∀ i ∈ own, e0[i]? = (restE e3 e0 own)[i]? := fun i hi => (restE_on (by have := o3.rv.l1; have := o.rv.l1; omega) hi).symm
        have hn3 : n < S3.length := (List.getElem?_eq_some_iff.mp hS3).1
        have hr : roots (acc ++ [s]) (ts ++ [ft]) = roots acc ts ++ [y] := by
          rw [roots_app hlenA, w2]; rfl
        have hwK : Owns (S3.set n (.lst (roots acc ts ++ [y]))) acc ts := Owns.keep ts acc (fun m hm => by
          rw [set_other fun z => hnn (by rw [← z]; exact hm)]
          exact m3.fr m (owns_lt hw m hm) (hmT m (hlo m hm).2)) hw
        have hsK : Own (S3.set n (.lst (roots acc ts ++ [y]))) s ft := Own.keep ft s (fun m hm => set_other fun z => by
          have := (w4 m hm).1
          have : S.length ≤ m := this
          omega) w1
        have hfr2 : ∀ m ∈ foot ft, S.length ≤ m := fun m hm => (w4 m hm).1
        obtain ⟨S', ts', q1, q2, q3, q4, q5, q6, q7, q8, q9⟩ := lcS_loop hc hsub hfr his hG hel hgd hn hnf hp ds _ (S3.set n (.lst (roots acc ts ++ [y]))) (acc ++ [s]) acc' (ts ++ [ft]) e' (flats_cons.mp hd).2 o3' (by rw [hr]; exact List.getElem?_set_self hn3)
          (owns_app hwK (owns_cons.mpr ⟨hsK, owns_nil⟩)) (by
            rw [foots_app, foots_one, List.nodup_append]
            exact ⟨nd, w3, fun a ha b hb e => by
              have := owns_lt hw a ha
              have := hfr2 b hb
              omega⟩) (by
            rw [foots_app, foots_one, List.mem_append, not_or]
            exact ⟨hnn, fun z => by have := hfr2 n z; omega⟩) (fun m hm => by
            rw [foots_app, foots_one, List.mem_append] at hm
            rcases hm with hm | hm
            · exact hlo m hm
            · exact ⟨Nat.le_trans o.le (hfr2 m hm), fun i t hi hmt => absurd (o.rv.lt hi hmt) (Nat.not_lt.mpr (hfr2 m hm))⟩) hE2 (by rw [restE_len]; have := o3.rv.l1; have := o.rv.l1; omega) h
        have hle : S.length ≤ S3.length := m3.le
        refine ⟨S', ts', q1, q2, q3, q4, q5, q6, q7, Nat.le_trans hle (by rw [List.length_set] at q8; exact q8), fun m hm hmn hmt hmf => ?_⟩
        rw [q9 m (by simp; omega) hmn (by rw [foots_app, foots_one, List.mem_append, not_or]; exact ⟨hmt, fun z => by have := hfr2 m z; omega⟩) hmf, set_other hmn, m3.fr m hm (hmT m hmf)]
theorem sm_lcS (bs : List Bool) {A : I} {vi : VI} (hI : SI io A vi) (hG : SGt io is G vg) (hel : SM (ioF bs) el vel) (hsub : ∀ i, io i = true → ioF bs i = true) (his : ∀ i ∈ is, i ∈ own := by decide) (hfr : freeN io own = true := by rfl) : SM io (eLcX .rw A G tTrue el own) (vLcS bs vi vg vel own) := fun c env l S fts hc o => by
  unfold vLcS eLcX
  refine Sv.bind (hI c env l S fts hc o) fun xs e1 q S1 o1 ⟨q3, q4, q5⟩ => ?_
  by_cases hp : (own.all fun i => plainS e1[i]?) = true
  case neg => rw [if_neg hp]; trivial
  rw [if_pos hp]
  cases h2 : vLcLS bs vg vel own e1 xs e1 [] with
  | bad => trivial
  | exc k e => trivial
  | ok acc e2 =>
    have hlt : ∀ (i : Nat) (t : FT) (n : Nat), fts[i]? = some t → n ∈ foot t → n < S1.length := fun i t n a b => o1.rv.lt a b
    obtain ⟨S2, ts, w1, w2, w3, w4, w5, w6, w7, w8, w9⟩ := lcS_loop (gd := q.gd) hc hsub hfr his hG hel q5 (n := S1.length) o1.le (fun i t a b => absurd (hlt i t _ a b) (Nat.lt_irrefl _)) (e0 := e1) (fun i hi => List.all_eq_true.mp hp i hi) xs e1 (S1 ++ [.lst []]) [] acc [] e2 q4 (o1.app _) get_last owns_nil (by unfold foots; exact List.nodup_nil) (by unfold foots; simp) (fun m hm => by unfold foots at hm; cases hm) (fun _ _ => rfl) rfl h2
    rw [q3, w1]
    show Sv c l S1 fts (VR.ok (Sl.ls acc) e2) (Res.ok (D.ref S1.length) S2) _
    refine ⟨_, _, rfl, w2, ⟨by simp at w8; omega, fun m hm hf => ?_⟩, .lnode S1.length ts, own_ls.mpr ⟨w3, w4⟩, rfl, nd_lnode.mpr ⟨w6, w5⟩, fun m hm => ?_⟩
    · rw [w9 m (by simp; omega) (by omega) (by unfold foots; simp) hf]
      exact List.getElem?_append_left hm
    · rcases foot_lnode.mp hm with rfl | hm
      · exact ⟨o1.le, fun i t a b => absurd (hlt i t _ a b) (Nat.lt_irrefl _)⟩
      · exact w7 m hm
end
end VL
namespace VL
theorem iox_sub {as bs : List Bool} {x : Nat} (h : (List.range (max as.length bs.length)).all (fun i => !ioF as i || (ioF bs i && decide (i ≠ x))) = true) : ∀ i, ioF as i = true → bsX bs x i = true := fun i hi => by
  by_cases hl : i < max as.length bs.length
  · have := List.all_eq_true.mp h i (List.mem_range.mpr hl)
    rw [hi] at this
    simpa [bsX] using this
  · unfold ioF at hi
    rw [List.getD_eq_getElem?_getD, List.getElem?_eq_none (by omega)] at hi
    cases hi
end VL

/-! VL20: reading raise, try, walks over live things. -/
namespace VL
open PySem PySem.Spec PyProof.Rows L2 DL
def calmO : VO → VO
  | .exc _ _ => .bad
  | o => o
def tryK (m : Nat → Option Bool) (U : VS) : VO → VO
  | .exc x e1 => (match m x with
    | some true => calmO (U e1)
    | some false => .exc x e1
    | none => .bad)
  | o => o
def tryEK (m : Nat → Option Bool) (i j : Nat) (bs : List (Nat × List Bool)) : VO → VO
  | .exc x e1 => (match m x with
    | some true => (match tabL bs x with
      | some ys => if i < e1.length ∧ ys.length ≤ sizeLine then .next (((e1.set i .no).set j (.va (.lst (ys.map D.bl)))).set i .no) else .bad
      | none => .bad)
    | some false => .exc x e1
    | none => .bad)
  | o => o
section
variable {m : Nat → Option Bool} {U V : VS} {e e1 : Env} {x i j : Nat} {bs : List (Nat × List Bool)} {r : Sl}
theorem vs_raise {c : Nat} : vsRaise c e = .exc c e := rfl
theorem vs_try : vsTry m V U e = tryK m U (V e) := by
  unfold vsTry tryK calmO
  cases V e <;> rfl
theorem tryk_next : tryK m U (.next e) = .next e := rfl
theorem tryk_ret : tryK m U (.ret r e) = .ret r e := rfl
theorem tryk_brk : tryK m U (.brk e) = .brk e := rfl
theorem tryk_cont : tryK m U (.cont e) = .cont e := rfl
theorem tryk_exc (h : m x = some true) : tryK m U (.exc x e) = calmO (U e) := by
  unfold tryK
  simp only
  rw [h]
theorem calm_next : calmO (.next e) = .next e := rfl
theorem calm_ret : calmO (.ret r e) = .ret r e := rfl
theorem calm_brk : calmO (.brk e) = .brk e := rfl
theorem calm_cont : calmO (.cont e) = .cont e := rfl
theorem vs_tryE : vsTryE m i j bs V e = tryEK m i j bs (V e) := by
  unfold vsTryE tryEK
  cases V e <;> rfl
theorem tryek_next : tryEK m i j bs (.next e) = .next e := rfl
theorem tryek_ret : tryEK m i j bs (.ret r e) = .ret r e := rfl
theorem tryek_exc {ys : List Bool} (h : m x = some true) (hb : tabL bs x = some ys) (hi : i < e.length) (hy : ys.length < 1000) : tryEK m i j bs (.exc x e) = .next (((e.set i .no).set j (.va (.lst (ys.map D.bl)))).set i .no) := by
  unfold tryEK
  simp only
  rw [h]
  simp only
  rw [hb]
  simp only
  rw [if_pos ⟨hi, by rw [sizeLine_eq]; omega⟩]
end
/-! ### walks -/
theorem take_at' {x : Nat} {e : Env} {s : Sl} (h : e[x]? = some s) (hn : isNo s = false) : takeS x e = some (s, e.set x .no) := by
  unfold takeS
  rw [h]
  simp only
  rw [hn]
  rfl
section
variable {x : Nat} {kx : Option Nat} {bs : List Bool} {body : VS}
theorem vloopS_inv (R : Sl → Prop) (I : Env → Prop) (h : ∀ (j : Nat) (s : Sl) (e : Env), R s → I e → (plB bs e && !isNo s && decide (x < e.length)) = true ∧ ∃ e2 s2, loopV (body ((preS kx j e).set x s)) = .next e2 ∧ e2[x]? = some s2 ∧ isNo s2 = false ∧ R s2 ∧ I (e2.set x .no)) :
    ∀ (ss : List Sl) (j : Nat) (e : Env), (∀ s ∈ ss, R s) → I e → ∃ ss' e', vLoopS x kx bs body j ss e = (ss', .next e') ∧ (∀ s ∈ ss', R s) ∧ I e' ∧ ss'.length = ss.length
  | [], j, e, _, hi => ⟨[], e, rfl, fun s hs => (by cases hs), hi, rfl⟩
  | s :: ss, j, e, hr, hi => by
    obtain ⟨hz, e2, s2, h1, h2, h3, h4, h5⟩ := h j s e (hr s List.mem_cons_self) hi
    obtain ⟨ss', e', k1, k2, k3, k4⟩ := vloopS_inv R I h ss (j + 1) (e2.set x .no) (fun s hs => hr s (List.mem_cons_of_mem _ hs)) h5
    refine ⟨s2 :: ss', e', ?_, fun t ht => ?_, k3, by rw [List.length_cons, List.length_cons, k4]⟩
    · rw [vLoopS, if_pos hz]
      cases hv : body ((preS kx j e).set x s) with
      | next e3 =>
        rw [hv] at h1
        cases h1
        simp only
        rw [take_at' h2 h3]
        simp only
        rw [k1]; rfl
      | cont e3 =>
        rw [hv] at h1
        cases h1
        simp only
        rw [take_at' h2 h3]
        simp only
        rw [k1]; rfl
      | _ => rw [hv] at h1; cases h1
    · rcases List.mem_cons.mp ht with rfl | ht
      · exact h4
      · exact k2 t ht
end
theorem vs_forS {x N : Nat} {bs : List Bool} {M : Env → VR Sl} {body : VS} {e e1 : Env} {ss : List Sl} (h : M e = .ok (.ls ss) e1) : vsForS x bs N M body e = nbO (vLoopS x none bs body 0 (ss.take N) e1).2 := by
  unfold vsForS
  rw [h]; rfl
theorem vs_forL {i x : Nat} {kx : Option Nat} {bs : List Bool} {body : VS} {e : Env} {ss : List Sl} (h : e[i]? = some (.ls ss)) : vsForL i x kx bs body e = bkO i (vLoopS x kx bs body 0 ss (e.set i .no)) := by
  unfold vsForL
  rw [h]
/-! ### comprehensions of live things -/
section
variable {bs : List Bool} {it : VI} {G : VG} {el : Env → VR Sl} {own : List Nat}
theorem lcs_all (Q : Sl → Prop) {e : Env} : ∀ (items : List D) (acc : List Sl), (∀ d ∈ items, ∃ e1 s, G d (wipeE e own) = some e1 ∧ plB bs e1 = true ∧ el e1 = .ok s e1 ∧ restE e1 e own = e ∧ Q s) → acc.length + items.length ≤ sizeLine →
    ∃ ss, vLcLS bs G el own e items e acc = .ok (acc ++ ss) e ∧ (∀ s ∈ ss, Q s) ∧ ss.length = items.length
  | [], acc, _, _ => ⟨[], by rw [List.append_nil]; rfl, fun s hs => (by cases hs), rfl⟩
  | d :: ds, acc, h, hz => by
    obtain ⟨e1, s, h1, h2, h3, h4, h5⟩ := h d List.mem_cons_self
    rw [List.length_cons] at hz
    obtain ⟨ss, k1, k2, k3⟩ := lcs_all Q (e := e) ds (acc ++ [s]) (fun d hd => h d (List.mem_cons_of_mem _ hd)) (by rw [List.length_append, List.length_singleton]; omega)
    refine ⟨s :: ss, ?_, fun t ht => ?_, by rw [List.length_cons, List.length_cons, k3]⟩
    · unfold vLcLS
      rw [h1]
      simp only
      rw [if_pos h2, h3]
      show (if acc.length < sizeLine then vLcLS bs G el own e ds (restE e1 e own) (acc ++ [s]) else .bad) = _
      rw [if_pos (by omega), h4, k1, List.append_assoc]; rfl
    · rcases List.mem_cons.mp ht with rfl | ht
      · exact h5
      · exact k2 t ht
theorem vlcs_all (Q : Sl → Prop) {e : Env} {items : List D} (hi : it e = .ok items e) (hp : (own.all fun i => plainS e[i]?) = true) (h : ∀ d ∈ items, ∃ e1 s, G d (wipeE e own) = some e1 ∧ plB bs e1 = true ∧ el e1 = .ok s e1 ∧ restE e1 e own = e ∧ Q s) (hz : items.length ≤ sizeLine) :
    ∃ ss, vLcS bs it G el own e = .ok (.ls ss) e ∧ (∀ s ∈ ss, Q s) ∧ ss.length = items.length := by
  obtain ⟨ss, k1, k2, k3⟩ := lcs_all (bs := bs) (G := G) (el := el) Q (e := e) (own := own) items [] h (by simpa using hz)
  refine ⟨ss, ?_, k2, k3⟩
  unfold vLcS
  rw [hi, vb_ok, if_pos hp, k1]
  rfl
end
end VL

/-! VL21: dicts; new instances. -/
namespace VL
open PySem PySem.Spec PyProof.Rows L2 DL
theorem flat_dicI {t : Bool} {es : List D} : flat (.dic t es) ↔ flats es := by
  show rlt 0 (.dic t es) = true ↔ rlts 0 es = true
  unfold rlt
  exact Iff.rfl
theorem dn_dic {S : Sto} {d x : D} (h : Dn S d x) : dicOf S d = dicOf [] x := by
  rcases h with ⟨rfl, h⟩ | ⟨n, xs, rfl, rfl, h1, _⟩ | ⟨n, es, rfl, rfl, h1, _⟩
  · cases d with
    | ref n => exact absurd h (by show ¬ rlt 0 (.ref n) = true; unfold rlt; simp)
    | dic t es => cases t <;> rfl
    | _ => rfl
  · show (match S[n]? with
      | some (.dic false es) => some es
      | _ => none) = none
    rw [h1]
  · show (match S[n]? with
      | some (.dic false es) => some es
      | _ => none) = some es
    rw [h1]
theorem dn_key {S : Sto} {d x : D} (h : Dn S d x) : keyOf d = keyOf x := by
  rcases h with ⟨rfl, h⟩ | ⟨n, xs, rfl, rfl, h1, _⟩ | ⟨n, es, rfl, rfl, h1, _⟩ <;> rfl
theorem dic_flat {x : D} {es : List D} (hf : flat x) (h : dicOf [] x = some es) : flats es := by
  cases x with
  | dic t es' =>
    cases t with
    | false => cases h; exact flat_dicI.mp hf
    | true => cases h
  | ref n => cases h
  | _ => cases h
theorem dget_flat {k : Key} {d : D} : ∀ {es : List D}, flats es → dget es k = some d → flat d
  | [], _, h => by cases h
  | e :: es, hf, h => by
    obtain ⟨f1, f2⟩ := flats_cons.mp hf
    unfold dget at h
    split at h
    · cases h
    · next x v es' heq =>
      cases heq
      split at h
      · cases h
        exact (flats_cons.mp (flats_cons.mp (flat_tup.mp f1)).2).1
      · exact dget_flat f2 h
    · next e' es' _ heq => cases heq; exact dget_flat f2 h
theorem pr_ixd : Pr2 ixdD := fun S d e x y h1 h2 => by
  unfold ixdD
  rw [dn_dic h1, dn_key h2]
  cases q1 : dicOf [] x with
  | none => trivial
  | some es => cases q2 : keyOf y with
    | none => trivial
    | some k =>
      simp only
      cases q3 : dget es k with
      | none => trivial
      | some z => exact ⟨dget_flat (dic_flat h1.flat q1) q3, rfl⟩
theorem pr_ind : Pr2 indD := fun S d e x y h1 h2 => by
  unfold indD
  rw [dn_dic h2, dn_key h1]
  cases q1 : dicOf [] y with
  | none => trivial
  | some es => cases q2 : keyOf x with
    | none => trivial
    | some k => exact ⟨flat_bl _, rfl⟩
theorem pr_nind : Pr2 nindD := fun S d e x y h1 h2 => by
  unfold nindD
  rw [dn_dic h2, dn_key h1]
  cases q1 : dicOf [] y with
  | none => trivial
  | some es => cases q2 : keyOf x with
    | none => trivial
    | some k => exact ⟨flat_bl _, rfl⟩
theorem pr_ltt : Pr2 lttD := fun S d e x y h1 h2 => by
  cases x with
  | tup xs => cases y with
    | tup ys =>
      obtain ⟨rfl, _⟩ := dn_tup h1
      obtain ⟨rfl, _⟩ := dn_tup h2
      unfold lttD
      simp only
      cases asInts xs with
      | none => trivial
      | some ns => cases asInts ys with
        | none => trivial
        | some ms => exact ⟨flat_bl _, rfl⟩
    | _ => trivial
  | _ => trivial
theorem keys_flat : ∀ {es : List D}, flats es → flats (es.map keyE)
  | [], _ => flats_nil
  | e :: es, h => by
    obtain ⟨f1, f2⟩ := flats_cons.mp h
    refine flats_cons.mpr ⟨?_, keys_flat f2⟩
    unfold keyE
    split
    · exact (flats_cons.mp (flat_tup.mp f1)).1
    · exact f1
theorem pa_listd : PrA listdD := pa_one (fun S d x h => by
  show RQ (match dicOf [] x with | some es => .ok (.lst (es.map keyE)) [] | none => .bad) (match dicOf S d with | some es => .ok (.lst (es.map keyE)) S | none => .bad) S
  rw [dn_dic h]
  cases hq : dicOf [] x with
  | none => trivial
  | some es => exact ⟨flat_lst.mpr (keys_flat (dic_flat h.flat hq)), rfl⟩) (fun _ => rfl) (fun x y zs S => by rfl)
/-- d[k] = v, d a live dict -/
def vsSubD (i : Nat) (p : Path) (K A : VE) : VS := fun e => (A e).toO fun d e1 => match getP e1 i p with
  | some (.di _) => (match K e1 with
    | .ok y e2 => (match getP e2 i p, keyOf y with
      | some (.di es), some k => if es.length < sizeLine then .next (putP e2 i p (.di (dset es k d))) else .bad
      | _, _ => .bad)
    | _ => .bad)
  | _ => .bad
theorem dset_flat {es : List D} {k : Key} {d : D} (h : flats es) (hd : flat d) : flats (dset es k d) := by
  unfold dset
  split
  · refine flats_iff.mpr fun x hx => ?_
    rw [List.mem_map] at hx
    obtain ⟨e, he, rfl⟩ := hx
    have fe := flats_iff.mp h e he
    unfold repKey
    split
    · next x v =>
      have fx := flats_cons.mp (flat_tup.mp fe)
      split
      · exact flat_tup.mpr (flats_cons.mpr ⟨fx.1, flats_cons.mpr ⟨hd, flats_nil⟩⟩)
      · exact fe
    · exact fe
  · refine flats_app.mpr ⟨h, flats_cons.mpr ⟨flat_tup.mpr (flats_cons.mpr ⟨?_, flats_cons.mpr ⟨hd, flats_nil⟩⟩), flats_nil⟩⟩
    cases k with
    | inl i => exact flat_int i
    | inr s => exact flat_str s
theorem Ok.putD {c : Bs} {env : Env} {l : DL.Loc} {S : Sto} {fts : List FT} (o : Ok c env l S fts) {i : Nat} {p : Path} {xs : List D} (h : getP env i p = some (.di xs)) {n : Nat} (hn : ftP fts i p = some (.cell n)) {ys : List D} (hy : flats ys) : Ok c (putP env i p (.di ys)) l (S.set n (.dic false ys)) fts := by
  obtain ⟨s, ft, gt, _, _, _, _, e4, e5, _, e7⟩ := o.place h (by intro z; cases z)
  rw [hn] at e4
  cases e4
  obtain ⟨m, z, h1, _⟩ := own_diOf e5
  cases z
  have hlt := (List.getElem?_eq_some_iff.mp h1).1
  exact e7 _ (.di ys) (own_di.mpr ⟨List.getElem?_set_self hlt, hy⟩) rfl (by simp) fun m hm hm' => set_other fun z => hm' (by rw [z]; unfold foot; simp)
theorem cellD_ref {S : Sto} {n : Nat} {es : List D} (h : S[n]? = some (.dic false es)) : cellD S (.ref n) = some (n, es) := by
  show (match S[n]? with
    | some (.dic false es) => some (n, es)
    | _ => none) = some (n, es)
  rw [h]
section
variable {io : Nat → Bool} {A B C : E} {U V : VE}
theorem ss_setd {i : Nat} {p : Path} (hp : SP io A i p) (hk : SC io B U) (ha : SC io C V) : SS io (sSetD A B C) (vsSubD i p U V) := fun c env l S fts hi o => So.of (ha.v hi o) fun x e d S' o' ⟨q, f⟩ => by
  subst q
  cases h0 : getP e i p with
  | none => trivial
  | some s0 =>
    cases s0 with
    | di xs0 =>
      obtain ⟨gt, g1, g2, g3⟩ := hp c e l S' fts _ hi o' h0 (by intro z; cases z)
      obtain ⟨n, rfl, _, _⟩ := own_diOf g2
      have q := hk c e l S' fts hi o'
      simp only
      cases h : U e with
      | bad => trivial
      | exc k e' => trivial
      | ok y e2 =>
        rw [h] at q
        obtain ⟨y', S2, h1, o2, _, rfl, _⟩ := q
        simp only
        cases h2 : getP e2 i p with
        | none => trivial
        | some s =>
          cases s with
          | di xs =>
            cases hj : keyOf y' with
            | none => trivial
            | some k =>
              simp only
              obtain ⟨_, _, gt2, _, _, _, _, m4, m5, _⟩ := o2.place h2 (by intro z; cases z)
              rw [g1] at m4
              cases m4
              obtain ⟨n', z, k3, k4⟩ := own_diOf m5
              cases z
              by_cases hz : xs.length < sizeLine
              · rw [if_pos hz]
                have e3 : (A l S').toS l (fun x S2 => (B l S2).toS l fun y S3 => match cellD S3 x, keyOf y with
                    | some (n, es), some k => if es.length < sizeLine then Out.next l (S3.set n (.dic false (dset es k d))) else .bad
                    | _, _ => .bad) = .next l (S2.set n (.dic false (dset xs k d))) := by
                  rw [g3]
                  show (B l S').toS l _ = _
                  rw [h1]
                  show (match cellD S2 (.ref n), keyOf y' with
                    | some (n, es), some k => if es.length < sizeLine then Out.next l (S2.set n (.dic false (dset es k d))) else .bad
                    | _, _ => .bad) = _
                  rw [cellD_ref k3, hj]
                  simp only
                  rw [if_pos hz]
                exact Eq.mpr (congrArg (So c _) e3) ⟨l, _, fts, rfl, o2.putD h2 g1 (dset_flat k4 f)⟩
              · rw [if_neg hz]; trivial
          | _ => trivial
    | _ => trivial
/-- {}, {k: v}, to be changed -/
def vDicM0 : Env → VR Sl := fun e => .ok (.di []) e
def vDicM (K V : VE) : Env → VR Sl := fun e => (K e).bind fun y e1 => (V e1).bind fun d e2 => match keyOf y with
  | some k => .ok (.di [.tup [keyD k, d]]) e2
  | none => .bad
theorem foot_cell {n m : Nat} : m ∈ foot (.cell n) ↔ m = n := by unfold foot; simp
theorem sm_dicM0 : SM io eDicM0 vDicM0 := fun c env l S fts hi o => by
  refine ⟨_, _, rfl, o.app _, ⟨by simp, fun n hn _ => List.getElem?_append_left hn⟩, .cell S.length, own_di.mpr ⟨get_last, flats_nil⟩, rfl, by unfold foot; simp, fun n hn => ?_⟩
  rw [foot_cell] at hn
  subst hn
  exact ⟨o.le, fun i t a b => absurd (o.rv.lt a b) (Nat.lt_irrefl _)⟩
theorem sm_dicM (hk : SC io A U) (hv : SC io B V) : SM io (eDicM A B) (vDicM U V) := fun c env l S fts hi o => by
  unfold vDicM eDicM
  have o0 := o.app [.dic false []]
  have hS : (S ++ [Cell.dic false []])[S.length]? = some (.dic false []) := get_last
  have hlt : ∀ (i : Nat) (t : FT) (n : Nat), fts[i]? = some t → n ∈ foot t → n < S.length := fun i t n a b => o.rv.lt a b
  have q1 := hk c env l (S ++ [.dic false []]) fts hi o0
  cases h1 : U env with
  | bad => trivial
  | exc k e1 =>
    rw [h1] at q1
    obtain ⟨S1, w1, o1, m1⟩ := q1
    rw [w1]
    exact ⟨S1, rfl, o1, by have := m1.le; simp at this; omega, fun n hn hf => (m1.fr n (by simp; omega) hf).trans (List.getElem?_append_left hn)⟩
  | ok y e1 =>
    rw [h1] at q1
    obtain ⟨y', S1, w1, o1, m1, rfl, _⟩ := q1
    rw [w1]
    simp only [bind_ok, vb_ok]
    have q2 := hv c e1 l S1 fts hi o1
    cases h2 : V e1 with
    | bad => trivial
    | exc k e2 =>
      rw [h2] at q2
      obtain ⟨S2, w2, o2, m2⟩ := q2
      rw [w2]
      have m3 := m1.trans m2
      exact ⟨S2, rfl, o2, by have := m3.le; simp at this; omega, fun n hn hf => (m3.fr n (by simp; omega) hf).trans (List.getElem?_append_left hn)⟩
    | ok d e2 =>
      rw [h2] at q2
      obtain ⟨d', S2, w2, o2, m2, rfl, fd⟩ := q2
      rw [w2]
      simp only [bind_ok, vb_ok]
      have m3 := m1.trans m2
      have hS2 : S2[S.length]? = some (.dic false []) := (m3.fr S.length (by simp) fun i t a b => absurd (hlt i t _ a b) (Nat.lt_irrefl _)).trans hS
      have hl2 : S.length < S2.length := (List.getElem?_eq_some_iff.mp hS2).1
      rw [hS2]
      cases hj : keyOf y' with
      | none => trivial
      | some k =>
        simp only
        refine ⟨_, _, rfl, o2.acc o.le (fun i t a b => absurd (hlt i t _ a b) (Nat.lt_irrefl _)) _, ⟨by simp; omega, fun n hn hf => ?_⟩, .cell S.length, own_di.mpr ⟨List.getElem?_set_self hl2, flats_cons.mpr ⟨flat_tup.mpr (flats_cons.mpr ⟨?_, flats_cons.mpr ⟨fd, flats_nil⟩⟩), flats_nil⟩⟩, rfl, by unfold foot; simp, fun n hn => ?_⟩
        · rw [set_other (by omega)]
          exact (m3.fr n (by simp; omega) hf).trans (List.getElem?_append_left hn)
        · cases k with
          | inl i => exact flat_int i
          | inr s => exact flat_str s
        · rw [foot_cell] at hn
          subst hn
          exact ⟨o.le, fun i t a b => absurd (hlt i t _ a b) (Nat.lt_irrefl _)⟩
/-- C(), a class whose constructor asks nothing -/
def vNew0 (s : Sl) : Env → VR Sl := fun e => .ok s e
theorem sm_new0 {k : Nat} {Fm : List D → Sto → Res D} {s : Sl} (h : ∀ S : Sto, ∃ S' ft, Fm [.ref S.length] (S ++ [.ins k []]) = .ok .non S' ∧ Own S' s ft ∧ rootD s ft = .ref S.length ∧ (foot ft).Nodup ∧ (∀ n ∈ foot ft, S.length ≤ n) ∧ S.length ≤ S'.length ∧ ∀ n, n < S.length → S'[n]? = S[n]?) : SM io (eNew k Fm aNil) (vNew0 s) := fun c env l S fts hi o => by
  obtain ⟨S', ft, h1, h2, h3, h4, h5, h6, h7⟩ := h S
  refine ⟨.ref S.length, S', ?_, o.grow h6 h7, ⟨h6, fun n hn _ => h7 n hn⟩, ft, h2, h3.symm, h4, fun n hn => ⟨Nat.le_trans o.le (h5 n hn), fun i t a b => absurd (o.rv.lt a b) (Nat.not_lt.mpr (h5 n hn))⟩⟩
  rw [ap_new]
  show (match Fm [.ref S.length] (S ++ [.ins k []]) with
    | .ok .non S2 => Res.ok (D.ref S.length) S2
    | _ => .bad) = _
  rw [h1]
end
end VL

/-! VL22: list(reversed(xs)), max of a list. -/
namespace VL
open PySem PySem.Spec PyProof.Rows L2 DL
theorem pr_lstRev : Pr1 lstRevD := fun S d x h => by
  unfold lstRevD
  rw [dn_list h]
  cases hq : DL.listOf [] x with
  | none => trivial
  | some xs => exact ⟨flat_lst.mpr (flats_iff.mpr fun y hy => flats_iff.mp (list_flat h.flat hq) y (List.mem_reverse.mp hy)), rfl⟩
theorem ints_flat : ∀ ns : List Int, flats (ns.map D.int)
  | [] => flats_nil
  | n :: ns => flats_cons.mpr ⟨flat_int n, ints_flat ns⟩
theorem pa_maxl : PrA maxLD := pa_one (fun S d x h => by
  show RQ (match DL.listOf [] x with
    | some xs => (match asInts xs with
      | some ns => (match ns.max? with
        | some m => .ok (.int m) []
        | none => .bad)
      | none => .bad)
    | none => .bad) (match DL.listOf S d with
    | some xs => (match asInts xs with
      | some ns => (match ns.max? with
        | some m => .ok (.int m) S
        | none => .bad)
      | none => .bad)
    | none => .bad) S
  rw [dn_list h]
  cases hq : DL.listOf [] x with
  | none => trivial
  | some xs =>
    simp only
    cases asInts xs with
    | none => trivial
    | some ns =>
      simp only
      cases ns.max? with
      | none => trivial
      | some m => exact ⟨flat_int _, rfl⟩) (fun _ => rfl) (fun x y zs S => by rfl)
def vLstRevM (a : Opd) : Env → VR Sl := fun e => (a.ev e).bind fun x e1 => match a.rd e1 x with
  | some y => (match DL.listOf [] y with
    | some xs => .ok (.lv xs.reverse) e1
    | none => .bad)
  | none => .bad
def vListdM (a : Opd) : Env → VR Sl := fun e => (a.ev e).bind fun x e1 => match a.rd e1 x with
  | some y => (match dicOf [] y with
    | some es => .ok (.lv (es.map keyE)) e1
    | none => .bad)
  | none => .bad
section
variable {io : Nat → Bool} {A : E} {a : Opd}
theorem sm_lstRev (ha : SO io A a) : SM io (eOp1 lstRevDM A) (vLstRevM a) := fun c env l S fts hi o => by
  unfold vLstRevM
  show Sv c l S fts _ ((A l S).bind fun x S1 => lstRevDM x S1) _
  refine Sv.bind (ha c env l S fts hi o) fun x e d S1 o1 r1 => ?_
  cases h1 : a.rd e x with
  | none => trivial
  | some y =>
    have hd := r1 e S1 y o1 h1
    unfold lstRevDM
    rw [dn_list hd]
    simp only
    cases h2 : DL.listOf [] y with
    | none => trivial
    | some xs => exact new_cell o1 (flats_iff.mpr fun z hz => flats_iff.mp (list_flat hd.flat h2) z (List.mem_reverse.mp hz))
theorem sm_listd (ha : SO io A a) : SM io (eApp listdDM (aCons A aNil)) (vListdM a) := fun c env l S fts hi o => by
  unfold vListdM
  have e : eApp listdDM (aCons A aNil) l S = (A l S).bind fun x S1 => listdDM [x] S1 := by
    unfold eApp aCons aNil
    cases A l S <;> rfl
  rw [e]
  refine Sv.bind (ha c env l S fts hi o) fun x e d S1 o1 r1 => ?_
  cases h1 : a.rd e x with
  | none => trivial
  | some y =>
    have hd := r1 e S1 y o1 h1
    show Sv c l S1 fts (match dicOf [] y with | some es => VR.ok (Sl.lv (es.map keyE)) e | none => .bad) (match dicOf S1 d with | some es => newCell (es.map keyE) S1 | none => .bad) _
    rw [dn_dic hd]
    cases h2 : dicOf [] y with
    | none => trivial
    | some es => exact new_cell o1 (keys_flat (dic_flat hd.flat h2))
end
theorem pr_inx : Pr2 inxD := fun S d e x y h1 h2 => by
  unfold inxD
  rw [dn_dic h2]
  cases q1 : dicOf [] y with
  | none => exact pr_in S d e x y h1 h2
  | some es =>
    simp only
    rw [dn_key h1]
    cases q2 : keyOf x with
    | none => trivial
    | some k => exact ⟨flat_bl _, rfl⟩
end VL
namespace VL
open PySem PySem.Spec PyProof.Rows L2 DL
theorem vs_rett {os : List Opd} {e : Env} : vsRetT os e = (osEv os e).toO fun xs e1 => match osRd os e1 xs with
  | some ys => if ys.length ≤ sizeLine then .retf (.tup ys) e1 else .bad
  | none => .bad := rfl
/-- a walk over lent things, counted -/
theorem vloopS_ind {x : Nat} {kx : Option Nat} {bs : List Bool} {body : VS} (N : Nat) (R : Sl → Prop) (I : Nat → Env → Prop) (h : ∀ (j : Nat) (s : Sl) (e : Env), j < N → R s → I j e → (plB bs e && !isNo s && decide (x < e.length)) = true ∧ ∃ e2 s2, loopV (body ((preS kx j e).set x s)) = .next e2 ∧ e2[x]? = some s2 ∧ isNo s2 = false ∧ R s2 ∧ I (j + 1) (e2.set x .no)) :
    ∀ (ss : List Sl) (j : Nat) (e : Env), j + ss.length ≤ N → (∀ s ∈ ss, R s) → I j e → ∃ ss' e', vLoopS x kx bs body j ss e = (ss', .next e') ∧ (∀ s ∈ ss', R s) ∧ I (j + ss.length) e' ∧ ss'.length = ss.length
  | [], j, e, _, _, hi => ⟨[], e, rfl, fun s hs => (by cases hs), hi, rfl⟩
  | s :: ss, j, e, hN, hr, hi => by
    rw [List.length_cons] at hN
    obtain ⟨hz, e2, s2, h1, h2, h3, h4, h5⟩ := h j s e (by omega) (hr s List.mem_cons_self) hi
    obtain ⟨ss', e', k1, k2, k3, k4⟩ := vloopS_ind N R I h ss (j + 1) (e2.set x .no) (by omega) (fun s hs => hr s (List.mem_cons_of_mem _ hs)) h5
    refine ⟨s2 :: ss', e', ?_, fun t ht => ?_, by rw [List.length_cons]; rw [show j + (ss.length + 1) = j + 1 + ss.length by omega]; exact k3, by rw [List.length_cons, List.length_cons, k4]⟩
    · rw [vLoopS, if_pos hz]
      cases hv : body ((preS kx j e).set x s) with
      | next e3 =>
        rw [hv] at h1
        cases h1
        simp only
        rw [take_at' h2 h3]
        simp only
        rw [k1]; rfl
      | cont e3 =>
        rw [hv] at h1
        cases h1
        simp only
        rw [take_at' h2 h3]
        simp only
        rw [k1]; rfl
      | _ => rw [hv] at h1; cases h1
    · rcases List.mem_cons.mp ht with rfl | ht
      · exact h4
      · exact k2 t ht
end VL

/-! VL23: a call whose first argument is one of a list of live lists. -/
namespace VL
open PySem PySem.Spec PyProof.Rows L2 DL
def ixPut (i j : Nat) (ss : List Sl) (e : Env) : FR → VR Sl
  | .ok r (o :: _) => .ok r (e.set i (.ls (ss.set j o)))
  | .exc k (o :: _) => .exc k (e.set i (.ls (ss.set j o)))
  | _ => .bad
def lvAt (e : Env) (i j : Nat) : Option (List D × List Sl) := match e[i]? with
  | some (.ls ss) => (match ss[j]? with
    | some (.lv xs) => some (xs, ss)
    | _ => none)
  | _ => none
/-- f(xs[k], v), xs a name of a list of live lists -/
def vCallIx (VF : List Sl → FR) (i : Nat) (K V : VE) : Env → VR Sl := fun e => match e[i]? with
  | some (.ls _) => (K e).bind fun y e1 => match y with
    | .int k => if 0 ≤ k then (match lvAt e1 i k.toNat with
      | some _ => (V e1).bind fun x e2 => (match lvAt e2 i k.toNat with
        | some (xs, ss) => ixPut i k.toNat ss e2 (VF [.lv xs, .va x])
        | none => .bad)
      | none => .bad) else .bad
    | _ => .bad
  | _ => .bad
theorem lvAt_some {e : Env} {i j : Nat} {xs : List D} {ss : List Sl} (h : lvAt e i j = some (xs, ss)) : e[i]? = some (.ls ss) ∧ ss[j]? = some (.lv xs) := by
  unfold lvAt at h
  split at h
  · next ss' hs =>
    split at h
    · next xs' hx => cases h; exact ⟨hs, hx⟩
    · cases h
  · cases h
theorem len_refL {S : Sto} {n : Nat} {xs : List D} (h : S[n]? = some (.lst xs)) : lenD [.ref n] S = .ok (.int (xs.length : Int)) S := by rw [len_ref, h]
section
variable {io fio : Nat → Bool} {A B : E} {K V : VE} {F : List D → Sto → Res D} {VF : List Sl → FR}
theorem atI_at {xs : List D} {j : Nat} {d : D} (h : xs[j]? = some d) : atI xs (j : Int) = some d := VL.atI_nat h
theorem sm_callIx (hF : SF fio F VF) (i : Nat) (hk : SC io A K) (hv : SC io B V) (h0 : fio 0 = true := by rfl) : SM io (eApp F (aCons (eOp2 ixD (eVar i) A) (aCons B aNil))) (vCallIx VF i K V) := fun c env l S fts hi o => by
  unfold vCallIx
  cases he : env[i]? with
  | none => trivial
  | some s0 =>
    cases s0 with
    | ls ss0 =>
      simp only
      obtain ⟨ft, hft⟩ := o.rv.at he
      obtain ⟨hl, ho⟩ := o.rv.sl i _ ft he hft (by intro z; cases z)
      obtain ⟨n, ts, rfl, hn, hw⟩ := own_lsOf ho
      have hA : eApp F (aCons (eOp2 ixD (eVar i) A) (aCons B aNil)) l S = (A l S).bind fun y S1 => (ixD (.ref n) y S1).bind fun d S2 => (B l S2).bind fun x S3 => F [d, x] S3 := by
        have hv0 : eVar i l S = .ok (.ref n) S := eVar_at hl
        unfold eApp aCons aNil eOp2
        rw [hv0]
        show ((((A l S).bind fun y S1 => ixD (.ref n) y S1).bind fun d S2 => (((B l S2).bind fun x S3 => (Res.ok [] S3).bind fun xs S4 => .ok (x :: xs) S4)).bind fun xs S5 => .ok (d :: xs) S5).bind F) = _
        cases A l S with
        | ok y S1 =>
          simp only [bind_ok]
          cases ixD (.ref n) y S1 with
          | ok d S2 =>
            simp only [bind_ok]
            cases B l S2 <;> rfl
          | exc _ _ => rfl
          | bad => rfl
        | exc _ _ => rfl
        | bad => rfl
      rw [hA]
      refine Sv.bind (hk c env l S fts hi o) fun y e1 y' S1 o1 ⟨q1, f1⟩ => ?_
      subst q1
      cases y' with
      | int k =>
        simp only
        by_cases hk0 : 0 ≤ k
        case neg => rw [if_neg hk0]; trivial
        rw [if_pos hk0]
        obtain ⟨j, rfl⟩ := Int.eq_ofNat_of_zero_le hk0
        rw [Int.toNat_natCast]
        cases ha1 : lvAt e1 i j with
        | none => trivial
        | some p1 =>
          obtain ⟨xs1, ss1⟩ := p1
          obtain ⟨g1, g2⟩ := lvAt_some ha1
          obtain ⟨_, ow1⟩ := o1.rv.sl i _ _ g1 hft (by intro z; cases z)
          obtain ⟨hn1, hw1⟩ := own_ls.mp ow1
          obtain ⟨hlen1, hat1⟩ := owns_iff.mp hw1
          have hj1 : j < ts.length := by rw [← hlen1]; exact (List.getElem?_eq_some_iff.mp g2).1
          have ht : ts[j]? = some ts[j] := List.getElem?_eq_getElem hj1
          obtain ⟨m, hm, _, _⟩ := own_lvc (hat1 j _ _ g2 ht)
          rw [hm] at ht
          have hix : ixD (.ref n) (.int (j : Int)) S1 = .ok (.ref m) S1 := by
            show (match seqOf S1 (.ref n) with
              | some xs => (match atI xs (j : Int) with | some d => Res.ok d S1 | none => .bad)
              | none => .bad) = _
            have hs : seqOf S1 (.ref n) = some (roots ss1 ts) := by
              show (match S1[n]? with | some (.lst xs) => some xs | _ => none) = _
              rw [hn1]
            rw [hs]
            simp only
            rw [atI_at (roots_at g2 ht)]
            rfl
          rw [hix]
          simp only [bind_ok]
          refine Sv.bind (hv c e1 l S1 fts hi o1) fun x e2 x' S2 o2 ⟨q2, f2⟩ => ?_
          subst q2
          cases ha2 : lvAt e2 i j with
          | none => trivial
          | some p2 =>
            obtain ⟨xs, ss⟩ := p2
            obtain ⟨g3, g4⟩ := lvAt_some ha2
            simp only
            obtain ⟨_, _, gt2, _, _, _, m3, m4, m5, _, m7⟩ := o2.place (i := i) (p := []) (t := .ls ss) (by rw [get_nil]; exact g3) (by intro z; cases z)
            have hgt : gt2 = .lnode n ts := by
              have : ftP fts i [] = some (.lnode n ts) := by unfold ftP; rw [hft]; rfl
              rw [this] at m4
              exact (Option.some.inj m4).symm
            subst hgt
            obtain ⟨hn2, hw2⟩ := own_ls.mp m5
            obtain ⟨hlen2, hat2⟩ := owns_iff.mp hw2
            have owj := hat2 j _ _ g4 ht
            have ndl := o2.rv.nd1 i _ hft
            obtain ⟨nd1, nd2⟩ := nd_lnode.mp ndl
            have hmf : m ∈ foots ts := foots_at ht (foot_cell.mpr rfl)
            have hmS : m < S2.length := owns_lt hw2 m hmf
            have rv : RV [.lv xs, .va x'] ([D.ref m, x'].map some) S2 [.cell m, .val] := by
              refine ⟨rfl, rfl, fun a s t e3 e4 _ => ?_, fun a t e3 e4 => ?_, fun a b t u q e3 e4 h1 h2 => ?_, fun a t e3 => ?_⟩
              · match a, e3, e4 with
                | 0, e3, e4 => cases e3; cases e4; exact ⟨rfl, owj⟩
                | 1, e3, e4 => cases e3; cases e4; exact ⟨rfl, own_va.mpr f2⟩
              · match a, e3, e4 with
                | 0, e3, e4 => cases e3
                | 1, e3, e4 => cases e3
              · match a, b, e3, e4 with
                | 0, 0, e3, e4 => rfl
                | 0, 1, e3, e4 => cases e4; rw [foot_val] at h2; cases h2
                | 1, 0, e3, e4 => cases e3; rw [foot_val] at h1; cases h1
                | 1, 1, e3, e4 => rfl
              · match a, e3 with
                | 0, e3 => cases e3; unfold foot; simp
                | 1, e3 => cases e3; rw [foot_val]; exact List.nodup_nil
            have key := hF S2 [.ref m, x'] [.lv xs, .va x'] [.cell m, .val] rv (fun s hs => by
              simp only [List.mem_cons, List.not_mem_nil, or_false] at hs
              rcases hs with rfl | rfl <;> (intro z; cases z)) (fun a t ha hb => by
              match a, ha, hb with
              | 0, ha, hb => rw [h0] at ha; cases ha
              | 1, ha, hb => cases hb; rfl)
            have post : ∀ {S3 : Sto} {outs : List Sl} {o0 : Sl} {r0 : List Sl}, outs = o0 :: r0 → Post fio S2 S3 [.ref m, x'] [.lv xs, .va x'] outs [.cell m, .val] → Ok c (e2.set i (.ls (ss.set j o0))) l S3 fts ∧ Fm fts S2 S3 := fun {S3 outs o0 r0} ho p => by
              subst ho
              obtain ⟨w1, w2⟩ := p.out 0 o0 (.cell m) h0 rfl rfl
              have w2 : D.ref m = rootD o0 (.cell m) := Option.some.inj w2
              have fr : ∀ q, q < S2.length → q ≠ m → S3[q]? = S2[q]? := fun q hq hqm => p.fr q hq fun a t ha hb hqt => by
                match a, hb with
                | 0, hb => cases hb; exact hqm (foot_cell.mp hqt)
                | 1, hb => cases hb; rw [foot_val] at hqt; cases hqt
              have hjl : j < ss.length := (List.getElem?_eq_some_iff.mp g4).1
              have hn3 : S3[n]? = some (.lst (roots (ss.set j o0) ts)) := by
                rw [fr n (List.getElem?_eq_some_iff.mp hn2).1 (fun z => nd1 (z ▸ hmf)), roots_set g4 ht (by rw [← w2]; rfl)]
                exact hn2
              have hw3 : Owns S3 (ss.set j o0) ts := owns_iff.mpr ⟨by rw [List.length_set]; exact hlen2, fun a s t e3 e4 => by
                by_cases haj : j = a
                · subst haj
                  rw [List.getElem?_set_self hjl] at e3
                  rw [ht] at e4
                  cases e3; cases e4; exact w1
                · rw [List.getElem?_set_ne haj] at e3
                  refine Own.keep t s (fun q hq => fr q (owns_lt hw2 q (foots_at e4 hq)) fun z => haj ?_) (hat2 a s t e3 e4)
                  subst z
                  exact foots_apart nd2 ht e4 (foot_cell.mpr rfl) hq⟩
              have res := m7 S3 (.ls (ss.set j o0)) (own_ls.mpr ⟨hn3, hw3⟩) rfl p.le fun q hq hqf => fr q hq fun z => hqf (foot_lnode.mpr (.inr (z ▸ hmf)))
              rw [put_nil] at res
              exact ⟨res, p.le, fun q hq hqf => fr q hq fun z => hqf i _ hft (foot_lnode.mpr (.inr (z ▸ hmf)))⟩
            cases hr : VF [.lv xs, .va x'] with
            | bad => trivial
            | exc k outs =>
              rw [hr] at key
              obtain ⟨S3, k1, k2⟩ := key
              cases outs with
              | nil => trivial
              | cons o0 r0 =>
                obtain ⟨p1, p2⟩ := post rfl k2
                exact ⟨S3, k1, p1, p2⟩
            | ok r outs =>
              rw [hr] at key
              obtain ⟨d, S3, ft3, k1, k2, k3, k4, k5, k6⟩ := key
              cases outs with
              | nil => trivial
              | cons o0 r0 =>
                obtain ⟨p1, p2⟩ := post rfl k2
                refine ⟨d, S3, k1, p1, p2, ft3, k3, k4, k5, fun q hq => ?_⟩
                have := k6 q hq
                exact ⟨Nat.le_trans o2.le this, fun a t ha hb => absurd (o2.rv.lt ha hb) (Nat.not_lt.mpr this)⟩
      | _ => trivial
    | _ => trivial
/-- len(xs), xs a name of a list of live things -/
def vLenS (i : Nat) : VE := fun e => match e[i]? with
  | some (.ls ss) => .ok (.int (ss.length : Int)) e
  | _ => .bad
theorem sc_lenS (i : Nat) : SC io (eApp lenD (aCons (eVar i) aNil)) (vLenS i) := fun c env l S fts hi o => by
  unfold vLenS
  cases he : env[i]? with
  | none => trivial
  | some s0 =>
    cases s0 with
    | ls ss =>
      obtain ⟨ft, hft⟩ := o.rv.at he
      obtain ⟨hl, ho⟩ := o.rv.sl i _ ft he hft (by intro z; cases z)
      obtain ⟨n, ts, rfl, hn, hw⟩ := own_lsOf ho
      have e : eApp lenD (aCons (eVar i) aNil) l S = .ok (.int (ss.length : Int)) S := by
        have hv0 : eVar i l S = .ok (.ref n) S := eVar_at hl
        unfold eApp aCons aNil
        rw [hv0]
        show lenD [.ref n] S = _
        rw [len_refL hn]
        unfold roots
        rw [List.length_zipWith, (owns_iff.mp hw).1, Nat.min_self]
      rw [e]
      exact Sv.ret o ⟨rfl, flat_int _⟩
    | _ => trivial
end
end VL

/-! VL24: len(set(xs)). -/
namespace VL
open PySem PySem.Spec PyProof.Rows L2 DL
theorem pr_lenSet : Pr1 lenSetD := fun S d x h => by
  unfold lenSetD
  rw [dn_list h]
  cases hq : DL.listOf [] x with
  | none => trivial
  | some xs =>
    simp only
    cases asInts xs with
    | none => trivial
    | some ns =>
      simp only
      by_cases hb : ns.Nodup ∧ ns.length ≤ 4000
      · rw [if_pos hb, if_pos hb]
        exact ⟨flat_int _, rfl⟩
      · rw [if_neg hb, if_neg hb]
        trivial
end VL

/-! VL25: for x in a dict that is held (a value). -/
namespace VL
open PySem PySem.Spec PyProof.Rows L2 DL
def noXV : VO → VO
  | .exc _ _ => .bad
  | o => o
theorem So.noX {c : Bs} {r : VO} {f : Out} (h : So c r f) : So c (noXV r) (DL.noX f) := by
  cases r with
  | next e => obtain ⟨l2, S2, fts2, q1, q2⟩ := h; rw [q1]; exact ⟨l2, S2, fts2, rfl, q2⟩
  | cont e => obtain ⟨l2, S2, fts2, q1, q2⟩ := h; rw [q1]; exact ⟨l2, S2, fts2, rfl, q2⟩
  | brk e => obtain ⟨l2, S2, fts2, q1, q2⟩ := h; rw [q1]; exact ⟨l2, S2, fts2, rfl, q2⟩
  | ret r e => obtain ⟨d, l2, S2, fts2, ft, q1, q2⟩ := h; rw [q1]; exact ⟨d, l2, S2, fts2, ft, rfl, q2⟩
  | retf r e => obtain ⟨d, l2, S2, fts2, q1, q2⟩ := h; rw [q1]; exact ⟨d, l2, S2, fts2, rfl, q2⟩
  | exc k e => trivial
  | bad => trivial
def vsForD (i : Nat) (G : VG) (body : VS) : VS := fun e => match e[i]? with
  | some (.va (.dic false es)) => noXV (vLoop G body (es.map keyE) e)
  | _ => .bad
section
variable {io : Nat → Bool} {is : List Nat} {G : GD} {vg : VG} {b : Stm} {vb : VS}
theorem ss_forD (i : Nat) (hG : SGt io is G vg) (hb : SS io b vb) : SS io (sForD i G b) (vsForD i vg vb) := fun c env l S fts hi o => by
  unfold vsForD
  cases e : env[i]? with
  | none => trivial
  | some s =>
    cases s with
    | va d =>
      cases d with
      | dic t es =>
        cases t with
        | true => trivial
        | false =>
          obtain ⟨t, ht⟩ := o.rv.at e
          obtain ⟨h1, h2⟩ := o.rv.sl i _ t e ht (by intro z; cases z)
          rcases own_cases h2 with ⟨d', z, rfl, hd⟩ | ⟨_, _, z, _⟩ | ⟨_, _, z, _⟩ | ⟨_, _, _, z, _⟩ | ⟨_, _, _, _, _, z, _⟩
          · cases z
            have h1' : l[i]? = some (some (.dic false es)) := h1
            simp only
            unfold sForD
            rw [h1']
            exact (loop_ok hG hb (fun _ => trivial) hi (es.map keyE) env l S fts (keys_flat (dic_flat (x := .dic false es) hd rfl)) o).noX
          all_goals cases z
      | _ => trivial
    | _ => trivial
end
theorem vs_forD {i : Nat} {G : VG} {body : VS} {e : Env} {es : List D} (h : e[i]? = some (.va (.dic false es))) : vsForD i G body e = noXV (vLoop G body (es.map keyE) e) := by
  unfold vsForD
  rw [h]
end VL

/-! VL26: a call whose last argument is a new live thing, which nobody keeps. -/
namespace VL
open PySem PySem.Spec PyProof.Rows L2 DL
theorem Ok.frame {c : Bs} {e : Env} {l : DL.Loc} {S1 S3 : Sto} {fts : List FT} (o : Ok c e l S1 fts) (hl : S1.length ≤ S3.length) (h : ∀ (i : Nat) (t : FT) (n : Nat), fts[i]? = some t → n ∈ foot t → S3[n]? = S1[n]?) (h2 : ∀ n, n < c.S0.length → S3[n]? = S1[n]?) : Ok c e l S3 fts where
  rv := ⟨o.rv.l1, o.rv.l2, fun i s t e1 e2 e3 => let ⟨a, b⟩ := o.rv.sl i s t e1 e2 e3; ⟨a, Own.keep t s (fun n hn => h i t n e2 hn) b⟩, o.rv.no, o.rv.nd, o.rv.nd1⟩
  le := Nat.le_trans o.le hl
  io := o.io
  lo := o.lo
  ln := o.ln
  hi := o.hi
  fr := fun n hn hf => (h2 n hn).trans (o.fr n hn hf)
/-- a new live thing, of new cells -/
def SMN (io : Nat → Bool) (A : E) (V : Env → VR Sl) : Prop := ∀ (c : Bs) (env : Env) (l : DL.Loc) (S : Sto) (fts : List FT), c.ios = io → Ok c env l S fts → Sv c l S fts (V env) (A l S) fun r _ d S' => ∃ ft, Own S' r ft ∧ d = rootD r ft ∧ (foot ft).Nodup ∧ ∀ n ∈ foot ft, S.length ≤ n
theorem smn_call {io fio : Nat → Bool} {r : As} {as : List Arg} {F : List D → Sto → Res D} {VF : List Sl → FR} (hF : SF fio F VF) (hr : SG io r as) (nd : (argRoots as).Nodup := by decide) (hio : argIo fio 0 as = true := by rfl) : SMN io (eApp F r) (vCall VF as) := fun c env l S fts hi o => by
  unfold vCall eApp
  have h0 : Sv c l S fts (gEv as env) (r l S) fun xs _ ds S1 => Gr c l fts as xs ds ∧ S.length ≤ S1.length := by
    have q := hr c env l S fts hi o
    cases h : gEv as env with
    | bad => trivial
    | exc k e => rw [h] at q; exact q
    | ok x e => rw [h] at q; obtain ⟨d, S', q1, q2, q3, q4⟩ := q; exact ⟨d, S', q1, q2, q3, q4, q3.le⟩
  refine Sv.bind h0 fun xs e1 ds S1 o1 ⟨g1, hle⟩ => ?_
  cases hs : gSl as e1 xs with
  | none => trivial
  | some ss =>
    obtain ⟨ts, ar⟩ := g1 e1 S1 ss o1 hs
    obtain ⟨c1, c2, c3⟩ := call_in o1 ar nd hio
    have q := hF S1 ds ss ts c1 c2 c3
    simp only
    cases hv : VF ss with
    | bad => trivial
    | exc k outs =>
      rw [hv] at q
      obtain ⟨S2, q1, q2⟩ := q
      exact ⟨S2, q1, call_back o1 ar nd hio q2, call_fm (c := c) (l := l) ar q2⟩
    | ok rr outs =>
      rw [hv] at q
      obtain ⟨d, S2, ft, q1, q2, q3, q4, q5, q6⟩ := q
      exact ⟨d, S2, q1, call_back o1 ar nd hio q2, call_fm (c := c) (l := l) ar q2, ft, q3, q4, q5, fun n hn => Nat.le_trans hle (q6 n hn)⟩
/-- values, then a new thing -/
def SLF (io : Nat → Bool) (r : As) (W : Env → VR (List D × Sl)) : Prop := ∀ (c : Bs) (env : Env) (l : DL.Loc) (S : Sto) (fts : List FT), c.ios = io → Ok c env l S fts → Sv c l S fts (W env) (r l S) fun p _ ds S' => ∃ ft, Own S' p.2 ft ∧ ds = p.1 ++ [rootD p.2 ft] ∧ flats p.1 ∧ (foot ft).Nodup ∧ ∀ n ∈ foot ft, S.length ≤ n
def vfOne (M : Env → VR Sl) : Env → VR (List D × Sl) := fun e => (M e).bind fun s e1 => .ok ([], s) e1
def vfCons (V : VE) (W : Env → VR (List D × Sl)) : Env → VR (List D × Sl) := fun e => (V e).bind fun x e1 => (W e1).bind fun p e2 => .ok (x :: p.1, p.2) e2
def vCallF (n : Nat) (VF : List Sl → FR) (W : Env → VR (List D × Sl)) : Env → VR Sl := fun e => (W e).bind fun p e1 => if p.1.length = n then (match VF (p.1.map Sl.va ++ [p.2]) with
  | .ok r _ => .ok r e1
  | .exc k _ => .exc k e1
  | .bad => .bad) else .bad
section
variable {io fio : Nat → Bool} {A : E} {V : VE} {M : Env → VR Sl} {r : As} {W : Env → VR (List D × Sl)}
theorem slf_one (hm : SMN io A M) : SLF io (aCons A aNil) (vfOne M) := fun c env l S fts hi o => by
  unfold vfOne aCons aNil
  refine Sv.bind (hm c env l S fts hi o) fun s e1 d S1 o1 ⟨ft, h1, h2, h3, h4⟩ => ?_
  show Sv c l S1 fts _ (Res.ok [d] S1) _
  exact Sv.ret o1 ⟨ft, h1, by rw [h2]; rfl, flats_nil, h3, h4⟩
theorem slf_cons (ha : SC io A V) (hr : SLF io r W) : SLF io (aCons A r) (vfCons V W) := fun c env l S fts hi o => by
  unfold vfCons aCons
  have h0 : Sv c l S fts (V env) (A l S) fun x _ d S1 => (d = x ∧ flat x) ∧ S.length ≤ S1.length := by
    have q := ha.v hi o
    cases h : V env with
    | bad => trivial
    | exc k e => rw [h] at q; exact q
    | ok x e => rw [h] at q; obtain ⟨d, S', q1, q2, q3, q4, q5⟩ := q; exact ⟨d, S', q1, q2, q3, ⟨by first | exact q4 | exact q4.symm, q5⟩, q3.le⟩
  refine Sv.bind h0 fun x e1 d S1 o1 ⟨⟨q1, f1⟩, hle⟩ => ?_
  refine Sv.bind (hr c e1 l S1 fts hi o1) fun p e2 ds S2 o2 ⟨ft, h1, h2, h3, h4, h5⟩ => ?_
  subst q1
  exact Sv.ret o2 ⟨ft, h1, by rw [h2]; rfl, flats_cons.mpr ⟨f1, h3⟩, h4, fun n hn => Nat.le_trans hle (h5 n hn)⟩
theorem sm_callF (n : Nat) {F : List D → Sto → Res D} {VF : List Sl → FR} (hF : SF fio F VF) (hr : SLF io r W) (h0 : fio n = true := by rfl) : SM io (eApp F r) (vCallF n VF W) := fun c env l S fts hi o => by
  unfold vCallF eApp
  have q0 := hr c env l S fts hi o
  cases hW : W env with
  | bad => trivial
  | exc k e => rw [hW] at q0; obtain ⟨S', z1, z2, z3⟩ := q0; rw [z1]; exact ⟨S', rfl, z2, z3⟩
  | ok p e1 =>
  rw [hW] at q0
  obtain ⟨ds, S1, z1, o1, z3, ft, h1, h2, h3, h4, h5⟩ := q0
  rw [z1]
  obtain ⟨xs, s⟩ := p
  show Sv c l S fts (if xs.length = n then (match VF (xs.map Sl.va ++ [s]) with
    | .ok r _ => .ok r e1
    | .exc k _ => .exc k e1
    | .bad => .bad) else .bad) (F ds S1) _
  by_cases hn : xs.length = n
  case neg => rw [if_neg hn]; trivial
  rw [if_pos hn]
  subst hn
  simp only at h1 h2 h3
  subst h2
  have hs : s ≠ .no := fun z => by subst z; exact own_no h1
  have at1 : ∀ (i : Nat) (a : Sl) (t : FT), (xs.map Sl.va ++ [s])[i]? = some a → (List.replicate xs.length FT.val ++ [ft])[i]? = some t → (i < xs.length ∧ t = .val ∧ ∃ x, xs[i]? = some x ∧ a = .va x) ∨ (i = xs.length ∧ a = s ∧ t = ft) := fun i a t e1 e2 => by
    by_cases hi : i < xs.length
    · rw [List.getElem?_append_left (by rw [List.length_map]; exact hi), List.getElem?_map, List.getElem?_eq_getElem hi] at e1
      rw [List.getElem?_append_left (by rw [List.length_replicate]; exact hi), List.getElem?_replicate, if_pos hi] at e2
      cases e1; cases e2
      exact .inl ⟨hi, rfl, _, List.getElem?_eq_getElem hi, rfl⟩
    · rw [List.getElem?_append_right (by rw [List.length_map]; omega), List.length_map] at e1
      rw [List.getElem?_append_right (by rw [List.length_replicate]; omega), List.length_replicate] at e2
      have : i - xs.length = 0 := by have := (List.getElem?_eq_some_iff.mp e1).1; simp at this; omega
      rw [this] at e1 e2
      cases e1; cases e2
      exact .inr ⟨by omega, rfl, rfl⟩
  have tsat : ∀ (i : Nat) (t : FT), (List.replicate xs.length FT.val ++ [ft])[i]? = some t → (t = .val ∧ i < xs.length) ∨ (i = xs.length ∧ t = ft) := fun i t e2 => by
    have hl : i < (xs.map Sl.va ++ [s]).length := by
      have := (List.getElem?_eq_some_iff.mp e2).1
      simp at this ⊢
      exact this
    rcases at1 i _ t (List.getElem?_eq_getElem hl) e2 with ⟨a, b, _⟩ | ⟨a, _, b⟩
    · exact .inl ⟨b, a⟩
    · exact .inr ⟨a, b⟩
  have rv : RV (xs.map Sl.va ++ [s]) ((xs ++ [rootD s ft]).map some) S1 (List.replicate xs.length FT.val ++ [ft]) := by
    refine ⟨by simp, by simp, fun i a t e1 e2 e3 => ?_, fun i t e1 e2 => ?_, fun i j t u q e1 e2 q1 q2 => ?_, fun i t e1 => ?_⟩
    · rcases at1 i a t e1 e2 with ⟨hi, rfl, x, hx, rfl⟩ | ⟨hi, rfl, rfl⟩
      · refine ⟨?_, own_va.mpr (flats_iff.mp h3 x (List.mem_of_getElem? hx))⟩
        rw [List.getElem?_map, List.getElem?_append_left hi, hx]; rfl
      · refine ⟨?_, h1⟩
        rw [hi, List.getElem?_map, List.getElem?_append_right (Nat.le_refl _), Nat.sub_self]; rfl
    · rcases at1 i .no t e1 e2 with ⟨_, _, x, _, z⟩ | ⟨_, z, _⟩
      · cases z
      · exact absurd z.symm hs
    · rcases tsat i t e1 with ⟨rfl, _⟩ | ⟨hi, rfl⟩
      · rw [foot_val] at q1; cases q1
      · rcases tsat j u e2 with ⟨rfl, _⟩ | ⟨hj, rfl⟩
        · rw [foot_val] at q2; cases q2
        · rw [hi, hj]
    · rcases tsat i t e1 with ⟨rfl, _⟩ | ⟨_, rfl⟩
      · rw [foot_val]; exact List.nodup_nil
      · exact h4
  have key := hF S1 (xs ++ [rootD s ft]) (xs.map Sl.va ++ [s]) (List.replicate xs.length FT.val ++ [ft]) rv (fun a ha => by
    rcases List.mem_append.mp ha with ha | ha
    · obtain ⟨x, _, rfl⟩ := List.mem_map.mp ha
      intro z; cases z
    · rw [List.mem_singleton] at ha; subst ha; exact hs) (fun i t ha hb => by
    rcases tsat i t hb with ⟨rfl, _⟩ | ⟨rfl, _⟩
    · rfl
    · rw [h0] at ha; cases ha)
  have post : ∀ {S3 : Sto} {outs : List Sl}, Post fio S1 S3 (xs ++ [rootD s ft]) (xs.map Sl.va ++ [s]) outs (List.replicate xs.length FT.val ++ [ft]) → Ok c e1 l S3 fts ∧ Fm fts S S3 := fun {S3 outs} p => by
    have fr : ∀ n, n < S1.length → n ∉ foot ft → S3[n]? = S1[n]? := fun n hn hf => p.fr n hn fun i t ha hb hq => by
      rcases tsat i t hb with ⟨rfl, _⟩ | ⟨_, rfl⟩
      · rw [foot_val] at hq; cases hq
      · exact hf hq
    have f0 : ∀ n, n < S.length → S3[n]? = S1[n]? := fun n hn => fr n (Nat.lt_of_lt_of_le hn z3.le) fun z => absurd hn (Nat.not_lt.mpr (h5 n z))
    refine ⟨o1.frame p.le (fun i t n ht hn => f0 n (o.rv.lt ht hn)) fun n hn => f0 n (Nat.lt_of_lt_of_le hn o.le), ⟨Nat.le_trans z3.le p.le, fun n hn hf => (f0 n hn).trans (z3.fr n hn hf)⟩⟩
  cases hv : VF (xs.map Sl.va ++ [s]) with
  | bad => trivial
  | exc k outs =>
    rw [hv] at key
    obtain ⟨S2, q1, q2⟩ := key
    obtain ⟨p1, p2⟩ := post q2
    exact ⟨S2, q1, p1, p2⟩
  | ok rr outs =>
    rw [hv] at key
    obtain ⟨d, S2, ft2, q1, q2, q3, q4, q5, q6⟩ := key
    obtain ⟨p1, p2⟩ := post q2
    refine ⟨d, S2, q1, p1, p2, ft2, q3, q4, q5, fun n hn => ?_⟩
    have := q6 n hn
    exact ⟨Nat.le_trans o1.le this, fun i t ht hnt => absurd (o1.rv.lt ht hnt) (Nat.not_lt.mpr this)⟩
end
theorem vcallf {n : Nat} {VF : List Sl → FR} {W : Env → VR (List D × Sl)} {e e1 : Env} {xs : List D} {s : Sl} (h : W e = .ok (xs, s) e1) (hn : xs.length = n) : vCallF n VF W e = (match VF (xs.map Sl.va ++ [s]) with
  | .ok r _ => .ok r e1
  | .exc k _ => .exc k e1
  | .bad => .bad) := by
  unfold vCallF
  rw [h]
  show (if xs.length = n then _ else _) = _
  rw [if_pos hn]
theorem vfone {M : Env → VR Sl} {e : Env} : vfOne M e = (M e).bind fun s e1 => .ok ([], s) e1 := rfl
theorem vfcons {V : VE} {W : Env → VR (List D × Sl)} {e : Env} : vfCons V W e = (V e).bind fun x e1 => (W e1).bind fun p e2 => .ok (x :: p.1, p.2) e2 := rfl
end VL

/-! VL27: an operand that is a new live list. -/
namespace VL
open PySem PySem.Spec PyProof.Rows L2 DL
def vOp2F (g : D → D → Sto → Res D) (M : Env → VR Sl) (b : Opd) : VE := fun e => (M e).bind fun s e1 => match snapS s with
  | some x => (b.ev e1).bind fun y e2 => (match b.rd e2 y with
    | some y' => toV (g x y' []) e2
    | none => .bad)
  | none => .bad
def vOp1F (g : D → Sto → Res D) (M : Env → VR Sl) : VE := fun e => (M e).bind fun s e1 => match snapS s with
  | some x => toV (g x []) e1
  | none => .bad
theorem own_dn {S : Sto} {s : Sl} {ft : FT} {x : D} (h : Own S s ft) (hs : snapS s = some x) : Dn S (rootD s ft) x := by
  rcases own_cases h with ⟨d, rfl, rfl, hd⟩ | ⟨xs, n, rfl, rfl, h1, h2⟩ | ⟨xs, n, rfl, rfl, h1, h2⟩ | ⟨_, _, _, rfl, rfl, _⟩ | ⟨_, _, _, _, _, rfl, rfl, _⟩
  · cases hs; exact .inl ⟨rfl, hd⟩
  · cases hs; exact .inr (.inl ⟨n, xs, rfl, rfl, h1, h2⟩)
  · cases hs; exact .inr (.inr ⟨n, xs, rfl, rfl, h1, h2⟩)
  · cases hs
  · cases hs
section
variable {io : Nat → Bool} {A B : E} {M : Env → VR Sl} {b : Opd}
theorem sc_op1F {g : D → Sto → Res D} (hg : Pr1 g) (ha : SM io A M) : SC io (eOp1 g A) (vOp1F g M) := SC.of fun c env l S fts hi o => by
  unfold vOp1F eOp1
  refine Sv.bind (ha c env l S fts hi o) fun s e1 d1 S1 o1 ⟨ft, h1, h2, h3, h4⟩ => ?_
  cases hs : snapS s with
  | none => trivial
  | some x =>
    subst h2
    exact Sv.of_RQ o1 (hg S1 _ x (own_dn h1 hs))
theorem sc_op2F {g : D → D → Sto → Res D} (hg : Pr2 g) (ha : SM io A M) (hb : SO io B b) : SC io (eOp2 g A B) (vOp2F g M b) := SC.of fun c env l S fts hi o => by
  unfold vOp2F eOp2
  refine Sv.bind (ha c env l S fts hi o) fun s e1 d1 S1 o1 ⟨ft, h1, h2, h3, h4⟩ => ?_
  cases hs : snapS s with
  | none => trivial
  | some x =>
    subst h2
    simp only
    have q : Sv c l S1 fts (b.ev e1) (B l S1) fun y _ d2 S2 => Rd c l fts b y d2 ∧ Dn S2 (rootD s ft) x := by
      have q := hb.v hi o1
      cases h : b.ev e1 with
      | bad => trivial
      | exc k e => rw [h] at q; exact q
      | ok y e =>
        rw [h] at q
        obtain ⟨d, S', q1, q2, q3, q4⟩ := q
        refine ⟨d, S', q1, q2, q3, q4, own_dn (Own.keep ft s (fun n hn => q3.fr n ?_ fun i t ht => (h4 n hn).2 i t ht) h1) hs⟩
        exact (Own.cells ft s h1).2 n hn
    refine Sv.bind q fun y e2 d2 S2 o2 ⟨r2, r1⟩ => ?_
    cases h2 : b.rd e2 y with
    | none => trivial
    | some y' => exact Sv.of_RQ o2 (hg S2 _ d2 x y' r1 (r2 e2 S2 y' o2 h2))
end
theorem av_op2F {g : D → D → Sto → Res D} {M : Env → VR Sl} {b : Opd} {e : Env} : vOp2F g M b e = (M e).bind fun s e1 => match snapS s with
  | some x => (b.ev e1).bind fun y e2 => (match b.rd e2 y with
    | some y' => toV (g x y' []) e2
    | none => .bad)
  | none => .bad := rfl
theorem av_op1F {g : D → Sto → Res D} {M : Env → VR Sl} {e : Env} : vOp1F g M e = (M e).bind fun s e1 => match snapS s with
  | some x => toV (g x []) e1
  | none => .bad := rfl
end VL

/-! VL28: list.remove; a live thing compared with None. -/
namespace VL
open PySem PySem.Spec PyProof.Rows L2 DL
def removeL (xs : List D) (ds : List D) : Option (D × List D) := match ds with
  | [y] => if dp y ≤ 60 ∧ dps xs ≤ 60 then (match xs.findIdx? fun z => eqD z y with
    | some j => some (.non, xs.eraseIdx j)
    | none => none) else none
  | _ => none
theorem lm_remove : LM removeD removeL := fun S n xs ds r xs' h1 h2 h3 h => by
  unfold removeL at h
  split at h
  · next y =>
    split at h
    · next hk =>
      split at h
      · next j hj =>
        cases h
        have fy : flat y := (flats_cons.mp h3).1
        refine ⟨by rfl, flats_iff.mpr fun x hx => flats_iff.mp h2 x (List.mem_of_mem_eraseIdx hx), ?_⟩
        unfold removeD
        have hc : cellL S (.ref n) = some (n, xs) := by
          show (match S[n]? with | some (.lst xs) => some (n, xs) | _ => none) = _
          rw [h1]
        rw [hc]
        simp only
        have e1 : dr S y = y := dr_pure S y fy
        have e2 : drs S xs = xs := drs_pure S xs h2
        have e3 : remAt S xs y = some j := by unfold remAt; rw [e1, e2]; exact hj
        have e4 : flatOk S y = true := by unfold flatOk; rw [e1]; exact decide_eq_true hk.1
        rw [e2, e3, e4, decide_eq_true hk.2]
        rfl
      · cases h
    · cases h
  · cases h
/-- a live thing `is None` -/
def vIsNone (neg : Bool) (i : Nat) : VE := fun e => match e[i]? with
  | some (.ins _ _ _) => .ok (.bl neg) e
  | some (.va d) => .ok (.bl (isNon d != neg)) e
  | _ => .bad
section
variable {io : Nat → Bool}
theorem sc_isNone (i : Nat) : SC io (eOp2 isD (eVar i) (eC .non)) (vIsNone false i) := fun c env l S fts hi o => by
  unfold vIsNone
  cases he : env[i]? with
  | none => trivial
  | some s0 =>
    cases s0 with
    | ins c ns ss =>
      obtain ⟨ft, hft⟩ := o.rv.at he
      obtain ⟨hl, ho⟩ := o.rv.sl i _ ft he hft (by intro z; cases z)
      obtain ⟨n, hn⟩ : ∃ n, rootD (.ins c ns ss) ft = .ref n := by
        rcases own_cases ho with ⟨d, z, _⟩ | ⟨_, _, z, _⟩ | ⟨_, _, z, _⟩ | ⟨_, _, _, z, _⟩ | ⟨_, _, _, n, ts, _, rfl, _⟩
        · cases z
        · cases z
        · cases z
        · cases z
        · exact ⟨n, rfl⟩
      rw [hn] at hl
      have e : eOp2 isD (eVar i) (eC .non) l S = .ok (.bl false) S := by
        unfold eOp2
        rw [eVar_at hl]
        rfl
      rw [e]
      exact Sv.ret o ⟨rfl, flat_bl _⟩
    | va d =>
      obtain ⟨ft, hft⟩ := o.rv.at he
      obtain ⟨hl, ho⟩ := o.rv.sl i _ ft he hft (by intro z; cases z)
      have e : eOp2 isD (eVar i) (eC .non) l S = .ok (.bl (isNon d)) S := by
        unfold eOp2
        rw [eVar_at (d := d) (by rw [hl]; rcases own_cases ho with ⟨d', z, rfl, _⟩ | ⟨_, _, z, _⟩ | ⟨_, _, z, _⟩ | ⟨_, _, _, z, _⟩ | ⟨_, _, _, _, _, z, _⟩ <;> cases z; rfl)]
        cases d <;> rfl
      rw [e]
      refine Sv.ret o ⟨?_, flat_bl _⟩
      cases isNon d <;> rfl
    | _ => trivial
end
theorem av_isNone {neg : Bool} {i : Nat} {e : Env} : vIsNone neg i e = match e[i]? with
  | some (.ins _ _ _) => .ok (.bl neg) e
  | some (.va d) => .ok (.bl (isNon d != neg)) e
  | _ => .bad := rfl
end VL

/-! VL29: a def whose answer is known for values: nothing else is touched. -/
namespace VL
open PySem PySem.Spec PyProof.Rows L2 DL
def allVa : List Sl → Option (List D)
  | [] => some []
  | .va d :: ss => (match allVa ss with
    | some ds => some (d :: ds)
    | none => none)
  | _ => none
open Classical in
noncomputable def vPure (F : List D → Sto → Res D) : List Sl → FR := fun ss => match allVa ss with
  | some ds => if h : ∃ d, flat d ∧ ∀ S, F ds S = .ok d S then .ok (.va (choose h)) (ss.map fun _ => .no) else .bad
  | none => .bad
theorem allVa_map : ∀ ds : List D, allVa (ds.map Sl.va) = some ds
  | [] => rfl
  | d :: ds => by rw [List.map_cons, allVa, allVa_map ds]
theorem allVa_some : ∀ {ss : List Sl} {ds : List D}, allVa ss = some ds → ss = ds.map Sl.va
  | [], ds, h => by cases h; rfl
  | .va d :: ss, ds, h => by
    rw [allVa] at h
    split at h
    · next ds' e => cases h; rw [allVa_some e]; rfl
    · cases h
  | .no :: _, _, h => by cases h
  | .lv _ :: _, _, h => by cases h
  | .di _ :: _, _, h => by cases h
  | .ls _ :: _, _, h => by cases h
  | .ins _ _ _ :: _, _, h => by cases h
theorem sf_vpure {bs : List Bool} {F : List D → Sto → Res D} (hb : bs.all (fun b => !b) = true := by rfl) : SF (ioF bs) F (vPure F) := fun S ds ss fts rv hs hv => by
  have io0 : ∀ i, ioF bs i = false := fun i => by
    unfold ioF
    rw [List.getD_eq_getElem?_getD]
    cases h : bs[i]? with
    | none => rfl
    | some b =>
      have := List.all_eq_true.mp hb b (List.mem_of_getElem? h)
      cases b with
      | false => rfl
      | true => cases this
  unfold vPure
  cases ha : allVa ss with
  | none => trivial
  | some ds' =>
    have e := allVa_some ha
    have hd : ds = ds' := by
      subst e
      refine List.ext_getElem? fun i => ?_
      have l1 := rv.l1
      have l2 := rv.l2
      rw [List.length_map, List.length_map] at l1
      by_cases hi : i < ds'.length
      · have h1 : (ds'.map Sl.va)[i]? = some (.va ds'[i]) := by rw [List.getElem?_map, List.getElem?_eq_getElem hi]; rfl
        obtain ⟨t, ht⟩ := rv.at h1
        have := (rv.sl i _ t h1 ht (by intro z; cases z)).1
        rw [List.getElem?_map] at this
        rw [List.getElem?_eq_getElem (by omega : i < ds.length)] at this ⊢
        rw [List.getElem?_eq_getElem hi]
        have q := Option.some.inj (Option.some.inj this)
        rw [q]
        cases t <;> rfl
      · rw [List.getElem?_eq_none (by omega), List.getElem?_eq_none (by omega)]
    subst hd
    simp only
    split
    · next h =>
      obtain ⟨f1, f2⟩ := Classical.choose_spec h
      refine ⟨_, S, .val, f2 S, ⟨Nat.le_refl _, by simp, fun i s t h => (by rw [io0] at h; cases h), fun _ _ _ => rfl⟩, own_va.mpr f1, rfl, by rw [foot_val]; exact List.nodup_nil, fun n hn => by rw [foot_val] at hn; cases hn⟩
    · trivial
theorem vpure_ok {F : List D → Sto → Res D} {ds : List D} {d : D} (hf : flat d) (h : ∀ S, F ds S = .ok d S) : vPure F (ds.map Sl.va) = .ok (.va d) (ds.map fun _ => .no) := by
  unfold vPure
  rw [allVa_map]
  have ex : ∃ d, flat d ∧ ∀ S, F ds S = .ok d S := ⟨d, hf, h⟩
  simp only
  rw [dif_pos ex]
  have e := (Classical.choose_spec ex).2 []
  rw [h []] at e
  have e2 : d = Classical.choose ex := by injection e
  rw [← e2, List.map_map]
  rfl
end VL

/-! VL30: tuple(range(n)). -/
namespace VL
open PySem PySem.Spec PyProof.Rows L2 DL
theorem dn_pl {S : Sto} {d x : D} (h : Dn S d x) : (∀ n, x ≠ .lst n) → (∀ t n, x ≠ .dic t n) → d = x := fun h1 h2 => by
  rcases h with ⟨e, _⟩ | ⟨_, xs, _, rfl, _⟩ | ⟨_, xs, _, rfl, _⟩
  · exact e
  · exact absurd rfl (h1 _)
  · exact absurd rfl (h2 _ _)
theorem pr_tupRg : Pr1 tupRgD := fun S d x h => by
  unfold tupRgD
  cases x with
  | int n =>
    obtain rfl : d = .int n := dn_pl h (by intro _ z; cases z) (by intro _ _ z; cases z)
    simp only
    by_cases hn : 0 ≤ n ∧ n ≤ 1000
    · rw [if_pos hn, if_pos hn]; exact ⟨flat_tup.mpr (flats_range _ _), rfl⟩
    · rw [if_neg hn, if_neg hn]; trivial
  | _ => trivial
end VL

/-! VL31: xs + ys as a new live list. -/
namespace VL
open PySem PySem.Spec PyProof.Rows L2 DL
def vAddM (a b : Opd) : Env → VR Sl := fun e => (a.ev e).bind fun x e1 => (b.ev e1).bind fun y e2 => match a.rd e2 x, b.rd e2 y with
  | some x', some y' => (match DL.listOf [] x', DL.listOf [] y' with
    | some xs, some ys => if xs.length + ys.length ≤ sizeLine then .ok (.lv (xs ++ ys)) e2 else .bad
    | _, _ => .bad)
  | _, _ => .bad
section
variable {io : Nat → Bool} {A B : E} {a b : Opd}
theorem sm_addM (ha : SO io A a) (hb : SO io B b) : SM io (eOp2 addDM A B) (vAddM a b) := fun c env l S fts hi o => by
  unfold vAddM eOp2
  refine Sv.bind (ha.v hi o) fun x e1 d1 S1 o1 r1 => Sv.bind (hb.v hi o1) fun y e2 d2 S2 o2 r2 => ?_
  cases h1 : a.rd e2 x with
  | none => trivial
  | some x' =>
    cases h2 : b.rd e2 y with
    | none => trivial
    | some y' =>
      have q1 := r1 e2 S2 x' o2 h1
      have q2 := r2 e2 S2 y' o2 h2
      simp only
      unfold addDM
      rw [dn_list q1, dn_list q2]
      cases h3 : DL.listOf [] x' with
      | none => trivial
      | some xs =>
        cases h4 : DL.listOf [] y' with
        | none => trivial
        | some ys =>
          simp only
          by_cases hz : xs.length + ys.length ≤ sizeLine
          · rw [if_pos hz, if_pos hz]
            exact new_cell o2 (flats_iff.mpr fun z hz => by
              rcases List.mem_append.mp hz with hz | hz
              · exact flats_iff.mp (list_flat q1.flat h3) z hz
              · exact flats_iff.mp (list_flat q2.flat h4) z hz)
          · rw [if_neg hz]; trivial
end
theorem av_addM {a b : Opd} {e : Env} : vAddM a b e = (a.ev e).bind fun x e1 => (b.ev e1).bind fun y e2 => match a.rd e2 x, b.rd e2 y with
  | some x', some y' => (match DL.listOf [] x', DL.listOf [] y' with
    | some xs, some ys => if xs.length + ys.length ≤ sizeLine then .ok (.lv (xs ++ ys)) e2 else .bad
    | _, _ => .bad)
  | _, _ => .bad := rfl
end VL

/-! VL32: list(reversed(t)), t a tuple. -/
namespace VL
open PySem PySem.Spec PyProof.Rows L2 DL
theorem pr_lstRevT : Pr1 lstRevT := fun S d x h => by
  have hf := h.flat
  cases x with
  | tup xs =>
    obtain ⟨rfl, hx⟩ := dn_tup h
    exact ⟨flat_lst.mpr (flats_iff.mpr fun y hy => flats_iff.mp hx y (List.mem_reverse.mp hy)), rfl⟩
  | _ => trivial
def vLstRevTM (a : Opd) : Env → VR Sl := fun e => (a.ev e).bind fun x e1 => match a.rd e1 x with
  | some (.tup xs) => .ok (.lv xs.reverse) e1
  | _ => .bad
section
variable {io : Nat → Bool} {A : E} {a : Opd}
theorem sm_lstRevT (ha : SO io A a) : SM io (eOp1 lstRevTM A) (vLstRevTM a) := fun c env l S fts hi o => by
  unfold vLstRevTM
  show Sv c l S fts _ ((A l S).bind fun x S1 => lstRevTM x S1) _
  refine Sv.bind (ha c env l S fts hi o) fun x e d S1 o1 r1 => ?_
  cases h1 : a.rd e x with
  | none => trivial
  | some y =>
    have hd := r1 e S1 y o1 h1
    cases y with
    | tup xs =>
      obtain ⟨rfl, hx⟩ := dn_tup hd
      exact new_cell o1 (flats_iff.mpr fun z hz => flats_iff.mp hx z (List.mem_reverse.mp hz))
    | _ => trivial
end
end VL

/-! VL33: a def that calls itself; list.reverse. -/
namespace VL
open PySem PySem.Spec PyProof.Rows L2 DL
def badV : List Sl → FR := fun _ => .bad
def recV (R : (List Sl → FR) → List Sl → FR) : Nat → List Sl → FR
  | 0 => badV
  | n + 1 => R (recV R n)
theorem sf_bad {io : Nat → Bool} : SF io badF badV := fun S ds ss fts r hno hv => trivial
theorem sf_rec {io : Nat → Bool} {R : (List D → Sto → Res D) → List D → Sto → Res D} {V : (List Sl → FR) → List Sl → FR} (h : ∀ F VF, SF io F VF → SF io (R F) (V VF)) : ∀ n, SF io (recF R n) (recV V n)
  | 0 => sf_bad
  | n + 1 => h _ _ (sf_rec h n)
def reverseL (xs : List D) (ds : List D) : Option (D × List D) := match ds with
  | [] => some (.non, xs.reverse)
  | _ => none
theorem lm_reverse : LM reverseD reverseL := fun S n xs ds r xs' h1 h2 h3 h => by
  unfold reverseL at h
  split at h
  · cases h
    refine ⟨flat_non, flats_iff.mpr fun x hx => flats_iff.mp h2 x (List.mem_reverse.mp hx), ?_⟩
    unfold reverseD
    simp only
    rw [cellL_ref h1]
  · cases h
end VL

/-! VL34: texts. -/
namespace VL
open PySem PySem.Spec PyProof.Rows L2 DL
/-- x.m(y) -/
def vMt1 (T : String) (g : D → List D → Sto → Res D) (a b : Opd) : VE := fun e => (a.ev e).bind fun x e1 => match a.rd e1 x with
  | some x0 => if tyD [] x0 = some T then (b.ev e1).bind fun y e2 => (match a.rd e2 x, b.rd e2 y with
    | some x', some y' => toV (g x' [y'] []) e2
    | _, _ => .bad) else .bad
  | none => .bad
def vSlx (a : Opd) (p q : VTP) : VE := fun e => (a.ev e).bind fun x e1 => (p e1).bind fun lo e2 => (q e2).bind fun hi e3 => rd1 (fun x S => slxD x lo hi S) (a.rd e3 x) e3
def viStr (V : VE) : VI := fun e => (V e).bind fun d e1 => match d with
  | .str z => .ok (signsD z) e1
  | _ => .bad
section
variable {io : Nat → Bool} {A B : E} {a b : Opd} {V : VE}
theorem sc_mt1 {T : String} {g : D → List D → Sto → Res D} (hg : Pr2 fun x y S => g x [y] S) (ha : SO io A a) (hb : SO io B b) : SC io (eMt T g A (aCons B aNil)) (vMt1 T g a b) := SC.of fun c env l S fts hi o => by
  unfold vMt1 eMt
  refine Sv.bind (ha.v hi o) fun x e1 d1 S1 o1 r1 => ?_
  cases h1 : a.rd e1 x with
  | none => trivial
  | some x0 =>
    have hd := r1 e1 S1 x0 o1 h1
    simp only
    rw [dn_ty hd]
    by_cases hz : tyD [] x0 = some T
    · rw [if_pos hz, if_pos hz]
      have eq : (aCons B aNil) l S1 = (B l S1).bind fun d S2 => .ok [d] S2 := by
        unfold aCons
        cases hB : B l S1 <;> rfl
      rw [eq]
      have q := hb.v hi o1
      show Sv c l S1 fts ((b.ev e1).bind _) (((B l S1).bind fun d S2 => Res.ok [d] S2).bind fun ds S2 => g d1 ds S2) _
      have e3 : ((B l S1).bind fun d S2 => Res.ok [d] S2).bind (fun ds S2 => g d1 ds S2) = (B l S1).bind fun d S2 => g d1 [d] S2 := by
        cases hB : B l S1 <;> rfl
      rw [e3]
      refine Sv.bind q fun y e2 d2 S2 o2 r2 => ?_
      cases h2 : a.rd e2 x with
      | none => trivial
      | some x' =>
        cases h3 : b.rd e2 y with
        | none => trivial
        | some y' => exact Sv.of_RQ o2 (hg S2 d1 d2 x' y' (r1 e2 S2 x' o2 h2) (r2 e2 S2 y' o2 h3))
    · rw [if_neg hz]; trivial
theorem flats_strsV (ws : List Str) : flats (ws.map D.str) := flats_iff.mpr fun x hx => by
  rw [List.mem_map] at hx
  obtain ⟨z, _, rfl⟩ := hx
  exact flat_str z
theorem pr_split : Pr2 fun x y S => splitD x [y] S := fun S d e x y h1 h2 => by
  cases x with
  | str a => cases y with
    | str b =>
      obtain rfl := dn_str h1
      obtain rfl := dn_str h2
      exact RQ.ite fun h => ⟨flat_lst.mpr (flats_strsV _), if_pos h⟩
    | _ => trivial
  | _ => trivial
theorem pr_part : Pr2 fun x y S => partD x [y] S := fun S d e x y h1 h2 => by
  cases x with
  | str a => cases y with
    | str b =>
      obtain rfl := dn_str h1
      obtain rfl := dn_str h2
      exact RQ.ite fun h => ⟨flat_tup.mpr (flats_strsV [(Txt.partition a b).1, (Txt.partition a b).2.1, (Txt.partition a b).2.2]), if_pos h⟩
    | _ => trivial
  | _ => trivial
theorem pr_starts : Pr2 fun x y S => startsD x [y] S := fun S d e x y h1 h2 => by
  cases x with
  | str a => cases y with
    | str b =>
      obtain rfl := dn_str h1
      obtain rfl := dn_str h2
      exact ⟨flat_bl _, rfl⟩
    | _ => trivial
  | _ => trivial
theorem pr_join : Pr2 fun x y S => joinD x [y] S := fun S d e x y h1 h2 => by
  cases x with
  | str a =>
    obtain rfl := dn_str h1
    show RQ (match (DL.seqOf [] y).bind asStrs with | some ys => _ | none => _) (match (DL.seqOf S e).bind asStrs with | some ys => _ | none => _) S
    rw [dn_seq h2]
    cases (DL.seqOf [] y).bind asStrs with
    | none => trivial
    | some ys => exact RQ.ite fun h => ⟨flat_str _, if_pos h⟩
  | _ => trivial
theorem pa_intS : PrA intSD := pa_one (fun S d x h => by
  cases x with
  | str i =>
    obtain rfl := dn_str h
    show RQ (match PySem.intText? i with | some n => _ | none => _) (match PySem.intText? i with | some n => _ | none => _) S
    cases PySem.intText? i with
    | none => trivial
    | some n => exact RQ.ite fun h => ⟨flat_int _, if_pos h⟩
  | _ => trivial) (fun _ => rfl) (fun x y zs S => by cases x <;> rfl)
theorem sc_slx {p q : TP} {vp vq : VTP} (ha : SO io A a) (hp : STP io p vp) (hq : STP io q vq) : SC io (eSlx A p q) (vSlx a vp vq) := SC.of fun c env l S fts hi o => by
  unfold vSlx eSlx
  refine Sv.bind (ha.v hi o) fun x e1 d1 S1 o1 r1 => Sv.bind (hp c e1 l S1 fts hi o1) fun lo e2 lo' S2 o2 q2 => Sv.bind (hq c e2 l S2 fts hi o2) fun h e3 h' S3 o3 q3 => ?_
  subst q2 q3
  cases h1 : a.rd e3 x with
  | none => trivial
  | some x' =>
    refine Sv.of_RQ o3 ?_
    have hd := r1 e3 S3 x' o3 h1
    cases x' with
    | str z =>
      obtain rfl := dn_str hd
      exact RQ.ite fun h => ⟨flat_str _, if_pos h⟩
    | _ => trivial
theorem flats_signs (z : Str) : flats (signsD z) := flats_iff.mpr fun x hx => by
  unfold signsD at hx
  rw [List.mem_map] at hx
  obtain ⟨c, _, rfl⟩ := hx
  exact flat_str _
theorem si_str (ha : SC io A V) : SI io (iStrD A) (viStr V) := fun c env l S fts hi o => by
  unfold viStr iStrD
  refine Sv.bind (ha.v hi o) fun x e d S1 o1 ⟨q, f⟩ => ?_
  subst q
  cases d with
  | str z => exact Sv.ret o1 ⟨rfl, flats_signs z, fun S2 => trivial⟩
  | _ => trivial
end
section
variable {T : String} {g : D → List D → Sto → Res D} {a b : Opd} {e : Env}
theorem av_mt1 : vMt1 T g a b e = (a.ev e).bind fun x e1 => match a.rd e1 x with
  | some x0 => if tyD [] x0 = some T then (b.ev e1).bind fun y e2 => (match a.rd e2 x, b.rd e2 y with
    | some x', some y' => toV (g x' [y'] []) e2
    | _, _ => .bad) else .bad
  | none => .bad := rfl
theorem av_slx {p q : VTP} : vSlx a p q e = (a.ev e).bind fun x e1 => (p e1).bind fun lo e2 => (q e2).bind fun hi e3 => rd1 (fun x S => slxD x lo hi S) (a.rd e3 x) e3 := rfl
theorem vi_str {V : VE} : viStr V e = (V e).bind fun d e1 => match d with
  | .str z => .ok (signsD z) e1
  | _ => .bad := rfl
end
end VL

/-! VL35: comprehensions with any target. -/
namespace VL
open PySem PySem.Spec PyProof.Rows L2 DL
section
variable {it : VIc} {items : List D} {gd : Env → Prop} {e : Env} {own : List Nat} {G : VG} {el : VE} {f : D → D}
open Classical in
theorem lcl_gen (hgd : gd e) : ∀ (items acc : List D), (∀ d ∈ items, ∃ e1 e2, G d (wipeE e own) = some e1 ∧ el e1 = .ok (f d) e2 ∧ restE e2 e own = e) → acc.length + items.length ≤ sizeLine → vLcL gd G vtTrue el own e items e acc = .ok (acc ++ items.map f) e
  | [], acc, _, _ => by unfold vLcL; rw [if_pos hgd]; simp
  | d :: ds, acc, h, hz => by
    obtain ⟨e1, e2, h1, h2, h3⟩ := h d List.mem_cons_self
    unfold vLcL
    rw [if_pos hgd, h1]
    simp only
    rw [show vtTrue e1 = .ok true e1 from rfl, vb_ok, if_pos rfl, h2, vb_ok, if_pos (by simp at hz; omega), h3, lcl_gen hgd ds _ (fun d' hd => h d' (List.mem_cons_of_mem _ hd)) (by simp at hz ⊢; omega)]
    simp
theorem lcv_gen (h0 : it e = .ok (items, gd) e) (hgd : gd e) (hp : (own.all fun i => plainS e[i]?) = true) (h : ∀ d ∈ items, ∃ e1 e2, G d (wipeE e own) = some e1 ∧ el e1 = .ok (f d) e2 ∧ restE e2 e own = e) (hz : items.length ≤ sizeLine) :
    vLc it G vtTrue el own e = .ok (.lst (items.map f)) e := by
  unfold vLc vLcX
  rw [h0, vb_ok, if_pos hp, lcl_gen hgd items [] h (by simpa using hz)]
  rfl
end
end VL

/-! VL36: a caught exception as a value. -/
namespace VL
open PySem PySem.Spec PyProof.Rows L2 DL
theorem flat_exc (k : Nat) : flat (.exc k) := by unfold flat rlt; rfl
def goneO (i : Nat) : VO → VO
  | .next e => .next (e.set i .no)
  | .brk e => .brk (e.set i .no)
  | .cont e => .cont (e.set i .no)
  | .exc _ _ => .bad
  | o => o
def tryVK (m : Nat → Option Bool) (i : Nat) (U : VS) : VO → VO
  | .exc x e1 => (match m x with
    | some true => if i < e1.length then goneO i (U (e1.set i (.va (.exc x)))) else .bad
    | some false => .exc x e1
    | none => .bad)
  | o => o
def vsTryV (m : Nat → Option Bool) (i : Nat) (V U : VS) : VS := fun e => tryVK m i U (V e)
section
variable {io : Nat → Bool} {A B : Stm} {V U : VS} {i : Nat}
theorem ss_tryV (m : Nat → Option Bool) (i : Nat) (ha : SS io A V) (hb : SS io B U) (hii : io i = false := by rfl) : SS io (sTryV m i A B) (vsTryV m i V U) := fun c env l S fts hi o => by
  have q := ha c env l S fts hi o
  unfold vsTryV tryVK sTryV
  cases e : V env with
  | exc x e1 =>
    rw [e] at q
    obtain ⟨l1, S1, fts1, h1, o1⟩ := q
    rw [h1]
    simp only
    cases hm : m x with
    | none => trivial
    | some b =>
      cases b with
      | false => exact ⟨l1, S1, fts1, rfl, o1⟩
      | true =>
        simp only
        rw [o1.rv.l1]
        by_cases hz : i < e1.length
        · rw [if_pos hz, if_pos hz]
          have o2 := o1.setV (by rw [hi]; exact hii) (flat_exc x)
          have q2 := hb c _ _ S1 _ hi o2
          cases e2 : U (e1.set i (.va (.exc x))) with
          | exc _ _ => trivial
          | next e3 => rw [e2] at q2; obtain ⟨l2, S2, fts2, h2, h3⟩ := q2; rw [h2]; exact ⟨_, S2, _, rfl, h3.forget (by rw [hi]; exact hii) none⟩
          | brk e3 => rw [e2] at q2; obtain ⟨l2, S2, fts2, h2, h3⟩ := q2; rw [h2]; exact ⟨_, S2, _, rfl, h3.forget (by rw [hi]; exact hii) none⟩
          | cont e3 => rw [e2] at q2; obtain ⟨l2, S2, fts2, h2, h3⟩ := q2; rw [h2]; exact ⟨_, S2, _, rfl, h3.forget (by rw [hi]; exact hii) none⟩
          | ret r e3 => rw [e2] at q2; obtain ⟨d, l2, S2, fts2, ft, h2, h3⟩ := q2; rw [h2]; exact ⟨d, l2, S2, fts2, ft, rfl, h3⟩
          | retf r e3 => rw [e2] at q2; obtain ⟨d, l2, S2, fts2, h2, h3⟩ := q2; rw [h2]; exact ⟨d, l2, S2, fts2, rfl, h3⟩
          | bad => trivial
        · rw [if_neg hz]; trivial
  | next e1 => rw [e] at q; obtain ⟨l1, S1, fts1, h1, o1⟩ := q; rw [h1]; exact ⟨l1, S1, fts1, rfl, o1⟩
  | brk e1 => rw [e] at q; obtain ⟨l1, S1, fts1, h1, o1⟩ := q; rw [h1]; exact ⟨l1, S1, fts1, rfl, o1⟩
  | cont e1 => rw [e] at q; obtain ⟨l1, S1, fts1, h1, o1⟩ := q; rw [h1]; exact ⟨l1, S1, fts1, rfl, o1⟩
  | ret r e1 => rw [e] at q; obtain ⟨d, l1, S1, fts1, ft, h1, h2⟩ := q; rw [h1]; exact ⟨d, l1, S1, fts1, ft, rfl, h2⟩
  | retf r e1 => rw [e] at q; obtain ⟨d, l1, S1, fts1, h1, h2⟩ := q; rw [h1]; exact ⟨d, l1, S1, fts1, rfl, h2⟩
  | bad => trivial
end
theorem dn_exc {S : Sto} {d : D} {k : Nat} (h : Dn S d (.exc k)) : d = .exc k := by
  rcases h with ⟨rfl, _⟩ | ⟨n, xs, rfl, h, _⟩ | ⟨n, xs, rfl, h, _⟩
  · rfl
  · cases h
  · cases h
theorem dn_noexc {S : Sto} {d x : D} (h : Dn S d x) (hx : ∀ k, x ≠ .exc k) : ∀ k, d ≠ .exc k := by
  rcases h with ⟨rfl, _⟩ | ⟨n, xs, rfl, rfl, _⟩ | ⟨n, xs, rfl, rfl, _⟩
  · exact hx
  · intro k z; cases z
  · intro k z; cases z
theorem isx_no {tt : List (String × Bool)} {te : List (Nat × Bool)} {d : D} {S : Sto} (h : ∀ k, d ≠ .exc k) : isxD tt te d S = (match ((tyD S d).bind fun t => tt.lookup t) with
    | some b => .ok (.bl b) S
    | none => .bad) := by
  cases d <;> first | rfl | exact absurd rfl (h _)
theorem pr_isx (tt : List (String × Bool)) (te : List (Nat × Bool)) : Pr1 (isxD tt te) := fun S d x h => by
  by_cases hx : ∃ k, x = .exc k
  · obtain ⟨k, rfl⟩ := hx
    obtain rfl := dn_exc h
    unfold isxD
    simp only
    cases te.lookup k with
    | none => trivial
    | some b => exact ⟨flat_bl _, rfl⟩
  · have h1 : ∀ k, x ≠ .exc k := fun k z => hx ⟨k, z⟩
    rw [isx_no h1, isx_no (dn_noexc h h1), dn_ty h]
    cases (tyD [] x).bind fun t => tt.lookup t with
    | none => trivial
    | some b => exact ⟨flat_bl _, rfl⟩
theorem pr_smul : Pr2 smulD := fun S d e x y h1 h2 => by
  cases x with
  | str i =>
    cases y with
    | int k => obtain rfl := dn_str h1; obtain rfl := dn_int h2; exact RQ.ite fun h => ⟨flat_str _, if_pos h⟩
    | _ => trivial
  | _ => trivial
/-! reading -/
section
variable {m : Nat → Option Bool} {U V : VS} {e e1 : Env} {x i j : Nat} {r : Sl} {tt : List (String × Bool)} {te : List (Nat × Bool)} {S : Sto}
theorem vs_tryV : vsTryV m i V U e = tryVK m i U (V e) := rfl
theorem tryvk_next : tryVK m i U (.next e) = .next e := rfl
theorem tryvk_ret : tryVK m i U (.ret r e) = .ret r e := rfl
theorem tryvk_brk : tryVK m i U (.brk e) = .brk e := rfl
theorem tryvk_cont : tryVK m i U (.cont e) = .cont e := rfl
theorem tryvk_exc (h : m x = some true) (hi : i < e.length) : tryVK m i U (.exc x e) = goneO i (U (e.set i (.va (.exc x)))) := by
  unfold tryVK
  simp only
  rw [h]
  simp only
  rw [if_pos hi]
theorem gone_next : goneO i (.next e) = .next (e.set i .no) := rfl
theorem gone_ret : goneO i (.ret r e) = .ret r e := rfl
theorem isx_exc {k : Nat} {b : Bool} (h : te.lookup k = some b) : isxD tt te (.exc k) S = .ok (.bl b) S := by
  unfold isxD
  simp only
  rw [h]
theorem isx_non {b : Bool} (h : tt.lookup "NoneType" = some b) : isxD tt te .non S = .ok (.bl b) S := by
  show (match (some "NoneType").bind fun t => tt.lookup t with | some b => Res.ok (D.bl b) S | none => .bad) = _
  rw [show ((some "NoneType").bind fun t => tt.lookup t) = tt.lookup "NoneType" from rfl, h]
end
end VL

namespace LW
open PySem PySem.Spec PyProof.Rows L2 DL
def top (i : Nat) : Stmt := PySem.Challenge.pw_spentonce_k61_numbers_and_coins.main.body.getD i (.Pass ⟨0, 0, 0, 0⟩)
section
variable {P : Program} {w : World} {K : PySem.W.Frag} {mg : Str → Option Value} {base : Heap} {cl : Nat → Addr}
noncomputable def A__law_mixed : Stm :=
  (sRet (eOp2 modD (eOp2 mulD (eOp2 mulD (eOp2 addD (eOp2 modD (eVar 0) (eC (.int 2147483647))) (eC (.int 11))) (eC (.int 48271))) (eC (.int 69621))) (eC (.int 2147483629))))
noncomputable def F__law_mixed : List D → Sto → Res D := runF 1 1 .fr A__law_mixed
theorem sc__law_mixed : FnScope ["cell"] ["cell"] (defScope (top 10)) := ⟨rfl, rfl, rfl, by decide +kernel, rfl, by decide +kernel, by decide +kernel⟩
theorem ok__law_mixed {f : Addr} {fd : FuncData} (Fd : FunD K "_law_mixed" "_law_mixed" (defArgs (top 10)) (defBody (top 10)) (defScope (top 10)) [] [] f fd)  :
    FnOk P w K mg base (L2.CX P w) 1 f fd ["cell"] (spF ⟨P, w, K, cl⟩ 1 F__law_mixed) :=
  fn_rule Fd sc__law_mixed fun cdv A outer s H E hr => by
  unfold A__law_mixed
  exact (dss_one (ds_ret (de_bin od_mod (de_bin od_mul (de_bin od_mul (de_bin od_add (de_bin od_mod (dv 0) de_int) de_int) de_int) de_int) de_int)))
noncomputable def A_looked_text : Stm :=
  (sSeq (sIf (tNotD (tTruth (eOp1 (isiD "str") (eVar 0))))
  (sRaise 1)
  sNil)
  (sRet (eVar 0)))
noncomputable def F_looked_text : List D → Sto → Res D := runF 1 1 .fr A_looked_text
theorem sc_looked_text : FnScope ["text"] ["text"] (defScope (top 6)) := ⟨rfl, rfl, rfl, by decide +kernel, rfl, by decide +kernel, by decide +kernel⟩
theorem ok_looked_text {f : Addr} {fd : FuncData} (Fd : FunD K "looked_text" "looked_text" (defArgs (top 6)) (defBody (top 6)) (defScope (top 6)) [] [] f fd) (g_isinstance : mg "isinstance" = none) (g_str : mg "str" = none) (x_NoText : ExcK K mg (cl 1) "NoText") :
    FnOk P w K mg base (L2.CX P w) 1 f fd ["text"] (spF ⟨P, w, K, cl⟩ 1 F_looked_text) :=
  fn_rule Fd sc_looked_text fun cdv A outer s H E hr => by
  unfold A_looked_text
  exact (dss_cons (ds_if (dt_not (dt_truth (de_isi (dv 0) (by exact rfl) g_isinstance "str" (by exact rfl) g_str)))
  (dss_one (ds_raise 1 x_NoText rfl takesF rfl))
  dss_nil)
  (dss_one (ds_ret (dv 0))))
noncomputable def L_read_number_1 : E :=
  (eOp2 inD (eVar 2) (eC (.str "0123456789")))
noncomputable def A_read_number : Stm :=
  (sSeq (sSet 1 (eApp F_looked_text (aCons (eVar 0) aNil)))
  (sSeq (sIf (tTruth (eMt "str" startsD (eVar 0) (aCons (eC (.str "-")) aNil)))
  (sSet 1 (eSlx (eVar 0) (pAt (eC (.int 1))) pNo))
  sNil)
  (sSeq (sIf (tOrD (tNotD (tVal (eChain leD leD (eC (.int 1)) (eApp lenD (aCons (eVar 1) aNil)) (eC (.int 60))))) (tNotD (tTruth (eApp allD (aCons (eLc (iStrD (eVar 1)) (gNm 2) tTrue L_read_number_1 [2]) aNil)))))
  (sRaise 1)
  sNil)
  (sSeq (sIf (tAndD (tVal (eOp2 eqvD (eOp2 ixD (eVar 1) (eC (.int 0))) (eC (.str "0")))) (tVal (eOp2 nevD (eVar 0) (eC (.str "0")))))
  (sRaise 1)
  sNil)
  (sRet (eApp intSD (aCons (eVar 0) aNil)))))))
noncomputable def F_read_number : List D → Sto → Res D := runF 1 3 .fr A_read_number
theorem sc_read_number : FnScope ["text", "figures", "sign"] ["text"] (defScope (top 7)) := ⟨rfl, rfl, rfl, by decide +kernel, rfl, by decide +kernel, by decide +kernel⟩
theorem ok_read_number {f : Addr} {fd : FuncData} (Fd : FunD K "read_number" "read_number" (defArgs (top 7)) (defBody (top 7)) (defScope (top 7)) [] [] f fd) (c_looked_text : Cal P w K mg base cl 1 "looked_text" F_looked_text) (g_len : mg "len" = none) (v_MOST_FIGURES : ∃ t, mg "MOST_FIGURES" = some (.int 60 t)) (v_FIGURES : ∃ t, mg "FIGURES" = some (.str "0123456789" t)) (g_all : mg "all" = none) (x_NoText : ExcK K mg (cl 1) "NoText") (g_int : mg "int" = none) :
    FnOk P w K mg base (L2.CX P w) 2 f fd ["text"] (spF ⟨P, w, K, cl⟩ 1 F_read_number) :=
  fn_rule Fd sc_read_number fun cdv A outer s H E hr => by
  unfold A_read_number L_read_number_1
  exact (dss_cons (ds_set (i := 1) (de_call (c_looked_text.up (by decide)) hr takesF rfl (da_cons (dv 0) da_nil)) sc_read_number.nd)
  (dss_cons (ds_if (dt_truth (de_mt PySem.F.plainAttrs_str PySem.F.slot_str_startswith PySem.F.type_str_startswith md_starts (by decide) (dv 0) (da_cons de_str da_nil)))
  (dss_one (ds_set (i := 1) (de_slx (dv 0) (dp_at de_int) dp_no) sc_read_number.nd))
  dss_nil)
  (dss_cons (ds_if (dt_w (dw_or (dt_not (dt_chain od_le od_le (calm_ord _) de_int (de_callB cd_len rfl g_len rfl (da_cons (dv 1) da_nil)) (de_gint v_MOST_FIGURES rfl))) (dw_or1 (dt_not (dt_truth (de_callB (cd_all rfl) rfl g_all rfl (da_cons (de_lc .fr (ix := [2]) (own := [("sign", 2)]) rfl sc_read_number.nd  (di_str (dv 1)) (blkOk_by (by kernel_rfl)) (by decide) (fun _ _ _ _ _ => (dg_name (i := 2) sc_read_number.nd)) (fun _ _ _ _ _ => dts_nil) (fun _ _ _ _ _ => (de_cmp (od_in hr.units) (dv 2) (de_gstr v_FIGURES rfl)))) da_nil)))))))
  (dss_one (ds_raise 1 x_NoText rfl takesF rfl))
  dss_nil)
  (dss_cons (ds_if (dt_w (dw_and (dt_cmp (od_eq hr.units) (de_ix (dv 1) de_int) de_str) (dw_and1 (dt_cmp (od_ne hr.units) (dv 0) de_str))))
  (dss_one (ds_raise 1 x_NoText rfl takesF rfl))
  dss_nil)
  (dss_one (ds_ret (de_callTy cd_intS rfl g_int rfl (da_cons (dv 0) da_nil))))))))
noncomputable def A_read_coin : Stm :=
  (sSeq (sSet 1 (eMt "str" splitD (eApp F_looked_text (aCons (eVar 0) aNil)) (aCons (eC (.str ".")) aNil)))
  (sSeq (sIf (tOrD (tVal (eOp2 nevD (eApp lenD (aCons (eVar 1) aNil)) (eC (.int 2)))) (tVal (eOp2 inD (eC (.str "-")) (eVar 0))))
  (sRaise 1)
  sNil)
  (sRet (eTup (aCons (eApp F_read_number (aCons (eOp2 ixD (eVar 1) (eC (.int 0))) aNil)) (aCons (eApp F_read_number (aCons (eOp2 ixD (eVar 1) (eC (.int 1))) aNil)) aNil))))))
noncomputable def F_read_coin : List D → Sto → Res D := runF 1 2 .fr A_read_coin
theorem sc_read_coin : FnScope ["text", "parts"] ["text"] (defScope (top 8)) := ⟨rfl, rfl, rfl, by decide +kernel, rfl, by decide +kernel, by decide +kernel⟩
theorem ok_read_coin {f : Addr} {fd : FuncData} (Fd : FunD K "read_coin" "read_coin" (defArgs (top 8)) (defBody (top 8)) (defScope (top 8)) [] [] f fd) (c_looked_text : Cal P w K mg base cl 1 "looked_text" F_looked_text) (g_len : mg "len" = none) (x_NoText : ExcK K mg (cl 1) "NoText") (c_read_number : Cal P w K mg base cl 2 "read_number" F_read_number) :
    FnOk P w K mg base (L2.CX P w) 3 f fd ["text"] (spF ⟨P, w, K, cl⟩ 1 F_read_coin) :=
  fn_rule Fd sc_read_coin fun cdv A outer s H E hr => by
  unfold A_read_coin
  exact (dss_cons (ds_set (i := 1) (de_mt PySem.F.plainAttrs_str PySem.F.slot_str_split PySem.F.type_str_split md_split (by decide) (de_call (c_looked_text.up (by decide)) hr takesF rfl (da_cons (dv 0) da_nil)) (da_cons de_str da_nil)) sc_read_coin.nd)
  (dss_cons (ds_if (dt_w (dw_or (dt_cmp (od_ne hr.units) (de_callB cd_len rfl g_len rfl (da_cons (dv 1) da_nil)) de_int) (dw_or1 (dt_cmp (od_in hr.units) de_str (dv 0)))))
  (dss_one (ds_raise 1 x_NoText rfl takesF rfl))
  dss_nil)
  (dss_one (ds_ret (de_tup (da_cons (de_call (c_read_number.up (by decide)) hr takesF rfl (da_cons (de_ix (dv 1) de_int) da_nil)) (da_cons (de_call (c_read_number.up (by decide)) hr takesF rfl (da_cons (de_ix (dv 1) de_int) da_nil)) da_nil)))))))
noncomputable def A__law_bad_number : Stm :=
  (sSeq (sSet 2 (eOp2 addD (eC (.int 1)) (eOp2 modD (eOp2 fdivD (eVar 1) (eC (.int 16))) (eApp lenD (aCons (eVar 0) aNil)))))
  (sSeq (sSet 3 (eLst (aCons (eOp2 addD (eC (.str "0")) (eVar 0)) (aCons (eOp2 addD (eC (.str "+")) (eVar 0)) (aCons (eC (.str "-0")) (aCons (eC (.str "")) (aCons (eC (.str "-")) (aCons (eOp2 addD (eC (.str " ")) (eVar 0)) (aCons (eOp2 addD (eVar 0) (eC (.str " "))) (aCons (eOp2 addD (eOp2 addD (eSlx (eVar 0) pNo (pAt (eVar 2))) (eC (.str "."))) (eSlx (eVar 0) (pAt (eVar 2)) pNo)) (aCons (eOp2 addD (eC (.str "--")) (eVar 0)) aNil)))))))))))
  (sSeq (sSet 3 (eOp2 addD (eVar 3) (eLst (aCons (eOp2 addD (eOp2 addD (eSlx (eVar 0) pNo (pAt (eVar 2))) (eC (.str "a"))) (eSlx (eVar 0) (pAt (eVar 2)) pNo)) (aCons (eOp2 addD (eSlx (eVar 0) pNo (pAt (eVar 2))) (eC (.str "-"))) (aCons (eOp2 smulD (eC (.str "9")) (eC (.int 61))) (aCons (eOp2 addD (eC (.str "-")) (eOp2 smulD (eC (.str "1")) (eC (.int 61)))) (aCons (eOp2 addD (eVar 0) (eC (.str "\n"))) (aCons (eC (.str "00")) aNil)))))))))
  (sRet (eOp2 ixD (eOp2 addD (eVar 3) (eLst (aCons (eOp2 addD (eOp2 addD (eSlx (eVar 0) pNo (pAt (eVar 2))) (eC (.str "_"))) (eSlx (eVar 0) (pAt (eVar 2)) pNo)) aNil))) (eOp2 modD (eVar 1) (eC (.int 16))))))))
noncomputable def F__law_bad_number : List D → Sto → Res D := runF 2 4 .fr A__law_bad_number
theorem sc__law_bad_number : FnScope ["text", "number", "at", "some"] ["text", "number"] (defScope (top 12)) := ⟨rfl, rfl, rfl, by decide +kernel, rfl, by decide +kernel, by decide +kernel⟩
theorem ok__law_bad_number {f : Addr} {fd : FuncData} (Fd : FunD K "_law_bad_number" "_law_bad_number" (defArgs (top 12)) (defBody (top 12)) (defScope (top 12)) [] [] f fd) (g_len : mg "len" = none) :
    FnOk P w K mg base (L2.CX P w) 1 f fd ["text", "number"] (spF ⟨P, w, K, cl⟩ 2 F__law_bad_number) :=
  fn_rule Fd sc__law_bad_number fun cdv A outer s H E hr => by
  unfold A__law_bad_number
  exact (dss_cons (ds_set (i := 2) (de_bin od_add de_int (de_bin od_mod (de_bin od_fdiv (dv 1) de_int) (de_callB cd_len rfl g_len rfl (da_cons (dv 0) da_nil)))) sc__law_bad_number.nd)
  (dss_cons (ds_set (i := 3) (de_lst (da_cons (de_bin od_add de_str (dv 0)) (da_cons (de_bin od_add de_str (dv 0)) (da_cons de_str (da_cons de_str (da_cons de_str (da_cons (de_bin od_add de_str (dv 0)) (da_cons (de_bin od_add (dv 0) de_str) (da_cons (de_bin od_add (de_bin od_add (de_slx (dv 0) dp_no (dp_at (dv 2))) de_str) (de_slx (dv 0) (dp_at (dv 2)) dp_no)) (da_cons (de_bin od_add de_str (dv 0)) da_nil)))))))))) sc__law_bad_number.nd)
  (dss_cons (ds_set (i := 3) (de_bin od_add (dv 3) (de_lst (da_cons (de_bin od_add (de_bin od_add (de_slx (dv 0) dp_no (dp_at (dv 2))) de_str) (de_slx (dv 0) (dp_at (dv 2)) dp_no)) (da_cons (de_bin od_add (de_slx (dv 0) dp_no (dp_at (dv 2))) de_str) (da_cons (de_bin od_smul de_str de_int) (da_cons (de_bin od_add de_str (de_bin od_smul de_str de_int)) (da_cons (de_bin od_add (dv 0) de_str) (da_cons de_str da_nil)))))))) sc__law_bad_number.nd)
  (dss_one (ds_ret (de_ix (de_bin od_add (dv 3) (de_lst (da_cons (de_bin od_add (de_bin od_add (de_slx (dv 0) dp_no (dp_at (dv 2))) de_str) (de_slx (dv 0) (dp_at (dv 2)) dp_no)) da_nil))) (de_bin od_mod (dv 1) de_int)))))))
noncomputable def A__law_refused : Stm :=
  (sSeq (sSet 2 (eC .non))
  (sSeq (sTryV (tabB [(1, true)]) 3
  (sIf (tTruth (eVar 1))
  (sExpr (eApp F_read_coin (aCons (eVar 0) aNil)))
  (sExpr (eApp F_read_number (aCons (eVar 0) aNil))))
  (sSet 2 (eVar 3)))
  (sRet (eAnd (eOp1 (isxD [("NoneType", false)] [(1, true)]) (eVar 2)) (eOp1 (isxD [("NoneType", false)] [(1, true)]) (eVar 2))))))
noncomputable def F__law_refused : List D → Sto → Res D := runF 2 4 .fr A__law_refused
theorem sc__law_refused : FnScope ["thing", "coin", "caught", "e"] ["thing", "coin"] (defScope (top 11)) := ⟨rfl, rfl, rfl, by decide +kernel, rfl, by decide +kernel, by decide +kernel⟩
theorem ok__law_refused {f : Addr} {fd : FuncData} (Fd : FunD K "_law_refused" "_law_refused" (defArgs (top 11)) (defBody (top 11)) (defScope (top 11)) [] [] f fd) (x_CoinError : ExcK K mg (cl 0) "CoinError") (e_NoText_CoinError : PySem.W.exmOne K (.ref (cl 1)) (.ref (cl 0)) = some true) (c_read_coin : Cal P w K mg base cl 3 "read_coin" F_read_coin) (c_read_number : Cal P w K mg base cl 2 "read_number" F_read_number) (g_isinstance : mg "isinstance" = none) (kz_NoneType_NoText : PySem.W.kitOne K (.type "NoneType") (.ref (cl 1)) = some false) (ec_NoText : ExcC K (cl 1)) (x_NoText : ExcK K mg (cl 1) "NoText") (ki_NoText_NoText : PySem.W.kitOne K (.ref (cl 1)) (.ref (cl 1)) = some true) (kz_NoneType_ValueError : PySem.W.kitOne K (.type "NoneType") (.type "ValueError") = some false) (ky_NoText_ValueError : PySem.W.kitOne K (.ref (cl 1)) (.type "ValueError") = some true) (g_ValueError : mg "ValueError" = none) :
    FnOk P w K mg base (L2.CX P w) 4 f fd ["thing", "coin"] (spF ⟨P, w, K, cl⟩ 2 F__law_refused) :=
  fn_rule Fd sc__law_refused fun cdv A outer s H E hr => by
  unfold A__law_refused
  exact (dss_cons (ds_set (i := 2) de_non sc__law_refused.nd)
  (dss_cons (ds_tryV (i := 3) (c := .ref (cl 0)) (tabB [(1, true)]) (tab_cons e_NoText_CoinError tab_nil) rfl rfl rfl sc__law_refused.nd rfl rfl ⟨rfl, by decide, .inl x_CoinError.g⟩ takesF (fun W1 pn xe tkT hpT => (dss_one (ds_if (dt_truth (dv 1))
  (dss_one (ds_expr (de_call (c_read_coin.up (by decide)) hr tkT rfl (da_cons (dv 0) da_nil))))
  (dss_one (ds_expr (de_call (c_read_number.up (by decide)) hr tkT rfl (da_cons (dv 0) da_nil)))))))
  (fun a pn => (dss_one (ds_set (i := 2) (dv 3) sc__law_refused.nd))))
  (dss_one (ds_ret (de_and (de_isxO (dv 2) (by exact rfl) g_isinstance (look_cons kz_NoneType_NoText look_nil) (look_cons ⟨ec_NoText, ki_NoText_NoText⟩ look_nil) (by exact rfl) x_NoText.g) (de_one (de_isxT (dv 2) (by exact rfl) g_isinstance (look_cons kz_NoneType_ValueError look_nil) (look_cons ⟨ec_NoText, ky_NoText_ValueError⟩ look_nil) (by exact rfl) g_ValueError)))))))
noncomputable def A__law_whole : Stm :=
  (sRet (eAnd (eOp1 (isiD "int") (eVar 0)) (eNot (eOp1 (isiD "bool") (eVar 0)))))
noncomputable def F__law_whole : List D → Sto → Res D := runF 1 1 .fr A__law_whole
theorem sc__law_whole : FnScope ["thing"] ["thing"] (defScope (top 14)) := ⟨rfl, rfl, rfl, by decide +kernel, rfl, by decide +kernel, by decide +kernel⟩
theorem ok__law_whole {f : Addr} {fd : FuncData} (Fd : FunD K "_law_whole" "_law_whole" (defArgs (top 14)) (defBody (top 14)) (defScope (top 14)) [] [] f fd) (g_isinstance : mg "isinstance" = none) (g_int : mg "int" = none) (g_bool : mg "bool" = none) :
    FnOk P w K mg base (L2.CX P w) 1 f fd ["thing"] (spF ⟨P, w, K, cl⟩ 1 F__law_whole) :=
  fn_rule Fd sc__law_whole fun cdv A outer s H E hr => by
  unfold A__law_whole
  exact (dss_one (ds_ret (de_and (de_isi (dv 0) (by exact rfl) g_isinstance "int" (by exact rfl) g_int) (de_one (de_not (de_isi (dv 0) (by exact rfl) g_isinstance "bool" (by exact rfl) g_bool))))))
noncomputable def A__law_bad_coin : Stm :=
  (sSeq (sSet 3 (eLst (aCons (eVar 0) (aCons (eOp2 addD (eOp2 addD (eOp2 addD (eVar 0) (eC (.str "."))) (eVar 1)) (eC (.str ".1"))) (aCons (eOp2 addD (eOp2 addD (eOp2 addD (eC (.str "-")) (eVar 0)) (eC (.str "."))) (eVar 1)) (aCons (eOp2 addD (eOp2 addD (eVar 0) (eC (.str ".-"))) (eVar 1)) (aCons (eOp2 addD (eC (.str ".")) (eVar 1)) (aCons (eOp2 addD (eVar 0) (eC (.str "."))) aNil))))))))
  (sSeq (sSet 3 (eOp2 addD (eVar 3) (eLst (aCons (eOp2 addD (eOp2 addD (eVar 0) (eC (.str ","))) (eVar 1)) (aCons (eOp2 addD (eOp2 addD (eVar 0) (eC (.str ". "))) (eVar 1)) (aCons (eOp2 addD (eOp2 addD (eOp2 addD (eC (.str "0")) (eVar 0)) (eC (.str "."))) (eVar 1)) (aCons (eOp2 addD (eOp2 addD (eVar 0) (eC (.str ".0"))) (eVar 1)) (aCons (eOp2 addD (eVar 0) (eC (.str ".x"))) (aCons (eC (.str ".")) aNil)))))))))
  (sRet (eOp2 ixD (eOp2 addD (eVar 3) (eLst (aCons (eC (.str "")) (aCons (eOp2 addD (eOp2 addD (eVar 0) (eC (.str "."))) (eOp2 smulD (eC (.str "1")) (eC (.int 61)))) aNil)))) (eOp2 modD (eVar 2) (eC (.int 14)))))))
noncomputable def F__law_bad_coin : List D → Sto → Res D := runF 3 4 .fr A__law_bad_coin
theorem sc__law_bad_coin : FnScope ["one", "other", "number", "some"] ["one", "other", "number"] (defScope (top 13)) := ⟨rfl, rfl, rfl, by decide +kernel, rfl, by decide +kernel, by decide +kernel⟩
theorem ok__law_bad_coin {f : Addr} {fd : FuncData} (Fd : FunD K "_law_bad_coin" "_law_bad_coin" (defArgs (top 13)) (defBody (top 13)) (defScope (top 13)) [] [] f fd)  :
    FnOk P w K mg base (L2.CX P w) 1 f fd ["one", "other", "number"] (spF ⟨P, w, K, cl⟩ 3 F__law_bad_coin) :=
  fn_rule Fd sc__law_bad_coin fun cdv A outer s H E hr => by
  unfold A__law_bad_coin
  exact (dss_cons (ds_set (i := 3) (de_lst (da_cons (dv 0) (da_cons (de_bin od_add (de_bin od_add (de_bin od_add (dv 0) de_str) (dv 1)) de_str) (da_cons (de_bin od_add (de_bin od_add (de_bin od_add de_str (dv 0)) de_str) (dv 1)) (da_cons (de_bin od_add (de_bin od_add (dv 0) de_str) (dv 1)) (da_cons (de_bin od_add de_str (dv 1)) (da_cons (de_bin od_add (dv 0) de_str) da_nil))))))) sc__law_bad_coin.nd)
  (dss_cons (ds_set (i := 3) (de_bin od_add (dv 3) (de_lst (da_cons (de_bin od_add (de_bin od_add (dv 0) de_str) (dv 1)) (da_cons (de_bin od_add (de_bin od_add (dv 0) de_str) (dv 1)) (da_cons (de_bin od_add (de_bin od_add (de_bin od_add de_str (dv 0)) de_str) (dv 1)) (da_cons (de_bin od_add (de_bin od_add (dv 0) de_str) (dv 1)) (da_cons (de_bin od_add (dv 0) de_str) (da_cons de_str da_nil)))))))) sc__law_bad_coin.nd)
  (dss_one (ds_ret (de_ix (de_bin od_add (dv 3) (de_lst (da_cons de_str (da_cons (de_bin od_add (de_bin od_add (dv 0) de_str) (de_bin od_smul de_str de_int)) da_nil)))) (de_bin od_mod (dv 2) de_int))))))
noncomputable def L_law_2 : E :=
  (eApp F__law_whole (aCons (eVar 9) aNil))
noncomputable def L_law_1 : Stm :=
  (sSeq (sSet 2 (eApp F__law_mixed (aCons (eVar 1) aNil)))
  (sSeq (sSet 3 (eOp2 ixD (eLst (aCons (eOp2 powD (eC (.int 10)) (eC (.int 60))) (aCons (eOp2 powD (eC (.int 10)) (eC (.int 60))) (aCons (eC (.int 1000)) (aCons (eOp2 powD (eC (.int 10)) (eC (.int 30))) aNil))))) (eOp2 modD (eVar 2) (eC (.int 4)))))
  (sSeq (sSet 4 (eOp2 mulD (eOp2 modD (eVar 1) (eVar 3)) (eOp2 subD (eC (.int 1)) (eOp2 mulD (eC (.int 2)) (eOp2 modD (eOp2 fdivD (eVar 2) (eC (.int 4))) (eC (.int 2)))))))
  (sSeq (sSet 5 (eApp F_read_number (aCons (eApp strD (aCons (eVar 4) aNil)) aNil)))
  (sSeq (sIf (tOrD (tNotD (tTruth (eApp F__law_whole (aCons (eVar 5) aNil)))) (tVal (eOp2 nevD (eVar 5) (eVar 4))))
  (sRet (eC (.bl false)))
  sNil)
  (sSeq (sSet 6 (eTup (aCons (eOp2 modD (eVar 1) (eVar 3)) (aCons (eOp2 modD (eOp2 fdivD (eVar 1) (eVar 3)) (eOp2 powD (eC (.int 10)) (eC (.int 30)))) aNil))))
  (sSeq (sSet 5 (eApp F_read_coin (aCons (eOp2 addD (eOp2 addD (eApp strD (aCons (eOp2 ixD (eVar 6) (eC (.int 0))) aNil)) (eC (.str "."))) (eApp strD (aCons (eOp2 ixD (eVar 6) (eC (.int 1))) aNil))) aNil)))
  (sSeq (sIf (tOrD (tNotD (tTruth (eOp1 (isiD "tuple") (eVar 5)))) (tOrD (tVal (eOp2 nevD (eVar 5) (eVar 6))) (tNotD (tTruth (eApp allD (aCons (eLc (iSeq (eVar 5)) (gNm 9) tTrue L_law_2 [9]) aNil))))))
  (sRet (eC (.bl false)))
  sNil)
  (sSeq (sSet 7 (eApp F__law_bad_number (aCons (eApp strD (aCons (eApp absD (aCons (eVar 4) aNil)) aNil)) (aCons (eOp2 fdivD (eVar 2) (eC (.int 8))) aNil))))
  (sSeq (sIf (tNotD (tTruth (eApp F__law_refused (aCons (eVar 7) (aCons (eC (.bl false)) aNil)))))
  (sRet (eC (.bl false)))
  sNil)
  (sSeq (sIf (tNotD (tTruth (eApp F__law_refused (aCons (eApp F__law_bad_coin (aCons (eApp strD (aCons (eOp2 ixD (eVar 6) (eC (.int 0))) aNil)) (aCons (eApp strD (aCons (eOp2 ixD (eVar 6) (eC (.int 1))) aNil)) (aCons (eOp2 fdivD (eVar 2) (eC (.int 128))) aNil)))) (aCons (eC (.bl true)) aNil)))))
  (sRet (eC (.bl false)))
  sNil)
  (sSeq (sSet 8 (eOp2 ixD (eLst (aCons (eC .non) (aCons (eVar 4) (aCons (eLst (aCons (eApp strD (aCons (eVar 4) aNil)) aNil)) (aCons (eTup (aCons (eC (.str "1")) aNil)) (aCons (eOp2 eqvD (eVar 2) (eC (.int 0))) (aCons (eC (.dic false [])) aNil))))))) (eOp2 modD (eOp2 fdivD (eVar 2) (eC (.int 2000))) (eC (.int 6)))))
  (sIf (tOrD (tNotD (tTruth (eApp F__law_refused (aCons (eVar 8) (aCons (eC (.bl false)) aNil))))) (tNotD (tTruth (eApp F__law_refused (aCons (eVar 8) (aCons (eC (.bl true)) aNil))))))
  (sRet (eC (.bl false)))
  sNil)))))))))))))
noncomputable def A_law : Stm :=
  (sSeq (sFor (iSeq (eOp2 addD (eLst (aCons (eC (.int 0)) aNil)) (eSl (eVar 0) pNo (pAt (eC (.int 40)))))) (gNm 1)
  L_law_1)
  (sRet (eC (.bl true))))
noncomputable def F_law : List D → Sto → Res D := runF 1 10 .fr A_law
theorem sc_law : FnScope ["script", "cell", "number", "wide", "given", "found", "pair", "bad", "odd", "one"] ["script"] (defScope (top 15)) := ⟨rfl, rfl, rfl, by decide +kernel, rfl, by decide +kernel, by decide +kernel⟩
theorem ok_law {f : Addr} {fd : FuncData} (Fd : FunD K "law" "law" (defArgs (top 15)) (defBody (top 15)) (defScope (top 15)) [] [] f fd) (c__law_mixed : Cal P w K mg base cl 1 "_law_mixed" F__law_mixed) (g_str : mg "str" = none) (c_read_number : Cal P w K mg base cl 2 "read_number" F_read_number) (c__law_whole : Cal P w K mg base cl 1 "_law_whole" F__law_whole) (c_read_coin : Cal P w K mg base cl 3 "read_coin" F_read_coin) (g_isinstance : mg "isinstance" = none) (g_tuple : mg "tuple" = none) (g_all : mg "all" = none) (g_abs : mg "abs" = none) (c__law_bad_number : Cal P w K mg base cl 1 "_law_bad_number" F__law_bad_number) (c__law_refused : Cal P w K mg base cl 4 "_law_refused" F__law_refused) (c__law_bad_coin : Cal P w K mg base cl 1 "_law_bad_coin" F__law_bad_coin) :
    FnOk P w K mg base (L2.CX P w) 5 f fd ["script"] (spF ⟨P, w, K, cl⟩ 1 F_law) :=
  fn_rule Fd sc_law fun cdv A outer s H E hr => by
  unfold A_law L_law_1 L_law_2
  exact (dss_cons (ds_for ownsF rfl (di_seq (de_bin od_add (de_lst (da_cons de_int da_nil)) (de_sl (dv 0) dp_no (dp_at de_int)))) (dg_name (i := 1) sc_law.nd)
  (dss_cons (ds_set (i := 2) (de_call (c__law_mixed.up (by decide)) hr takesF rfl (da_cons (dv 1) da_nil)) sc_law.nd)
  (dss_cons (ds_set (i := 3) (de_ix (de_lst (da_cons (de_bin od_pow de_int de_int) (da_cons (de_bin od_pow de_int de_int) (da_cons de_int (da_cons (de_bin od_pow de_int de_int) da_nil))))) (de_bin od_mod (dv 2) de_int)) sc_law.nd)
  (dss_cons (ds_set (i := 4) (de_bin od_mul (de_bin od_mod (dv 1) (dv 3)) (de_bin od_sub de_int (de_bin od_mul de_int (de_bin od_mod (de_bin od_fdiv (dv 2) de_int) de_int)))) sc_law.nd)
  (dss_cons (ds_set (i := 5) (de_call (c_read_number.up (by decide)) hr takesF rfl (da_cons (de_callTy cd_str rfl g_str rfl (da_cons (dv 4) da_nil)) da_nil)) sc_law.nd)
  (dss_cons (ds_if (dt_w (dw_or (dt_not (dt_truth (de_call (c__law_whole.up (by decide)) hr takesF rfl (da_cons (dv 5) da_nil)))) (dw_or1 (dt_cmp (od_ne hr.units) (dv 5) (dv 4)))))
  (dss_one (ds_ret de_bl))
  dss_nil)
  (dss_cons (ds_set (i := 6) (de_tup (da_cons (de_bin od_mod (dv 1) (dv 3)) (da_cons (de_bin od_mod (de_bin od_fdiv (dv 1) (dv 3)) (de_bin od_pow de_int de_int)) da_nil))) sc_law.nd)
  (dss_cons (ds_set (i := 5) (de_call (c_read_coin.up (by decide)) hr takesF rfl (da_cons (de_bin od_add (de_bin od_add (de_callTy cd_str rfl g_str rfl (da_cons (de_ix (dv 6) de_int) da_nil)) de_str) (de_callTy cd_str rfl g_str rfl (da_cons (de_ix (dv 6) de_int) da_nil))) da_nil)) sc_law.nd)
  (dss_cons (ds_if (dt_w (dw_or (dt_not (dt_truth (de_isi (dv 5) (by exact rfl) g_isinstance "tuple" (by exact rfl) g_tuple))) (dw_or (dt_cmp (od_ne hr.units) (dv 5) (dv 6)) (dw_or1 (dt_not (dt_truth (de_callB (cd_all rfl) rfl g_all rfl (da_cons (de_lc .fr (ix := [9]) (own := [("one", 9)]) rfl sc_law.nd  (di_seq (dv 5)) (blkOk_by (by kernel_rfl)) (by decide) (fun _ _ _ _ _ => (dg_name (i := 9) sc_law.nd)) (fun _ _ _ _ _ => dts_nil) (fun _ _ _ _ _ => (de_call (c__law_whole.up (by decide)) hr tkNo rfl (da_cons (dv 9) da_nil)))) da_nil))))))))
  (dss_one (ds_ret de_bl))
  dss_nil)
  (dss_cons (ds_set (i := 7) (de_call (c__law_bad_number.up (by decide)) hr takesF rfl (da_cons (de_callTy cd_str rfl g_str rfl (da_cons (de_callB cd_abs rfl g_abs rfl (da_cons (dv 4) da_nil)) da_nil)) (da_cons (de_bin od_fdiv (dv 2) de_int) da_nil))) sc_law.nd)
  (dss_cons (ds_if (dt_not (dt_truth (de_call (c__law_refused.up (by decide)) hr takesF rfl (da_cons (dv 7) (da_cons de_bl da_nil)))))
  (dss_one (ds_ret de_bl))
  dss_nil)
  (dss_cons (ds_if (dt_not (dt_truth (de_call (c__law_refused.up (by decide)) hr takesF rfl (da_cons (de_call (c__law_bad_coin.up (by decide)) hr takesF rfl (da_cons (de_callTy cd_str rfl g_str rfl (da_cons (de_ix (dv 6) de_int) da_nil)) (da_cons (de_callTy cd_str rfl g_str rfl (da_cons (de_ix (dv 6) de_int) da_nil)) (da_cons (de_bin od_fdiv (dv 2) de_int) da_nil)))) (da_cons de_bl da_nil)))))
  (dss_one (ds_ret de_bl))
  dss_nil)
  (dss_cons (ds_set (i := 8) (de_ix (de_lst (da_cons de_non (da_cons (dv 4) (da_cons (de_lst (da_cons (de_callTy cd_str rfl g_str rfl (da_cons (dv 4) da_nil)) da_nil)) (da_cons (de_tup (da_cons de_str da_nil)) (da_cons (de_cmp (od_eq hr.units) (dv 2) de_int) (da_cons de_dic0 da_nil))))))) (de_bin od_mod (de_bin od_fdiv (dv 2) de_int) de_int)) sc_law.nd)
  (dss_one (ds_if (dt_w (dw_or (dt_not (dt_truth (de_call (c__law_refused.up (by decide)) hr takesF rfl (da_cons (dv 8) (da_cons de_bl da_nil))))) (dw_or1 (dt_not (dt_truth (de_call (c__law_refused.up (by decide)) hr takesF rfl (da_cons (dv 8) (da_cons de_bl da_nil))))))))
  (dss_one (ds_ret de_bl))
  dss_nil)))))))))))))))
  (dss_one (ds_ret de_bl)))
end
end LW

namespace LW
open PySem PySem.Spec PyProof.Rows L2 DL VL
noncomputable def V__law_mixed : VS :=
  (vsRet (vOp2 modD (oV (vOp2 mulD (oV (vOp2 mulD (oV (vOp2 addD (oV (vOp2 modD (oV (vVal 0)) (oV (vC (.int 2147483647))))) (oV (vC (.int 11))))) (oV (vC (.int 48271))))) (oV (vC (.int 69621))))) (oV (vC (.int 2147483629)))))
noncomputable def VF__law_mixed : List Sl → FR := vFun .fr [false] 1 V__law_mixed
theorem sv__law_mixed : SF (ioF [false]) F__law_mixed VF__law_mixed := sf_of (ios := [false]) .fr (by
  unfold A__law_mixed V__law_mixed
  exact (ss_ret (sc_op2 pr_mod (SC.so (sc_op2c pc_mul (sc_op2c pc_mul (sc_op2 pr_add (SC.so (sc_op2 pr_mod (SC.so (sc_val 0)) (SC.so sc_c))) (SC.so sc_c)) sc_c) sc_c)) (SC.so sc_c))))
noncomputable def V_looked_text : VS :=
  (vsSeq (vsIf (vtNot (vTr (oV (vOp1 (isiD "str") (oV (vVal 0))))))
  (vsRaise 1)
  vsNil)
  (vsRet (vVal 0)))
noncomputable def VF_looked_text : List Sl → FR := vFun .fr [false] 1 V_looked_text
theorem sv_looked_text : SF (ioF [false]) F_looked_text VF_looked_text := sf_of (ios := [false]) .fr (by
  unfold A_looked_text V_looked_text
  exact (ss_seq (ss_if (st_not (st_truth (SC.so (sc_op1 (pr_isi "str") (SC.so (sc_val 0))))))
  (ss_raise 1)
  ss_nil)
  (ss_ret (sc_val 0))))
noncomputable def VL_read_number_1 : VE :=
  (vOp2 inD (oV (vVal 2)) (oV (vC (.str "0123456789"))))
noncomputable def V_read_number : VS :=
  (vsSeq (vsSet 1 (vVa (vCall VF_looked_text [.v (vVal 0)])))
  (vsSeq (vsIf (vTr (oV (vMt1 "str" startsD (oV (vVal 0)) (oV (vC (.str "-"))))))
  (vsSet 1 (vSlx (oV (vVal 0)) (vpAt (vC (.int 1))) vpNo))
  vsNil)
  (vsSeq (vsIf (vtOr (vtNot (vtVal (vChain leD leD (oV (vC (.int 1))) (oV (vApp lenD [(oV (vVal 1))])) (oV (vC (.int 60)))))) (vtNot (vTr (oV (vApp allD [(oV (vLc (vcI (viStr (vVal 1))) (vgNm 2) vtTrue VL_read_number_1 [2]))])))))
  (vsRaise 1)
  vsNil)
  (vsSeq (vsIf (vtAnd (vtVal (vOp2 eqvD (oV (vOp2 ixD (oV (vVal 1)) (oV (vC (.int 0))))) (oV (vC (.str "0"))))) (vtVal (vOp2 nevD (oV (vVal 0)) (oV (vC (.str "0"))))))
  (vsRaise 1)
  vsNil)
  (vsRet (vApp intSD [(oV (vVal 0))]))))))
noncomputable def VF_read_number : List Sl → FR := vFun .fr [false] 3 V_read_number
theorem sv_read_number : SF (ioF [false]) F_read_number VF_read_number := sf_of (ios := [false]) .fr (by
  unfold A_read_number V_read_number L_read_number_1 VL_read_number_1
  exact (ss_seq (ss_set 1 (sc_sm (sm_call sv_looked_text (sg_v (sc_val 0) sg_nil))))
  (ss_seq (ss_if (st_truth (SC.so (sc_mt1 pr_starts (SC.so (sc_val 0)) (SC.so sc_c))))
  (ss_set 1 (sc_slx (SC.so (sc_val 0)) (sp_at sc_c) sp_no))
  ss_nil)
  (ss_seq (ss_if (st_or (st_not (st_val (sc_chain (pr_ord _) (pr_ord _) (SC.so sc_c) (SC.so (sc_app pa_len (so_cons (SC.so (sc_val 1)) so_nil))) (SC.so sc_c)))) (st_not (st_truth (SC.so (sc_app pa_all (so_cons (SC.so (sc_lc (sic_i (si_str (sc_val 1))) (sgt_nm 2) st_true (sc_op2 pr_in (SC.so (sc_val 2)) (SC.so sc_c)))) so_nil))))))
  (ss_raise 1)
  ss_nil)
  (ss_seq (ss_if (st_and (st_val (sc_op2 pr_eqv (SC.so (sc_op2 pr_ix (SC.so (sc_val 1)) (SC.so sc_c))) (SC.so sc_c))) (st_val (sc_op2 pr_nev (SC.so (sc_val 0)) (SC.so sc_c))))
  (ss_raise 1)
  ss_nil)
  (ss_ret (sc_app pa_intS (so_cons (SC.so (sc_val 0)) so_nil))))))))
noncomputable def V_read_coin : VS :=
  (vsSeq (vsSet 1 (vMt1 "str" splitD (oV (vVa (vCall VF_looked_text [.v (vVal 0)]))) (oV (vC (.str ".")))))
  (vsSeq (vsIf (vtOr (vtVal (vOp2 nevD (oV (vApp lenD [(oV (vVal 1))])) (oV (vC (.int 2))))) (vtVal (vOp2 inD (oV (vC (.str "-"))) (oV (vVal 0)))))
  (vsRaise 1)
  vsNil)
  (vsRet (vTup (vCons (vVa (vCall VF_read_number [.v (vOp2 ixD (oV (vVal 1)) (oV (vC (.int 0))))])) (vCons (vVa (vCall VF_read_number [.v (vOp2 ixD (oV (vVal 1)) (oV (vC (.int 1))))])) vNil))))))
noncomputable def VF_read_coin : List Sl → FR := vFun .fr [false] 2 V_read_coin
theorem sv_read_coin : SF (ioF [false]) F_read_coin VF_read_coin := sf_of (ios := [false]) .fr (by
  unfold A_read_coin V_read_coin
  exact (ss_seq (ss_set 1 (sc_mt1 pr_split (SC.so (sc_sm (sm_call sv_looked_text (sg_v (sc_val 0) sg_nil)))) (SC.so sc_c)))
  (ss_seq (ss_if (st_or (st_val (sc_op2 pr_nev (SC.so (sc_app pa_len (so_cons (SC.so (sc_val 1)) so_nil))) (SC.so sc_c))) (st_val (sc_op2 pr_in (SC.so sc_c) (SC.so (sc_val 0)))))
  (ss_raise 1)
  ss_nil)
  (ss_ret (sc_tup (sl_cons (sc_sm (sm_call sv_read_number (sg_v (sc_op2 pr_ix (SC.so (sc_val 1)) (SC.so sc_c)) sg_nil))) (sl_cons (sc_sm (sm_call sv_read_number (sg_v (sc_op2 pr_ix (SC.so (sc_val 1)) (SC.so sc_c)) sg_nil))) sl_nil)))))))
noncomputable def V__law_bad_number : VS :=
  (vsSeq (vsSet 2 (vOp2 addD (oV (vC (.int 1))) (oV (vOp2 modD (oV (vOp2 fdivD (oV (vVal 1)) (oV (vC (.int 16))))) (oV (vApp lenD [(oV (vVal 0))]))))))
  (vsSeq (vsSet 3 (vLst (vCons (vOp2 addD (oV (vC (.str "0"))) (oV (vVal 0))) (vCons (vOp2 addD (oV (vC (.str "+"))) (oV (vVal 0))) (vCons (vC (.str "-0")) (vCons (vC (.str "")) (vCons (vC (.str "-")) (vCons (vOp2 addD (oV (vC (.str " "))) (oV (vVal 0))) (vCons (vOp2 addD (oV (vVal 0)) (oV (vC (.str " ")))) (vCons (vOp2 addD (oV (vOp2 addD (oV (vSlx (oV (vVal 0)) vpNo (vpAt (vVal 2)))) (oV (vC (.str "."))))) (oV (vSlx (oV (vVal 0)) (vpAt (vVal 2)) vpNo))) (vCons (vOp2 addD (oV (vC (.str "--"))) (oV (vVal 0))) vNil)))))))))))
  (vsSeq (vsSet 3 (vOp2 addD (oV (vVal 3)) (oV (vLst (vCons (vOp2 addD (oV (vOp2 addD (oV (vSlx (oV (vVal 0)) vpNo (vpAt (vVal 2)))) (oV (vC (.str "a"))))) (oV (vSlx (oV (vVal 0)) (vpAt (vVal 2)) vpNo))) (vCons (vOp2 addD (oV (vSlx (oV (vVal 0)) vpNo (vpAt (vVal 2)))) (oV (vC (.str "-")))) (vCons (vOp2 smulD (oV (vC (.str "9"))) (oV (vC (.int 61)))) (vCons (vOp2 addD (oV (vC (.str "-"))) (oV (vOp2 smulD (oV (vC (.str "1"))) (oV (vC (.int 61)))))) (vCons (vOp2 addD (oV (vVal 0)) (oV (vC (.str "\n")))) (vCons (vC (.str "00")) vNil))))))))))
  (vsRet (vOp2 ixD (oV (vOp2 addD (oV (vVal 3)) (oV (vLst (vCons (vOp2 addD (oV (vOp2 addD (oV (vSlx (oV (vVal 0)) vpNo (vpAt (vVal 2)))) (oV (vC (.str "_"))))) (oV (vSlx (oV (vVal 0)) (vpAt (vVal 2)) vpNo))) vNil))))) (oV (vOp2 modD (oV (vVal 1)) (oV (vC (.int 16))))))))))
noncomputable def VF__law_bad_number : List Sl → FR := vFun .fr [false, false] 4 V__law_bad_number
theorem sv__law_bad_number : SF (ioF [false, false]) F__law_bad_number VF__law_bad_number := sf_of (ios := [false, false]) .fr (by
  unfold A__law_bad_number V__law_bad_number
  exact (ss_seq (ss_set 2 (sc_op2 pr_add (SC.so sc_c) (SC.so (sc_op2 pr_mod (SC.so (sc_op2 pr_fdiv (SC.so (sc_val 1)) (SC.so sc_c))) (SC.so (sc_app pa_len (so_cons (SC.so (sc_val 0)) so_nil)))))))
  (ss_seq (ss_set 3 (sc_lst (sl_cons (sc_op2 pr_add (SC.so sc_c) (SC.so (sc_val 0))) (sl_cons (sc_op2 pr_add (SC.so sc_c) (SC.so (sc_val 0))) (sl_cons sc_c (sl_cons sc_c (sl_cons sc_c (sl_cons (sc_op2 pr_add (SC.so sc_c) (SC.so (sc_val 0))) (sl_cons (sc_op2 pr_add (SC.so (sc_val 0)) (SC.so sc_c)) (sl_cons (sc_op2 pr_add (SC.so (sc_op2 pr_add (SC.so (sc_slx (SC.so (sc_val 0)) sp_no (sp_at (sc_val 2)))) (SC.so sc_c))) (SC.so (sc_slx (SC.so (sc_val 0)) (sp_at (sc_val 2)) sp_no))) (sl_cons (sc_op2 pr_add (SC.so sc_c) (SC.so (sc_val 0))) sl_nil)))))))))))
  (ss_seq (ss_set 3 (sc_op2 pr_add (SC.so (sc_val 3)) (SC.so (sc_lst (sl_cons (sc_op2 pr_add (SC.so (sc_op2 pr_add (SC.so (sc_slx (SC.so (sc_val 0)) sp_no (sp_at (sc_val 2)))) (SC.so sc_c))) (SC.so (sc_slx (SC.so (sc_val 0)) (sp_at (sc_val 2)) sp_no))) (sl_cons (sc_op2 pr_add (SC.so (sc_slx (SC.so (sc_val 0)) sp_no (sp_at (sc_val 2)))) (SC.so sc_c)) (sl_cons (sc_op2 pr_smul (SC.so sc_c) (SC.so sc_c)) (sl_cons (sc_op2 pr_add (SC.so sc_c) (SC.so (sc_op2 pr_smul (SC.so sc_c) (SC.so sc_c)))) (sl_cons (sc_op2 pr_add (SC.so (sc_val 0)) (SC.so sc_c)) (sl_cons sc_c sl_nil))))))))))
  (ss_ret (sc_op2 pr_ix (SC.so (sc_op2 pr_add (SC.so (sc_val 3)) (SC.so (sc_lst (sl_cons (sc_op2 pr_add (SC.so (sc_op2 pr_add (SC.so (sc_slx (SC.so (sc_val 0)) sp_no (sp_at (sc_val 2)))) (SC.so sc_c))) (SC.so (sc_slx (SC.so (sc_val 0)) (sp_at (sc_val 2)) sp_no))) sl_nil))))) (SC.so (sc_op2 pr_mod (SC.so (sc_val 1)) (SC.so sc_c)))))))))
noncomputable def V__law_refused : VS :=
  (vsSeq (vsSet 2 (vC .non))
  (vsSeq (vsTryV (tabB [(1, true)]) 3
  (vsIf (vTr (oV (vVal 1)))
  (vsExpr (vVa (vCall VF_read_coin [.v (vVal 0)])))
  (vsExpr (vVa (vCall VF_read_number [.v (vVal 0)]))))
  (vsSet 2 (vVal 3)))
  (vsRet (vAnd (vOp1 (isxD [("NoneType", false)] [(1, true)]) (oV (vVal 2))) (vOp1 (isxD [("NoneType", false)] [(1, true)]) (oV (vVal 2)))))))
noncomputable def VF__law_refused : List Sl → FR := vFun .fr [false, false] 4 V__law_refused
theorem sv__law_refused : SF (ioF [false, false]) F__law_refused VF__law_refused := sf_of (ios := [false, false]) .fr (by
  unfold A__law_refused V__law_refused
  exact (ss_seq (ss_set 2 sc_c)
  (ss_seq (ss_tryV (tabB [(1, true)]) 3
  (ss_if (st_truth (SC.so (sc_val 1)))
  (ss_expr (sc_sm (sm_call sv_read_coin (sg_v (sc_val 0) sg_nil))))
  (ss_expr (sc_sm (sm_call sv_read_number (sg_v (sc_val 0) sg_nil)))))
  (ss_set 2 (sc_val 3)))
  (ss_ret (sc_and (sc_op1 (pr_isx [("NoneType", false)] [(1, true)]) (SC.so (sc_val 2))) (sc_op1 (pr_isx [("NoneType", false)] [(1, true)]) (SC.so (sc_val 2))))))))
noncomputable def V__law_whole : VS :=
  (vsRet (vAnd (vOp1 (isiD "int") (oV (vVal 0))) (vNot (oV (vOp1 (isiD "bool") (oV (vVal 0)))))))
noncomputable def VF__law_whole : List Sl → FR := vFun .fr [false] 1 V__law_whole
theorem sv__law_whole : SF (ioF [false]) F__law_whole VF__law_whole := sf_of (ios := [false]) .fr (by
  unfold A__law_whole V__law_whole
  exact (ss_ret (sc_and (sc_op1 (pr_isi "int") (SC.so (sc_val 0))) (sc_not (SC.so (sc_op1 (pr_isi "bool") (SC.so (sc_val 0))))))))
noncomputable def V__law_bad_coin : VS :=
  (vsSeq (vsSet 3 (vLst (vCons (vVal 0) (vCons (vOp2 addD (oV (vOp2 addD (oV (vOp2 addD (oV (vVal 0)) (oV (vC (.str "."))))) (oV (vVal 1)))) (oV (vC (.str ".1")))) (vCons (vOp2 addD (oV (vOp2 addD (oV (vOp2 addD (oV (vC (.str "-"))) (oV (vVal 0)))) (oV (vC (.str "."))))) (oV (vVal 1))) (vCons (vOp2 addD (oV (vOp2 addD (oV (vVal 0)) (oV (vC (.str ".-"))))) (oV (vVal 1))) (vCons (vOp2 addD (oV (vC (.str "."))) (oV (vVal 1))) (vCons (vOp2 addD (oV (vVal 0)) (oV (vC (.str ".")))) vNil))))))))
  (vsSeq (vsSet 3 (vOp2 addD (oV (vVal 3)) (oV (vLst (vCons (vOp2 addD (oV (vOp2 addD (oV (vVal 0)) (oV (vC (.str ","))))) (oV (vVal 1))) (vCons (vOp2 addD (oV (vOp2 addD (oV (vVal 0)) (oV (vC (.str ". "))))) (oV (vVal 1))) (vCons (vOp2 addD (oV (vOp2 addD (oV (vOp2 addD (oV (vC (.str "0"))) (oV (vVal 0)))) (oV (vC (.str "."))))) (oV (vVal 1))) (vCons (vOp2 addD (oV (vOp2 addD (oV (vVal 0)) (oV (vC (.str ".0"))))) (oV (vVal 1))) (vCons (vOp2 addD (oV (vVal 0)) (oV (vC (.str ".x")))) (vCons (vC (.str ".")) vNil))))))))))
  (vsRet (vOp2 ixD (oV (vOp2 addD (oV (vVal 3)) (oV (vLst (vCons (vC (.str "")) (vCons (vOp2 addD (oV (vOp2 addD (oV (vVal 0)) (oV (vC (.str "."))))) (oV (vOp2 smulD (oV (vC (.str "1"))) (oV (vC (.int 61)))))) vNil)))))) (oV (vOp2 modD (oV (vVal 2)) (oV (vC (.int 14)))))))))
noncomputable def VF__law_bad_coin : List Sl → FR := vFun .fr [false, false, false] 4 V__law_bad_coin
theorem sv__law_bad_coin : SF (ioF [false, false, false]) F__law_bad_coin VF__law_bad_coin := sf_of (ios := [false, false, false]) .fr (by
  unfold A__law_bad_coin V__law_bad_coin
  exact (ss_seq (ss_set 3 (sc_lst (sl_cons (sc_val 0) (sl_cons (sc_op2 pr_add (SC.so (sc_op2 pr_add (SC.so (sc_op2 pr_add (SC.so (sc_val 0)) (SC.so sc_c))) (SC.so (sc_val 1)))) (SC.so sc_c)) (sl_cons (sc_op2 pr_add (SC.so (sc_op2 pr_add (SC.so (sc_op2 pr_add (SC.so sc_c) (SC.so (sc_val 0)))) (SC.so sc_c))) (SC.so (sc_val 1))) (sl_cons (sc_op2 pr_add (SC.so (sc_op2 pr_add (SC.so (sc_val 0)) (SC.so sc_c))) (SC.so (sc_val 1))) (sl_cons (sc_op2 pr_add (SC.so sc_c) (SC.so (sc_val 1))) (sl_cons (sc_op2 pr_add (SC.so (sc_val 0)) (SC.so sc_c)) sl_nil))))))))
  (ss_seq (ss_set 3 (sc_op2 pr_add (SC.so (sc_val 3)) (SC.so (sc_lst (sl_cons (sc_op2 pr_add (SC.so (sc_op2 pr_add (SC.so (sc_val 0)) (SC.so sc_c))) (SC.so (sc_val 1))) (sl_cons (sc_op2 pr_add (SC.so (sc_op2 pr_add (SC.so (sc_val 0)) (SC.so sc_c))) (SC.so (sc_val 1))) (sl_cons (sc_op2 pr_add (SC.so (sc_op2 pr_add (SC.so (sc_op2 pr_add (SC.so sc_c) (SC.so (sc_val 0)))) (SC.so sc_c))) (SC.so (sc_val 1))) (sl_cons (sc_op2 pr_add (SC.so (sc_op2 pr_add (SC.so (sc_val 0)) (SC.so sc_c))) (SC.so (sc_val 1))) (sl_cons (sc_op2 pr_add (SC.so (sc_val 0)) (SC.so sc_c)) (sl_cons sc_c sl_nil))))))))))
  (ss_ret (sc_op2 pr_ix (SC.so (sc_op2 pr_add (SC.so (sc_val 3)) (SC.so (sc_lst (sl_cons sc_c (sl_cons (sc_op2 pr_add (SC.so (sc_op2 pr_add (SC.so (sc_val 0)) (SC.so sc_c))) (SC.so (sc_op2 pr_smul (SC.so sc_c) (SC.so sc_c)))) sl_nil)))))) (SC.so (sc_op2 pr_mod (SC.so (sc_val 2)) (SC.so sc_c))))))))
noncomputable def VL_law_2 : VE :=
  (vVa (vCall VF__law_whole [.v (vVal 9)]))
noncomputable def VL_law_1 : VS :=
  (vsSeq (vsSet 2 (vVa (vCall VF__law_mixed [.v (vVal 1)])))
  (vsSeq (vsSet 3 (vOp2 ixD (oV (vLst (vCons (vOp2 powD (oV (vC (.int 10))) (oV (vC (.int 60)))) (vCons (vOp2 powD (oV (vC (.int 10))) (oV (vC (.int 60)))) (vCons (vC (.int 1000)) (vCons (vOp2 powD (oV (vC (.int 10))) (oV (vC (.int 30)))) vNil)))))) (oV (vOp2 modD (oV (vVal 2)) (oV (vC (.int 4)))))))
  (vsSeq (vsSet 4 (vOp2 mulD (oV (vOp2 modD (oV (vVal 1)) (oV (vVal 3)))) (oV (vOp2 subD (oV (vC (.int 1))) (oV (vOp2 mulD (oV (vC (.int 2))) (oV (vOp2 modD (oV (vOp2 fdivD (oV (vVal 2)) (oV (vC (.int 4))))) (oV (vC (.int 2)))))))))))
  (vsSeq (vsSet 5 (vVa (vCall VF_read_number [.v (vApp strD [(oV (vVal 4))])])))
  (vsSeq (vsIf (vtOr (vtNot (vTr (oV (vVa (vCall VF__law_whole [.v (vVal 5)]))))) (vtVal (vOp2 nevD (oV (vVal 5)) (oV (vVal 4)))))
  (vsRet (vC (.bl false)))
  vsNil)
  (vsSeq (vsSet 6 (vTup (vCons (vOp2 modD (oV (vVal 1)) (oV (vVal 3))) (vCons (vOp2 modD (oV (vOp2 fdivD (oV (vVal 1)) (oV (vVal 3)))) (oV (vOp2 powD (oV (vC (.int 10))) (oV (vC (.int 30)))))) vNil))))
  (vsSeq (vsSet 5 (vVa (vCall VF_read_coin [.v (vOp2 addD (oV (vOp2 addD (oV (vApp strD [(oV (vOp2 ixD (oV (vVal 6)) (oV (vC (.int 0)))))])) (oV (vC (.str "."))))) (oV (vApp strD [(oV (vOp2 ixD (oV (vVal 6)) (oV (vC (.int 1)))))])))])))
  (vsSeq (vsIf (vtOr (vtNot (vTr (oV (vOp1 (isiD "tuple") (oV (vVal 5)))))) (vtOr (vtVal (vOp2 nevD (oV (vVal 5)) (oV (vVal 6)))) (vtNot (vTr (oV (vApp allD [(oV (vLc (vcI (viSeq (vVal 5))) (vgNm 9) vtTrue VL_law_2 [9]))]))))))
  (vsRet (vC (.bl false)))
  vsNil)
  (vsSeq (vsSet 7 (vVa (vCall VF__law_bad_number [.v (vApp strD [(oV (vApp absD [(oV (vVal 4))]))]), .v (vOp2 fdivD (oV (vVal 2)) (oV (vC (.int 8))))])))
  (vsSeq (vsIf (vtNot (vTr (oV (vVa (vCall VF__law_refused [.v (vVal 7), .v (vC (.bl false))])))))
  (vsRet (vC (.bl false)))
  vsNil)
  (vsSeq (vsIf (vtNot (vTr (oV (vVa (vCall VF__law_refused [.v (vVa (vCall VF__law_bad_coin [.v (vApp strD [(oV (vOp2 ixD (oV (vVal 6)) (oV (vC (.int 0)))))]), .v (vApp strD [(oV (vOp2 ixD (oV (vVal 6)) (oV (vC (.int 1)))))]), .v (vOp2 fdivD (oV (vVal 2)) (oV (vC (.int 128))))])), .v (vC (.bl true))])))))
  (vsRet (vC (.bl false)))
  vsNil)
  (vsSeq (vsSet 8 (vOp2 ixD (oV (vLst (vCons (vC .non) (vCons (vVal 4) (vCons (vLst (vCons (vApp strD [(oV (vVal 4))]) vNil)) (vCons (vTup (vCons (vC (.str "1")) vNil)) (vCons (vOp2 eqvD (oV (vVal 2)) (oV (vC (.int 0)))) (vCons (vC (.dic false [])) vNil)))))))) (oV (vOp2 modD (oV (vOp2 fdivD (oV (vVal 2)) (oV (vC (.int 2000))))) (oV (vC (.int 6)))))))
  (vsIf (vtOr (vtNot (vTr (oV (vVa (vCall VF__law_refused [.v (vVal 8), .v (vC (.bl false))]))))) (vtNot (vTr (oV (vVa (vCall VF__law_refused [.v (vVal 8), .v (vC (.bl true))]))))))
  (vsRet (vC (.bl false)))
  vsNil)))))))))))))
noncomputable def V_law : VS :=
  (vsSeq (vsFor (viSeq (vOp2 addD (oV (vLst (vCons (vC (.int 0)) vNil))) (oV (vSl (oV (vVal 0)) vpNo (vpAt (vC (.int 40))))))) (vgNm 1)
  VL_law_1)
  (vsRet (vC (.bl true))))
noncomputable def VF_law : List Sl → FR := vFun .fr [false] 10 V_law
theorem sv_law : SF (ioF [false]) F_law VF_law := sf_of (ios := [false]) .fr (by
  unfold A_law V_law L_law_1 L_law_2 VL_law_1 VL_law_2
  exact (ss_seq (ss_for (si_seq (sc_op2 pr_add (SC.so (sc_lst (sl_cons sc_c sl_nil))) (SC.so (sc_sl (SC.so (sc_val 0)) sp_no (sp_at sc_c))))) (sgt_nm 1)
  (ss_seq (ss_set 2 (sc_sm (sm_call sv__law_mixed (sg_v (sc_val 1) sg_nil))))
  (ss_seq (ss_set 3 (sc_op2 pr_ix (SC.so (sc_lst (sl_cons (sc_op2 pr_pow (SC.so sc_c) (SC.so sc_c)) (sl_cons (sc_op2 pr_pow (SC.so sc_c) (SC.so sc_c)) (sl_cons sc_c (sl_cons (sc_op2 pr_pow (SC.so sc_c) (SC.so sc_c)) sl_nil)))))) (SC.so (sc_op2 pr_mod (SC.so (sc_val 2)) (SC.so sc_c)))))
  (ss_seq (ss_set 4 (sc_op2c pc_mul (sc_op2 pr_mod (SC.so (sc_val 1)) (SC.so (sc_val 3))) (sc_op2 pr_sub (SC.so sc_c) (SC.so (sc_op2c pc_mul sc_c (sc_op2 pr_mod (SC.so (sc_op2 pr_fdiv (SC.so (sc_val 2)) (SC.so sc_c))) (SC.so sc_c)))))))
  (ss_seq (ss_set 5 (sc_sm (sm_call sv_read_number (sg_v (sc_app pa_str (so_cons (SC.so (sc_val 4)) so_nil)) sg_nil))))
  (ss_seq (ss_if (st_or (st_not (st_truth (SC.so (sc_sm (sm_call sv__law_whole (sg_v (sc_val 5) sg_nil)))))) (st_val (sc_op2 pr_nev (SC.so (sc_val 5)) (SC.so (sc_val 4)))))
  (ss_ret sc_c)
  ss_nil)
  (ss_seq (ss_set 6 (sc_tup (sl_cons (sc_op2 pr_mod (SC.so (sc_val 1)) (SC.so (sc_val 3))) (sl_cons (sc_op2 pr_mod (SC.so (sc_op2 pr_fdiv (SC.so (sc_val 1)) (SC.so (sc_val 3)))) (SC.so (sc_op2 pr_pow (SC.so sc_c) (SC.so sc_c)))) sl_nil))))
  (ss_seq (ss_set 5 (sc_sm (sm_call sv_read_coin (sg_v (sc_op2 pr_add (SC.so (sc_op2 pr_add (SC.so (sc_app pa_str (so_cons (SC.so (sc_op2 pr_ix (SC.so (sc_val 6)) (SC.so sc_c))) so_nil))) (SC.so sc_c))) (SC.so (sc_app pa_str (so_cons (SC.so (sc_op2 pr_ix (SC.so (sc_val 6)) (SC.so sc_c))) so_nil)))) sg_nil))))
  (ss_seq (ss_if (st_or (st_not (st_truth (SC.so (sc_op1 (pr_isi "tuple") (SC.so (sc_val 5)))))) (st_or (st_val (sc_op2 pr_nev (SC.so (sc_val 5)) (SC.so (sc_val 6)))) (st_not (st_truth (SC.so (sc_app pa_all (so_cons (SC.so (sc_lc (sic_i (si_seq (sc_val 5))) (sgt_nm 9) st_true (sc_sm (sm_call sv__law_whole (sg_v (sc_val 9) sg_nil))))) so_nil)))))))
  (ss_ret sc_c)
  ss_nil)
  (ss_seq (ss_set 7 (sc_sm (sm_call sv__law_bad_number (sg_v (sc_app pa_str (so_cons (SC.so (sc_app pa_abs (so_cons (SC.so (sc_val 4)) so_nil))) so_nil)) (sg_v (sc_op2 pr_fdiv (SC.so (sc_val 2)) (SC.so sc_c)) sg_nil)))))
  (ss_seq (ss_if (st_not (st_truth (SC.so (sc_sm (sm_call sv__law_refused (sg_v (sc_val 7) (sg_v sc_c sg_nil)))))))
  (ss_ret sc_c)
  ss_nil)
  (ss_seq (ss_if (st_not (st_truth (SC.so (sc_sm (sm_call sv__law_refused (sg_v (sc_sm (sm_call sv__law_bad_coin (sg_v (sc_app pa_str (so_cons (SC.so (sc_op2 pr_ix (SC.so (sc_val 6)) (SC.so sc_c))) so_nil)) (sg_v (sc_app pa_str (so_cons (SC.so (sc_op2 pr_ix (SC.so (sc_val 6)) (SC.so sc_c))) so_nil)) (sg_v (sc_op2 pr_fdiv (SC.so (sc_val 2)) (SC.so sc_c)) sg_nil))))) (sg_v sc_c sg_nil)))))))
  (ss_ret sc_c)
  ss_nil)
  (ss_seq (ss_set 8 (sc_op2 pr_ix (SC.so (sc_lst (sl_cons sc_c (sl_cons (sc_val 4) (sl_cons (sc_lst (sl_cons (sc_app pa_str (so_cons (SC.so (sc_val 4)) so_nil)) sl_nil)) (sl_cons (sc_tup (sl_cons sc_c sl_nil)) (sl_cons (sc_op2 pr_eqv (SC.so (sc_val 2)) (SC.so sc_c)) (sl_cons sc_c sl_nil)))))))) (SC.so (sc_op2 pr_mod (SC.so (sc_op2 pr_fdiv (SC.so (sc_val 2)) (SC.so sc_c))) (SC.so sc_c)))))
  (ss_if (st_or (st_not (st_truth (SC.so (sc_sm (sm_call sv__law_refused (sg_v (sc_val 8) (sg_v sc_c sg_nil))))))) (st_not (st_truth (SC.so (sc_sm (sm_call sv__law_refused (sg_v (sc_val 8) (sg_v sc_c sg_nil))))))))
  (ss_ret sc_c)
  ss_nil))))))))))))))
  (ss_ret sc_c)))
end LW

namespace LW
open PySem PySem.Spec PyProof.Rows L2 DL VL PySem.StrLaws TL
/-! texts: by their signs -/
def mk (l : List Nat) : Str := ⟨l.toArray⟩
def tx (l : List Nat) : D := .str (mk l)
theorem tl_mkx (l : List Nat) : tl (mk l) = l := rfl
theorem mk_tlx (x : Str) : mk (tl x) = x := mk_tl x
theorem mk_inj {a b : List Nat} (h : mk a = mk b) : a = b := by
  have := congrArg tl h
  exact this
theorem len_mk (l : List Nat) : (mk l).length = l.length := by rw [len_tl]; rfl
theorem mk_app (a b : List Nat) : mk a ++ mk b = mk (a ++ b) := ext_tl (by rw [tl_append]; rfl)
theorem tx_str (x : Str) : D.str x = tx (tl x) := by unfold tx; rw [mk_tlx]
theorem flat_tx (l : List Nat) : flat (tx l) := flat_str _
theorem flats_tx (ls : List (List Nat)) : flats (ls.map tx) := flats_iff.mpr fun x hx => by
  rw [List.mem_map] at hx
  obtain ⟨z, _, rfl⟩ := hx
  exact flat_tx z
theorem ty_tx {l : List Nat} {S : Sto} : tyD S (tx l) = some "str" := rfl
theorem eq_tx {a b : List Nat} {S : Sto} : eqvD (tx a) (tx b) S = .ok (.bl (decide (a = b))) S := by
  unfold tx
  rw [eqv_ss]
  congr 2
  by_cases h : a = b
  · subst h; simp
  · rw [decide_eq_false h, beq_false_of_ne fun z => h (mk_inj z)]
theorem ne_tx {a b : List Nat} {S : Sto} : nevD (tx a) (tx b) S = .ok (.bl (!decide (a = b))) S := by
  unfold tx
  rw [nev_ss]
  congr 3
  by_cases h : a = b
  · subst h; simp
  · rw [decide_eq_false h, beq_false_of_ne fun z => h (mk_inj z)]
theorem add_tx {a b : List Nat} {S : Sto} (h : a.length + b.length ≤ sizeLine) : addD (tx a) (tx b) S = .ok (tx (a ++ b)) S := by
  show (if (mk a).length + (mk b).length ≤ sizeLine then Res.ok (D.str (mk a ++ mk b)) S else .bad) = _
  rw [len_mk, len_mk, if_pos h, mk_app]; rfl
theorem len_tx {l : List Nat} {S : Sto} (h : l.length ≤ sizeLine) : lenD [tx l] S = .ok (.int (l.length : Int)) S := by
  unfold tx
  rw [len_str (by rw [len_mk]; exact h), len_mk]
theorem map_tl_tx (ps : List Str) : ps.map D.str = (ps.map tl).map tx := by
  rw [List.map_map]
  exact List.map_congr_left fun x _ => tx_str x
theorem split_tx {a b : List Nat} {S : Sto} (hb : b ≠ []) (hk : b.all (· < 256) = true) (hz : a.length ≤ 16000000) : splitD (tx a) [tx b] S = .ok (.lst ((spl b 0 [] a).map tx)) S := by
  show (if ((mk b).length == 0) = false ∧ (mk a).length + 2 ≤ sizeLine then Res.ok (D.lst ((Txt.split (mk a) (mk b)).map D.str)) S else .bad) = _
  rw [if_pos, map_tl_tx, split_spl (mk a) (mk b) hb (kind_ok (by
    rw [← Array.all_toList]
    exact hk))]
  · rfl
  · rw [len_mk, len_mk, sizeLine_eq]
    refine ⟨?_, by omega⟩
    cases b with
    | nil => exact absurd rfl hb
    | cons x b => rfl
theorem asStrs_tx : ∀ ps : List (List Nat), asStrs (ps.map tx) = some (ps.map mk)
  | [] => rfl
  | p :: ps => by
    rw [List.map_cons]
    show (asStrs (ps.map tx)).map (mk p :: ·) = _
    rw [asStrs_tx ps]; rfl
theorem join_tx {s : List Nat} {ps : List (List Nat)} {S : Sto} (hz : (ps.map List.length).sum + ps.length * s.length ≤ 16777216) : joinD (tx s) [.lst (ps.map tx)] S = .ok (tx (joinL s ps)) S := by
  show (match (DL.seqOf S (.lst (ps.map tx))).bind asStrs with
    | some ys => if (ys.map (fun y : Str => y.length)).sum + ys.length * (mk s).length ≤ 16777216 then Res.ok (D.str (Txt.join (mk s) ys)) S else .bad
    | none => .bad) = _
  rw [show DL.seqOf S (.lst (ps.map tx)) = some (ps.map tx) from rfl, Option.bind_some, asStrs_tx]
  simp only
  have e1 : (ps.map mk).map (fun x : Str => x.length) = ps.map List.length := by
    rw [List.map_map]
    exact List.map_congr_left fun x _ => len_mk x
  have e2 : Txt.join (mk s) (ps.map mk) = mk (joinL s ps) := by
    rw [join_eq]
    refine ext_tl ?_
    rw [tl_join, List.map_map]
    show joinL s (ps.map fun p => tl (mk p)) = joinL s ps
    congr 1
    exact List.map_id' ps
  rw [e1, e2, List.length_map, len_mk, if_pos hz]
  rfl
theorem starts_tx {a b : List Nat} {S : Sto} (hb : b ≠ []) : startsD (tx a) [tx b] S = .ok (.bl (pre b a)) S := by
  show Res.ok (D.bl (Txt.startswith (mk a) (mk b))) S = _
  congr 2
  have h := at_iff (x := mk a) (y := mk b) hb 0
  rw [List.drop_zero] at h
  have h2 : Txt.startswith (mk a) (mk b) = true ↔ At (mk a) (mk b) (mk a).length 0 := by
    unfold Txt.startswith At
    rw [Bool.and_eq_true, decide_eq_true_iff]
  have h3 : Txt.startswith (mk a) (mk b) = true ↔ pre b a = true := h2.trans h
  cases q : pre b a with
  | true => exact h3.mpr q
  | false =>
    cases q2 : Txt.startswith (mk a) (mk b) with
    | false => rfl
    | true => rw [h3.mp q2] at q; cases q
theorem slx_tx {l : List Nat} {lo hi : Option Int} {S : Sto} (hz : l.length ≤ sizeLine) : slxD (tx l) lo hi S = .ok (.str (cutS (mk l) lo hi)) S := by
  show (if (mk l).length ≤ sizeLine then Res.ok (D.str (cutS (mk l) lo hi)) S else .bad) = _
  rw [len_mk, if_pos hz]
theorem cutS_eq (z : Str) (lo hi : Option Int) : tl (cutS z lo hi) = ((tl z).drop (HT.sIx z.length 0 lo)).take (HT.sIx z.length z.length hi - HT.sIx z.length 0 lo) := by
  unfold cutS
  rfl
theorem slx_from {l : List Nat} {k : Nat} {S : Sto} (hz : l.length ≤ sizeLine) : slxD (tx l) (some (k : Int)) none S = .ok (tx (l.drop k)) S := by
  rw [slx_tx hz, tx_str]
  congr 2
  rw [cutS_eq, tl_mkx, len_mk, HT.sIx_none, HT.sIx_nat]
  rcases Nat.le_total k l.length with h | h
  · rw [Nat.min_eq_left h, List.take_of_length_le (by rw [List.length_drop]; omega)]
  · rw [Nat.min_eq_right h, Nat.sub_self, List.drop_of_length_le h]; rfl
theorem signs_tx (l : List Nat) : signsD (mk l) = l.map fun c => tx [c] := rfl
theorem vi_tx {V : VE} {e e1 : VL.Env} {l : List Nat} (h : V e = .ok (tx l) e1) : viStr V e = .ok (l.map fun c => tx [c]) e1 := by
  unfold viStr
  rw [h]
  rfl
theorem in_tx {c : Nat} {l : List Nat} {S : Sto} : inD (tx [c]) (tx l) S = .ok (.bl (decide (c ∈ l))) S := by
  show Res.ok (D.bl (isSub (mk [c]) (mk l))) S = _
  congr 2
  exact found_one (mk l) c
theorem ix0_tx {c : Nat} {l : List Nat} {S : Sto} (h : l.length + 1 ≤ sizeLine) : ixD (tx (c :: l)) (.int 0) S = .ok (tx [c]) S := by
  have e : atI (mk (c :: l)).cps.toList 0 = some c := by
    show atI (c :: l) 0 = some c
    unfold atI
    have : ixN (c :: l).length 0 = some 0 := by
      unfold ixN
      rw [if_pos (by omega), if_pos (by simp)]
      rfl
    rw [this]; rfl
  show (if (mk (c :: l)).length ≤ sizeLine then (match atI (mk (c :: l)).cps.toList 0 with | some c => Res.ok (D.str ⟨#[c]⟩) S | none => .bad) else .bad) = _
  rw [len_mk, if_pos (by simpa using h), e]
  rfl
/-! numbers -/
def numT (n : Int) : List Nat := if n < 0 then 45 :: numL n.natAbs else numL n.natAbs
theorem str_numT (n : Int) : Str.ofString (toString n) = mk (numT n) := by
  refine ext_tl ?_
  rw [tl_mkx]
  cases n with
  | ofNat m =>
    unfold numT
    rw [if_neg (by show ¬ ((m : Int) < 0); omega)]
    exact tl_num m
  | negSucc m =>
    unfold numT
    rw [if_pos (by omega)]
    have e : toString (Int.negSucc m) = "-" ++ toString (m + 1) := rfl
    rw [e, tl_ofString, String.toList_append, List.map_append]
    have h := tl_num (m + 1)
    rw [tl_ofString] at h
    show 45 :: (toString (m + 1)).toList.map Char.toNat = 45 :: numL (m + 1)
    congr 1
theorem str_tx {n : Int} {S : Sto} (h : n.natAbs < 2 ^ 1000) : strD [.int n] S = .ok (tx (numT n)) S := by
  have hl : n.natAbs.log2 < 1920 := by
    by_cases h0 : n.natAbs = 0
    · rw [h0]; decide
    · exact Nat.lt_of_lt_of_le ((Nat.log2_lt h0).mpr h) (by decide)
  show (if n.natAbs.log2 < 1920 then Res.ok (D.str (Str.ofString (toString n))) S else .bad) = _
  rw [if_pos hl, str_numT]; rfl
def isDig (c : Nat) : Bool := decide (c ∈ ([48, 49, 50, 51, 52, 53, 54, 55, 56, 57] : List Nat))
theorem isDig_iff {c : Nat} : isDig c = true ↔ 48 ≤ c ∧ c ≤ 57 := by
  unfold isDig
  rw [decide_eq_true_iff]
  simp only [List.mem_cons, List.not_mem_nil, or_false]
  omega
/-- the number that signs write -/
def figs (l : List Nat) : List Nat := if pre [45] l = true then l.drop 1 else l
def numOk (l : List Nat) : Bool := decide (1 ≤ (figs l).length) && decide ((figs l).length ≤ 60) && (figs l).all isDig && !(decide ((figs l).head? = some 48) && !decide (l = [48]))
def numV (l : List Nat) : Int := if pre [45] l = true then -((NumText.digitsVal (figs l) : Nat) : Int) else ((NumText.digitsVal (figs l) : Nat) : Int)
def rnum (l : List Nat) : Option Int := if numOk l = true then some (numV l) else none
theorem pre45 {l : List Nat} : pre [45] l = decide (l.head? = some 45) := by
  cases l with
  | nil => rfl
  | cons c l =>
    show ([c] == [45]) = _
    by_cases h : c = 45
    · subst h; rfl
    · rw [decide_eq_false (by simpa using h)]
      exact beq_false_of_ne (by simpa using h)
theorem numL_head {n : Nat} (h : (numL n).head? = some 48) : n = 0 := by
  induction n using Nat.strongRecOn with
  | _ n ih =>
    by_cases hn : n < 10
    · rw [numL_lt hn] at h
      simp at h
      omega
    · rw [numL_step (by omega)] at h
      have hne := numL_ne (n / 10)
      rw [List.head?_append] at h
      cases hq : (numL (n / 10)).head? with
      | none => rw [List.head?_eq_none_iff] at hq; exact absurd hq hne
      | some c =>
        rw [hq] at h
        have := ih (n / 10) (by omega) (by rw [hq]; simpa using h)
        omega
theorem numL_head45 {n : Nat} : pre [45] (numL n) = false := by
  rw [pre45]
  refine decide_eq_false fun h => ?_
  have : 45 ∈ numL n := List.mem_of_head? h
  exact numL_free (by omega) this
theorem numL_dig (n : Nat) : (numL n).all isDig = true := by
  rw [List.all_eq_true]
  intro c hc
  exact isDig_iff.mpr (numL_digits n c hc)
theorem figs_num (n : Int) : figs (numT n) = numL n.natAbs := by
  unfold figs numT
  by_cases h : n < 0
  · rw [if_pos h, if_pos (by rw [pre45]; rfl)]; rfl
  · rw [if_neg h, if_neg (by rw [numL_head45]; decide)]
theorem rnum_num {n : Int} (h : n.natAbs < 10 ^ 60) : rnum (numT n) = some n := by
  have hl := numL_len (n := n.natAbs) (k := 60) (by decide) h
  have hne := numL_ne n.natAbs
  have h1 : 1 ≤ (numL n.natAbs).length := List.length_pos_iff.mpr hne
  have hh : numOk (numT n) = true := by
    unfold numOk
    rw [figs_num, decide_eq_true h1, decide_eq_true hl, numL_dig]
    simp only [Bool.and_self, Bool.true_and, Bool.not_eq_true', Bool.and_eq_false_iff, decide_eq_false_iff_not, Bool.not_eq_false', decide_eq_true_iff]
    by_cases h48 : (numL n.natAbs).head? = some 48
    · right
      have h0 := numL_head h48
      have : n = 0 := by omega
      subst this
      unfold numT
      rw [if_neg (by omega)]
      exact numL_lt (by decide)
    · exact .inl h48
  unfold rnum
  rw [if_pos hh]
  congr 1
  unfold numV
  rw [figs_num, numL_val]
  unfold numT
  by_cases hn : n < 0
  · rw [if_pos hn, if_pos (by rw [pre45]; rfl)]; omega
  · rw [if_neg hn, if_neg (by rw [numL_head45]; decide)]; omega
theorem numT_signs {n : Int} {c : Nat} (h : c ∈ numT n) : c = 45 ∨ (48 ≤ c ∧ c ≤ 57) := by
  unfold numT at h
  split at h
  · rcases List.mem_cons.mp h with rfl | h
    · exact .inl rfl
    · exact .inr (numL_digits _ c h)
  · exact .inr (numL_digits _ c h)
theorem numT_len {n : Int} {k : Nat} (hk : 0 < k) (h : n.natAbs < 10 ^ k) : (numT n).length ≤ k + 1 := by
  have := numL_len hk h
  unfold numT
  split
  · simp; omega
  · omega
theorem numT_ne (n : Int) : numT n ≠ [] := by
  unfold numT
  split
  · simp
  · exact numL_ne _
theorem intS_tx {l : List Nat} {S : Sto} (h : numOk l = true) : intSD [tx l] S = .ok (.int (numV l)) S := by
  unfold numOk at h
  simp only [Bool.and_eq_true, decide_eq_true_iff] at h
  obtain ⟨⟨⟨h1, h2⟩, h3⟩, _⟩ := h
  have hd : NumText.AllDigits (figs l) := fun c hc => isDig_iff.mp (List.all_eq_true.mp h3 c hc)
  have hne : figs l ≠ [] := fun z => by rw [z] at h1; simp at h1
  have hll : l.length ≤ 61 := by
    unfold figs at h2
    split at h2
    · rw [List.length_drop] at h2; omega
    · omega
  have e : intText? (mk l) = some (numV l) := by
    unfold numV
    by_cases hp : pre [45] l = true
    · rw [if_pos hp]
      have hl : l = 45 :: figs l := by
        unfold figs
        rw [if_pos hp]
        cases l with
        | nil => cases hp
        | cons c l =>
          rw [pre45] at hp
          simp at hp
          subst hp; rfl
      exact intText_neg (x := mk l) (cs := figs l) (by show l = _; exact hl) hd hne (by rw [len_mk]; omega)
    · rw [if_neg hp]
      have hf : figs l = l := by unfold figs; rw [if_neg hp]
      rw [hf] at hd hne ⊢
      exact intText_digits (x := mk l) hd hne (by rw [len_mk]; omega)
  show (match intText? (mk l) with | some n => if (mk l).length ≤ 640 then Res.ok (D.int n) S else .bad | none => .bad) = _
  rw [e]
  simp only
  rw [len_mk, if_pos (by omega)]
/-! looked_text, read_number -/
theorem lit_dash : D.str (Str.ofString "-") = tx [45] := rfl
theorem lit_0 : D.str (Str.ofString "0") = tx [48] := rfl
theorem lit_figs : D.str (Str.ofString "0123456789") = tx [48, 49, 50, 51, 52, 53, 54, 55, 56, 57] := rfl
theorem v_looked (l : List Nat) : VF_looked_text [.va (tx l)] = .ok (.va (tx l)) [.no] := by
  unfold VF_looked_text
  rw [vf_eq rfl]
  unfold V_looked_text
  simp only [env_l, env_t, vb_ok, vb_exc, vo_ok, vo_exc, tv_ok, tv_exc, ov_ev, ov_rd, on_ev, on_rd, op_ev, op_rd, snap_va, snap_lv, snap_di, snapl_lv, snapl_di, 
    rd1_some, rd2_some, av_c, av_val, av_fld, av_op2, av_op1, vbl, av_chain, av_and, av_or, av_tr, av_not, av_if, av_tval, av_tand, av_tor, av_tnot, 
    av_ttrue, av_nil, av_cons, av_tup, av_lst, av_lstm, rda_some, av_app, os_nil, os_cons, osr_nil, cons2_some, osr_cons, av_sl, av_pno, av_pat, av_va, 
    frk_ok, frk_exc, slk_some, av_call, ge_nil, ge_v, ge_p, conss_some, gs_nil, gs_v, gs_p, gp_nil, gp_v, gp_p, hand_nil, hs_lv, hs_di, hs_va, hs_ins, 
    get_nil, put_nil, av_mtl, append_l, av_mtp, vfk_va, vfk_lv, vfk_di, vfk_nlv, vfk_rw, vfk_retf, vfk_next, vfk_exc, fin_eq, oko_nil, oko_t, oko_f, no_va, 
    no_lv, no_di, no_ins, msk_t, msk_f, List.zipWith_cons_cons, List.zipWith_nil_left, Bool.true_and, Bool.and_true, vs_seq, vsk_next, vsk_ret, vsk_retf, 
    vsk_brk, vsk_cont, vsk_exc, vs_nil, vs_brk, vs_cont, vs_expr, vs_ret, vs_retn, vs_retm, vs_reti, vs_if, vs_set, vs_setm, vs_asg, vg_nm, vg_tp, vgs_nil, 
    vgs_cons, vs_par, vs_aug, vs_sub, vs_for, vi_seq, vi_r1, vi_r2, rgk_t, loopv_next, loopv_cont, isBl_bl, truD_bl, truD_int, ty_int, ty_bl, ty_str, 
    ty_non, ty_tup, ty_lst, isi_ap, seqOf_lst, seqOf_tup, add_ii, sub_ii, mul_ii, mulOk_l, mulOk_r, fdiv_ii, divmod_ii, mod_ii, pow_ii, neg_i, ord_ii, 
    is_non, isnt_non, is_bl, isnt_bl, abs_i, int_i, int_b, max_ii, min_ii, len_tup, len_lst, tuple_lst, tuple_tup, list_lst, list_tup, DL.sl_lst, 
    DL.sl_tup, Nat.reduceAdd, Nat.zero_add, Nat.sub_self, List.replicate_zero, List.replicate_succ, List.getElem?_cons_zero, List.getElem?_cons_succ, 
    List.set_cons_zero, List.set_cons_succ, List.map_cons, List.map_nil, List.cons_append, List.nil_append, List.reduceReplicate, Nat.reduceSub, 
    List.length_cons, List.length_nil, if_true, if_false, reduceIte, reduceCtorEq, Bool.false_eq_true, Bool.true_eq_false, sizeLine_eq, Int.reduceToNat, 
    ix_tupm, ix_lstm, atI_0, atI_1, atI_2, atI_3, atI_4, atI_5, Option.bind_some, Bool.not_true, Bool.not_false, Nat.reduceLeDiff, Nat.reduceLT, pow10, 
    Int.natCast_zero, Int.natCast_one, Int.cast_ofNat_Int, Int.reduceBEq, Int.reduceBNe, kb_NoneType_int, kb_NoneType_bool, kb_NoneType_str, 
    kb_NoneType_tuple, kb_NoneType_list, kb_NoneType_dict, kb_bool_int, kb_bool_bool, kb_bool_str, kb_bool_tuple, kb_bool_list, kb_bool_dict, kb_int_int, 
    kb_int_bool, kb_int_str, kb_int_tuple, kb_int_list, kb_int_dict, kb_str_int, kb_str_bool, kb_str_str, kb_str_tuple, kb_str_list, kb_str_dict, 
    kb_tuple_int, kb_tuple_bool, kb_tuple_str, kb_tuple_tuple, kb_tuple_list, kb_tuple_dict, kb_list_int, kb_list_bool, kb_list_str, kb_list_tuple, 
    kb_list_list, kb_list_dict, kb_dict_int, kb_dict_bool, kb_dict_str, kb_dict_tuple, kb_dict_list, kb_dict_dict, Int.reduceLT, Int.reduceLE, 
    Int.reduceEq, Int.reduceNe, Nat.reduceEqDiff, decide_true, decide_false, and_self, and_true, true_and, ty_tx]
theorem all_bls (bs : List Bool) : allD [.lst (bs.map D.bl)] [] = .ok (.bl (bs.all id)) [] := by
  have e : ∀ bs : List Bool, asBls (bs.map D.bl) = some bs := fun bs => by
    induction bs with
    | nil => rfl
    | cons b bs ih => rw [List.map_cons, asBls, ih]; rfl
  show (match (DL.listOf [] (.lst (bs.map D.bl))).bind asBls with | some bs => Res.ok (D.bl (bs.all id)) [] | none => .bad) = _
  rw [show DL.listOf [] (.lst (bs.map D.bl)) = some (bs.map D.bl) from rfl, Option.bind_some, e]
theorem vs_raise {k : Nat} {e : VL.Env} : vsRaise k e = .exc k e := rfl
/-- the number, or refused -/
def numR (o : Option Int) : FR := match o with
  | some n => .ok (.va (.int n)) [.no]
  | none => .exc 1 [.no]
theorem v_readnum (l : List Nat) (hz : l.length ≤ 10000) : VF_read_number [.va (tx l)] = numR (rnum l) := by
  have hz' : l.length ≤ sizeLine := by rw [sizeLine_eq]; omega
  have s1 : startsD (tx l) [tx [45]] [] = .ok (.bl (pre [45] l)) [] := starts_tx (by simp)
  have sl : slxD (tx l) (some 1) none [] = .ok (tx (l.drop 1)) [] := slx_from (k := 1) hz'
  have lk := v_looked l
  obtain ⟨f, hf⟩ : ∃ f, figs l = f := ⟨_, rfl⟩
  have hfl : f.length ≤ 10000 := by
    rw [← hf]; unfold figs
    split
    · rw [List.length_drop]; omega
    · exact hz
  have ln : lenD [tx f] [] = .ok (.int (f.length : Int)) [] := len_tx (by rw [sizeLine_eq]; omega)
  have lc : vLc (vcI (viStr (vVal 1))) (vgNm 2) vtTrue VL_read_number_1 [2] [.va (tx l), .va (tx f), .no] = .ok (.lst ((f.map isDig).map D.bl)) [.va (tx l), .va (tx f), .no] := by
    have := lcv_map (it := vcI (viStr (vVal 1))) (items := f.map fun c => tx [c]) (gd := fun _ => True) (e := [.va (tx l), .va (tx f), .no]) (i := 2) (el := VL_read_number_1) (f := fun d => match d with | .str z => .bl (isDig ((tl z).headD 0)) | d => d)
      (vc_i (vi_tx (by simp only [env_l, env_t, vb_ok, vb_exc, vo_ok, vo_exc, tv_ok, tv_exc, ov_ev, ov_rd, on_ev, on_rd, op_ev, op_rd, snap_va, snap_lv, snap_di, snapl_lv, snapl_di, 
    rd1_some, rd2_some, av_c, av_val, av_fld, av_op2, av_op1, vbl, av_chain, av_and, av_or, av_tr, av_not, av_if, av_tval, av_tand, av_tor, av_tnot, 
    av_ttrue, av_nil, av_cons, av_tup, av_lst, av_lstm, rda_some, av_app, os_nil, os_cons, osr_nil, cons2_some, osr_cons, av_sl, av_pno, av_pat, av_va, 
    frk_ok, frk_exc, slk_some, av_call, ge_nil, ge_v, ge_p, conss_some, gs_nil, gs_v, gs_p, gp_nil, gp_v, gp_p, hand_nil, hs_lv, hs_di, hs_va, hs_ins, 
    get_nil, put_nil, av_mtl, append_l, av_mtp, vfk_va, vfk_lv, vfk_di, vfk_nlv, vfk_rw, vfk_retf, vfk_next, vfk_exc, fin_eq, oko_nil, oko_t, oko_f, no_va, 
    no_lv, no_di, no_ins, msk_t, msk_f, List.zipWith_cons_cons, List.zipWith_nil_left, Bool.true_and, Bool.and_true, vs_seq, vsk_next, vsk_ret, vsk_retf, 
    vsk_brk, vsk_cont, vsk_exc, vs_nil, vs_brk, vs_cont, vs_expr, vs_ret, vs_retn, vs_retm, vs_reti, vs_if, vs_set, vs_setm, vs_asg, vg_nm, vg_tp, vgs_nil, 
    vgs_cons, vs_par, vs_aug, vs_sub, vs_for, vi_seq, vi_r1, vi_r2, rgk_t, loopv_next, loopv_cont, isBl_bl, truD_bl, truD_int, ty_int, ty_bl, ty_str, 
    ty_non, ty_tup, ty_lst, isi_ap, seqOf_lst, seqOf_tup, add_ii, sub_ii, mul_ii, mulOk_l, mulOk_r, fdiv_ii, divmod_ii, mod_ii, pow_ii, neg_i, ord_ii, 
    is_non, isnt_non, is_bl, isnt_bl, abs_i, int_i, int_b, max_ii, min_ii, len_tup, len_lst, tuple_lst, tuple_tup, list_lst, list_tup, DL.sl_lst, 
    DL.sl_tup, Nat.reduceAdd, Nat.zero_add, Nat.sub_self, List.replicate_zero, List.replicate_succ, List.getElem?_cons_zero, List.getElem?_cons_succ, 
    List.set_cons_zero, List.set_cons_succ, List.map_cons, List.map_nil, List.cons_append, List.nil_append, List.reduceReplicate, Nat.reduceSub, 
    List.length_cons, List.length_nil, if_true, if_false, reduceIte, reduceCtorEq, Bool.false_eq_true, Bool.true_eq_false, sizeLine_eq, Int.reduceToNat, 
    ix_tupm, ix_lstm, atI_0, atI_1, atI_2, atI_3, atI_4, atI_5, Option.bind_some, Bool.not_true, Bool.not_false, Nat.reduceLeDiff, Nat.reduceLT, pow10, 
    Int.natCast_zero, Int.natCast_one, Int.cast_ofNat_Int, Int.reduceBEq, Int.reduceBNe, kb_NoneType_int, kb_NoneType_bool, kb_NoneType_str, 
    kb_NoneType_tuple, kb_NoneType_list, kb_NoneType_dict, kb_bool_int, kb_bool_bool, kb_bool_str, kb_bool_tuple, kb_bool_list, kb_bool_dict, kb_int_int, 
    kb_int_bool, kb_int_str, kb_int_tuple, kb_int_list, kb_int_dict, kb_str_int, kb_str_bool, kb_str_str, kb_str_tuple, kb_str_list, kb_str_dict, 
    kb_tuple_int, kb_tuple_bool, kb_tuple_str, kb_tuple_tuple, kb_tuple_list, kb_tuple_dict, kb_list_int, kb_list_bool, kb_list_str, kb_list_tuple, 
    kb_list_list, kb_list_dict, kb_dict_int, kb_dict_bool, kb_dict_str, kb_dict_tuple, kb_dict_list, kb_dict_dict, Int.reduceLT, Int.reduceLE, 
    Int.reduceEq, Int.reduceNe, Nat.reduceEqDiff, decide_true, decide_false, and_self, and_true, true_and]))) trivial rfl (fun d hd => by
        rw [List.mem_map] at hd
        obtain ⟨c, _, rfl⟩ := hd
        unfold VL_read_number_1
        simp only [env_l, env_t, vb_ok, vb_exc, vo_ok, vo_exc, tv_ok, tv_exc, ov_ev, ov_rd, on_ev, on_rd, op_ev, op_rd, snap_va, snap_lv, snap_di, snapl_lv, snapl_di, 
    rd1_some, rd2_some, av_c, av_val, av_fld, av_op2, av_op1, vbl, av_chain, av_and, av_or, av_tr, av_not, av_if, av_tval, av_tand, av_tor, av_tnot, 
    av_ttrue, av_nil, av_cons, av_tup, av_lst, av_lstm, rda_some, av_app, os_nil, os_cons, osr_nil, cons2_some, osr_cons, av_sl, av_pno, av_pat, av_va, 
    frk_ok, frk_exc, slk_some, av_call, ge_nil, ge_v, ge_p, conss_some, gs_nil, gs_v, gs_p, gp_nil, gp_v, gp_p, hand_nil, hs_lv, hs_di, hs_va, hs_ins, 
    get_nil, put_nil, av_mtl, append_l, av_mtp, vfk_va, vfk_lv, vfk_di, vfk_nlv, vfk_rw, vfk_retf, vfk_next, vfk_exc, fin_eq, oko_nil, oko_t, oko_f, no_va, 
    no_lv, no_di, no_ins, msk_t, msk_f, List.zipWith_cons_cons, List.zipWith_nil_left, Bool.true_and, Bool.and_true, vs_seq, vsk_next, vsk_ret, vsk_retf, 
    vsk_brk, vsk_cont, vsk_exc, vs_nil, vs_brk, vs_cont, vs_expr, vs_ret, vs_retn, vs_retm, vs_reti, vs_if, vs_set, vs_setm, vs_asg, vg_nm, vg_tp, vgs_nil, 
    vgs_cons, vs_par, vs_aug, vs_sub, vs_for, vi_seq, vi_r1, vi_r2, rgk_t, loopv_next, loopv_cont, isBl_bl, truD_bl, truD_int, ty_int, ty_bl, ty_str, 
    ty_non, ty_tup, ty_lst, isi_ap, seqOf_lst, seqOf_tup, add_ii, sub_ii, mul_ii, mulOk_l, mulOk_r, fdiv_ii, divmod_ii, mod_ii, pow_ii, neg_i, ord_ii, 
    is_non, isnt_non, is_bl, isnt_bl, abs_i, int_i, int_b, max_ii, min_ii, len_tup, len_lst, tuple_lst, tuple_tup, list_lst, list_tup, DL.sl_lst, 
    DL.sl_tup, Nat.reduceAdd, Nat.zero_add, Nat.sub_self, List.replicate_zero, List.replicate_succ, List.getElem?_cons_zero, List.getElem?_cons_succ, 
    List.set_cons_zero, List.set_cons_succ, List.map_cons, List.map_nil, List.cons_append, List.nil_append, List.reduceReplicate, Nat.reduceSub, 
    List.length_cons, List.length_nil, if_true, if_false, reduceIte, reduceCtorEq, Bool.false_eq_true, Bool.true_eq_false, sizeLine_eq, Int.reduceToNat, 
    ix_tupm, ix_lstm, atI_0, atI_1, atI_2, atI_3, atI_4, atI_5, Option.bind_some, Bool.not_true, Bool.not_false, Nat.reduceLeDiff, Nat.reduceLT, pow10, 
    Int.natCast_zero, Int.natCast_one, Int.cast_ofNat_Int, Int.reduceBEq, Int.reduceBNe, kb_NoneType_int, kb_NoneType_bool, kb_NoneType_str, 
    kb_NoneType_tuple, kb_NoneType_list, kb_NoneType_dict, kb_bool_int, kb_bool_bool, kb_bool_str, kb_bool_tuple, kb_bool_list, kb_bool_dict, kb_int_int, 
    kb_int_bool, kb_int_str, kb_int_tuple, kb_int_list, kb_int_dict, kb_str_int, kb_str_bool, kb_str_str, kb_str_tuple, kb_str_list, kb_str_dict, 
    kb_tuple_int, kb_tuple_bool, kb_tuple_str, kb_tuple_tuple, kb_tuple_list, kb_tuple_dict, kb_list_int, kb_list_bool, kb_list_str, kb_list_tuple, 
    kb_list_list, kb_list_dict, kb_dict_int, kb_dict_bool, kb_dict_str, kb_dict_tuple, kb_dict_list, kb_dict_dict, Int.reduceLT, Int.reduceLE, 
    Int.reduceEq, Int.reduceNe, Nat.reduceEqDiff, decide_true, decide_false, and_self, and_true, true_and, lit_figs, in_tx]
        rfl) (by rw [List.length_map, sizeLine_eq]; omega)
    rw [this]
    congr 2
    rw [List.map_map, List.map_map]
    exact List.map_congr_left fun c _ => rfl
  have ab := all_bls (f.map isDig)
  rw [List.all_map] at ab
  have ab : allD [.lst ((f.map isDig).map D.bl)] [] = .ok (.bl (f.all isDig)) [] := ab
  -- the way behind the figures
  have tailW : vfK .fr [false] (vsSeq (vsIf (vtOr (vtNot (vtVal (vChain leD leD (oV (vC (.int 1))) (oV (vApp lenD [(oV (vVal 1))])) (oV (vC (.int 60)))))) (vtNot (vTr (oV (vApp allD [(oV (vLc (vcI (viStr (vVal 1))) (vgNm 2) vtTrue VL_read_number_1 [2]))])))))
      (vsRaise 1) vsNil)
      (vsSeq (vsIf (vtAnd (vtVal (vOp2 eqvD (oV (vOp2 ixD (oV (vVal 1)) (oV (vC (.int 0))))) (oV (vC (.str "0"))))) (vtVal (vOp2 nevD (oV (vVal 0)) (oV (vC (.str "0"))))))
      (vsRaise 1) vsNil)
      (vsRet (vApp intSD [(oV (vVal 0))]))) [.va (tx l), .va (tx f), .no]) = numR (rnum l) := by
    unfold rnum
    by_cases h1 : 1 ≤ f.length
    · by_cases h2 : f.length ≤ 60
      · by_cases h3 : f.all isDig = true
        · have d1 : decide ((1 : Int) ≤ (f.length : Int)) = true := decide_eq_true (by omega)
          have d2 : decide ((f.length : Int) ≤ 60) = true := decide_eq_true (by omega)
          obtain ⟨c, f', rfl⟩ : ∃ c f', f = c :: f' := by
            cases f with
            | nil => simp at h1
            | cons c f' => exact ⟨c, f', rfl⟩
          have ix : ixD (tx (c :: f')) (.int 0) [] = .ok (tx [c]) [] := ix0_tx (by rw [sizeLine_eq]; simp at hfl; omega)
          rw [h3] at ab
          have q1 : eqvD (tx [c]) (tx [48]) [] = .ok (.bl (decide (([c] : List Nat) = [48]))) [] := eq_tx
          have q2 : nevD (tx l) (tx [48]) [] = .ok (.bl (!decide (l = [48]))) [] := ne_tx
          by_cases h4 : (decide (([c] : List Nat) = [48]) && !decide (l = [48])) = true
          · have no : numOk l = false := by
              unfold numOk
              rw [hf]
              have : decide ((c :: f').head? = some 48) = decide (([c] : List Nat) = [48]) := by simp
              rw [this, h4]
              simp
            rw [no]
            rw [Bool.and_eq_true] at h4
            rw [h4.1] at q1
            rw [h4.2] at q2
            generalize (c :: f').length = L at *
            generalize ((c :: f').map isDig).map D.bl = B at *
            generalize tx (c :: f') = F at *
            simp only [env_l, env_t, vb_ok, vb_exc, vo_ok, vo_exc, tv_ok, tv_exc, ov_ev, ov_rd, on_ev, on_rd, op_ev, op_rd, snap_va, snap_lv, snap_di, snapl_lv, snapl_di, 
    rd1_some, rd2_some, av_c, av_val, av_fld, av_op2, av_op1, vbl, av_chain, av_and, av_or, av_tr, av_not, av_if, av_tval, av_tand, av_tor, av_tnot, 
    av_ttrue, av_nil, av_cons, av_tup, av_lst, av_lstm, rda_some, av_app, os_nil, os_cons, osr_nil, cons2_some, osr_cons, av_sl, av_pno, av_pat, av_va, 
    frk_ok, frk_exc, slk_some, av_call, ge_nil, ge_v, ge_p, conss_some, gs_nil, gs_v, gs_p, gp_nil, gp_v, gp_p, hand_nil, hs_lv, hs_di, hs_va, hs_ins, 
    get_nil, put_nil, av_mtl, append_l, av_mtp, vfk_va, vfk_lv, vfk_di, vfk_nlv, vfk_rw, vfk_retf, vfk_next, vfk_exc, fin_eq, oko_nil, oko_t, oko_f, no_va, 
    no_lv, no_di, no_ins, msk_t, msk_f, List.zipWith_cons_cons, List.zipWith_nil_left, Bool.true_and, Bool.and_true, vs_seq, vsk_next, vsk_ret, vsk_retf, 
    vsk_brk, vsk_cont, vsk_exc, vs_nil, vs_brk, vs_cont, vs_expr, vs_ret, vs_retn, vs_retm, vs_reti, vs_if, vs_set, vs_setm, vs_asg, vg_nm, vg_tp, vgs_nil, 
    vgs_cons, vs_par, vs_aug, vs_sub, vs_for, vi_seq, vi_r1, vi_r2, rgk_t, loopv_next, loopv_cont, isBl_bl, truD_bl, truD_int, ty_int, ty_bl, ty_str, 
    ty_non, ty_tup, ty_lst, isi_ap, seqOf_lst, seqOf_tup, add_ii, sub_ii, mul_ii, mulOk_l, mulOk_r, fdiv_ii, divmod_ii, mod_ii, pow_ii, neg_i, ord_ii, 
    is_non, isnt_non, is_bl, isnt_bl, abs_i, int_i, int_b, max_ii, min_ii, len_tup, len_lst, tuple_lst, tuple_tup, list_lst, list_tup, DL.sl_lst, 
    DL.sl_tup, Nat.reduceAdd, Nat.zero_add, Nat.sub_self, List.replicate_zero, List.replicate_succ, List.getElem?_cons_zero, List.getElem?_cons_succ, 
    List.set_cons_zero, List.set_cons_succ, List.map_cons, List.map_nil, List.cons_append, List.nil_append, List.reduceReplicate, Nat.reduceSub, 
    List.length_cons, List.length_nil, if_true, if_false, reduceIte, reduceCtorEq, Bool.false_eq_true, Bool.true_eq_false, sizeLine_eq, Int.reduceToNat, 
    ix_tupm, ix_lstm, atI_0, atI_1, atI_2, atI_3, atI_4, atI_5, Option.bind_some, Bool.not_true, Bool.not_false, Nat.reduceLeDiff, Nat.reduceLT, pow10, 
    Int.natCast_zero, Int.natCast_one, Int.cast_ofNat_Int, Int.reduceBEq, Int.reduceBNe, kb_NoneType_int, kb_NoneType_bool, kb_NoneType_str, 
    kb_NoneType_tuple, kb_NoneType_list, kb_NoneType_dict, kb_bool_int, kb_bool_bool, kb_bool_str, kb_bool_tuple, kb_bool_list, kb_bool_dict, kb_int_int, 
    kb_int_bool, kb_int_str, kb_int_tuple, kb_int_list, kb_int_dict, kb_str_int, kb_str_bool, kb_str_str, kb_str_tuple, kb_str_list, kb_str_dict, 
    kb_tuple_int, kb_tuple_bool, kb_tuple_str, kb_tuple_tuple, kb_tuple_list, kb_tuple_dict, kb_list_int, kb_list_bool, kb_list_str, kb_list_tuple, 
    kb_list_list, kb_list_dict, kb_dict_int, kb_dict_bool, kb_dict_str, kb_dict_tuple, kb_dict_list, kb_dict_dict, Int.reduceLT, Int.reduceLE, 
    Int.reduceEq, Int.reduceNe, Nat.reduceEqDiff, decide_true, decide_false, and_self, and_true, true_and, ln, d1, d2, lc, ab, ix, lit_0, q1, q2, vs_raise, 
    vfk_exc]
            rfl
          · have ok : numOk l = true := by
              unfold numOk
              rw [hf, h3, decide_eq_true h1, decide_eq_true h2]
              have : decide ((c :: f').head? = some 48) = decide (([c] : List Nat) = [48]) := by simp
              rw [this, Bool.not_eq_true] at *
              rw [h4]; rfl
            have is : intSD [tx l] [] = .ok (.int (numV l)) [] := intS_tx ok
            rw [if_pos ok]
            generalize (c :: f').length = L at *
            generalize ((c :: f').map isDig).map D.bl = B at *
            generalize tx (c :: f') = F at *
            obtain ⟨b1, e1⟩ : ∃ b, decide (([c] : List Nat) = [48]) = b := ⟨_, rfl⟩
            obtain ⟨b2, e2⟩ : ∃ b, decide (l = [48]) = b := ⟨_, rfl⟩
            rw [e1, e2] at h4
            rw [e1] at q1
            rw [e2] at q2
            cases b1 <;> cases b2 <;> first
              | (exact absurd rfl h4)
              | (simp only [env_l, env_t, vb_ok, vb_exc, vo_ok, vo_exc, tv_ok, tv_exc, ov_ev, ov_rd, on_ev, on_rd, op_ev, op_rd, snap_va, snap_lv, snap_di, snapl_lv, snapl_di, 
    rd1_some, rd2_some, av_c, av_val, av_fld, av_op2, av_op1, vbl, av_chain, av_and, av_or, av_tr, av_not, av_if, av_tval, av_tand, av_tor, av_tnot, 
    av_ttrue, av_nil, av_cons, av_tup, av_lst, av_lstm, rda_some, av_app, os_nil, os_cons, osr_nil, cons2_some, osr_cons, av_sl, av_pno, av_pat, av_va, 
    frk_ok, frk_exc, slk_some, av_call, ge_nil, ge_v, ge_p, conss_some, gs_nil, gs_v, gs_p, gp_nil, gp_v, gp_p, hand_nil, hs_lv, hs_di, hs_va, hs_ins, 
    get_nil, put_nil, av_mtl, append_l, av_mtp, vfk_va, vfk_lv, vfk_di, vfk_nlv, vfk_rw, vfk_retf, vfk_next, vfk_exc, fin_eq, oko_nil, oko_t, oko_f, no_va, 
    no_lv, no_di, no_ins, msk_t, msk_f, List.zipWith_cons_cons, List.zipWith_nil_left, Bool.true_and, Bool.and_true, vs_seq, vsk_next, vsk_ret, vsk_retf, 
    vsk_brk, vsk_cont, vsk_exc, vs_nil, vs_brk, vs_cont, vs_expr, vs_ret, vs_retn, vs_retm, vs_reti, vs_if, vs_set, vs_setm, vs_asg, vg_nm, vg_tp, vgs_nil, 
    vgs_cons, vs_par, vs_aug, vs_sub, vs_for, vi_seq, vi_r1, vi_r2, rgk_t, loopv_next, loopv_cont, isBl_bl, truD_bl, truD_int, ty_int, ty_bl, ty_str, 
    ty_non, ty_tup, ty_lst, isi_ap, seqOf_lst, seqOf_tup, add_ii, sub_ii, mul_ii, mulOk_l, mulOk_r, fdiv_ii, divmod_ii, mod_ii, pow_ii, neg_i, ord_ii, 
    is_non, isnt_non, is_bl, isnt_bl, abs_i, int_i, int_b, max_ii, min_ii, len_tup, len_lst, tuple_lst, tuple_tup, list_lst, list_tup, DL.sl_lst, 
    DL.sl_tup, Nat.reduceAdd, Nat.zero_add, Nat.sub_self, List.replicate_zero, List.replicate_succ, List.getElem?_cons_zero, List.getElem?_cons_succ, 
    List.set_cons_zero, List.set_cons_succ, List.map_cons, List.map_nil, List.cons_append, List.nil_append, List.reduceReplicate, Nat.reduceSub, 
    List.length_cons, List.length_nil, if_true, if_false, reduceIte, reduceCtorEq, Bool.false_eq_true, Bool.true_eq_false, sizeLine_eq, Int.reduceToNat, 
    ix_tupm, ix_lstm, atI_0, atI_1, atI_2, atI_3, atI_4, atI_5, Option.bind_some, Bool.not_true, Bool.not_false, Nat.reduceLeDiff, Nat.reduceLT, pow10, 
    Int.natCast_zero, Int.natCast_one, Int.cast_ofNat_Int, Int.reduceBEq, Int.reduceBNe, kb_NoneType_int, kb_NoneType_bool, kb_NoneType_str, 
    kb_NoneType_tuple, kb_NoneType_list, kb_NoneType_dict, kb_bool_int, kb_bool_bool, kb_bool_str, kb_bool_tuple, kb_bool_list, kb_bool_dict, kb_int_int, 
    kb_int_bool, kb_int_str, kb_int_tuple, kb_int_list, kb_int_dict, kb_str_int, kb_str_bool, kb_str_str, kb_str_tuple, kb_str_list, kb_str_dict, 
    kb_tuple_int, kb_tuple_bool, kb_tuple_str, kb_tuple_tuple, kb_tuple_list, kb_tuple_dict, kb_list_int, kb_list_bool, kb_list_str, kb_list_tuple, 
    kb_list_list, kb_list_dict, kb_dict_int, kb_dict_bool, kb_dict_str, kb_dict_tuple, kb_dict_list, kb_dict_dict, Int.reduceLT, Int.reduceLE, 
    Int.reduceEq, Int.reduceNe, Nat.reduceEqDiff, decide_true, decide_false, and_self, and_true, true_and, ln, d1, d2, lc, ab, ix, lit_0, q1, q2, is]; rfl)
        · have no : numOk l = false := by
            unfold numOk
            rw [hf]
            have : f.all isDig = false := by simpa using h3
            rw [this]; simp
          rw [no]
          have h3' : f.all isDig = false := by simpa using h3
          rw [h3'] at ab
          have d1 : decide ((1 : Int) ≤ (f.length : Int)) = true := decide_eq_true (by omega)
          have d2 : decide ((f.length : Int) ≤ 60) = true := decide_eq_true (by omega)
          simp only [env_l, env_t, vb_ok, vb_exc, vo_ok, vo_exc, tv_ok, tv_exc, ov_ev, ov_rd, on_ev, on_rd, op_ev, op_rd, snap_va, snap_lv, snap_di, snapl_lv, snapl_di, 
    rd1_some, rd2_some, av_c, av_val, av_fld, av_op2, av_op1, vbl, av_chain, av_and, av_or, av_tr, av_not, av_if, av_tval, av_tand, av_tor, av_tnot, 
    av_ttrue, av_nil, av_cons, av_tup, av_lst, av_lstm, rda_some, av_app, os_nil, os_cons, osr_nil, cons2_some, osr_cons, av_sl, av_pno, av_pat, av_va, 
    frk_ok, frk_exc, slk_some, av_call, ge_nil, ge_v, ge_p, conss_some, gs_nil, gs_v, gs_p, gp_nil, gp_v, gp_p, hand_nil, hs_lv, hs_di, hs_va, hs_ins, 
    get_nil, put_nil, av_mtl, append_l, av_mtp, vfk_va, vfk_lv, vfk_di, vfk_nlv, vfk_rw, vfk_retf, vfk_next, vfk_exc, fin_eq, oko_nil, oko_t, oko_f, no_va, 
    no_lv, no_di, no_ins, msk_t, msk_f, List.zipWith_cons_cons, List.zipWith_nil_left, Bool.true_and, Bool.and_true, vs_seq, vsk_next, vsk_ret, vsk_retf, 
    vsk_brk, vsk_cont, vsk_exc, vs_nil, vs_brk, vs_cont, vs_expr, vs_ret, vs_retn, vs_retm, vs_reti, vs_if, vs_set, vs_setm, vs_asg, vg_nm, vg_tp, vgs_nil, 
    vgs_cons, vs_par, vs_aug, vs_sub, vs_for, vi_seq, vi_r1, vi_r2, rgk_t, loopv_next, loopv_cont, isBl_bl, truD_bl, truD_int, ty_int, ty_bl, ty_str, 
    ty_non, ty_tup, ty_lst, isi_ap, seqOf_lst, seqOf_tup, add_ii, sub_ii, mul_ii, mulOk_l, mulOk_r, fdiv_ii, divmod_ii, mod_ii, pow_ii, neg_i, ord_ii, 
    is_non, isnt_non, is_bl, isnt_bl, abs_i, int_i, int_b, max_ii, min_ii, len_tup, len_lst, tuple_lst, tuple_tup, list_lst, list_tup, DL.sl_lst, 
    DL.sl_tup, Nat.reduceAdd, Nat.zero_add, Nat.sub_self, List.replicate_zero, List.replicate_succ, List.getElem?_cons_zero, List.getElem?_cons_succ, 
    List.set_cons_zero, List.set_cons_succ, List.map_cons, List.map_nil, List.cons_append, List.nil_append, List.reduceReplicate, Nat.reduceSub, 
    List.length_cons, List.length_nil, if_true, if_false, reduceIte, reduceCtorEq, Bool.false_eq_true, Bool.true_eq_false, sizeLine_eq, Int.reduceToNat, 
    ix_tupm, ix_lstm, atI_0, atI_1, atI_2, atI_3, atI_4, atI_5, Option.bind_some, Bool.not_true, Bool.not_false, Nat.reduceLeDiff, Nat.reduceLT, pow10, 
    Int.natCast_zero, Int.natCast_one, Int.cast_ofNat_Int, Int.reduceBEq, Int.reduceBNe, kb_NoneType_int, kb_NoneType_bool, kb_NoneType_str, 
    kb_NoneType_tuple, kb_NoneType_list, kb_NoneType_dict, kb_bool_int, kb_bool_bool, kb_bool_str, kb_bool_tuple, kb_bool_list, kb_bool_dict, kb_int_int, 
    kb_int_bool, kb_int_str, kb_int_tuple, kb_int_list, kb_int_dict, kb_str_int, kb_str_bool, kb_str_str, kb_str_tuple, kb_str_list, kb_str_dict, 
    kb_tuple_int, kb_tuple_bool, kb_tuple_str, kb_tuple_tuple, kb_tuple_list, kb_tuple_dict, kb_list_int, kb_list_bool, kb_list_str, kb_list_tuple, 
    kb_list_list, kb_list_dict, kb_dict_int, kb_dict_bool, kb_dict_str, kb_dict_tuple, kb_dict_list, kb_dict_dict, Int.reduceLT, Int.reduceLE, 
    Int.reduceEq, Int.reduceNe, Nat.reduceEqDiff, decide_true, decide_false, and_self, and_true, true_and, ln, d1, d2, lc, ab, vs_raise, vfk_exc]
          rfl
      · have no : numOk l = false := by
          unfold numOk
          rw [hf, decide_eq_false h2]; simp
        rw [no]
        have d1 : decide ((1 : Int) ≤ (f.length : Int)) = true := decide_eq_true (by omega)
        have d2 : decide ((f.length : Int) ≤ 60) = false := decide_eq_false (by omega)
        simp only [env_l, env_t, vb_ok, vb_exc, vo_ok, vo_exc, tv_ok, tv_exc, ov_ev, ov_rd, on_ev, on_rd, op_ev, op_rd, snap_va, snap_lv, snap_di, snapl_lv, snapl_di, 
    rd1_some, rd2_some, av_c, av_val, av_fld, av_op2, av_op1, vbl, av_chain, av_and, av_or, av_tr, av_not, av_if, av_tval, av_tand, av_tor, av_tnot, 
    av_ttrue, av_nil, av_cons, av_tup, av_lst, av_lstm, rda_some, av_app, os_nil, os_cons, osr_nil, cons2_some, osr_cons, av_sl, av_pno, av_pat, av_va, 
    frk_ok, frk_exc, slk_some, av_call, ge_nil, ge_v, ge_p, conss_some, gs_nil, gs_v, gs_p, gp_nil, gp_v, gp_p, hand_nil, hs_lv, hs_di, hs_va, hs_ins, 
    get_nil, put_nil, av_mtl, append_l, av_mtp, vfk_va, vfk_lv, vfk_di, vfk_nlv, vfk_rw, vfk_retf, vfk_next, vfk_exc, fin_eq, oko_nil, oko_t, oko_f, no_va, 
    no_lv, no_di, no_ins, msk_t, msk_f, List.zipWith_cons_cons, List.zipWith_nil_left, Bool.true_and, Bool.and_true, vs_seq, vsk_next, vsk_ret, vsk_retf, 
    vsk_brk, vsk_cont, vsk_exc, vs_nil, vs_brk, vs_cont, vs_expr, vs_ret, vs_retn, vs_retm, vs_reti, vs_if, vs_set, vs_setm, vs_asg, vg_nm, vg_tp, vgs_nil, 
    vgs_cons, vs_par, vs_aug, vs_sub, vs_for, vi_seq, vi_r1, vi_r2, rgk_t, loopv_next, loopv_cont, isBl_bl, truD_bl, truD_int, ty_int, ty_bl, ty_str, 
    ty_non, ty_tup, ty_lst, isi_ap, seqOf_lst, seqOf_tup, add_ii, sub_ii, mul_ii, mulOk_l, mulOk_r, fdiv_ii, divmod_ii, mod_ii, pow_ii, neg_i, ord_ii, 
    is_non, isnt_non, is_bl, isnt_bl, abs_i, int_i, int_b, max_ii, min_ii, len_tup, len_lst, tuple_lst, tuple_tup, list_lst, list_tup, DL.sl_lst, 
    DL.sl_tup, Nat.reduceAdd, Nat.zero_add, Nat.sub_self, List.replicate_zero, List.replicate_succ, List.getElem?_cons_zero, List.getElem?_cons_succ, 
    List.set_cons_zero, List.set_cons_succ, List.map_cons, List.map_nil, List.cons_append, List.nil_append, List.reduceReplicate, Nat.reduceSub, 
    List.length_cons, List.length_nil, if_true, if_false, reduceIte, reduceCtorEq, Bool.false_eq_true, Bool.true_eq_false, sizeLine_eq, Int.reduceToNat, 
    ix_tupm, ix_lstm, atI_0, atI_1, atI_2, atI_3, atI_4, atI_5, Option.bind_some, Bool.not_true, Bool.not_false, Nat.reduceLeDiff, Nat.reduceLT, pow10, 
    Int.natCast_zero, Int.natCast_one, Int.cast_ofNat_Int, Int.reduceBEq, Int.reduceBNe, kb_NoneType_int, kb_NoneType_bool, kb_NoneType_str, 
    kb_NoneType_tuple, kb_NoneType_list, kb_NoneType_dict, kb_bool_int, kb_bool_bool, kb_bool_str, kb_bool_tuple, kb_bool_list, kb_bool_dict, kb_int_int, 
    kb_int_bool, kb_int_str, kb_int_tuple, kb_int_list, kb_int_dict, kb_str_int, kb_str_bool, kb_str_str, kb_str_tuple, kb_str_list, kb_str_dict, 
    kb_tuple_int, kb_tuple_bool, kb_tuple_str, kb_tuple_tuple, kb_tuple_list, kb_tuple_dict, kb_list_int, kb_list_bool, kb_list_str, kb_list_tuple, 
    kb_list_list, kb_list_dict, kb_dict_int, kb_dict_bool, kb_dict_str, kb_dict_tuple, kb_dict_list, kb_dict_dict, Int.reduceLT, Int.reduceLE, 
    Int.reduceEq, Int.reduceNe, Nat.reduceEqDiff, decide_true, decide_false, and_self, and_true, true_and, ln, d1, d2, vs_raise, vfk_exc]
        rfl
    · have no : numOk l = false := by
        unfold numOk
        rw [hf, decide_eq_false h1]; simp
      rw [no]
      have d1 : decide ((1 : Int) ≤ (f.length : Int)) = false := decide_eq_false (by omega)
      simp only [env_l, env_t, vb_ok, vb_exc, vo_ok, vo_exc, tv_ok, tv_exc, ov_ev, ov_rd, on_ev, on_rd, op_ev, op_rd, snap_va, snap_lv, snap_di, snapl_lv, snapl_di, 
    rd1_some, rd2_some, av_c, av_val, av_fld, av_op2, av_op1, vbl, av_chain, av_and, av_or, av_tr, av_not, av_if, av_tval, av_tand, av_tor, av_tnot, 
    av_ttrue, av_nil, av_cons, av_tup, av_lst, av_lstm, rda_some, av_app, os_nil, os_cons, osr_nil, cons2_some, osr_cons, av_sl, av_pno, av_pat, av_va, 
    frk_ok, frk_exc, slk_some, av_call, ge_nil, ge_v, ge_p, conss_some, gs_nil, gs_v, gs_p, gp_nil, gp_v, gp_p, hand_nil, hs_lv, hs_di, hs_va, hs_ins, 
    get_nil, put_nil, av_mtl, append_l, av_mtp, vfk_va, vfk_lv, vfk_di, vfk_nlv, vfk_rw, vfk_retf, vfk_next, vfk_exc, fin_eq, oko_nil, oko_t, oko_f, no_va, 
    no_lv, no_di, no_ins, msk_t, msk_f, List.zipWith_cons_cons, List.zipWith_nil_left, Bool.true_and, Bool.and_true, vs_seq, vsk_next, vsk_ret, vsk_retf, 
    vsk_brk, vsk_cont, vsk_exc, vs_nil, vs_brk, vs_cont, vs_expr, vs_ret, vs_retn, vs_retm, vs_reti, vs_if, vs_set, vs_setm, vs_asg, vg_nm, vg_tp, vgs_nil, 
    vgs_cons, vs_par, vs_aug, vs_sub, vs_for, vi_seq, vi_r1, vi_r2, rgk_t, loopv_next, loopv_cont, isBl_bl, truD_bl, truD_int, ty_int, ty_bl, ty_str, 
    ty_non, ty_tup, ty_lst, isi_ap, seqOf_lst, seqOf_tup, add_ii, sub_ii, mul_ii, mulOk_l, mulOk_r, fdiv_ii, divmod_ii, mod_ii, pow_ii, neg_i, ord_ii, 
    is_non, isnt_non, is_bl, isnt_bl, abs_i, int_i, int_b, max_ii, min_ii, len_tup, len_lst, tuple_lst, tuple_tup, list_lst, list_tup, DL.sl_lst, 
    DL.sl_tup, Nat.reduceAdd, Nat.zero_add, Nat.sub_self, List.replicate_zero, List.replicate_succ, List.getElem?_cons_zero, List.getElem?_cons_succ, 
    List.set_cons_zero, List.set_cons_succ, List.map_cons, List.map_nil, List.cons_append, List.nil_append, List.reduceReplicate, Nat.reduceSub, 
    List.length_cons, List.length_nil, if_true, if_false, reduceIte, reduceCtorEq, Bool.false_eq_true, Bool.true_eq_false, sizeLine_eq, Int.reduceToNat, 
    ix_tupm, ix_lstm, atI_0, atI_1, atI_2, atI_3, atI_4, atI_5, Option.bind_some, Bool.not_true, Bool.not_false, Nat.reduceLeDiff, Nat.reduceLT, pow10, 
    Int.natCast_zero, Int.natCast_one, Int.cast_ofNat_Int, Int.reduceBEq, Int.reduceBNe, kb_NoneType_int, kb_NoneType_bool, kb_NoneType_str, 
    kb_NoneType_tuple, kb_NoneType_list, kb_NoneType_dict, kb_bool_int, kb_bool_bool, kb_bool_str, kb_bool_tuple, kb_bool_list, kb_bool_dict, kb_int_int, 
    kb_int_bool, kb_int_str, kb_int_tuple, kb_int_list, kb_int_dict, kb_str_int, kb_str_bool, kb_str_str, kb_str_tuple, kb_str_list, kb_str_dict, 
    kb_tuple_int, kb_tuple_bool, kb_tuple_str, kb_tuple_tuple, kb_tuple_list, kb_tuple_dict, kb_list_int, kb_list_bool, kb_list_str, kb_list_tuple, 
    kb_list_list, kb_list_dict, kb_dict_int, kb_dict_bool, kb_dict_str, kb_dict_tuple, kb_dict_list, kb_dict_dict, Int.reduceLT, Int.reduceLE, 
    Int.reduceEq, Int.reduceNe, Nat.reduceEqDiff, decide_true, decide_false, and_self, and_true, true_and, ln, d1, vs_raise, vfk_exc]
      rfl
  unfold VF_read_number
  rw [vf_eq rfl]
  unfold V_read_number
  generalize hTW : (vsSeq (vsIf (vtOr (vtNot (vtVal (vChain leD leD (oV (vC (.int 1))) (oV (vApp lenD [(oV (vVal 1))])) (oV (vC (.int 60)))))) (vtNot (vTr (oV (vApp allD [(oV (vLc (vcI (viStr (vVal 1))) (vgNm 2) vtTrue VL_read_number_1 [2]))])))))
      (vsRaise 1) vsNil)
      (vsSeq (vsIf (vtAnd (vtVal (vOp2 eqvD (oV (vOp2 ixD (oV (vVal 1)) (oV (vC (.int 0))))) (oV (vC (.str "0"))))) (vtVal (vOp2 nevD (oV (vVal 0)) (oV (vC (.str "0"))))))
      (vsRaise 1) vsNil)
      (vsRet (vApp intSD [(oV (vVal 0))])))) = TW at *
  unfold figs at hf
  by_cases hp : pre [45] l = true
  · rw [if_pos hp] at hf
    rw [hp] at s1
    subst hf
    simp only [env_l, env_t, vb_ok, vb_exc, vo_ok, vo_exc, tv_ok, tv_exc, ov_ev, ov_rd, on_ev, on_rd, op_ev, op_rd, snap_va, snap_lv, snap_di, snapl_lv, snapl_di, 
    rd1_some, rd2_some, av_c, av_val, av_fld, av_op2, av_op1, vbl, av_chain, av_and, av_or, av_tr, av_not, av_if, av_tval, av_tand, av_tor, av_tnot, 
    av_ttrue, av_nil, av_cons, av_tup, av_lst, av_lstm, rda_some, av_app, os_nil, os_cons, osr_nil, cons2_some, osr_cons, av_sl, av_pno, av_pat, av_va, 
    frk_ok, frk_exc, slk_some, av_call, ge_nil, ge_v, ge_p, conss_some, gs_nil, gs_v, gs_p, gp_nil, gp_v, gp_p, hand_nil, hs_lv, hs_di, hs_va, hs_ins, 
    get_nil, put_nil, av_mtl, append_l, av_mtp, vfk_va, vfk_lv, vfk_di, vfk_nlv, vfk_rw, vfk_retf, vfk_next, vfk_exc, fin_eq, oko_nil, oko_t, oko_f, no_va, 
    no_lv, no_di, no_ins, msk_t, msk_f, List.zipWith_cons_cons, List.zipWith_nil_left, Bool.true_and, Bool.and_true, vs_seq, vsk_next, vsk_ret, vsk_retf, 
    vsk_brk, vsk_cont, vsk_exc, vs_nil, vs_brk, vs_cont, vs_expr, vs_ret, vs_retn, vs_retm, vs_reti, vs_if, vs_set, vs_setm, vs_asg, vg_nm, vg_tp, vgs_nil, 
    vgs_cons, vs_par, vs_aug, vs_sub, vs_for, vi_seq, vi_r1, vi_r2, rgk_t, loopv_next, loopv_cont, isBl_bl, truD_bl, truD_int, ty_int, ty_bl, ty_str, 
    ty_non, ty_tup, ty_lst, isi_ap, seqOf_lst, seqOf_tup, add_ii, sub_ii, mul_ii, mulOk_l, mulOk_r, fdiv_ii, divmod_ii, mod_ii, pow_ii, neg_i, ord_ii, 
    is_non, isnt_non, is_bl, isnt_bl, abs_i, int_i, int_b, max_ii, min_ii, len_tup, len_lst, tuple_lst, tuple_tup, list_lst, list_tup, DL.sl_lst, 
    DL.sl_tup, Nat.reduceAdd, Nat.zero_add, Nat.sub_self, List.replicate_zero, List.replicate_succ, List.getElem?_cons_zero, List.getElem?_cons_succ, 
    List.set_cons_zero, List.set_cons_succ, List.map_cons, List.map_nil, List.cons_append, List.nil_append, List.reduceReplicate, Nat.reduceSub, 
    List.length_cons, List.length_nil, if_true, if_false, reduceIte, reduceCtorEq, Bool.false_eq_true, Bool.true_eq_false, sizeLine_eq, Int.reduceToNat, 
    ix_tupm, ix_lstm, atI_0, atI_1, atI_2, atI_3, atI_4, atI_5, Option.bind_some, Bool.not_true, Bool.not_false, Nat.reduceLeDiff, Nat.reduceLT, pow10, 
    Int.natCast_zero, Int.natCast_one, Int.cast_ofNat_Int, Int.reduceBEq, Int.reduceBNe, kb_NoneType_int, kb_NoneType_bool, kb_NoneType_str, 
    kb_NoneType_tuple, kb_NoneType_list, kb_NoneType_dict, kb_bool_int, kb_bool_bool, kb_bool_str, kb_bool_tuple, kb_bool_list, kb_bool_dict, kb_int_int, 
    kb_int_bool, kb_int_str, kb_int_tuple, kb_int_list, kb_int_dict, kb_str_int, kb_str_bool, kb_str_str, kb_str_tuple, kb_str_list, kb_str_dict, 
    kb_tuple_int, kb_tuple_bool, kb_tuple_str, kb_tuple_tuple, kb_tuple_list, kb_tuple_dict, kb_list_int, kb_list_bool, kb_list_str, kb_list_tuple, 
    kb_list_list, kb_list_dict, kb_dict_int, kb_dict_bool, kb_dict_str, kb_dict_tuple, kb_dict_list, kb_dict_dict, Int.reduceLT, Int.reduceLE, 
    Int.reduceEq, Int.reduceNe, Nat.reduceEqDiff, decide_true, decide_false, and_self, and_true, true_and, lk, lit_dash, av_mt1, ty_tx, s1, av_slx, sl]
    exact tailW
  · rw [if_neg hp] at hf
    rw [Bool.not_eq_true] at hp
    rw [hp] at s1
    subst hf
    simp only [env_l, env_t, vb_ok, vb_exc, vo_ok, vo_exc, tv_ok, tv_exc, ov_ev, ov_rd, on_ev, on_rd, op_ev, op_rd, snap_va, snap_lv, snap_di, snapl_lv, snapl_di, 
    rd1_some, rd2_some, av_c, av_val, av_fld, av_op2, av_op1, vbl, av_chain, av_and, av_or, av_tr, av_not, av_if, av_tval, av_tand, av_tor, av_tnot, 
    av_ttrue, av_nil, av_cons, av_tup, av_lst, av_lstm, rda_some, av_app, os_nil, os_cons, osr_nil, cons2_some, osr_cons, av_sl, av_pno, av_pat, av_va, 
    frk_ok, frk_exc, slk_some, av_call, ge_nil, ge_v, ge_p, conss_some, gs_nil, gs_v, gs_p, gp_nil, gp_v, gp_p, hand_nil, hs_lv, hs_di, hs_va, hs_ins, 
    get_nil, put_nil, av_mtl, append_l, av_mtp, vfk_va, vfk_lv, vfk_di, vfk_nlv, vfk_rw, vfk_retf, vfk_next, vfk_exc, fin_eq, oko_nil, oko_t, oko_f, no_va, 
    no_lv, no_di, no_ins, msk_t, msk_f, List.zipWith_cons_cons, List.zipWith_nil_left, Bool.true_and, Bool.and_true, vs_seq, vsk_next, vsk_ret, vsk_retf, 
    vsk_brk, vsk_cont, vsk_exc, vs_nil, vs_brk, vs_cont, vs_expr, vs_ret, vs_retn, vs_retm, vs_reti, vs_if, vs_set, vs_setm, vs_asg, vg_nm, vg_tp, vgs_nil, 
    vgs_cons, vs_par, vs_aug, vs_sub, vs_for, vi_seq, vi_r1, vi_r2, rgk_t, loopv_next, loopv_cont, isBl_bl, truD_bl, truD_int, ty_int, ty_bl, ty_str, 
    ty_non, ty_tup, ty_lst, isi_ap, seqOf_lst, seqOf_tup, add_ii, sub_ii, mul_ii, mulOk_l, mulOk_r, fdiv_ii, divmod_ii, mod_ii, pow_ii, neg_i, ord_ii, 
    is_non, isnt_non, is_bl, isnt_bl, abs_i, int_i, int_b, max_ii, min_ii, len_tup, len_lst, tuple_lst, tuple_tup, list_lst, list_tup, DL.sl_lst, 
    DL.sl_tup, Nat.reduceAdd, Nat.zero_add, Nat.sub_self, List.replicate_zero, List.replicate_succ, List.getElem?_cons_zero, List.getElem?_cons_succ, 
    List.set_cons_zero, List.set_cons_succ, List.map_cons, List.map_nil, List.cons_append, List.nil_append, List.reduceReplicate, Nat.reduceSub, 
    List.length_cons, List.length_nil, if_true, if_false, reduceIte, reduceCtorEq, Bool.false_eq_true, Bool.true_eq_false, sizeLine_eq, Int.reduceToNat, 
    ix_tupm, ix_lstm, atI_0, atI_1, atI_2, atI_3, atI_4, atI_5, Option.bind_some, Bool.not_true, Bool.not_false, Nat.reduceLeDiff, Nat.reduceLT, pow10, 
    Int.natCast_zero, Int.natCast_one, Int.cast_ofNat_Int, Int.reduceBEq, Int.reduceBNe, kb_NoneType_int, kb_NoneType_bool, kb_NoneType_str, 
    kb_NoneType_tuple, kb_NoneType_list, kb_NoneType_dict, kb_bool_int, kb_bool_bool, kb_bool_str, kb_bool_tuple, kb_bool_list, kb_bool_dict, kb_int_int, 
    kb_int_bool, kb_int_str, kb_int_tuple, kb_int_list, kb_int_dict, kb_str_int, kb_str_bool, kb_str_str, kb_str_tuple, kb_str_list, kb_str_dict, 
    kb_tuple_int, kb_tuple_bool, kb_tuple_str, kb_tuple_tuple, kb_tuple_list, kb_tuple_dict, kb_list_int, kb_list_bool, kb_list_str, kb_list_tuple, 
    kb_list_list, kb_list_dict, kb_dict_int, kb_dict_bool, kb_dict_str, kb_dict_tuple, kb_dict_list, kb_dict_dict, Int.reduceLT, Int.reduceLE, 
    Int.reduceEq, Int.reduceNe, Nat.reduceEqDiff, decide_true, decide_false, and_self, and_true, true_and, lk, lit_dash, av_mt1, ty_tx, s1]
    exact tailW
end LW

namespace LW
open PySem PySem.Spec PyProof.Rows L2 DL VL
/-! cells, mixed numbers -/
def mixed (c : Int) : Int := (c % 2147483647 + 11) * 48271 * 69621 % 2147483629
theorem v_mixed (c : Int) : VF__law_mixed [.va (.int c)] = .ok (.va (.int (mixed c))) [.no] := by
  refine vf_ret (e := [.va (.int c)]) (r := .va (.int (mixed c))) ?_ rfl rfl rfl
  unfold V__law_mixed mixed
  have h1 : (48271 : Int).natAbs < 2 ^ 64 := by decide
  have h2 : (69621 : Int).natAbs < 2 ^ 64 := by decide
  simp only [env_l, env_t, vb_ok, vb_exc, vo_ok, vo_exc, tv_ok, tv_exc, ov_ev, ov_rd, on_ev, on_rd, op_ev, op_rd, snap_va, snap_lv, snap_di, snapl_lv, snapl_di, 
    rd1_some, rd2_some, av_c, av_val, av_fld, av_op2, av_op1, vbl, av_chain, av_and, av_or, av_tr, av_not, av_if, av_tval, av_tand, av_tor, av_tnot, 
    av_ttrue, av_nil, av_cons, av_tup, av_lst, av_lstm, rda_some, av_app, os_nil, os_cons, osr_nil, cons2_some, osr_cons, av_sl, av_pno, av_pat, av_va, 
    frk_ok, frk_exc, slk_some, av_call, ge_nil, ge_v, ge_p, conss_some, gs_nil, gs_v, gs_p, gp_nil, gp_v, gp_p, hand_nil, hs_lv, hs_di, hs_va, hs_ins, 
    get_nil, put_nil, av_mtl, append_l, av_mtp, vfk_va, vfk_lv, vfk_di, vfk_nlv, vfk_rw, vfk_retf, vfk_next, vfk_exc, fin_eq, oko_nil, oko_t, oko_f, no_va, 
    no_lv, no_di, no_ins, msk_t, msk_f, List.zipWith_cons_cons, List.zipWith_nil_left, Bool.true_and, Bool.and_true, vs_seq, vsk_next, vsk_ret, vsk_retf, 
    vsk_brk, vsk_cont, vsk_exc, vs_nil, vs_brk, vs_cont, vs_expr, vs_ret, vs_retn, vs_retm, vs_reti, vs_if, vs_set, vs_setm, vs_asg, vg_nm, vg_tp, vgs_nil, 
    vgs_cons, vs_par, vs_aug, vs_sub, vs_for, vi_seq, vi_r1, vi_r2, rgk_t, loopv_next, loopv_cont, isBl_bl, truD_bl, truD_int, ty_int, ty_bl, ty_str, 
    ty_non, ty_tup, ty_lst, isi_ap, seqOf_lst, seqOf_tup, add_ii, sub_ii, mul_ii, mulOk_l, mulOk_r, fdiv_ii, divmod_ii, mod_ii, pow_ii, neg_i, ord_ii, 
    is_non, isnt_non, is_bl, isnt_bl, abs_i, int_i, int_b, max_ii, min_ii, len_tup, len_lst, tuple_lst, tuple_tup, list_lst, list_tup, DL.sl_lst, 
    DL.sl_tup, Nat.reduceAdd, Nat.zero_add, Nat.sub_self, List.replicate_zero, List.replicate_succ, List.getElem?_cons_zero, List.getElem?_cons_succ, 
    List.set_cons_zero, List.set_cons_succ, List.map_cons, List.map_nil, List.cons_append, List.nil_append, List.reduceReplicate, Nat.reduceSub, 
    List.length_cons, List.length_nil, if_true, if_false, reduceIte, reduceCtorEq, Bool.false_eq_true, Bool.true_eq_false, sizeLine_eq, Int.reduceToNat, 
    ix_tupm, ix_lstm, atI_0, atI_1, atI_2, atI_3, atI_4, atI_5, Option.bind_some, Bool.not_true, Bool.not_false, Nat.reduceLeDiff, Nat.reduceLT, pow10, 
    Int.natCast_zero, Int.natCast_one, Int.cast_ofNat_Int, Int.reduceBEq, Int.reduceBNe, kb_NoneType_int, kb_NoneType_bool, kb_NoneType_str, 
    kb_NoneType_tuple, kb_NoneType_list, kb_NoneType_dict, kb_bool_int, kb_bool_bool, kb_bool_str, kb_bool_tuple, kb_bool_list, kb_bool_dict, kb_int_int, 
    kb_int_bool, kb_int_str, kb_int_tuple, kb_int_list, kb_int_dict, kb_str_int, kb_str_bool, kb_str_str, kb_str_tuple, kb_str_list, kb_str_dict, 
    kb_tuple_int, kb_tuple_bool, kb_tuple_str, kb_tuple_tuple, kb_tuple_list, kb_tuple_dict, kb_list_int, kb_list_bool, kb_list_str, kb_list_tuple, 
    kb_list_list, kb_list_dict, kb_dict_int, kb_dict_bool, kb_dict_str, kb_dict_tuple, kb_dict_list, kb_dict_dict, Int.reduceLT, Int.reduceLE, 
    Int.reduceEq, Int.reduceNe, Nat.reduceEqDiff, decide_true, decide_false, and_self, and_true, true_and, mul_ii (mulOk_r h1), mul_ii (mulOk_r h2)]
def cellOf (ns : List Int) (k : Nat) : Int := ns.getD k 0
theorem atI_map {ns : List Int} {k : Nat} {x : Int} (h : ns[k]? = some x) : atI (ns.map D.int) (k : Int) = some (.int x) := by
  have hk := (List.getElem?_eq_some_iff.mp h).1
  rw [atI_lit rfl (by simpa using hk), List.getElem?_map, h]; rfl
end LW

namespace LW
open PySem PySem.Spec PyProof.Rows L2 DL VL PySem.StrLaws TL
/-! k61: numbers and coins -/
theorem slx_to {l : List Nat} {k : Nat} {S : Sto} (hz : l.length ≤ sizeLine) : slxD (tx l) none (some (k : Int)) S = .ok (tx (l.take k)) S := by
  rw [slx_tx hz, tx_str]
  congr 2
  rw [cutS_eq, tl_mkx, len_mk, HT.sIx_none, HT.sIx_nat, List.drop_zero, Nat.sub_zero]
  rcases Nat.le_total k l.length with h | h
  · rw [Nat.min_eq_left h]
  · rw [Nat.min_eq_right h, List.take_of_length_le h, List.take_of_length_le (Nat.le_refl _)]
theorem lit_point : D.str (Str.ofString ".") = tx [46] := rfl
/-! what is no text -/
def Odd (d : D) : Prop := ∃ t, tyD [] d = some t ∧ kitB t "str" = some false
theorem v_looked_no {d : D} (h : Odd d) : VF_looked_text [.va d] = .exc 1 [.no] := by
  obtain ⟨t, h1, h2⟩ := h
  unfold VF_looked_text
  rw [vf_eq rfl]
  unfold V_looked_text
  simp only [env_l, env_t, vb_ok, vb_exc, vo_ok, vo_exc, tv_ok, tv_exc, ov_ev, ov_rd, on_ev, on_rd, op_ev, op_rd, snap_va, snap_lv, snap_di, snapl_lv, snapl_di, 
    rd1_some, rd2_some, av_c, av_val, av_fld, av_op2, av_op1, vbl, av_chain, av_and, av_or, av_tr, av_not, av_if, av_tval, av_tand, av_tor, av_tnot, 
    av_ttrue, av_nil, av_cons, av_tup, av_lst, av_lstm, rda_some, av_app, os_nil, os_cons, osr_nil, cons2_some, osr_cons, av_sl, av_pno, av_pat, av_va, 
    frk_ok, frk_exc, slk_some, av_call, ge_nil, ge_v, ge_p, conss_some, gs_nil, gs_v, gs_p, gp_nil, gp_v, gp_p, hand_nil, hs_lv, hs_di, hs_va, hs_ins, 
    get_nil, put_nil, av_mtl, append_l, av_mtp, vfk_va, vfk_lv, vfk_di, vfk_nlv, vfk_rw, vfk_retf, vfk_next, vfk_exc, fin_eq, oko_nil, oko_t, oko_f, no_va, 
    no_lv, no_di, no_ins, msk_t, msk_f, List.zipWith_cons_cons, List.zipWith_nil_left, Bool.true_and, Bool.and_true, vs_seq, vsk_next, vsk_ret, vsk_retf, 
    vsk_brk, vsk_cont, vsk_exc, vs_nil, vs_brk, vs_cont, vs_expr, vs_ret, vs_retn, vs_retm, vs_reti, vs_if, vs_set, vs_setm, vs_asg, vg_nm, vg_tp, vgs_nil, 
    vgs_cons, vs_par, vs_aug, vs_sub, vs_for, vi_seq, vi_r1, vi_r2, rgk_t, loopv_next, loopv_cont, isBl_bl, truD_bl, truD_int, ty_int, ty_bl, ty_str, 
    ty_non, ty_tup, ty_lst, isi_ap, seqOf_lst, seqOf_tup, add_ii, sub_ii, mul_ii, mulOk_l, mulOk_r, fdiv_ii, divmod_ii, mod_ii, pow_ii, neg_i, ord_ii, 
    is_non, isnt_non, is_bl, isnt_bl, abs_i, int_i, int_b, max_ii, min_ii, len_tup, len_lst, tuple_lst, tuple_tup, list_lst, list_tup, DL.sl_lst, 
    DL.sl_tup, Nat.reduceAdd, Nat.zero_add, Nat.sub_self, List.replicate_zero, List.replicate_succ, List.getElem?_cons_zero, List.getElem?_cons_succ, 
    List.set_cons_zero, List.set_cons_succ, List.map_cons, List.map_nil, List.cons_append, List.nil_append, List.reduceReplicate, Nat.reduceSub, 
    List.length_cons, List.length_nil, if_true, if_false, reduceIte, reduceCtorEq, Bool.false_eq_true, Bool.true_eq_false, sizeLine_eq, Int.reduceToNat, 
    ix_tupm, ix_lstm, atI_0, atI_1, atI_2, atI_3, atI_4, atI_5, Option.bind_some, Bool.not_true, Bool.not_false, Nat.reduceLeDiff, Nat.reduceLT, pow10, 
    Int.natCast_zero, Int.natCast_one, Int.cast_ofNat_Int, Int.reduceBEq, Int.reduceBNe, kb_NoneType_int, kb_NoneType_bool, kb_NoneType_str, 
    kb_NoneType_tuple, kb_NoneType_list, kb_NoneType_dict, kb_bool_int, kb_bool_bool, kb_bool_str, kb_bool_tuple, kb_bool_list, kb_bool_dict, kb_int_int, 
    kb_int_bool, kb_int_str, kb_int_tuple, kb_int_list, kb_int_dict, kb_str_int, kb_str_bool, kb_str_str, kb_str_tuple, kb_str_list, kb_str_dict, 
    kb_tuple_int, kb_tuple_bool, kb_tuple_str, kb_tuple_tuple, kb_tuple_list, kb_tuple_dict, kb_list_int, kb_list_bool, kb_list_str, kb_list_tuple, 
    kb_list_list, kb_list_dict, kb_dict_int, kb_dict_bool, kb_dict_str, kb_dict_tuple, kb_dict_list, kb_dict_dict, Int.reduceLT, Int.reduceLE, 
    Int.reduceEq, Int.reduceNe, Nat.reduceEqDiff, decide_true, decide_false, and_self, and_true, true_and, h1, h2, vs_raise, vfk_exc]
theorem v_readnum_no {d : D} (h : Odd d) : VF_read_number [.va d] = .exc 1 [.no] := by
  have lk := v_looked_no h
  unfold VF_read_number
  rw [vf_eq rfl]
  unfold V_read_number
  simp only [env_l, env_t, vb_ok, vb_exc, vo_ok, vo_exc, tv_ok, tv_exc, ov_ev, ov_rd, on_ev, on_rd, op_ev, op_rd, snap_va, snap_lv, snap_di, snapl_lv, snapl_di, 
    rd1_some, rd2_some, av_c, av_val, av_fld, av_op2, av_op1, vbl, av_chain, av_and, av_or, av_tr, av_not, av_if, av_tval, av_tand, av_tor, av_tnot, 
    av_ttrue, av_nil, av_cons, av_tup, av_lst, av_lstm, rda_some, av_app, os_nil, os_cons, osr_nil, cons2_some, osr_cons, av_sl, av_pno, av_pat, av_va, 
    frk_ok, frk_exc, slk_some, av_call, ge_nil, ge_v, ge_p, conss_some, gs_nil, gs_v, gs_p, gp_nil, gp_v, gp_p, hand_nil, hs_lv, hs_di, hs_va, hs_ins, 
    get_nil, put_nil, av_mtl, append_l, av_mtp, vfk_va, vfk_lv, vfk_di, vfk_nlv, vfk_rw, vfk_retf, vfk_next, vfk_exc, fin_eq, oko_nil, oko_t, oko_f, no_va, 
    no_lv, no_di, no_ins, msk_t, msk_f, List.zipWith_cons_cons, List.zipWith_nil_left, Bool.true_and, Bool.and_true, vs_seq, vsk_next, vsk_ret, vsk_retf, 
    vsk_brk, vsk_cont, vsk_exc, vs_nil, vs_brk, vs_cont, vs_expr, vs_ret, vs_retn, vs_retm, vs_reti, vs_if, vs_set, vs_setm, vs_asg, vg_nm, vg_tp, vgs_nil, 
    vgs_cons, vs_par, vs_aug, vs_sub, vs_for, vi_seq, vi_r1, vi_r2, rgk_t, loopv_next, loopv_cont, isBl_bl, truD_bl, truD_int, ty_int, ty_bl, ty_str, 
    ty_non, ty_tup, ty_lst, isi_ap, seqOf_lst, seqOf_tup, add_ii, sub_ii, mul_ii, mulOk_l, mulOk_r, fdiv_ii, divmod_ii, mod_ii, pow_ii, neg_i, ord_ii, 
    is_non, isnt_non, is_bl, isnt_bl, abs_i, int_i, int_b, max_ii, min_ii, len_tup, len_lst, tuple_lst, tuple_tup, list_lst, list_tup, DL.sl_lst, 
    DL.sl_tup, Nat.reduceAdd, Nat.zero_add, Nat.sub_self, List.replicate_zero, List.replicate_succ, List.getElem?_cons_zero, List.getElem?_cons_succ, 
    List.set_cons_zero, List.set_cons_succ, List.map_cons, List.map_nil, List.cons_append, List.nil_append, List.reduceReplicate, Nat.reduceSub, 
    List.length_cons, List.length_nil, if_true, if_false, reduceIte, reduceCtorEq, Bool.false_eq_true, Bool.true_eq_false, sizeLine_eq, Int.reduceToNat, 
    ix_tupm, ix_lstm, atI_0, atI_1, atI_2, atI_3, atI_4, atI_5, Option.bind_some, Bool.not_true, Bool.not_false, Nat.reduceLeDiff, Nat.reduceLT, pow10, 
    Int.natCast_zero, Int.natCast_one, Int.cast_ofNat_Int, Int.reduceBEq, Int.reduceBNe, kb_NoneType_int, kb_NoneType_bool, kb_NoneType_str, 
    kb_NoneType_tuple, kb_NoneType_list, kb_NoneType_dict, kb_bool_int, kb_bool_bool, kb_bool_str, kb_bool_tuple, kb_bool_list, kb_bool_dict, kb_int_int, 
    kb_int_bool, kb_int_str, kb_int_tuple, kb_int_list, kb_int_dict, kb_str_int, kb_str_bool, kb_str_str, kb_str_tuple, kb_str_list, kb_str_dict, 
    kb_tuple_int, kb_tuple_bool, kb_tuple_str, kb_tuple_tuple, kb_tuple_list, kb_tuple_dict, kb_list_int, kb_list_bool, kb_list_str, kb_list_tuple, 
    kb_list_list, kb_list_dict, kb_dict_int, kb_dict_bool, kb_dict_str, kb_dict_tuple, kb_dict_list, kb_dict_dict, Int.reduceLT, Int.reduceLE, 
    Int.reduceEq, Int.reduceNe, Nat.reduceEqDiff, decide_true, decide_false, and_self, and_true, true_and, lk, vfk_exc]
theorem v_readcoin_no {d : D} (h : Odd d) : VF_read_coin [.va d] = .exc 1 [.no] := by
  have lk := v_looked_no h
  unfold VF_read_coin
  rw [vf_eq rfl]
  unfold V_read_coin
  simp only [env_l, env_t, vb_ok, vb_exc, vo_ok, vo_exc, tv_ok, tv_exc, ov_ev, ov_rd, on_ev, on_rd, op_ev, op_rd, snap_va, snap_lv, snap_di, snapl_lv, snapl_di, 
    rd1_some, rd2_some, av_c, av_val, av_fld, av_op2, av_op1, vbl, av_chain, av_and, av_or, av_tr, av_not, av_if, av_tval, av_tand, av_tor, av_tnot, 
    av_ttrue, av_nil, av_cons, av_tup, av_lst, av_lstm, rda_some, av_app, os_nil, os_cons, osr_nil, cons2_some, osr_cons, av_sl, av_pno, av_pat, av_va, 
    frk_ok, frk_exc, slk_some, av_call, ge_nil, ge_v, ge_p, conss_some, gs_nil, gs_v, gs_p, gp_nil, gp_v, gp_p, hand_nil, hs_lv, hs_di, hs_va, hs_ins, 
    get_nil, put_nil, av_mtl, append_l, av_mtp, vfk_va, vfk_lv, vfk_di, vfk_nlv, vfk_rw, vfk_retf, vfk_next, vfk_exc, fin_eq, oko_nil, oko_t, oko_f, no_va, 
    no_lv, no_di, no_ins, msk_t, msk_f, List.zipWith_cons_cons, List.zipWith_nil_left, Bool.true_and, Bool.and_true, vs_seq, vsk_next, vsk_ret, vsk_retf, 
    vsk_brk, vsk_cont, vsk_exc, vs_nil, vs_brk, vs_cont, vs_expr, vs_ret, vs_retn, vs_retm, vs_reti, vs_if, vs_set, vs_setm, vs_asg, vg_nm, vg_tp, vgs_nil, 
    vgs_cons, vs_par, vs_aug, vs_sub, vs_for, vi_seq, vi_r1, vi_r2, rgk_t, loopv_next, loopv_cont, isBl_bl, truD_bl, truD_int, ty_int, ty_bl, ty_str, 
    ty_non, ty_tup, ty_lst, isi_ap, seqOf_lst, seqOf_tup, add_ii, sub_ii, mul_ii, mulOk_l, mulOk_r, fdiv_ii, divmod_ii, mod_ii, pow_ii, neg_i, ord_ii, 
    is_non, isnt_non, is_bl, isnt_bl, abs_i, int_i, int_b, max_ii, min_ii, len_tup, len_lst, tuple_lst, tuple_tup, list_lst, list_tup, DL.sl_lst, 
    DL.sl_tup, Nat.reduceAdd, Nat.zero_add, Nat.sub_self, List.replicate_zero, List.replicate_succ, List.getElem?_cons_zero, List.getElem?_cons_succ, 
    List.set_cons_zero, List.set_cons_succ, List.map_cons, List.map_nil, List.cons_append, List.nil_append, List.reduceReplicate, Nat.reduceSub, 
    List.length_cons, List.length_nil, if_true, if_false, reduceIte, reduceCtorEq, Bool.false_eq_true, Bool.true_eq_false, sizeLine_eq, Int.reduceToNat, 
    ix_tupm, ix_lstm, atI_0, atI_1, atI_2, atI_3, atI_4, atI_5, Option.bind_some, Bool.not_true, Bool.not_false, Nat.reduceLeDiff, Nat.reduceLT, pow10, 
    Int.natCast_zero, Int.natCast_one, Int.cast_ofNat_Int, Int.reduceBEq, Int.reduceBNe, kb_NoneType_int, kb_NoneType_bool, kb_NoneType_str, 
    kb_NoneType_tuple, kb_NoneType_list, kb_NoneType_dict, kb_bool_int, kb_bool_bool, kb_bool_str, kb_bool_tuple, kb_bool_list, kb_bool_dict, kb_int_int, 
    kb_int_bool, kb_int_str, kb_int_tuple, kb_int_list, kb_int_dict, kb_str_int, kb_str_bool, kb_str_str, kb_str_tuple, kb_str_list, kb_str_dict, 
    kb_tuple_int, kb_tuple_bool, kb_tuple_str, kb_tuple_tuple, kb_tuple_list, kb_tuple_dict, kb_list_int, kb_list_bool, kb_list_str, kb_list_tuple, 
    kb_list_list, kb_list_dict, kb_dict_int, kb_dict_bool, kb_dict_str, kb_dict_tuple, kb_dict_list, kb_dict_dict, Int.reduceLT, Int.reduceLE, 
    Int.reduceEq, Int.reduceNe, Nat.reduceEqDiff, decide_true, decide_false, and_self, and_true, true_and, lk, av_mt1, vfk_exc]
/-! coins read -/
def rcoin (l : List Nat) : Option (Int × Int) := match spl [46] 0 [] l with
  | [p, q] => if 45 ∈ l then none else (match rnum p, rnum q with
    | some a, some b => some (a, b)
    | _, _ => none)
  | _ => none
def coinR (o : Option (Int × Int)) : FR := match o with
  | some (a, b) => .ok (.va (.tup [.int a, .int b])) [.no]
  | none => .exc 1 [.no]
theorem spl_sum (S : List Nat) : ∀ (l acc : List Nat) (k : Nat), ∀ p ∈ spl S k acc l, p.length ≤ acc.length + l.length
  | [], acc, k, p, hp => by
    rw [spl_nil] at hp
    obtain rfl := List.mem_singleton.mp hp
    simp
  | c :: r, acc, k + 1, p, hp => by
    have := spl_sum S r acc k p hp
    simp; omega
  | c :: r, acc, 0, p, hp => by
    cases hq : pre S (c :: r) with
    | true =>
      rw [spl_hit hq] at hp
      rcases List.mem_cons.mp hp with rfl | hp
      · simp
      · have := spl_sum S r [] _ p hp
        simp at *; omega
    | false =>
      rw [spl_miss hq] at hp
      have := spl_sum S r (acc ++ [c]) 0 p hp
      simp at *; omega
theorem v_readcoinG (l : List Nat) (hz : l.length ≤ 10000) : VF_read_coin [.va (tx l)] = coinR (rcoin l) := by
  have lk := v_looked l
  have ty1 : tyD [] (tx l) = some "str" := rfl
  have sp : splitD (tx l) [tx [46]] [] = .ok (.lst ((spl [46] 0 [] l).map tx)) [] := split_tx (by simp) (by decide) (by omega)
  have im : inD (tx [45]) (tx l) [] = .ok (.bl (decide (45 ∈ l))) [] := in_tx
  have hs := spl_sum [46] l [] 0
  unfold rcoin
  match hp : spl [46] 0 [] l with
  | [p, q] =>
    show VF_read_coin [.va (tx l)] = coinR (if 45 ∈ l then none else (match rnum p, rnum q with
      | some a, some b => some (a, b)
      | _, _ => none))
    rw [hp] at sp hs
    have hp1 : p.length ≤ 10000 := by have := hs p (by simp); simp at this; omega
    have hq1 : q.length ≤ 10000 := by have := hs q (by simp); simp at this; omega
    have r1 := v_readnum p hp1
    have r2 := v_readnum q hq1
    have i0 : ixD (.lst [tx p, tx q]) (.int 0) [] = .ok (tx p) [] := rfl
    have i1 : ixD (.lst [tx p, tx q]) (.int 1) [] = .ok (tx q) [] := rfl
    have n2 : nevD (.int 2) (.int 2) [] = .ok (.bl false) [] := by rw [nev_ii]; rfl
    simp only [List.map_cons, List.map_nil] at sp
    unfold VF_read_coin
    rw [vf_eq rfl]
    unfold V_read_coin
    generalize tx l = T at *
    generalize tx p = TP at *
    generalize tx q = TQ at *
    by_cases h45 : 45 ∈ l
    · rw [decide_eq_true h45] at im
      rw [if_pos h45]
      show _ = FR.exc 1 [.no]
      simp only [env_l, env_t, vb_ok, vb_exc, vo_ok, vo_exc, tv_ok, tv_exc, ov_ev, ov_rd, on_ev, on_rd, op_ev, op_rd, snap_va, snap_lv, snap_di, snapl_lv, snapl_di, 
    rd1_some, rd2_some, av_c, av_val, av_fld, av_op2, av_op1, vbl, av_chain, av_and, av_or, av_tr, av_not, av_if, av_tval, av_tand, av_tor, av_tnot, 
    av_ttrue, av_nil, av_cons, av_tup, av_lst, av_lstm, rda_some, av_app, os_nil, os_cons, osr_nil, cons2_some, osr_cons, av_sl, av_pno, av_pat, av_va, 
    frk_ok, frk_exc, slk_some, av_call, ge_nil, ge_v, ge_p, conss_some, gs_nil, gs_v, gs_p, gp_nil, gp_v, gp_p, hand_nil, hs_lv, hs_di, hs_va, hs_ins, 
    get_nil, put_nil, av_mtl, append_l, av_mtp, vfk_va, vfk_lv, vfk_di, vfk_nlv, vfk_rw, vfk_retf, vfk_next, vfk_exc, fin_eq, oko_nil, oko_t, oko_f, no_va, 
    no_lv, no_di, no_ins, msk_t, msk_f, List.zipWith_cons_cons, List.zipWith_nil_left, Bool.true_and, Bool.and_true, vs_seq, vsk_next, vsk_ret, vsk_retf, 
    vsk_brk, vsk_cont, vsk_exc, vs_nil, vs_brk, vs_cont, vs_expr, vs_ret, vs_retn, vs_retm, vs_reti, vs_if, vs_set, vs_setm, vs_asg, vg_nm, vg_tp, vgs_nil, 
    vgs_cons, vs_par, vs_aug, vs_sub, vs_for, vi_seq, vi_r1, vi_r2, rgk_t, loopv_next, loopv_cont, isBl_bl, truD_bl, truD_int, ty_int, ty_bl, ty_str, 
    ty_non, ty_tup, ty_lst, isi_ap, seqOf_lst, seqOf_tup, add_ii, sub_ii, mul_ii, mulOk_l, mulOk_r, fdiv_ii, divmod_ii, mod_ii, pow_ii, neg_i, ord_ii, 
    is_non, isnt_non, is_bl, isnt_bl, abs_i, int_i, int_b, max_ii, min_ii, len_tup, len_lst, tuple_lst, tuple_tup, list_lst, list_tup, DL.sl_lst, 
    DL.sl_tup, Nat.reduceAdd, Nat.zero_add, Nat.sub_self, List.replicate_zero, List.replicate_succ, List.getElem?_cons_zero, List.getElem?_cons_succ, 
    List.set_cons_zero, List.set_cons_succ, List.map_cons, List.map_nil, List.cons_append, List.nil_append, List.reduceReplicate, Nat.reduceSub, 
    List.length_cons, List.length_nil, if_true, if_false, reduceIte, reduceCtorEq, Bool.false_eq_true, Bool.true_eq_false, sizeLine_eq, Int.reduceToNat, 
    ix_tupm, ix_lstm, atI_0, atI_1, atI_2, atI_3, atI_4, atI_5, Option.bind_some, Bool.not_true, Bool.not_false, Nat.reduceLeDiff, Nat.reduceLT, pow10, 
    Int.natCast_zero, Int.natCast_one, Int.cast_ofNat_Int, Int.reduceBEq, Int.reduceBNe, kb_NoneType_int, kb_NoneType_bool, kb_NoneType_str, 
    kb_NoneType_tuple, kb_NoneType_list, kb_NoneType_dict, kb_bool_int, kb_bool_bool, kb_bool_str, kb_bool_tuple, kb_bool_list, kb_bool_dict, kb_int_int, 
    kb_int_bool, kb_int_str, kb_int_tuple, kb_int_list, kb_int_dict, kb_str_int, kb_str_bool, kb_str_str, kb_str_tuple, kb_str_list, kb_str_dict, 
    kb_tuple_int, kb_tuple_bool, kb_tuple_str, kb_tuple_tuple, kb_tuple_list, kb_tuple_dict, kb_list_int, kb_list_bool, kb_list_str, kb_list_tuple, 
    kb_list_list, kb_list_dict, kb_dict_int, kb_dict_bool, kb_dict_str, kb_dict_tuple, kb_dict_list, kb_dict_dict, Int.reduceLT, Int.reduceLE, 
    Int.reduceEq, Int.reduceNe, Nat.reduceEqDiff, decide_true, decide_false, and_self, and_true, true_and, lk, lit_point, lit_dash, av_mt1, ty1, sp, n2, 
    im, vs_raise, vfk_exc]
    · rw [decide_eq_false h45] at im
      rw [if_neg h45]
      cases e1 : rnum p with
      | none =>
        rw [e1] at r1
        simp only [numR] at r1
        show _ = FR.exc 1 [.no]
        simp only [env_l, env_t, vb_ok, vb_exc, vo_ok, vo_exc, tv_ok, tv_exc, ov_ev, ov_rd, on_ev, on_rd, op_ev, op_rd, snap_va, snap_lv, snap_di, snapl_lv, snapl_di, 
    rd1_some, rd2_some, av_c, av_val, av_fld, av_op2, av_op1, vbl, av_chain, av_and, av_or, av_tr, av_not, av_if, av_tval, av_tand, av_tor, av_tnot, 
    av_ttrue, av_nil, av_cons, av_tup, av_lst, av_lstm, rda_some, av_app, os_nil, os_cons, osr_nil, cons2_some, osr_cons, av_sl, av_pno, av_pat, av_va, 
    frk_ok, frk_exc, slk_some, av_call, ge_nil, ge_v, ge_p, conss_some, gs_nil, gs_v, gs_p, gp_nil, gp_v, gp_p, hand_nil, hs_lv, hs_di, hs_va, hs_ins, 
    get_nil, put_nil, av_mtl, append_l, av_mtp, vfk_va, vfk_lv, vfk_di, vfk_nlv, vfk_rw, vfk_retf, vfk_next, vfk_exc, fin_eq, oko_nil, oko_t, oko_f, no_va, 
    no_lv, no_di, no_ins, msk_t, msk_f, List.zipWith_cons_cons, List.zipWith_nil_left, Bool.true_and, Bool.and_true, vs_seq, vsk_next, vsk_ret, vsk_retf, 
    vsk_brk, vsk_cont, vsk_exc, vs_nil, vs_brk, vs_cont, vs_expr, vs_ret, vs_retn, vs_retm, vs_reti, vs_if, vs_set, vs_setm, vs_asg, vg_nm, vg_tp, vgs_nil, 
    vgs_cons, vs_par, vs_aug, vs_sub, vs_for, vi_seq, vi_r1, vi_r2, rgk_t, loopv_next, loopv_cont, isBl_bl, truD_bl, truD_int, ty_int, ty_bl, ty_str, 
    ty_non, ty_tup, ty_lst, isi_ap, seqOf_lst, seqOf_tup, add_ii, sub_ii, mul_ii, mulOk_l, mulOk_r, fdiv_ii, divmod_ii, mod_ii, pow_ii, neg_i, ord_ii, 
    is_non, isnt_non, is_bl, isnt_bl, abs_i, int_i, int_b, max_ii, min_ii, len_tup, len_lst, tuple_lst, tuple_tup, list_lst, list_tup, DL.sl_lst, 
    DL.sl_tup, Nat.reduceAdd, Nat.zero_add, Nat.sub_self, List.replicate_zero, List.replicate_succ, List.getElem?_cons_zero, List.getElem?_cons_succ, 
    List.set_cons_zero, List.set_cons_succ, List.map_cons, List.map_nil, List.cons_append, List.nil_append, List.reduceReplicate, Nat.reduceSub, 
    List.length_cons, List.length_nil, if_true, if_false, reduceIte, reduceCtorEq, Bool.false_eq_true, Bool.true_eq_false, sizeLine_eq, Int.reduceToNat, 
    ix_tupm, ix_lstm, atI_0, atI_1, atI_2, atI_3, atI_4, atI_5, Option.bind_some, Bool.not_true, Bool.not_false, Nat.reduceLeDiff, Nat.reduceLT, pow10, 
    Int.natCast_zero, Int.natCast_one, Int.cast_ofNat_Int, Int.reduceBEq, Int.reduceBNe, kb_NoneType_int, kb_NoneType_bool, kb_NoneType_str, 
    kb_NoneType_tuple, kb_NoneType_list, kb_NoneType_dict, kb_bool_int, kb_bool_bool, kb_bool_str, kb_bool_tuple, kb_bool_list, kb_bool_dict, kb_int_int, 
    kb_int_bool, kb_int_str, kb_int_tuple, kb_int_list, kb_int_dict, kb_str_int, kb_str_bool, kb_str_str, kb_str_tuple, kb_str_list, kb_str_dict, 
    kb_tuple_int, kb_tuple_bool, kb_tuple_str, kb_tuple_tuple, kb_tuple_list, kb_tuple_dict, kb_list_int, kb_list_bool, kb_list_str, kb_list_tuple, 
    kb_list_list, kb_list_dict, kb_dict_int, kb_dict_bool, kb_dict_str, kb_dict_tuple, kb_dict_list, kb_dict_dict, Int.reduceLT, Int.reduceLE, 
    Int.reduceEq, Int.reduceNe, Nat.reduceEqDiff, decide_true, decide_false, and_self, and_true, true_and, lk, lit_point, lit_dash, av_mt1, ty1, sp, n2, 
    im, i0, r1, vfk_exc]
      | some a =>
        rw [e1] at r1
        simp only [numR] at r1
        cases e2 : rnum q with
        | none =>
          rw [e2] at r2
          simp only [numR] at r2
          show _ = FR.exc 1 [.no]
          simp only [env_l, env_t, vb_ok, vb_exc, vo_ok, vo_exc, tv_ok, tv_exc, ov_ev, ov_rd, on_ev, on_rd, op_ev, op_rd, snap_va, snap_lv, snap_di, snapl_lv, snapl_di, 
    rd1_some, rd2_some, av_c, av_val, av_fld, av_op2, av_op1, vbl, av_chain, av_and, av_or, av_tr, av_not, av_if, av_tval, av_tand, av_tor, av_tnot, 
    av_ttrue, av_nil, av_cons, av_tup, av_lst, av_lstm, rda_some, av_app, os_nil, os_cons, osr_nil, cons2_some, osr_cons, av_sl, av_pno, av_pat, av_va, 
    frk_ok, frk_exc, slk_some, av_call, ge_nil, ge_v, ge_p, conss_some, gs_nil, gs_v, gs_p, gp_nil, gp_v, gp_p, hand_nil, hs_lv, hs_di, hs_va, hs_ins, 
    get_nil, put_nil, av_mtl, append_l, av_mtp, vfk_va, vfk_lv, vfk_di, vfk_nlv, vfk_rw, vfk_retf, vfk_next, vfk_exc, fin_eq, oko_nil, oko_t, oko_f, no_va, 
    no_lv, no_di, no_ins, msk_t, msk_f, List.zipWith_cons_cons, List.zipWith_nil_left, Bool.true_and, Bool.and_true, vs_seq, vsk_next, vsk_ret, vsk_retf, 
    vsk_brk, vsk_cont, vsk_exc, vs_nil, vs_brk, vs_cont, vs_expr, vs_ret, vs_retn, vs_retm, vs_reti, vs_if, vs_set, vs_setm, vs_asg, vg_nm, vg_tp, vgs_nil, 
    vgs_cons, vs_par, vs_aug, vs_sub, vs_for, vi_seq, vi_r1, vi_r2, rgk_t, loopv_next, loopv_cont, isBl_bl, truD_bl, truD_int, ty_int, ty_bl, ty_str, 
    ty_non, ty_tup, ty_lst, isi_ap, seqOf_lst, seqOf_tup, add_ii, sub_ii, mul_ii, mulOk_l, mulOk_r, fdiv_ii, divmod_ii, mod_ii, pow_ii, neg_i, ord_ii, 
    is_non, isnt_non, is_bl, isnt_bl, abs_i, int_i, int_b, max_ii, min_ii, len_tup, len_lst, tuple_lst, tuple_tup, list_lst, list_tup, DL.sl_lst, 
    DL.sl_tup, Nat.reduceAdd, Nat.zero_add, Nat.sub_self, List.replicate_zero, List.replicate_succ, List.getElem?_cons_zero, List.getElem?_cons_succ, 
    List.set_cons_zero, List.set_cons_succ, List.map_cons, List.map_nil, List.cons_append, List.nil_append, List.reduceReplicate, Nat.reduceSub, 
    List.length_cons, List.length_nil, if_true, if_false, reduceIte, reduceCtorEq, Bool.false_eq_true, Bool.true_eq_false, sizeLine_eq, Int.reduceToNat, 
    ix_tupm, ix_lstm, atI_0, atI_1, atI_2, atI_3, atI_4, atI_5, Option.bind_some, Bool.not_true, Bool.not_false, Nat.reduceLeDiff, Nat.reduceLT, pow10, 
    Int.natCast_zero, Int.natCast_one, Int.cast_ofNat_Int, Int.reduceBEq, Int.reduceBNe, kb_NoneType_int, kb_NoneType_bool, kb_NoneType_str, 
    kb_NoneType_tuple, kb_NoneType_list, kb_NoneType_dict, kb_bool_int, kb_bool_bool, kb_bool_str, kb_bool_tuple, kb_bool_list, kb_bool_dict, kb_int_int, 
    kb_int_bool, kb_int_str, kb_int_tuple, kb_int_list, kb_int_dict, kb_str_int, kb_str_bool, kb_str_str, kb_str_tuple, kb_str_list, kb_str_dict, 
    kb_tuple_int, kb_tuple_bool, kb_tuple_str, kb_tuple_tuple, kb_tuple_list, kb_tuple_dict, kb_list_int, kb_list_bool, kb_list_str, kb_list_tuple, 
    kb_list_list, kb_list_dict, kb_dict_int, kb_dict_bool, kb_dict_str, kb_dict_tuple, kb_dict_list, kb_dict_dict, Int.reduceLT, Int.reduceLE, 
    Int.reduceEq, Int.reduceNe, Nat.reduceEqDiff, decide_true, decide_false, and_self, and_true, true_and, lk, lit_point, lit_dash, av_mt1, ty1, sp, n2, 
    im, i0, i1, r1, r2, vfk_exc]
        | some b =>
          rw [e2] at r2
          simp only [numR] at r2
          show _ = FR.ok (.va (.tup [.int a, .int b])) [.no]
          simp only [env_l, env_t, vb_ok, vb_exc, vo_ok, vo_exc, tv_ok, tv_exc, ov_ev, ov_rd, on_ev, on_rd, op_ev, op_rd, snap_va, snap_lv, snap_di, snapl_lv, snapl_di, 
    rd1_some, rd2_some, av_c, av_val, av_fld, av_op2, av_op1, vbl, av_chain, av_and, av_or, av_tr, av_not, av_if, av_tval, av_tand, av_tor, av_tnot, 
    av_ttrue, av_nil, av_cons, av_tup, av_lst, av_lstm, rda_some, av_app, os_nil, os_cons, osr_nil, cons2_some, osr_cons, av_sl, av_pno, av_pat, av_va, 
    frk_ok, frk_exc, slk_some, av_call, ge_nil, ge_v, ge_p, conss_some, gs_nil, gs_v, gs_p, gp_nil, gp_v, gp_p, hand_nil, hs_lv, hs_di, hs_va, hs_ins, 
    get_nil, put_nil, av_mtl, append_l, av_mtp, vfk_va, vfk_lv, vfk_di, vfk_nlv, vfk_rw, vfk_retf, vfk_next, vfk_exc, fin_eq, oko_nil, oko_t, oko_f, no_va, 
    no_lv, no_di, no_ins, msk_t, msk_f, List.zipWith_cons_cons, List.zipWith_nil_left, Bool.true_and, Bool.and_true, vs_seq, vsk_next, vsk_ret, vsk_retf, 
    vsk_brk, vsk_cont, vsk_exc, vs_nil, vs_brk, vs_cont, vs_expr, vs_ret, vs_retn, vs_retm, vs_reti, vs_if, vs_set, vs_setm, vs_asg, vg_nm, vg_tp, vgs_nil, 
    vgs_cons, vs_par, vs_aug, vs_sub, vs_for, vi_seq, vi_r1, vi_r2, rgk_t, loopv_next, loopv_cont, isBl_bl, truD_bl, truD_int, ty_int, ty_bl, ty_str, 
    ty_non, ty_tup, ty_lst, isi_ap, seqOf_lst, seqOf_tup, add_ii, sub_ii, mul_ii, mulOk_l, mulOk_r, fdiv_ii, divmod_ii, mod_ii, pow_ii, neg_i, ord_ii, 
    is_non, isnt_non, is_bl, isnt_bl, abs_i, int_i, int_b, max_ii, min_ii, len_tup, len_lst, tuple_lst, tuple_tup, list_lst, list_tup, DL.sl_lst, 
    DL.sl_tup, Nat.reduceAdd, Nat.zero_add, Nat.sub_self, List.replicate_zero, List.replicate_succ, List.getElem?_cons_zero, List.getElem?_cons_succ, 
    List.set_cons_zero, List.set_cons_succ, List.map_cons, List.map_nil, List.cons_append, List.nil_append, List.reduceReplicate, Nat.reduceSub, 
    List.length_cons, List.length_nil, if_true, if_false, reduceIte, reduceCtorEq, Bool.false_eq_true, Bool.true_eq_false, sizeLine_eq, Int.reduceToNat, 
    ix_tupm, ix_lstm, atI_0, atI_1, atI_2, atI_3, atI_4, atI_5, Option.bind_some, Bool.not_true, Bool.not_false, Nat.reduceLeDiff, Nat.reduceLT, pow10, 
    Int.natCast_zero, Int.natCast_one, Int.cast_ofNat_Int, Int.reduceBEq, Int.reduceBNe, kb_NoneType_int, kb_NoneType_bool, kb_NoneType_str, 
    kb_NoneType_tuple, kb_NoneType_list, kb_NoneType_dict, kb_bool_int, kb_bool_bool, kb_bool_str, kb_bool_tuple, kb_bool_list, kb_bool_dict, kb_int_int, 
    kb_int_bool, kb_int_str, kb_int_tuple, kb_int_list, kb_int_dict, kb_str_int, kb_str_bool, kb_str_str, kb_str_tuple, kb_str_list, kb_str_dict, 
    kb_tuple_int, kb_tuple_bool, kb_tuple_str, kb_tuple_tuple, kb_tuple_list, kb_tuple_dict, kb_list_int, kb_list_bool, kb_list_str, kb_list_tuple, 
    kb_list_list, kb_list_dict, kb_dict_int, kb_dict_bool, kb_dict_str, kb_dict_tuple, kb_dict_list, kb_dict_dict, Int.reduceLT, Int.reduceLE, 
    Int.reduceEq, Int.reduceNe, Nat.reduceEqDiff, decide_true, decide_false, and_self, and_true, true_and, lk, lit_point, lit_dash, av_mt1, ty1, sp, n2, 
    im, i0, i1, r1, r2]
  | [] =>
    show _ = FR.exc 1 [.no]
    rw [hp] at sp
    have n2 : nevD (.int 0) (.int 2) [] = .ok (.bl true) [] := by rw [nev_ii]; rfl
    simp only [List.map_nil] at sp
    unfold VF_read_coin
    rw [vf_eq rfl]
    unfold V_read_coin
    generalize tx l = T at *
    simp only [env_l, env_t, vb_ok, vb_exc, vo_ok, vo_exc, tv_ok, tv_exc, ov_ev, ov_rd, on_ev, on_rd, op_ev, op_rd, snap_va, snap_lv, snap_di, snapl_lv, snapl_di, 
    rd1_some, rd2_some, av_c, av_val, av_fld, av_op2, av_op1, vbl, av_chain, av_and, av_or, av_tr, av_not, av_if, av_tval, av_tand, av_tor, av_tnot, 
    av_ttrue, av_nil, av_cons, av_tup, av_lst, av_lstm, rda_some, av_app, os_nil, os_cons, osr_nil, cons2_some, osr_cons, av_sl, av_pno, av_pat, av_va, 
    frk_ok, frk_exc, slk_some, av_call, ge_nil, ge_v, ge_p, conss_some, gs_nil, gs_v, gs_p, gp_nil, gp_v, gp_p, hand_nil, hs_lv, hs_di, hs_va, hs_ins, 
    get_nil, put_nil, av_mtl, append_l, av_mtp, vfk_va, vfk_lv, vfk_di, vfk_nlv, vfk_rw, vfk_retf, vfk_next, vfk_exc, fin_eq, oko_nil, oko_t, oko_f, no_va, 
    no_lv, no_di, no_ins, msk_t, msk_f, List.zipWith_cons_cons, List.zipWith_nil_left, Bool.true_and, Bool.and_true, vs_seq, vsk_next, vsk_ret, vsk_retf, 
    vsk_brk, vsk_cont, vsk_exc, vs_nil, vs_brk, vs_cont, vs_expr, vs_ret, vs_retn, vs_retm, vs_reti, vs_if, vs_set, vs_setm, vs_asg, vg_nm, vg_tp, vgs_nil, 
    vgs_cons, vs_par, vs_aug, vs_sub, vs_for, vi_seq, vi_r1, vi_r2, rgk_t, loopv_next, loopv_cont, isBl_bl, truD_bl, truD_int, ty_int, ty_bl, ty_str, 
    ty_non, ty_tup, ty_lst, isi_ap, seqOf_lst, seqOf_tup, add_ii, sub_ii, mul_ii, mulOk_l, mulOk_r, fdiv_ii, divmod_ii, mod_ii, pow_ii, neg_i, ord_ii, 
    is_non, isnt_non, is_bl, isnt_bl, abs_i, int_i, int_b, max_ii, min_ii, len_tup, len_lst, tuple_lst, tuple_tup, list_lst, list_tup, DL.sl_lst, 
    DL.sl_tup, Nat.reduceAdd, Nat.zero_add, Nat.sub_self, List.replicate_zero, List.replicate_succ, List.getElem?_cons_zero, List.getElem?_cons_succ, 
    List.set_cons_zero, List.set_cons_succ, List.map_cons, List.map_nil, List.cons_append, List.nil_append, List.reduceReplicate, Nat.reduceSub, 
    List.length_cons, List.length_nil, if_true, if_false, reduceIte, reduceCtorEq, Bool.false_eq_true, Bool.true_eq_false, sizeLine_eq, Int.reduceToNat, 
    ix_tupm, ix_lstm, atI_0, atI_1, atI_2, atI_3, atI_4, atI_5, Option.bind_some, Bool.not_true, Bool.not_false, Nat.reduceLeDiff, Nat.reduceLT, pow10, 
    Int.natCast_zero, Int.natCast_one, Int.cast_ofNat_Int, Int.reduceBEq, Int.reduceBNe, kb_NoneType_int, kb_NoneType_bool, kb_NoneType_str, 
    kb_NoneType_tuple, kb_NoneType_list, kb_NoneType_dict, kb_bool_int, kb_bool_bool, kb_bool_str, kb_bool_tuple, kb_bool_list, kb_bool_dict, kb_int_int, 
    kb_int_bool, kb_int_str, kb_int_tuple, kb_int_list, kb_int_dict, kb_str_int, kb_str_bool, kb_str_str, kb_str_tuple, kb_str_list, kb_str_dict, 
    kb_tuple_int, kb_tuple_bool, kb_tuple_str, kb_tuple_tuple, kb_tuple_list, kb_tuple_dict, kb_list_int, kb_list_bool, kb_list_str, kb_list_tuple, 
    kb_list_list, kb_list_dict, kb_dict_int, kb_dict_bool, kb_dict_str, kb_dict_tuple, kb_dict_list, kb_dict_dict, Int.reduceLT, Int.reduceLE, 
    Int.reduceEq, Int.reduceNe, Nat.reduceEqDiff, decide_true, decide_false, and_self, and_true, true_and, lk, lit_point, lit_dash, av_mt1, ty1, sp, n2, 
    vs_raise, vfk_exc]
  | [p] =>
    show _ = FR.exc 1 [.no]
    rw [hp] at sp
    have n2 : nevD (.int 1) (.int 2) [] = .ok (.bl true) [] := by rw [nev_ii]; rfl
    simp only [List.map_cons, List.map_nil] at sp
    unfold VF_read_coin
    rw [vf_eq rfl]
    unfold V_read_coin
    generalize tx l = T at *
    generalize tx p = TP at *
    simp only [env_l, env_t, vb_ok, vb_exc, vo_ok, vo_exc, tv_ok, tv_exc, ov_ev, ov_rd, on_ev, on_rd, op_ev, op_rd, snap_va, snap_lv, snap_di, snapl_lv, snapl_di, 
    rd1_some, rd2_some, av_c, av_val, av_fld, av_op2, av_op1, vbl, av_chain, av_and, av_or, av_tr, av_not, av_if, av_tval, av_tand, av_tor, av_tnot, 
    av_ttrue, av_nil, av_cons, av_tup, av_lst, av_lstm, rda_some, av_app, os_nil, os_cons, osr_nil, cons2_some, osr_cons, av_sl, av_pno, av_pat, av_va, 
    frk_ok, frk_exc, slk_some, av_call, ge_nil, ge_v, ge_p, conss_some, gs_nil, gs_v, gs_p, gp_nil, gp_v, gp_p, hand_nil, hs_lv, hs_di, hs_va, hs_ins, 
    get_nil, put_nil, av_mtl, append_l, av_mtp, vfk_va, vfk_lv, vfk_di, vfk_nlv, vfk_rw, vfk_retf, vfk_next, vfk_exc, fin_eq, oko_nil, oko_t, oko_f, no_va, 
    no_lv, no_di, no_ins, msk_t, msk_f, List.zipWith_cons_cons, List.zipWith_nil_left, Bool.true_and, Bool.and_true, vs_seq, vsk_next, vsk_ret, vsk_retf, 
    vsk_brk, vsk_cont, vsk_exc, vs_nil, vs_brk, vs_cont, vs_expr, vs_ret, vs_retn, vs_retm, vs_reti, vs_if, vs_set, vs_setm, vs_asg, vg_nm, vg_tp, vgs_nil, 
    vgs_cons, vs_par, vs_aug, vs_sub, vs_for, vi_seq, vi_r1, vi_r2, rgk_t, loopv_next, loopv_cont, isBl_bl, truD_bl, truD_int, ty_int, ty_bl, ty_str, 
    ty_non, ty_tup, ty_lst, isi_ap, seqOf_lst, seqOf_tup, add_ii, sub_ii, mul_ii, mulOk_l, mulOk_r, fdiv_ii, divmod_ii, mod_ii, pow_ii, neg_i, ord_ii, 
    is_non, isnt_non, is_bl, isnt_bl, abs_i, int_i, int_b, max_ii, min_ii, len_tup, len_lst, tuple_lst, tuple_tup, list_lst, list_tup, DL.sl_lst, 
    DL.sl_tup, Nat.reduceAdd, Nat.zero_add, Nat.sub_self, List.replicate_zero, List.replicate_succ, List.getElem?_cons_zero, List.getElem?_cons_succ, 
    List.set_cons_zero, List.set_cons_succ, List.map_cons, List.map_nil, List.cons_append, List.nil_append, List.reduceReplicate, Nat.reduceSub, 
    List.length_cons, List.length_nil, if_true, if_false, reduceIte, reduceCtorEq, Bool.false_eq_true, Bool.true_eq_false, sizeLine_eq, Int.reduceToNat, 
    ix_tupm, ix_lstm, atI_0, atI_1, atI_2, atI_3, atI_4, atI_5, Option.bind_some, Bool.not_true, Bool.not_false, Nat.reduceLeDiff, Nat.reduceLT, pow10, 
    Int.natCast_zero, Int.natCast_one, Int.cast_ofNat_Int, Int.reduceBEq, Int.reduceBNe, kb_NoneType_int, kb_NoneType_bool, kb_NoneType_str, 
    kb_NoneType_tuple, kb_NoneType_list, kb_NoneType_dict, kb_bool_int, kb_bool_bool, kb_bool_str, kb_bool_tuple, kb_bool_list, kb_bool_dict, kb_int_int, 
    kb_int_bool, kb_int_str, kb_int_tuple, kb_int_list, kb_int_dict, kb_str_int, kb_str_bool, kb_str_str, kb_str_tuple, kb_str_list, kb_str_dict, 
    kb_tuple_int, kb_tuple_bool, kb_tuple_str, kb_tuple_tuple, kb_tuple_list, kb_tuple_dict, kb_list_int, kb_list_bool, kb_list_str, kb_list_tuple, 
    kb_list_list, kb_list_dict, kb_dict_int, kb_dict_bool, kb_dict_str, kb_dict_tuple, kb_dict_list, kb_dict_dict, Int.reduceLT, Int.reduceLE, 
    Int.reduceEq, Int.reduceNe, Nat.reduceEqDiff, decide_true, decide_false, and_self, and_true, true_and, lk, lit_point, lit_dash, av_mt1, ty1, sp, n2, 
    vs_raise, vfk_exc]
  | p :: q :: r :: ps =>
    show _ = FR.exc 1 [.no]
    rw [hp] at sp
    have n2 : nevD (.int ((((p :: q :: r :: ps).map tx).length : Nat) : Int)) (.int 2) [] = .ok (.bl true) [] := by
      rw [nev_ii]
      have : ((((p :: q :: r :: ps).map tx).length : Nat) : Int) ≠ 2 := by simp; omega
      rw [beq_false_of_ne this]; rfl
    unfold VF_read_coin
    rw [vf_eq rfl]
    unfold V_read_coin
    generalize tx l = T at *
    generalize (p :: q :: r :: ps).map tx = PS at *
    simp only [env_l, env_t, vb_ok, vb_exc, vo_ok, vo_exc, tv_ok, tv_exc, ov_ev, ov_rd, on_ev, on_rd, op_ev, op_rd, snap_va, snap_lv, snap_di, snapl_lv, snapl_di, 
    rd1_some, rd2_some, av_c, av_val, av_fld, av_op2, av_op1, vbl, av_chain, av_and, av_or, av_tr, av_not, av_if, av_tval, av_tand, av_tor, av_tnot, 
    av_ttrue, av_nil, av_cons, av_tup, av_lst, av_lstm, rda_some, av_app, os_nil, os_cons, osr_nil, cons2_some, osr_cons, av_sl, av_pno, av_pat, av_va, 
    frk_ok, frk_exc, slk_some, av_call, ge_nil, ge_v, ge_p, conss_some, gs_nil, gs_v, gs_p, gp_nil, gp_v, gp_p, hand_nil, hs_lv, hs_di, hs_va, hs_ins, 
    get_nil, put_nil, av_mtl, append_l, av_mtp, vfk_va, vfk_lv, vfk_di, vfk_nlv, vfk_rw, vfk_retf, vfk_next, vfk_exc, fin_eq, oko_nil, oko_t, oko_f, no_va, 
    no_lv, no_di, no_ins, msk_t, msk_f, List.zipWith_cons_cons, List.zipWith_nil_left, Bool.true_and, Bool.and_true, vs_seq, vsk_next, vsk_ret, vsk_retf, 
    vsk_brk, vsk_cont, vsk_exc, vs_nil, vs_brk, vs_cont, vs_expr, vs_ret, vs_retn, vs_retm, vs_reti, vs_if, vs_set, vs_setm, vs_asg, vg_nm, vg_tp, vgs_nil, 
    vgs_cons, vs_par, vs_aug, vs_sub, vs_for, vi_seq, vi_r1, vi_r2, rgk_t, loopv_next, loopv_cont, isBl_bl, truD_bl, truD_int, ty_int, ty_bl, ty_str, 
    ty_non, ty_tup, ty_lst, isi_ap, seqOf_lst, seqOf_tup, add_ii, sub_ii, mul_ii, mulOk_l, mulOk_r, fdiv_ii, divmod_ii, mod_ii, pow_ii, neg_i, ord_ii, 
    is_non, isnt_non, is_bl, isnt_bl, abs_i, int_i, int_b, max_ii, min_ii, len_tup, len_lst, tuple_lst, tuple_tup, list_lst, list_tup, DL.sl_lst, 
    DL.sl_tup, Nat.reduceAdd, Nat.zero_add, Nat.sub_self, List.replicate_zero, List.replicate_succ, List.getElem?_cons_zero, List.getElem?_cons_succ, 
    List.set_cons_zero, List.set_cons_succ, List.map_cons, List.map_nil, List.cons_append, List.nil_append, List.reduceReplicate, Nat.reduceSub, 
    List.length_cons, List.length_nil, if_true, if_false, reduceIte, reduceCtorEq, Bool.false_eq_true, Bool.true_eq_false, sizeLine_eq, Int.reduceToNat, 
    ix_tupm, ix_lstm, atI_0, atI_1, atI_2, atI_3, atI_4, atI_5, Option.bind_some, Bool.not_true, Bool.not_false, Nat.reduceLeDiff, Nat.reduceLT, pow10, 
    Int.natCast_zero, Int.natCast_one, Int.cast_ofNat_Int, Int.reduceBEq, Int.reduceBNe, kb_NoneType_int, kb_NoneType_bool, kb_NoneType_str, 
    kb_NoneType_tuple, kb_NoneType_list, kb_NoneType_dict, kb_bool_int, kb_bool_bool, kb_bool_str, kb_bool_tuple, kb_bool_list, kb_bool_dict, kb_int_int, 
    kb_int_bool, kb_int_str, kb_int_tuple, kb_int_list, kb_int_dict, kb_str_int, kb_str_bool, kb_str_str, kb_str_tuple, kb_str_list, kb_str_dict, 
    kb_tuple_int, kb_tuple_bool, kb_tuple_str, kb_tuple_tuple, kb_tuple_list, kb_tuple_dict, kb_list_int, kb_list_bool, kb_list_str, kb_list_tuple, 
    kb_list_list, kb_list_dict, kb_dict_int, kb_dict_bool, kb_dict_str, kb_dict_tuple, kb_dict_list, kb_dict_dict, Int.reduceLT, Int.reduceLE, 
    Int.reduceEq, Int.reduceNe, Nat.reduceEqDiff, decide_true, decide_false, and_self, and_true, true_and, lk, lit_point, lit_dash, av_mt1, ty1, sp, n2, 
    vs_raise, vfk_exc]
/-! what is refused -/
theorem v_refused {d : D} {b : Bool} (h : (if b = true then VF_read_coin [.va d] else VF_read_number [.va d]) = .exc 1 [.no]) : VF__law_refused [.va d, .va (.bl b)] = .ok (.va (.bl true)) [.no, .no] := by
  have tb : tabB [(1, true)] 1 = some true := rfl
  have hl : 3 < ([.va d, .va (.bl b), .va .non, .no] : VL.Env).length := Nat.lt_of_lt_of_le (show 3 < 4 by decide) (Nat.le_refl _)
  have i1 : isxD [("NoneType", false)] [(1, true)] (.exc 1) [] = .ok (.bl true) [] := isx_exc rfl
  unfold VF__law_refused
  rw [vf_eq rfl]
  unfold V__law_refused
  cases b with
  | true =>
    rw [if_pos rfl] at h
    simp only [env_l, env_t, vb_ok, vb_exc, vo_ok, vo_exc, tv_ok, tv_exc, ov_ev, ov_rd, on_ev, on_rd, op_ev, op_rd, snap_va, snap_lv, snap_di, snapl_lv, snapl_di, 
    rd1_some, rd2_some, av_c, av_val, av_fld, av_op2, av_op1, vbl, av_chain, av_and, av_or, av_tr, av_not, av_if, av_tval, av_tand, av_tor, av_tnot, 
    av_ttrue, av_nil, av_cons, av_tup, av_lst, av_lstm, rda_some, av_app, os_nil, os_cons, osr_nil, cons2_some, osr_cons, av_sl, av_pno, av_pat, av_va, 
    frk_ok, frk_exc, slk_some, av_call, ge_nil, ge_v, ge_p, conss_some, gs_nil, gs_v, gs_p, gp_nil, gp_v, gp_p, hand_nil, hs_lv, hs_di, hs_va, hs_ins, 
    get_nil, put_nil, av_mtl, append_l, av_mtp, vfk_va, vfk_lv, vfk_di, vfk_nlv, vfk_rw, vfk_retf, vfk_next, vfk_exc, fin_eq, oko_nil, oko_t, oko_f, no_va, 
    no_lv, no_di, no_ins, msk_t, msk_f, List.zipWith_cons_cons, List.zipWith_nil_left, Bool.true_and, Bool.and_true, vs_seq, vsk_next, vsk_ret, vsk_retf, 
    vsk_brk, vsk_cont, vsk_exc, vs_nil, vs_brk, vs_cont, vs_expr, vs_ret, vs_retn, vs_retm, vs_reti, vs_if, vs_set, vs_setm, vs_asg, vg_nm, vg_tp, vgs_nil, 
    vgs_cons, vs_par, vs_aug, vs_sub, vs_for, vi_seq, vi_r1, vi_r2, rgk_t, loopv_next, loopv_cont, isBl_bl, truD_bl, truD_int, ty_int, ty_bl, ty_str, 
    ty_non, ty_tup, ty_lst, isi_ap, seqOf_lst, seqOf_tup, add_ii, sub_ii, mul_ii, mulOk_l, mulOk_r, fdiv_ii, divmod_ii, mod_ii, pow_ii, neg_i, ord_ii, 
    is_non, isnt_non, is_bl, isnt_bl, abs_i, int_i, int_b, max_ii, min_ii, len_tup, len_lst, tuple_lst, tuple_tup, list_lst, list_tup, DL.sl_lst, 
    DL.sl_tup, Nat.reduceAdd, Nat.zero_add, Nat.sub_self, List.replicate_zero, List.replicate_succ, List.getElem?_cons_zero, List.getElem?_cons_succ, 
    List.set_cons_zero, List.set_cons_succ, List.map_cons, List.map_nil, List.cons_append, List.nil_append, List.reduceReplicate, Nat.reduceSub, 
    List.length_cons, List.length_nil, if_true, if_false, reduceIte, reduceCtorEq, Bool.false_eq_true, Bool.true_eq_false, sizeLine_eq, Int.reduceToNat, 
    ix_tupm, ix_lstm, atI_0, atI_1, atI_2, atI_3, atI_4, atI_5, Option.bind_some, Bool.not_true, Bool.not_false, Nat.reduceLeDiff, Nat.reduceLT, pow10, 
    Int.natCast_zero, Int.natCast_one, Int.cast_ofNat_Int, Int.reduceBEq, Int.reduceBNe, kb_NoneType_int, kb_NoneType_bool, kb_NoneType_str, 
    kb_NoneType_tuple, kb_NoneType_list, kb_NoneType_dict, kb_bool_int, kb_bool_bool, kb_bool_str, kb_bool_tuple, kb_bool_list, kb_bool_dict, kb_int_int, 
    kb_int_bool, kb_int_str, kb_int_tuple, kb_int_list, kb_int_dict, kb_str_int, kb_str_bool, kb_str_str, kb_str_tuple, kb_str_list, kb_str_dict, 
    kb_tuple_int, kb_tuple_bool, kb_tuple_str, kb_tuple_tuple, kb_tuple_list, kb_tuple_dict, kb_list_int, kb_list_bool, kb_list_str, kb_list_tuple, 
    kb_list_list, kb_list_dict, kb_dict_int, kb_dict_bool, kb_dict_str, kb_dict_tuple, kb_dict_list, kb_dict_dict, Int.reduceLT, Int.reduceLE, 
    Int.reduceEq, Int.reduceNe, Nat.reduceEqDiff, decide_true, decide_false, and_self, and_true, true_and, vs_tryV, h, tryvk_exc tb hl, gone_next, i1]
  | false =>
    rw [if_neg (by decide)] at h
    simp only [env_l, env_t, vb_ok, vb_exc, vo_ok, vo_exc, tv_ok, tv_exc, ov_ev, ov_rd, on_ev, on_rd, op_ev, op_rd, snap_va, snap_lv, snap_di, snapl_lv, snapl_di, 
    rd1_some, rd2_some, av_c, av_val, av_fld, av_op2, av_op1, vbl, av_chain, av_and, av_or, av_tr, av_not, av_if, av_tval, av_tand, av_tor, av_tnot, 
    av_ttrue, av_nil, av_cons, av_tup, av_lst, av_lstm, rda_some, av_app, os_nil, os_cons, osr_nil, cons2_some, osr_cons, av_sl, av_pno, av_pat, av_va, 
    frk_ok, frk_exc, slk_some, av_call, ge_nil, ge_v, ge_p, conss_some, gs_nil, gs_v, gs_p, gp_nil, gp_v, gp_p, hand_nil, hs_lv, hs_di, hs_va, hs_ins, 
    get_nil, put_nil, av_mtl, append_l, av_mtp, vfk_va, vfk_lv, vfk_di, vfk_nlv, vfk_rw, vfk_retf, vfk_next, vfk_exc, fin_eq, oko_nil, oko_t, oko_f, no_va, 
    no_lv, no_di, no_ins, msk_t, msk_f, List.zipWith_cons_cons, List.zipWith_nil_left, Bool.true_and, Bool.and_true, vs_seq, vsk_next, vsk_ret, vsk_retf, 
    vsk_brk, vsk_cont, vsk_exc, vs_nil, vs_brk, vs_cont, vs_expr, vs_ret, vs_retn, vs_retm, vs_reti, vs_if, vs_set, vs_setm, vs_asg, vg_nm, vg_tp, vgs_nil, 
    vgs_cons, vs_par, vs_aug, vs_sub, vs_for, vi_seq, vi_r1, vi_r2, rgk_t, loopv_next, loopv_cont, isBl_bl, truD_bl, truD_int, ty_int, ty_bl, ty_str, 
    ty_non, ty_tup, ty_lst, isi_ap, seqOf_lst, seqOf_tup, add_ii, sub_ii, mul_ii, mulOk_l, mulOk_r, fdiv_ii, divmod_ii, mod_ii, pow_ii, neg_i, ord_ii, 
    is_non, isnt_non, is_bl, isnt_bl, abs_i, int_i, int_b, max_ii, min_ii, len_tup, len_lst, tuple_lst, tuple_tup, list_lst, list_tup, DL.sl_lst, 
    DL.sl_tup, Nat.reduceAdd, Nat.zero_add, Nat.sub_self, List.replicate_zero, List.replicate_succ, List.getElem?_cons_zero, List.getElem?_cons_succ, 
    List.set_cons_zero, List.set_cons_succ, List.map_cons, List.map_nil, List.cons_append, List.nil_append, List.reduceReplicate, Nat.reduceSub, 
    List.length_cons, List.length_nil, if_true, if_false, reduceIte, reduceCtorEq, Bool.false_eq_true, Bool.true_eq_false, sizeLine_eq, Int.reduceToNat, 
    ix_tupm, ix_lstm, atI_0, atI_1, atI_2, atI_3, atI_4, atI_5, Option.bind_some, Bool.not_true, Bool.not_false, Nat.reduceLeDiff, Nat.reduceLT, pow10, 
    Int.natCast_zero, Int.natCast_one, Int.cast_ofNat_Int, Int.reduceBEq, Int.reduceBNe, kb_NoneType_int, kb_NoneType_bool, kb_NoneType_str, 
    kb_NoneType_tuple, kb_NoneType_list, kb_NoneType_dict, kb_bool_int, kb_bool_bool, kb_bool_str, kb_bool_tuple, kb_bool_list, kb_bool_dict, kb_int_int, 
    kb_int_bool, kb_int_str, kb_int_tuple, kb_int_list, kb_int_dict, kb_str_int, kb_str_bool, kb_str_str, kb_str_tuple, kb_str_list, kb_str_dict, 
    kb_tuple_int, kb_tuple_bool, kb_tuple_str, kb_tuple_tuple, kb_tuple_list, kb_tuple_dict, kb_list_int, kb_list_bool, kb_list_str, kb_list_tuple, 
    kb_list_list, kb_list_dict, kb_dict_int, kb_dict_bool, kb_dict_str, kb_dict_tuple, kb_dict_list, kb_dict_dict, Int.reduceLT, Int.reduceLE, 
    Int.reduceEq, Int.reduceNe, Nat.reduceEqDiff, decide_true, decide_false, and_self, and_true, true_and, vs_tryV, h, tryvk_exc tb hl, gone_next, i1]
end LW

namespace LW
open PySem PySem.Spec PyProof.Rows L2 DL VL PySem.StrLaws TL
/-! k61: what is badly written -/
theorem figs_sub {l : List Nat} {c : Nat} (h : c ∈ l) (hc : c ≠ 45) : c ∈ figs l := by
  unfold figs
  split
  · next hp =>
    cases l with
    | nil => cases h
    | cons a l =>
      rw [pre45] at hp
      have : a = 45 := by simpa using hp
      subst this
      rcases List.mem_cons.mp h with h | h
      · exact absurd h hc
      · exact h
  · exact h
theorem bad_of_sign {l : List Nat} {c : Nat} (h : c ∈ figs l) (hd : ¬ (48 ≤ c ∧ c ≤ 57)) : rnum l = none := by
  have : (figs l).all isDig = false := by
    rw [Bool.eq_false_iff]
    intro z
    exact hd (isDig_iff.mp (List.all_eq_true.mp z c h))
  unfold rnum numOk
  rw [this]
  simp
theorem bad_sign {l : List Nat} {c : Nat} (h : c ∈ l) (hc : c ≠ 45) (hd : ¬ (48 ≤ c ∧ c ≤ 57)) : rnum l = none := bad_of_sign (figs_sub h hc) hd
theorem bad_none : rnum [] = none := rfl
theorem bad_nought {l : List Nat} (h : (figs l).head? = some 48) (hl : l ≠ [48]) : rnum l = none := by
  unfold rnum numOk
  rw [h, decide_eq_false hl]
  simp
theorem figs_dig {l : List Nat} (h : ∀ c ∈ l, 48 ≤ c ∧ c ≤ 57) : figs l = l := by
  unfold figs
  rw [if_neg]
  rw [pre45]
  intro z
  have : 45 ∈ l := List.mem_of_head? (of_decide_eq_true z)
  have := h 45 this
  omega
theorem bad_long {l : List Nat} (h : 60 < (figs l).length) : rnum l = none := by
  unfold rnum numOk
  rw [show decide ((figs l).length ≤ 60) = false from decide_eq_false (by omega)]
  simp
def Dg (l : List Nat) : Prop := ∀ c ∈ l, 48 ≤ c ∧ c ≤ 57
theorem numT_dg {n : Int} (h : 0 ≤ n) : Dg (numT n) := fun c hc => by
  unfold numT at hc
  rw [if_neg (by omega)] at hc
  exact numL_digits _ c hc
/-! one of a list -/
theorem ix_all {L : List D} {m : Nat} {P : D → Prop} (h : ∀ d ∈ L, P d) (hm : m < L.length) : ∃ d, atI L (m : Int) = some d ∧ P d :=
  ⟨L[m], VL.atI_nat (List.getElem?_eq_getElem hm), h _ (List.getElem_mem hm)⟩
def BadN (d : D) : Prop := ∃ l, d = tx l ∧ l.length ≤ 10000 ∧ rnum l = none
def BadC (d : D) : Prop := ∃ l, d = tx l ∧ l.length ≤ 10000 ∧ rcoin l = none
theorem rep_lit {c k : Nat} (hk : k ≤ 1000) {S : Sto} : smulD (tx [c]) (.int (k : Int)) S = .ok (tx (List.replicate k c)) S := by
  show (if -1000 ≤ (k : Int) ∧ (k : Int) ≤ 1000 ∧ (mk [c]).length ≤ 1000 then Res.ok (D.str (repS (mk [c]) (k : Int))) S else .bad) = _
  rw [if_pos ⟨by omega, by omega, by rw [len_mk]; simp⟩]
  congr 2
  refine ext_tl ?_
  show (List.replicate (k : Int).toNat [c]).flatten = List.replicate k c
  rw [Int.toNat_natCast, ← List.flatMap_id']
  clear hk
  induction k with
  | zero => rfl
  | succ k ih =>
    rw [List.replicate_succ, List.replicate_succ, List.flatMap_cons, ih]; rfl
theorem v_badnumber (T : List Nat) (hT : Dg T) (h0 : T ≠ []) (hl : T.length ≤ 100) (n : Int) (hn : 0 ≤ n) : ∃ d, VF__law_bad_number [.va (tx T), .va (.int n)] = .ok (.va d) [.no, .no] ∧ BadN d := by
  have l1 : 1 ≤ T.length := List.length_pos_iff.mpr h0
  have cl : (0 : Int) < (T.length : Int) := by omega
  have c16 : (0 : Int) < 16 := by decide
  have d16 : divOk 16 = true := divOk_of (by decide) (by decide)
  obtain ⟨a, ha, a1, a2⟩ : ∃ a : Nat, 1 + n / 16 % (T.length : Int) = (a : Int) ∧ 1 ≤ a ∧ a ≤ T.length := by
    have h1 := Int.emod_nonneg (n / 16) (b := (T.length : Int)) (by omega)
    have h2 := Int.emod_lt_of_pos (n / 16) cl
    exact ⟨(1 + n / 16 % (T.length : Int)).toNat, by omega, by omega, by omega⟩
  obtain ⟨m, hm, hm2⟩ : ∃ m : Nat, n % 16 = (m : Int) ∧ m < 16 := ⟨(n % 16).toNat, by omega, by omega⟩
  have ln : lenD [tx T] [] = .ok (.int (T.length : Int)) [] := len_tx (by rw [sizeLine_eq]; omega)
  have s1 : slxD (tx T) none (some (a : Int)) [] = .ok (tx (T.take a)) [] := slx_to (by rw [sizeLine_eq]; omega)
  have s2 : slxD (tx T) (some (a : Int)) none [] = .ok (tx (T.drop a)) [] := slx_from (by rw [sizeLine_eq]; omega)
  have r9 : smulD (tx [57]) (.int 61) [] = .ok (tx (List.replicate 61 57)) [] := rep_lit (k := 61) (by decide)
  have r1 : smulD (tx [49]) (.int 61) [] = .ok (tx (List.replicate 61 49)) [] := rep_lit (k := 61) (by decide)
  have tk : (T.take a).length ≤ 100 := by rw [List.length_take]; omega
  have dk : (T.drop a).length ≤ 100 := by rw [List.length_drop]; omega
  have ad : ∀ A B : List Nat, A.length ≤ 300 → B.length ≤ 300 → addD (tx A) (tx B) [] = .ok (tx (A ++ B)) [] := fun A B hA hB => add_tx (by rw [sizeLine_eq]; omega)
  have t1 : addD (tx [48]) (tx T) [] = _ := ad [48] T (by decide) (by omega)
  have t2 : addD (tx [43]) (tx T) [] = _ := ad [43] T (by decide) (by omega)
  have t3 : addD (tx [32]) (tx T) [] = _ := ad [32] T (by decide) (by omega)
  have t4 : addD (tx T) (tx [32]) [] = _ := ad T [32] (by omega) (by decide)
  have t5 : addD (tx (T.take a)) (tx [46]) [] = _ := ad (T.take a) [46] (by omega) (by decide)
  have t6 : addD (tx (T.take a ++ [46])) (tx (T.drop a)) [] = _ := ad (T.take a ++ [46]) (T.drop a) (by simp; omega) (by omega)
  have t7 : addD (tx [45, 45]) (tx T) [] = _ := ad [45, 45] T (by decide) (by omega)
  have t8 : addD (tx (T.take a)) (tx [97]) [] = _ := ad (T.take a) [97] (by omega) (by decide)
  have t9 : addD (tx (T.take a ++ [97])) (tx (T.drop a)) [] = _ := ad (T.take a ++ [97]) (T.drop a) (by simp; omega) (by omega)
  have ta : addD (tx (T.take a)) (tx [45]) [] = _ := ad (T.take a) [45] (by omega) (by decide)
  have tb : addD (tx [45]) (tx (List.replicate 61 49)) [] = _ := ad [45] (List.replicate 61 49) (by decide) (by decide)
  have tc : addD (tx T) (tx [10]) [] = _ := ad T [10] (by omega) (by decide)
  have td : addD (tx (T.take a)) (tx [95]) [] = _ := ad (T.take a) [95] (by omega) (by decide)
  have te : addD (tx (T.take a ++ [95])) (tx (T.drop a)) [] = _ := ad (T.take a ++ [95]) (T.drop a) (by simp; omega) (by omega)
  obtain ⟨L1, e1⟩ : ∃ L, L = [tx ([48] ++ T), tx ([43] ++ T), tx [45, 48], tx [], tx [45], tx ([32] ++ T), tx (T ++ [32]), tx (T.take a ++ [46] ++ T.drop a), tx ([45, 45] ++ T)] := ⟨_, rfl⟩
  obtain ⟨L2, e2⟩ : ∃ L, L = [tx (T.take a ++ [97] ++ T.drop a), tx (T.take a ++ [45]), tx (List.replicate 61 57), tx ([45] ++ List.replicate 61 49), tx (T ++ [10]), tx [48, 48]] := ⟨_, rfl⟩
  obtain ⟨L3, e3⟩ : ∃ L, L = [tx (T.take a ++ [95] ++ T.drop a)] := ⟨_, rfl⟩
  have al1 : addD (.lst L1) (.lst L2) [] = .ok (.lst (L1 ++ L2)) [] := add_ll (by rw [e1, e2, sizeLine_eq]; simp)
  have al2 : addD (.lst (L1 ++ L2)) (.lst L3) [] = .ok (.lst (L1 ++ L2 ++ L3)) [] := add_ll (by rw [e1, e2, e3, sizeLine_eq]; simp)
  have lL1 : L1.length ≤ 16777216 := by rw [e1]; simp
  have lL2 : L2.length ≤ 16777216 := by rw [e2]; simp
  have lL3 : L3.length ≤ 16777216 := by rw [e3]; simp
  have bn : ∀ l : List Nat, l.length ≤ 10000 → rnum l = none → BadN (tx l) := fun l h1 h2 => ⟨l, rfl, h1, h2⟩
  have h45 : T.head? ≠ some 45 := fun z => by have := hT 45 (List.mem_of_head? z); omega
  have all : ∀ d ∈ L1 ++ L2 ++ L3, BadN d := fun d hd => by
    rcases List.mem_append.mp hd with hd | hd
    · rcases List.mem_append.mp hd with hd | hd
      · rw [e1] at hd
        simp only [List.mem_cons, List.not_mem_nil, or_false] at hd
        rcases hd with rfl | rfl | rfl | rfl | rfl | rfl | rfl | rfl | rfl
        · refine bn _ (by simp; omega) (bad_nought ?_ ?_)
          · rw [figs_dig (fun c hc => by
              rcases List.mem_cons.mp hc with rfl | hc
              · omega
              · exact hT c hc)]; rfl
          · intro z
            have := congrArg List.length z
            simp at this
            exact h0 this
        · exact bn _ (by simp; omega) (bad_sign (c := 43) (by simp) (by decide) (by decide))
        · exact bn _ (by decide) rfl
        · exact bn _ (by decide) rfl
        · exact bn _ (by decide) rfl
        · exact bn _ (by simp; omega) (bad_sign (c := 32) (by simp) (by decide) (by decide))
        · exact bn _ (by simp; omega) (bad_sign (c := 32) (by simp) (by decide) (by decide))
        · exact bn _ (by simp; omega) (bad_sign (c := 46) (by simp) (by decide) (by decide))
        · refine bn _ (by simp; omega) (bad_of_sign (c := 45) ?_ (by decide))
          unfold figs
          rw [if_pos (by rw [pre45]; rfl)]
          simp
      · rw [e2] at hd
        simp only [List.mem_cons, List.not_mem_nil, or_false] at hd
        rcases hd with rfl | rfl | rfl | rfl | rfl | rfl
        · exact bn _ (by simp; omega) (bad_sign (c := 97) (by simp) (by decide) (by decide))
        · refine bn _ (by simp; omega) (bad_of_sign (c := 45) ?_ (by decide))
          unfold figs
          rw [if_neg]
          · simp
          · rw [pre45]
            intro z
            have z := of_decide_eq_true z
            cases T with
            | nil => exact h0 rfl
            | cons c T =>
              have : a = (a - 1) + 1 := by omega
              rw [this, List.take_succ_cons] at z
              exact h45 (by simpa using z)
        · exact bn _ (by decide) (bad_long (by decide))
        · exact bn _ (by decide) (bad_long (by decide))
        · exact bn _ (by simp; omega) (bad_sign (c := 10) (by simp) (by decide) (by decide))
        · exact bn _ (by decide) rfl
    · rw [e3] at hd
      obtain rfl := List.mem_singleton.mp hd
      exact bn _ (by simp; omega) (bad_sign (c := 95) (by simp) (by decide) (by decide))
  obtain ⟨d, hd, hb⟩ := ix_all (m := m) all (by rw [e1, e2, e3]; simpa using hm2)
  refine ⟨d, ?_, hb⟩
  clear all
  generalize tx ([48] ++ T) = A1 at *
  generalize tx ([43] ++ T) = A2 at *
  generalize tx ([32] ++ T) = A3 at *
  generalize tx (T ++ [32]) = A4 at *
  generalize tx (T.take a ++ [46] ++ T.drop a) = A5 at *
  generalize tx (T.take a ++ [46]) = A6 at *
  generalize tx ([45, 45] ++ T) = A7 at *
  generalize tx (T.take a ++ [97] ++ T.drop a) = A8 at *
  generalize tx (T.take a ++ [97]) = A9 at *
  generalize tx (T.take a ++ [45]) = B1 at *
  generalize tx ([45] ++ List.replicate 61 49) = B2 at *
  generalize tx (List.replicate 61 57) = B3 at *
  generalize tx (List.replicate 61 49) = B4 at *
  generalize tx (T ++ [10]) = B5 at *
  generalize tx (T.take a ++ [95] ++ T.drop a) = B6 at *
  generalize tx (T.take a ++ [95]) = B7 at *
  generalize tx (T.take a) = B8 at *
  generalize tx (T.drop a) = B9 at *
  have z1 : D.str (Str.ofString "0") = tx [48] := rfl
  have z2 : D.str (Str.ofString "+") = tx [43] := rfl
  have z3 : D.str (Str.ofString "-0") = tx [45, 48] := rfl
  have z4 : D.str (Str.ofString "") = tx [] := rfl
  have z5 : D.str (Str.ofString "-") = tx [45] := rfl
  have z6 : D.str (Str.ofString " ") = tx [32] := rfl
  have z7 : D.str (Str.ofString ".") = tx [46] := rfl
  have z8 : D.str (Str.ofString "--") = tx [45, 45] := rfl
  have z9 : D.str (Str.ofString "a") = tx [97] := rfl
  have y1 : D.str (Str.ofString "9") = tx [57] := rfl
  have y2 : D.str (Str.ofString "1") = tx [49] := rfl
  have y3 : D.str (Str.ofString "\n") = tx [10] := rfl
  have y4 : D.str (Str.ofString "00") = tx [48, 48] := rfl
  have y5 : D.str (Str.ofString "_") = tx [95] := rfl
  unfold VF__law_bad_number
  rw [vf_eq rfl]
  unfold V__law_bad_number
  generalize (T.length : Int) = TL at *
  generalize tx T = TT at *
  generalize tx [48] = Z1 at *
  generalize tx [43] = Z2 at *
  generalize tx [45, 48] = Z3 at *
  generalize tx [] = Z4 at *
  generalize tx [45] = Z5 at *
  generalize tx [32] = Z6 at *
  generalize tx [46] = Z7 at *
  generalize tx [45, 45] = Z8 at *
  generalize tx [97] = Z9 at *
  generalize tx [57] = Y1 at *
  generalize tx [49] = Y2 at *
  generalize tx [10] = Y3 at *
  generalize tx [48, 48] = Y4 at *
  generalize tx [95] = Y5 at *
  simp only [env_l, env_t, vb_ok, vb_exc, vo_ok, vo_exc, tv_ok, tv_exc, ov_ev, ov_rd, on_ev, on_rd, op_ev, op_rd, snap_va, snap_lv, snap_di, snapl_lv, snapl_di, 
    rd1_some, rd2_some, av_c, av_val, av_fld, av_op2, av_op1, vbl, av_chain, av_and, av_or, av_tr, av_not, av_if, av_tval, av_tand, av_tor, av_tnot, 
    av_ttrue, av_nil, av_cons, av_tup, av_lst, av_lstm, rda_some, av_app, os_nil, os_cons, osr_nil, cons2_some, osr_cons, av_sl, av_pno, av_pat, av_va, 
    frk_ok, frk_exc, slk_some, av_call, ge_nil, ge_v, ge_p, conss_some, gs_nil, gs_v, gs_p, gp_nil, gp_v, gp_p, hand_nil, hs_lv, hs_di, hs_va, hs_ins, 
    get_nil, put_nil, av_mtl, append_l, av_mtp, vfk_va, vfk_lv, vfk_di, vfk_nlv, vfk_rw, vfk_retf, vfk_next, vfk_exc, fin_eq, oko_nil, oko_t, oko_f, no_va, 
    no_lv, no_di, no_ins, msk_t, msk_f, List.zipWith_cons_cons, List.zipWith_nil_left, Bool.true_and, Bool.and_true, vs_seq, vsk_next, vsk_ret, vsk_retf, 
    vsk_brk, vsk_cont, vsk_exc, vs_nil, vs_brk, vs_cont, vs_expr, vs_ret, vs_retn, vs_retm, vs_reti, vs_if, vs_set, vs_setm, vs_asg, vg_nm, vg_tp, vgs_nil, 
    vgs_cons, vs_par, vs_aug, vs_sub, vs_for, vi_seq, vi_r1, vi_r2, rgk_t, loopv_next, loopv_cont, isBl_bl, truD_bl, truD_int, ty_int, ty_bl, ty_str, 
    ty_non, ty_tup, ty_lst, isi_ap, seqOf_lst, seqOf_tup, add_ii, sub_ii, mul_ii, mulOk_l, mulOk_r, fdiv_ii, divmod_ii, mod_ii, pow_ii, neg_i, ord_ii, 
    is_non, isnt_non, is_bl, isnt_bl, abs_i, int_i, int_b, max_ii, min_ii, len_tup, len_lst, tuple_lst, tuple_tup, list_lst, list_tup, DL.sl_lst, 
    DL.sl_tup, Nat.reduceAdd, Nat.zero_add, Nat.sub_self, List.replicate_zero, List.replicate_succ, List.getElem?_cons_zero, List.getElem?_cons_succ, 
    List.set_cons_zero, List.set_cons_succ, List.map_cons, List.map_nil, List.cons_append, List.nil_append, List.reduceReplicate, Nat.reduceSub, 
    List.length_cons, List.length_nil, if_true, if_false, reduceIte, reduceCtorEq, Bool.false_eq_true, Bool.true_eq_false, sizeLine_eq, Int.reduceToNat, 
    ix_tupm, ix_lstm, atI_0, atI_1, atI_2, atI_3, atI_4, atI_5, Option.bind_some, Bool.not_true, Bool.not_false, Nat.reduceLeDiff, Nat.reduceLT, pow10, 
    Int.natCast_zero, Int.natCast_one, Int.cast_ofNat_Int, Int.reduceBEq, Int.reduceBNe, kb_NoneType_int, kb_NoneType_bool, kb_NoneType_str, 
    kb_NoneType_tuple, kb_NoneType_list, kb_NoneType_dict, kb_bool_int, kb_bool_bool, kb_bool_str, kb_bool_tuple, kb_bool_list, kb_bool_dict, kb_int_int, 
    kb_int_bool, kb_int_str, kb_int_tuple, kb_int_list, kb_int_dict, kb_str_int, kb_str_bool, kb_str_str, kb_str_tuple, kb_str_list, kb_str_dict, 
    kb_tuple_int, kb_tuple_bool, kb_tuple_str, kb_tuple_tuple, kb_tuple_list, kb_tuple_dict, kb_list_int, kb_list_bool, kb_list_str, kb_list_tuple, 
    kb_list_list, kb_list_dict, kb_dict_int, kb_dict_bool, kb_dict_str, kb_dict_tuple, kb_dict_list, kb_dict_dict, Int.reduceLT, Int.reduceLE, 
    Int.reduceEq, Int.reduceNe, Nat.reduceEqDiff, decide_true, decide_false, and_self, and_true, true_and, z1, z2, z3, z4, z5, z6, z7, z8, z9, y1, y2, y3, 
    y4, y5, ln, fdiv_ii d16, mod_ii cl, ha, av_slx, s1, s2, r9, r1, t1, t2, t3, t4, t5, t6, t7, t8, t9, ta, tb, tc, td, te, ← e1, ← e2, ← e3, lL1, lL2, 
    lL3, al1, al2, mod_ii c16, hm, hd]
theorem rcoin_minus {l : List Nat} (h : 45 ∈ l) : rcoin l = none := by
  unfold rcoin
  split
  · rw [if_pos h]
  · rfl
theorem rcoin_one {l : List Nat} (h : 46 ∉ l) : rcoin l = none := by
  unfold rcoin
  rw [spl_last1 (s := 46) (S := []) h]
theorem rcoin_two {p q : List Nat} (h1 : 46 ∉ p) (h2 : 46 ∉ q) : rcoin (p ++ 46 :: q) = if 45 ∈ p ++ 46 :: q then none else (match rnum p, rnum q with
    | some a, some b => some (a, b)
    | _, _ => none) := by
  unfold rcoin
  rw [show p ++ 46 :: q = p ++ ([46] ++ q) from rfl, spl_part1 (s := 46) (S := []) h1, List.nil_append, spl_last1 (s := 46) (S := []) h2, List.nil_append] <;> rfl
theorem rcoin_l {p q : List Nat} (h1 : 46 ∉ p) (h2 : 46 ∉ q) (h : rnum p = none ∨ rnum q = none) : rcoin (p ++ 46 :: q) = none := by
  rw [rcoin_two h1 h2]
  split
  · rfl
  · rcases h with h | h
    · rw [h]
    · rw [h]; cases rnum p <;> rfl
theorem rcoin_three {p q r : List Nat} (h1 : 46 ∉ p) (h2 : 46 ∉ q) (h3 : 46 ∉ r) : rcoin (p ++ 46 :: (q ++ 46 :: r)) = none := by
  unfold rcoin
  rw [show p ++ 46 :: (q ++ 46 :: r) = p ++ ([46] ++ (q ++ ([46] ++ r))) from rfl, spl_part1 (s := 46) (S := []) h1, spl_part1 (s := 46) (S := []) h2, spl_last1 (s := 46) (S := []) h3]
theorem dg_no {T : List Nat} (h : Dg T) {c : Nat} (hc : ¬ (48 ≤ c ∧ c ≤ 57)) : c ∉ T := fun z => hc (h c z)
theorem bad0 {T : List Nat} (h : Dg T) (h0 : T ≠ []) : rnum ([48] ++ T) = none := by
  refine bad_nought ?_ ?_
  · rw [figs_dig (fun c hc => by
      rcases List.mem_cons.mp hc with rfl | hc
      · omega
      · exact h c hc)]; rfl
  · intro z
    have := congrArg List.length z
    simp at this
    exact h0 this
theorem v_badcoin (T U : List Nat) (hT : Dg T) (hU : Dg U) (t0 : T ≠ []) (u0 : U ≠ []) (hl : T.length ≤ 100) (hl2 : U.length ≤ 100) (n : Int) (hn : 0 ≤ n) : ∃ d, VF__law_bad_coin [.va (tx T), .va (tx U), .va (.int n)] = .ok (.va d) [.no, .no, .no] ∧ BadC d := by
  have c14 : (0 : Int) < 14 := by decide
  obtain ⟨m, hm, hm2⟩ : ∃ m : Nat, n % 14 = (m : Int) ∧ m < 14 := ⟨(n % 14).toNat, by omega, by omega⟩
  have r1 : smulD (tx [49]) (.int 61) [] = .ok (tx (List.replicate 61 49)) [] := rep_lit (k := 61) (by decide)
  have ad : ∀ A B : List Nat, A.length ≤ 400 → B.length ≤ 400 → addD (tx A) (tx B) [] = .ok (tx (A ++ B)) [] := fun A B hA hB => add_tx (by rw [sizeLine_eq]; omega)
  have t1 : addD (tx T) (tx [46]) [] = _ := ad T [46] (by omega) (by decide)
  have t2 : addD (tx (T ++ [46])) (tx U) [] = _ := ad (T ++ [46]) U (by simp; omega) (by omega)
  have t3 : addD (tx (T ++ [46] ++ U)) (tx [46, 49]) [] = _ := ad (T ++ [46] ++ U) [46, 49] (by simp; omega) (by decide)
  have t4 : addD (tx [45]) (tx T) [] = _ := ad [45] T (by decide) (by omega)
  have t5 : addD (tx ([45] ++ T)) (tx [46]) [] = _ := ad ([45] ++ T) [46] (by simp; omega) (by decide)
  have t6 : addD (tx ([45] ++ T ++ [46])) (tx U) [] = _ := ad ([45] ++ T ++ [46]) U (by simp; omega) (by omega)
  have t7 : addD (tx T) (tx [46, 45]) [] = _ := ad T [46, 45] (by omega) (by decide)
  have t8 : addD (tx (T ++ [46, 45])) (tx U) [] = _ := ad (T ++ [46, 45]) U (by simp; omega) (by omega)
  have t9 : addD (tx [46]) (tx U) [] = _ := ad [46] U (by decide) (by omega)
  have ta : addD (tx T) (tx [44]) [] = _ := ad T [44] (by omega) (by decide)
  have tb : addD (tx (T ++ [44])) (tx U) [] = _ := ad (T ++ [44]) U (by simp; omega) (by omega)
  have tc : addD (tx T) (tx [46, 32]) [] = _ := ad T [46, 32] (by omega) (by decide)
  have td : addD (tx (T ++ [46, 32])) (tx U) [] = _ := ad (T ++ [46, 32]) U (by simp; omega) (by omega)
  have te : addD (tx [48]) (tx T) [] = _ := ad [48] T (by decide) (by omega)
  have tf : addD (tx ([48] ++ T)) (tx [46]) [] = _ := ad ([48] ++ T) [46] (by simp; omega) (by decide)
  have tg : addD (tx ([48] ++ T ++ [46])) (tx U) [] = _ := ad ([48] ++ T ++ [46]) U (by simp; omega) (by omega)
  have th : addD (tx T) (tx [46, 48]) [] = _ := ad T [46, 48] (by omega) (by decide)
  have ti : addD (tx (T ++ [46, 48])) (tx U) [] = _ := ad (T ++ [46, 48]) U (by simp; omega) (by omega)
  have tj : addD (tx T) (tx [46, 120]) [] = _ := ad T [46, 120] (by omega) (by decide)
  have tk : addD (tx (T ++ [46])) (tx (List.replicate 61 49)) [] = _ := ad (T ++ [46]) (List.replicate 61 49) (by simp; omega) (by decide)
  obtain ⟨L1, e1⟩ : ∃ L, L = [tx T, tx (T ++ [46] ++ U ++ [46, 49]), tx ([45] ++ T ++ [46] ++ U), tx (T ++ [46, 45] ++ U), tx ([46] ++ U), tx (T ++ [46])] := ⟨_, rfl⟩
  obtain ⟨L2, e2⟩ : ∃ L, L = [tx (T ++ [44] ++ U), tx (T ++ [46, 32] ++ U), tx ([48] ++ T ++ [46] ++ U), tx (T ++ [46, 48] ++ U), tx (T ++ [46, 120]), tx [46]] := ⟨_, rfl⟩
  obtain ⟨L3, e3⟩ : ∃ L, L = [tx [], tx (T ++ [46] ++ List.replicate 61 49)] := ⟨_, rfl⟩
  have al1 : addD (.lst L1) (.lst L2) [] = .ok (.lst (L1 ++ L2)) [] := add_ll (by rw [e1, e2, sizeLine_eq]; simp)
  have al2 : addD (.lst (L1 ++ L2)) (.lst L3) [] = .ok (.lst (L1 ++ L2 ++ L3)) [] := add_ll (by rw [e1, e2, e3, sizeLine_eq]; simp)
  have lL1 : L1.length ≤ 16777216 := by rw [e1]; simp
  have lL2 : L2.length ≤ 16777216 := by rw [e2]; simp
  have lL3 : L3.length ≤ 16777216 := by rw [e3]; simp
  have bn : ∀ l : List Nat, l.length ≤ 10000 → rcoin l = none → BadC (tx l) := fun l h1 h2 => ⟨l, rfl, h1, h2⟩
  have n46 : 46 ∉ T := dg_no hT (by decide)
  have m46 : 46 ∉ U := dg_no hU (by decide)
  have all : ∀ d ∈ L1 ++ L2 ++ L3, BadC d := fun d hd => by
    rcases List.mem_append.mp hd with hd | hd
    · rcases List.mem_append.mp hd with hd | hd
      · rw [e1] at hd
        simp only [List.mem_cons, List.not_mem_nil, or_false] at hd
        rcases hd with rfl | rfl | rfl | rfl | rfl | rfl
        · exact bn _ (by omega) (rcoin_one n46)
        · refine bn _ (by simp; omega) ?_
          rw [show T ++ [46] ++ U ++ [46, 49] = T ++ 46 :: (U ++ 46 :: [49]) by simp]
          exact rcoin_three n46 m46 (by decide)
        · exact bn _ (by simp; omega) (rcoin_minus (by simp))
        · exact bn _ (by simp; omega) (rcoin_minus (by simp))
        · exact bn _ (by simp; omega) (rcoin_l (p := []) (q := U) (by simp) m46 (.inl rfl))
        · exact bn _ (by simp; omega) (rcoin_l (p := T) (q := []) n46 (by simp) (.inr rfl))
      · rw [e2] at hd
        simp only [List.mem_cons, List.not_mem_nil, or_false] at hd
        rcases hd with rfl | rfl | rfl | rfl | rfl | rfl
        · exact bn _ (by simp; omega) (rcoin_one (by simp [n46, m46]))
        · refine bn _ (by simp; omega) ?_
          rw [show T ++ [46, 32] ++ U = T ++ 46 :: (32 :: U) by simp]
          exact rcoin_l n46 (by simp [m46]) (.inr (bad_sign (c := 32) (by simp) (by decide) (by decide)))
        · refine bn _ (by simp; omega) ?_
          rw [show [48] ++ T ++ [46] ++ U = ([48] ++ T) ++ 46 :: U by simp]
          exact rcoin_l (by simp [n46]) m46 (.inl (bad0 hT t0))
        · refine bn _ (by simp; omega) ?_
          rw [show T ++ [46, 48] ++ U = T ++ 46 :: ([48] ++ U) by simp]
          exact rcoin_l n46 (by simp [m46]) (.inr (bad0 hU u0))
        · exact bn _ (by simp; omega) (rcoin_l (p := T) (q := [120]) n46 (by decide) (.inr (bad_sign (c := 120) (by simp) (by decide) (by decide))))
        · exact bn _ (by decide) (rcoin_l (p := []) (q := []) (by simp) (by simp) (.inl rfl))
    · rw [e3] at hd
      simp only [List.mem_cons, List.not_mem_nil, or_false] at hd
      rcases hd with rfl | rfl
      · exact bn _ (by decide) (rcoin_one (by simp))
      · refine bn _ (by simp; omega) ?_
        rw [show T ++ [46] ++ List.replicate 61 49 = T ++ 46 :: List.replicate 61 49 by simp]
        exact rcoin_l n46 (by decide) (.inr (bad_long (by decide)))
  obtain ⟨d, hd, hb⟩ := ix_all (m := m) all (by rw [e1, e2, e3]; simpa using hm2)
  refine ⟨d, ?_, hb⟩
  clear all
  generalize tx (T ++ [46] ++ U ++ [46, 49]) = A1 at *
  generalize tx ([45] ++ T ++ [46] ++ U) = A2 at *
  generalize tx (T ++ [46, 45] ++ U) = A3 at *
  generalize tx (T ++ [46] ++ U) = A4 at *
  generalize tx ([45] ++ T ++ [46]) = A5 at *
  generalize tx ([45] ++ T) = A6 at *
  generalize tx (T ++ [46, 45]) = A7 at *
  generalize tx ([46] ++ U) = A8 at *
  generalize tx (T ++ [44] ++ U) = A9 at *
  generalize tx (T ++ [44]) = B1 at *
  generalize tx (T ++ [46, 32] ++ U) = B2 at *
  generalize tx (T ++ [46, 32]) = B3 at *
  generalize tx ([48] ++ T ++ [46] ++ U) = B4 at *
  generalize tx ([48] ++ T ++ [46]) = B5 at *
  generalize tx ([48] ++ T) = B6 at *
  generalize tx (T ++ [46, 48] ++ U) = B7 at *
  generalize tx (T ++ [46, 48]) = B8 at *
  generalize tx (T ++ [46, 120]) = B9 at *
  generalize tx (T ++ [46] ++ List.replicate 61 49) = C1 at *
  generalize tx (List.replicate 61 49) = C2 at *
  generalize tx (T ++ [46]) = C3 at *
  have z1 : D.str (Str.ofString ".") = tx [46] := rfl
  have z2 : D.str (Str.ofString ".1") = tx [46, 49] := rfl
  have z3 : D.str (Str.ofString "-") = tx [45] := rfl
  have z4 : D.str (Str.ofString ".-") = tx [46, 45] := rfl
  have z5 : D.str (Str.ofString ",") = tx [44] := rfl
  have z6 : D.str (Str.ofString ". ") = tx [46, 32] := rfl
  have z7 : D.str (Str.ofString "0") = tx [48] := rfl
  have z8 : D.str (Str.ofString ".0") = tx [46, 48] := rfl
  have z9 : D.str (Str.ofString ".x") = tx [46, 120] := rfl
  have y1 : D.str (Str.ofString "") = tx [] := rfl
  have y2 : D.str (Str.ofString "1") = tx [49] := rfl
  unfold VF__law_bad_coin
  rw [vf_eq rfl]
  unfold V__law_bad_coin
  generalize tx T = TT at *
  generalize tx U = UU at *
  generalize tx [46] = Z1 at *
  generalize tx [46, 49] = Z2 at *
  generalize tx [45] = Z3 at *
  generalize tx [46, 45] = Z4 at *
  generalize tx [44] = Z5 at *
  generalize tx [46, 32] = Z6 at *
  generalize tx [48] = Z7 at *
  generalize tx [46, 48] = Z8 at *
  generalize tx [46, 120] = Z9 at *
  generalize tx [] = Y1 at *
  generalize tx [49] = Y2 at *
  simp only [env_l, env_t, vb_ok, vb_exc, vo_ok, vo_exc, tv_ok, tv_exc, ov_ev, ov_rd, on_ev, on_rd, op_ev, op_rd, snap_va, snap_lv, snap_di, snapl_lv, snapl_di, 
    rd1_some, rd2_some, av_c, av_val, av_fld, av_op2, av_op1, vbl, av_chain, av_and, av_or, av_tr, av_not, av_if, av_tval, av_tand, av_tor, av_tnot, 
    av_ttrue, av_nil, av_cons, av_tup, av_lst, av_lstm, rda_some, av_app, os_nil, os_cons, osr_nil, cons2_some, osr_cons, av_sl, av_pno, av_pat, av_va, 
    frk_ok, frk_exc, slk_some, av_call, ge_nil, ge_v, ge_p, conss_some, gs_nil, gs_v, gs_p, gp_nil, gp_v, gp_p, hand_nil, hs_lv, hs_di, hs_va, hs_ins, 
    get_nil, put_nil, av_mtl, append_l, av_mtp, vfk_va, vfk_lv, vfk_di, vfk_nlv, vfk_rw, vfk_retf, vfk_next, vfk_exc, fin_eq, oko_nil, oko_t, oko_f, no_va, 
    no_lv, no_di, no_ins, msk_t, msk_f, List.zipWith_cons_cons, List.zipWith_nil_left, Bool.true_and, Bool.and_true, vs_seq, vsk_next, vsk_ret, vsk_retf, 
    vsk_brk, vsk_cont, vsk_exc, vs_nil, vs_brk, vs_cont, vs_expr, vs_ret, vs_retn, vs_retm, vs_reti, vs_if, vs_set, vs_setm, vs_asg, vg_nm, vg_tp, vgs_nil, 
    vgs_cons, vs_par, vs_aug, vs_sub, vs_for, vi_seq, vi_r1, vi_r2, rgk_t, loopv_next, loopv_cont, isBl_bl, truD_bl, truD_int, ty_int, ty_bl, ty_str, 
    ty_non, ty_tup, ty_lst, isi_ap, seqOf_lst, seqOf_tup, add_ii, sub_ii, mul_ii, mulOk_l, mulOk_r, fdiv_ii, divmod_ii, mod_ii, pow_ii, neg_i, ord_ii, 
    is_non, isnt_non, is_bl, isnt_bl, abs_i, int_i, int_b, max_ii, min_ii, len_tup, len_lst, tuple_lst, tuple_tup, list_lst, list_tup, DL.sl_lst, 
    DL.sl_tup, Nat.reduceAdd, Nat.zero_add, Nat.sub_self, List.replicate_zero, List.replicate_succ, List.getElem?_cons_zero, List.getElem?_cons_succ, 
    List.set_cons_zero, List.set_cons_succ, List.map_cons, List.map_nil, List.cons_append, List.nil_append, List.reduceReplicate, Nat.reduceSub, 
    List.length_cons, List.length_nil, if_true, if_false, reduceIte, reduceCtorEq, Bool.false_eq_true, Bool.true_eq_false, sizeLine_eq, Int.reduceToNat, 
    ix_tupm, ix_lstm, atI_0, atI_1, atI_2, atI_3, atI_4, atI_5, Option.bind_some, Bool.not_true, Bool.not_false, Nat.reduceLeDiff, Nat.reduceLT, pow10, 
    Int.natCast_zero, Int.natCast_one, Int.cast_ofNat_Int, Int.reduceBEq, Int.reduceBNe, kb_NoneType_int, kb_NoneType_bool, kb_NoneType_str, 
    kb_NoneType_tuple, kb_NoneType_list, kb_NoneType_dict, kb_bool_int, kb_bool_bool, kb_bool_str, kb_bool_tuple, kb_bool_list, kb_bool_dict, kb_int_int, 
    kb_int_bool, kb_int_str, kb_int_tuple, kb_int_list, kb_int_dict, kb_str_int, kb_str_bool, kb_str_str, kb_str_tuple, kb_str_list, kb_str_dict, 
    kb_tuple_int, kb_tuple_bool, kb_tuple_str, kb_tuple_tuple, kb_tuple_list, kb_tuple_dict, kb_list_int, kb_list_bool, kb_list_str, kb_list_tuple, 
    kb_list_list, kb_list_dict, kb_dict_int, kb_dict_bool, kb_dict_str, kb_dict_tuple, kb_dict_list, kb_dict_dict, Int.reduceLT, Int.reduceLE, 
    Int.reduceEq, Int.reduceNe, Nat.reduceEqDiff, decide_true, decide_false, and_self, and_true, true_and, z1, z2, z3, z4, z5, z6, z7, z8, z9, y1, y2, r1, 
    t1, t2, t3, t4, t5, t6, t7, t8, t9, ta, tb, tc, td, te, tf, tg, th, ti, tj, tk, ← e1, ← e2, ← e3, lL1, lL2, lL3, al1, al2, mod_ii c14, hm, hd]
end LW

namespace LW
open PySem PySem.Spec PyProof.Rows L2 DL VL PySem.StrLaws TL
/-! k61: the law -/
theorem v_whole (n : Int) : VF__law_whole [.va (.int n)] = .ok (.va (.bl true)) [.no] := by
  unfold VF__law_whole
  rw [vf_eq rfl]
  unfold V__law_whole
  simp only [env_l, env_t, vb_ok, vb_exc, vo_ok, vo_exc, tv_ok, tv_exc, ov_ev, ov_rd, on_ev, on_rd, op_ev, op_rd, snap_va, snap_lv, snap_di, snapl_lv, snapl_di, 
    rd1_some, rd2_some, av_c, av_val, av_fld, av_op2, av_op1, vbl, av_chain, av_and, av_or, av_tr, av_not, av_if, av_tval, av_tand, av_tor, av_tnot, 
    av_ttrue, av_nil, av_cons, av_tup, av_lst, av_lstm, rda_some, av_app, os_nil, os_cons, osr_nil, cons2_some, osr_cons, av_sl, av_pno, av_pat, av_va, 
    frk_ok, frk_exc, slk_some, av_call, ge_nil, ge_v, ge_p, conss_some, gs_nil, gs_v, gs_p, gp_nil, gp_v, gp_p, hand_nil, hs_lv, hs_di, hs_va, hs_ins, 
    get_nil, put_nil, av_mtl, append_l, av_mtp, vfk_va, vfk_lv, vfk_di, vfk_nlv, vfk_rw, vfk_retf, vfk_next, vfk_exc, fin_eq, oko_nil, oko_t, oko_f, no_va, 
    no_lv, no_di, no_ins, msk_t, msk_f, List.zipWith_cons_cons, List.zipWith_nil_left, Bool.true_and, Bool.and_true, vs_seq, vsk_next, vsk_ret, vsk_retf, 
    vsk_brk, vsk_cont, vsk_exc, vs_nil, vs_brk, vs_cont, vs_expr, vs_ret, vs_retn, vs_retm, vs_reti, vs_if, vs_set, vs_setm, vs_asg, vg_nm, vg_tp, vgs_nil, 
    vgs_cons, vs_par, vs_aug, vs_sub, vs_for, vi_seq, vi_r1, vi_r2, rgk_t, loopv_next, loopv_cont, isBl_bl, truD_bl, truD_int, ty_int, ty_bl, ty_str, 
    ty_non, ty_tup, ty_lst, isi_ap, seqOf_lst, seqOf_tup, add_ii, sub_ii, mul_ii, mulOk_l, mulOk_r, fdiv_ii, divmod_ii, mod_ii, pow_ii, neg_i, ord_ii, 
    is_non, isnt_non, is_bl, isnt_bl, abs_i, int_i, int_b, max_ii, min_ii, len_tup, len_lst, tuple_lst, tuple_tup, list_lst, list_tup, DL.sl_lst, 
    DL.sl_tup, Nat.reduceAdd, Nat.zero_add, Nat.sub_self, List.replicate_zero, List.replicate_succ, List.getElem?_cons_zero, List.getElem?_cons_succ, 
    List.set_cons_zero, List.set_cons_succ, List.map_cons, List.map_nil, List.cons_append, List.nil_append, List.reduceReplicate, Nat.reduceSub, 
    List.length_cons, List.length_nil, if_true, if_false, reduceIte, reduceCtorEq, Bool.false_eq_true, Bool.true_eq_false, sizeLine_eq, Int.reduceToNat, 
    ix_tupm, ix_lstm, atI_0, atI_1, atI_2, atI_3, atI_4, atI_5, Option.bind_some, Bool.not_true, Bool.not_false, Nat.reduceLeDiff, Nat.reduceLT, pow10, 
    Int.natCast_zero, Int.natCast_one, Int.cast_ofNat_Int, Int.reduceBEq, Int.reduceBNe, kb_NoneType_int, kb_NoneType_bool, kb_NoneType_str, 
    kb_NoneType_tuple, kb_NoneType_list, kb_NoneType_dict, kb_bool_int, kb_bool_bool, kb_bool_str, kb_bool_tuple, kb_bool_list, kb_bool_dict, kb_int_int, 
    kb_int_bool, kb_int_str, kb_int_tuple, kb_int_list, kb_int_dict, kb_str_int, kb_str_bool, kb_str_str, kb_str_tuple, kb_str_list, kb_str_dict, 
    kb_tuple_int, kb_tuple_bool, kb_tuple_str, kb_tuple_tuple, kb_tuple_list, kb_tuple_dict, kb_list_int, kb_list_bool, kb_list_str, kb_list_tuple, 
    kb_list_list, kb_list_dict, kb_dict_int, kb_dict_bool, kb_dict_str, kb_dict_tuple, kb_dict_list, kb_dict_dict, Int.reduceLT, Int.reduceLE, 
    Int.reduceEq, Int.reduceNe, Nat.reduceEqDiff, decide_true, decide_false, and_self, and_true, true_and]
theorem odd_all (n : Int) (l : List Nat) (b : Bool) : ∀ d ∈ [D.non, .int n, .lst [tx l], .tup [tx [49]], .bl b, .dic false []], Odd d := fun d hd => by
  simp only [List.mem_cons, List.not_mem_nil, or_false] at hd
  rcases hd with rfl | rfl | rfl | rfl | rfl | rfl
  · exact ⟨"NoneType", rfl, by decide⟩
  · exact ⟨"int", rfl, by decide⟩
  · exact ⟨"list", rfl, by decide⟩
  · exact ⟨"tuple", rfl, by decide⟩
  · exact ⟨"bool", rfl, by decide⟩
  · exact ⟨"dict", rfl, by decide⟩
theorem nat60 {n : Int} (h : n.natAbs < 10 ^ 60) : n.natAbs < 2 ^ 1000 := Nat.lt_trans h (by decide +kernel)
theorem flat_pair (a b : Int) : flat (.tup [.int a, .int b]) := flat_tup.mpr (flats_cons.mpr ⟨flat_int _, flats_cons.mpr ⟨flat_int _, flats_nil⟩⟩)
theorem nev_pair (a b : Int) : nevD (.tup [.int a, .int b]) (.tup [.int a, .int b]) [] = .ok (.bl false) [] := by
  have hd : dp (.tup [.int a, .int b]) ≤ 60 := by simp [dp, dps]
  rw [nev_of (dr_pure [] _ (flat_pair a b)) (dr_pure [] _ (flat_pair a b)) hd hd, eqD_refl _ (by omega)]; rfl
theorem law_turn61 (c : Int) (S s2 s3 s4 s5 s6 s7 s8 : Sl) : ∃ y2 y3 y4 y5 y6 y7 y8, loopV (VL_law_1 [S, .va (.int c), s2, s3, s4, s5, s6, s7, s8, .no]) = .next [S, .va (.int c), y2, y3, y4, y5, y6, y7, y8, .no] := by
  have hmx := v_mixed c
  have m0 : 0 ≤ mixed c := by unfold mixed; omega
  obtain ⟨M, hM⟩ : ∃ M, mixed c = M := ⟨_, rfl⟩
  rw [hM] at hmx m0
  have c4 : (0 : Int) < 4 := by decide
  have c2 : (0 : Int) < 2 := by decide
  have c6 : (0 : Int) < 6 := by decide
  have d4 : divOk 4 = true := divOk_of (by decide) (by decide)
  have d8 : divOk 8 = true := divOk_of (by decide) (by decide)
  have d128 : divOk 128 = true := divOk_of (by decide) (by decide)
  have d2000 : divOk 2000 = true := divOk_of (by decide) (by decide)
  have e30 : (0 : Int) < 10 ^ 30 := by decide
  have m2 : (2 : Int).natAbs < 2 ^ 64 := by decide
  obtain ⟨k, hk, hk4⟩ : ∃ k : Nat, M % 4 = (k : Int) ∧ k < 4 := ⟨(M % 4).toNat, by omega, by omega⟩
  obtain ⟨w, hw, w0, w1, w2⟩ : ∃ w : Int, atI [D.int (10 ^ 60), D.int (10 ^ 60), D.int 1000, D.int (10 ^ 30)] (k : Int) = some (.int w) ∧ 0 < w ∧ w ≤ 10 ^ 60 ∧ divOk w = true := by
    match k, hk4 with
    | 0, _ => exact ⟨10 ^ 60, rfl, by decide, by decide, divOk_of (by decide) (by decide +kernel)⟩
    | 1, _ => exact ⟨10 ^ 60, rfl, by decide, by decide, divOk_of (by decide) (by decide +kernel)⟩
    | 2, _ => exact ⟨1000, rfl, by decide, by decide, divOk_of (by decide) (by decide +kernel)⟩
    | 3, _ => exact ⟨10 ^ 30, rfl, by decide, by decide, divOk_of (by decide) (by decide +kernel)⟩
  obtain ⟨a, ha, a0, a1⟩ : ∃ a, c % w = a ∧ 0 ≤ a ∧ a < 10 ^ 60 := ⟨_, rfl, Int.emod_nonneg _ (by omega), by have := Int.emod_lt_of_pos c w0; omega⟩
  obtain ⟨b, hb, b0, b1⟩ : ∃ b, c / w % 10 ^ 30 = b ∧ 0 ≤ b ∧ b < 10 ^ 30 := ⟨_, rfl, Int.emod_nonneg _ (by omega), Int.emod_lt_of_pos _ e30⟩
  obtain ⟨x, hx, hx2⟩ : ∃ x, M / 4 % 2 = x ∧ (x = 0 ∨ x = 1) := ⟨_, rfl, by omega⟩
  have ms : mulOk a (1 - 2 * x) = true := mulOk_r (by rcases hx2 with h | h <;> rw [h] <;> decide)
  obtain ⟨g, hg, hg2⟩ : ∃ g, a * (1 - 2 * x) = g ∧ g.natAbs < 10 ^ 60 := ⟨_, rfl, by rcases hx2 with h | h <;> rw [h] <;> omega⟩
  have an : a.natAbs < 10 ^ 60 := by omega
  have bn : b.natAbs < 10 ^ 60 := by omega
  -- the number
  have sg := str_tx (S := []) (nat60 hg2)
  have rg := v_readnum (numT g) (by have := numT_len (by decide) hg2; omega)
  rw [rnum_num hg2] at rg
  simp only [numR] at rg
  have wg := v_whole g
  have ng : nevD (.int g) (.int g) [] = .ok (.bl false) [] := by rw [nev_ii, beq_self_eq_true]; rfl
  -- the coin
  have sa := str_tx (S := []) (nat60 an)
  have sb := str_tx (S := []) (nat60 bn)
  have la := numT_len (by decide) an
  have lb := numT_len (by decide) bn
  have dga := numT_dg a0
  have dgb := numT_dg b0
  have q1 : addD (tx (numT a)) (tx [46]) [] = .ok (tx (numT a ++ [46])) [] := add_tx (by rw [sizeLine_eq]; simp; omega)
  have q2 : addD (tx (numT a ++ [46])) (tx (numT b)) [] = .ok (tx (numT a ++ 46 :: numT b)) [] := by
    rw [add_tx (by rw [sizeLine_eq]; simp; omega)]; simp
  have rc := v_readcoinG (numT a ++ 46 :: numT b) (by simp; omega)
  rw [rcoin_two (dg_no dga (by decide)) (dg_no dgb (by decide)), if_neg (by
    intro z
    rcases List.mem_append.mp z with z | z
    · exact dg_no dga (c := 45) (by decide) z
    · rcases List.mem_cons.mp z with z | z
      · cases z
      · exact dg_no dgb (c := 45) (by decide) z), rnum_num an, rnum_num bn] at rc
  have rc : VF_read_coin [.va (tx (numT a ++ 46 :: numT b))] = .ok (.va (.tup [.int a, .int b])) [.no] := rc
  have np := nev_pair a b
  have i0 : ixD (.tup [.int a, .int b]) (.int 0) [] = .ok (.int a) [] := rfl
  have i1 : ixD (.tup [.int a, .int b]) (.int 1) [] = .ok (.int b) [] := rfl
  have lc : ∀ (s0 s1 s2 s3 s4 s6 s7 s8 : Sl), vLc (vcI (viSeq (vVal 5))) (vgNm 9) vtTrue VL_law_2 [9] [s0, s1, s2, s3, s4, .va (.tup [.int a, .int b]), s6, s7, s8, .no] = .ok (.lst [.bl true, .bl true]) [s0, s1, s2, s3, s4, .va (.tup [.int a, .int b]), s6, s7, s8, .no] := fun s0 s1 s2 s3 s4 s6 s7 s8 => lcv_map (it := vcI (viSeq (vVal 5))) (items := [D.int a, .int b]) (gd := fun _ => True) (e := [s0, s1, s2, s3, s4, .va (.tup [.int a, .int b]), s6, s7, s8, .no]) (i := 9) (el := VL_law_2) (f := fun _ => .bl true) (vc_i (by simp only [env_l, env_t, vb_ok, vb_exc, vo_ok, vo_exc, tv_ok, tv_exc, ov_ev, ov_rd, on_ev, on_rd, op_ev, op_rd, snap_va, snap_lv, snap_di, snapl_lv, snapl_di, 
    rd1_some, rd2_some, av_c, av_val, av_fld, av_op2, av_op1, vbl, av_chain, av_and, av_or, av_tr, av_not, av_if, av_tval, av_tand, av_tor, av_tnot, 
    av_ttrue, av_nil, av_cons, av_tup, av_lst, av_lstm, rda_some, av_app, os_nil, os_cons, osr_nil, cons2_some, osr_cons, av_sl, av_pno, av_pat, av_va, 
    frk_ok, frk_exc, slk_some, av_call, ge_nil, ge_v, ge_p, conss_some, gs_nil, gs_v, gs_p, gp_nil, gp_v, gp_p, hand_nil, hs_lv, hs_di, hs_va, hs_ins, 
    get_nil, put_nil, av_mtl, append_l, av_mtp, vfk_va, vfk_lv, vfk_di, vfk_nlv, vfk_rw, vfk_retf, vfk_next, vfk_exc, fin_eq, oko_nil, oko_t, oko_f, no_va, 
    no_lv, no_di, no_ins, msk_t, msk_f, List.zipWith_cons_cons, List.zipWith_nil_left, Bool.true_and, Bool.and_true, vs_seq, vsk_next, vsk_ret, vsk_retf, 
    vsk_brk, vsk_cont, vsk_exc, vs_nil, vs_brk, vs_cont, vs_expr, vs_ret, vs_retn, vs_retm, vs_reti, vs_if, vs_set, vs_setm, vs_asg, vg_nm, vg_tp, vgs_nil, 
    vgs_cons, vs_par, vs_aug, vs_sub, vs_for, vi_seq, vi_r1, vi_r2, rgk_t, loopv_next, loopv_cont, isBl_bl, truD_bl, truD_int, ty_int, ty_bl, ty_str, 
    ty_non, ty_tup, ty_lst, isi_ap, seqOf_lst, seqOf_tup, add_ii, sub_ii, mul_ii, mulOk_l, mulOk_r, fdiv_ii, divmod_ii, mod_ii, pow_ii, neg_i, ord_ii, 
    is_non, isnt_non, is_bl, isnt_bl, abs_i, int_i, int_b, max_ii, min_ii, len_tup, len_lst, tuple_lst, tuple_tup, list_lst, list_tup, DL.sl_lst, 
    DL.sl_tup, Nat.reduceAdd, Nat.zero_add, Nat.sub_self, List.replicate_zero, List.replicate_succ, List.getElem?_cons_zero, List.getElem?_cons_succ, 
    List.set_cons_zero, List.set_cons_succ, List.map_cons, List.map_nil, List.cons_append, List.nil_append, List.reduceReplicate, Nat.reduceSub, 
    List.length_cons, List.length_nil, if_true, if_false, reduceIte, reduceCtorEq, Bool.false_eq_true, Bool.true_eq_false, sizeLine_eq, Int.reduceToNat, 
    ix_tupm, ix_lstm, atI_0, atI_1, atI_2, atI_3, atI_4, atI_5, Option.bind_some, Bool.not_true, Bool.not_false, Nat.reduceLeDiff, Nat.reduceLT, pow10, 
    Int.natCast_zero, Int.natCast_one, Int.cast_ofNat_Int, Int.reduceBEq, Int.reduceBNe, kb_NoneType_int, kb_NoneType_bool, kb_NoneType_str, 
    kb_NoneType_tuple, kb_NoneType_list, kb_NoneType_dict, kb_bool_int, kb_bool_bool, kb_bool_str, kb_bool_tuple, kb_bool_list, kb_bool_dict, kb_int_int, 
    kb_int_bool, kb_int_str, kb_int_tuple, kb_int_list, kb_int_dict, kb_str_int, kb_str_bool, kb_str_str, kb_str_tuple, kb_str_list, kb_str_dict, 
    kb_tuple_int, kb_tuple_bool, kb_tuple_str, kb_tuple_tuple, kb_tuple_list, kb_tuple_dict, kb_list_int, kb_list_bool, kb_list_str, kb_list_tuple, 
    kb_list_list, kb_list_dict, kb_dict_int, kb_dict_bool, kb_dict_str, kb_dict_tuple, kb_dict_list, kb_dict_dict, Int.reduceLT, Int.reduceLE, 
    Int.reduceEq, Int.reduceNe, Nat.reduceEqDiff, decide_true, decide_false, and_self, and_true, true_and])) trivial rfl (fun d hd => by
    obtain ⟨n, rfl⟩ : ∃ n, d = .int n := by
      rcases List.mem_cons.mp hd with rfl | hd
      · exact ⟨a, rfl⟩
      · exact ⟨b, by simpa using hd⟩
    have w := v_whole n
    unfold VL_law_2
    simp only [env_l, env_t, vb_ok, vb_exc, vo_ok, vo_exc, tv_ok, tv_exc, ov_ev, ov_rd, on_ev, on_rd, op_ev, op_rd, snap_va, snap_lv, snap_di, snapl_lv, snapl_di, 
    rd1_some, rd2_some, av_c, av_val, av_fld, av_op2, av_op1, vbl, av_chain, av_and, av_or, av_tr, av_not, av_if, av_tval, av_tand, av_tor, av_tnot, 
    av_ttrue, av_nil, av_cons, av_tup, av_lst, av_lstm, rda_some, av_app, os_nil, os_cons, osr_nil, cons2_some, osr_cons, av_sl, av_pno, av_pat, av_va, 
    frk_ok, frk_exc, slk_some, av_call, ge_nil, ge_v, ge_p, conss_some, gs_nil, gs_v, gs_p, gp_nil, gp_v, gp_p, hand_nil, hs_lv, hs_di, hs_va, hs_ins, 
    get_nil, put_nil, av_mtl, append_l, av_mtp, vfk_va, vfk_lv, vfk_di, vfk_nlv, vfk_rw, vfk_retf, vfk_next, vfk_exc, fin_eq, oko_nil, oko_t, oko_f, no_va, 
    no_lv, no_di, no_ins, msk_t, msk_f, List.zipWith_cons_cons, List.zipWith_nil_left, Bool.true_and, Bool.and_true, vs_seq, vsk_next, vsk_ret, vsk_retf, 
    vsk_brk, vsk_cont, vsk_exc, vs_nil, vs_brk, vs_cont, vs_expr, vs_ret, vs_retn, vs_retm, vs_reti, vs_if, vs_set, vs_setm, vs_asg, vg_nm, vg_tp, vgs_nil, 
    vgs_cons, vs_par, vs_aug, vs_sub, vs_for, vi_seq, vi_r1, vi_r2, rgk_t, loopv_next, loopv_cont, isBl_bl, truD_bl, truD_int, ty_int, ty_bl, ty_str, 
    ty_non, ty_tup, ty_lst, isi_ap, seqOf_lst, seqOf_tup, add_ii, sub_ii, mul_ii, mulOk_l, mulOk_r, fdiv_ii, divmod_ii, mod_ii, pow_ii, neg_i, ord_ii, 
    is_non, isnt_non, is_bl, isnt_bl, abs_i, int_i, int_b, max_ii, min_ii, len_tup, len_lst, tuple_lst, tuple_tup, list_lst, list_tup, DL.sl_lst, 
    DL.sl_tup, Nat.reduceAdd, Nat.zero_add, Nat.sub_self, List.replicate_zero, List.replicate_succ, List.getElem?_cons_zero, List.getElem?_cons_succ, 
    List.set_cons_zero, List.set_cons_succ, List.map_cons, List.map_nil, List.cons_append, List.nil_append, List.reduceReplicate, Nat.reduceSub, 
    List.length_cons, List.length_nil, if_true, if_false, reduceIte, reduceCtorEq, Bool.false_eq_true, Bool.true_eq_false, sizeLine_eq, Int.reduceToNat, 
    ix_tupm, ix_lstm, atI_0, atI_1, atI_2, atI_3, atI_4, atI_5, Option.bind_some, Bool.not_true, Bool.not_false, Nat.reduceLeDiff, Nat.reduceLT, pow10, 
    Int.natCast_zero, Int.natCast_one, Int.cast_ofNat_Int, Int.reduceBEq, Int.reduceBNe, kb_NoneType_int, kb_NoneType_bool, kb_NoneType_str, 
    kb_NoneType_tuple, kb_NoneType_list, kb_NoneType_dict, kb_bool_int, kb_bool_bool, kb_bool_str, kb_bool_tuple, kb_bool_list, kb_bool_dict, kb_int_int, 
    kb_int_bool, kb_int_str, kb_int_tuple, kb_int_list, kb_int_dict, kb_str_int, kb_str_bool, kb_str_str, kb_str_tuple, kb_str_list, kb_str_dict, 
    kb_tuple_int, kb_tuple_bool, kb_tuple_str, kb_tuple_tuple, kb_tuple_list, kb_tuple_dict, kb_list_int, kb_list_bool, kb_list_str, kb_list_tuple, 
    kb_list_list, kb_list_dict, kb_dict_int, kb_dict_bool, kb_dict_str, kb_dict_tuple, kb_dict_list, kb_dict_dict, Int.reduceLT, Int.reduceLE, 
    Int.reduceEq, Int.reduceNe, Nat.reduceEqDiff, decide_true, decide_false, and_self, and_true, true_and, w]) (by rw [sizeLine_eq]; simp)
  have al : allD [.lst [.bl true, .bl true]] [] = .ok (.bl true) [] := rfl
  -- a bad number
  obtain ⟨ab, hab, hab0, hab2⟩ : ∃ z : Int, (if g < 0 then -g else g) = z ∧ 0 ≤ z ∧ z.natAbs < 10 ^ 60 := ⟨_, rfl, by split <;> omega, by split <;> omega⟩
  have sab := str_tx (S := []) (nat60 hab2)
  obtain ⟨d1, h1, l1, rfl, k1, k2⟩ := v_badnumber (numT ab) (numT_dg hab0) (numT_ne ab) (by have := numT_len (by decide) hab2; omega) (M / 8) (by omega)
  have f1 := v_refused (d := tx l1) (b := false) (by rw [if_neg (by decide), v_readnum l1 k1, k2]; rfl)
  obtain ⟨d2, h2, l2, rfl, k3, k4⟩ := v_badcoin (numT a) (numT b) dga dgb (numT_ne a) (numT_ne b) (by omega) (by omega) (M / 128) (by omega)
  have f2 := v_refused (d := tx l2) (b := true) (by rw [if_pos rfl, v_readcoinG l2 k3, k4]; rfl)
  -- an odd thing
  obtain ⟨j, hj, hj6⟩ : ∃ j : Nat, M / 2000 % 6 = (j : Int) ∧ j < 6 := ⟨(M / 2000 % 6).toNat, by omega, by omega⟩
  obtain ⟨d3, h3, o3⟩ := ix_all (m := j) (odd_all g (numT g) (M == 0)) (by simpa using hj6)
  have f3 := v_refused (d := d3) (b := false) (by rw [if_neg (by decide)]; exact v_readnum_no o3)
  have f4 := v_refused (d := d3) (b := true) (by rw [if_pos rfl]; exact v_readcoin_no o3)
  have z1 : D.str (Str.ofString "1") = tx [49] := rfl
  refine ⟨.va (.int M), .va (.int w), .va (.int g), .va (.tup [.int a, .int b]), .va (.tup [.int a, .int b]), .va (tx l1), .va d3, ?_⟩
  generalize tx (numT a ++ 46 :: numT b) = T2 at *
  generalize tx (numT a ++ [46]) = T1 at *
  generalize tx (numT ab) = TAB at *
  generalize tx (numT g) = TG at *
  generalize tx (numT a) = TA at *
  generalize tx (numT b) = TB at *
  generalize tx l1 = TL1 at *
  generalize tx l2 = TL2 at *
  generalize tx [49] = T49 at *
  unfold VL_law_1
  simp only [env_l, env_t, vb_ok, vb_exc, vo_ok, vo_exc, tv_ok, tv_exc, ov_ev, ov_rd, on_ev, on_rd, op_ev, op_rd, snap_va, snap_lv, snap_di, snapl_lv, snapl_di, 
    rd1_some, rd2_some, av_c, av_val, av_fld, av_op2, av_op1, vbl, av_chain, av_and, av_or, av_tr, av_not, av_if, av_tval, av_tand, av_tor, av_tnot, 
    av_ttrue, av_nil, av_cons, av_tup, av_lst, av_lstm, rda_some, av_app, os_nil, os_cons, osr_nil, cons2_some, osr_cons, av_sl, av_pno, av_pat, av_va, 
    frk_ok, frk_exc, slk_some, av_call, ge_nil, ge_v, ge_p, conss_some, gs_nil, gs_v, gs_p, gp_nil, gp_v, gp_p, hand_nil, hs_lv, hs_di, hs_va, hs_ins, 
    get_nil, put_nil, av_mtl, append_l, av_mtp, vfk_va, vfk_lv, vfk_di, vfk_nlv, vfk_rw, vfk_retf, vfk_next, vfk_exc, fin_eq, oko_nil, oko_t, oko_f, no_va, 
    no_lv, no_di, no_ins, msk_t, msk_f, List.zipWith_cons_cons, List.zipWith_nil_left, Bool.true_and, Bool.and_true, vs_seq, vsk_next, vsk_ret, vsk_retf, 
    vsk_brk, vsk_cont, vsk_exc, vs_nil, vs_brk, vs_cont, vs_expr, vs_ret, vs_retn, vs_retm, vs_reti, vs_if, vs_set, vs_setm, vs_asg, vg_nm, vg_tp, vgs_nil, 
    vgs_cons, vs_par, vs_aug, vs_sub, vs_for, vi_seq, vi_r1, vi_r2, rgk_t, loopv_next, loopv_cont, isBl_bl, truD_bl, truD_int, ty_int, ty_bl, ty_str, 
    ty_non, ty_tup, ty_lst, isi_ap, seqOf_lst, seqOf_tup, add_ii, sub_ii, mul_ii, mulOk_l, mulOk_r, fdiv_ii, divmod_ii, mod_ii, pow_ii, neg_i, ord_ii, 
    is_non, isnt_non, is_bl, isnt_bl, abs_i, int_i, int_b, max_ii, min_ii, len_tup, len_lst, tuple_lst, tuple_tup, list_lst, list_tup, DL.sl_lst, 
    DL.sl_tup, Nat.reduceAdd, Nat.zero_add, Nat.sub_self, List.replicate_zero, List.replicate_succ, List.getElem?_cons_zero, List.getElem?_cons_succ, 
    List.set_cons_zero, List.set_cons_succ, List.map_cons, List.map_nil, List.cons_append, List.nil_append, List.reduceReplicate, Nat.reduceSub, 
    List.length_cons, List.length_nil, if_true, if_false, reduceIte, reduceCtorEq, Bool.false_eq_true, Bool.true_eq_false, sizeLine_eq, Int.reduceToNat, 
    ix_tupm, ix_lstm, atI_0, atI_1, atI_2, atI_3, atI_4, atI_5, Option.bind_some, Bool.not_true, Bool.not_false, Nat.reduceLeDiff, Nat.reduceLT, pow10, 
    Int.natCast_zero, Int.natCast_one, Int.cast_ofNat_Int, Int.reduceBEq, Int.reduceBNe, kb_NoneType_int, kb_NoneType_bool, kb_NoneType_str, 
    kb_NoneType_tuple, kb_NoneType_list, kb_NoneType_dict, kb_bool_int, kb_bool_bool, kb_bool_str, kb_bool_tuple, kb_bool_list, kb_bool_dict, kb_int_int, 
    kb_int_bool, kb_int_str, kb_int_tuple, kb_int_list, kb_int_dict, kb_str_int, kb_str_bool, kb_str_str, kb_str_tuple, kb_str_list, kb_str_dict, 
    kb_tuple_int, kb_tuple_bool, kb_tuple_str, kb_tuple_tuple, kb_tuple_list, kb_tuple_dict, kb_list_int, kb_list_bool, kb_list_str, kb_list_tuple, 
    kb_list_list, kb_list_dict, kb_dict_int, kb_dict_bool, kb_dict_str, kb_dict_tuple, kb_dict_list, kb_dict_dict, Int.reduceLT, Int.reduceLE, 
    Int.reduceEq, Int.reduceNe, Nat.reduceEqDiff, decide_true, decide_false, and_self, and_true, true_and, hmx, mod_ii c4, hk, hw, mod_ii w0, ha, 
    fdiv_ii d4, mod_ii c2, hx, mul_ii (mulOk_l m2), mul_ii ms, hg, sg, rg, wg, ng, fdiv_ii w2, mod_ii e30, hb, i0, i1, sa, sb, lit_point, q1, q2, rc, np, 
    lc, al, hab, sab, fdiv_ii d8, h1, f1, fdiv_ii d128, h2, f2, z1, eqv_ii, fdiv_ii d2000, mod_ii c6, hj, h3, f3, f4]
theorem main (ns : List Int) (h : ns.length ≤ 63) : ∃ S', F_law [.lst (ns.map D.int)] [] = .ok (.bl true) S' := by
  refine sf_pure sv_law (outs := [.no]) (flats_cons.mpr ⟨flat_lst.mpr (flats_iff.mpr fun x hx => by rw [List.mem_map] at hx; obtain ⟨i, _, rfl⟩ := hx; exact flat_int i), flats_nil⟩) ?_ []
  show VF_law [.va (.lst (ns.map D.int))] = .ok (.va (.bl true)) [.no]
  have ct : slD.cutL (ns.map D.int) none (some 40) = (ns.take 40).map D.int := by
    rw [List.map_take]; exact cut_to _ 40
  have al : addD (.lst [.int 0]) (.lst ((ns.take 40).map D.int)) [] = .ok (.lst ((0 :: ns.take 40).map D.int)) [] := add_ll (by rw [sizeLine_eq]; simp; omega)
  obtain ⟨e', he, y1, y2, y3, y4, y5, y6, y7, y8, rfl⟩ := vLoop_inv (G := vgNm 1) (body := VL_law_1) (fun _ e => ∃ y1 y2 y3 y4 y5 y6 y7 y8, e = [.va (.lst (ns.map D.int)), y1, y2, y3, y4, y5, y6, y7, y8, .no])
    ((0 :: ns.take 40).map D.int) (k := 0) (e := [.va (.lst (ns.map D.int)), .no, .no, .no, .no, .no, .no, .no, .no, .no]) ⟨_, _, _, _, _, _, _, _, rfl⟩ (fun i d e hd ⟨y1, y2, y3, y4, y5, y6, y7, y8, he⟩ => by
      subst he
      rw [List.getElem?_map] at hd
      obtain ⟨c, rfl⟩ : ∃ c, d = .int c := by
        cases hc : (0 :: ns.take 40)[i]? with
        | none => rw [hc] at hd; cases hd
        | some c => rw [hc] at hd; exact ⟨c, by simpa using hd.symm⟩
      obtain ⟨z2, z3, z4, z5, z6, z7, z8, hz⟩ := law_turn61 c (.va (.lst (ns.map D.int))) y2 y3 y4 y5 y6 y7 y8
      exact ⟨_, rfl, _, hz, _, _, _, _, _, _, _, _, rfl⟩)
  unfold VF_law
  rw [vf_eq rfl]
  unfold V_law
  generalize (0 :: ns.take 40).map D.int = L2 at *
  generalize (ns.take 40).map D.int = L1 at *
  generalize ns.map D.int = L0 at *
  simp only [env_l, env_t, vb_ok, vb_exc, vo_ok, vo_exc, tv_ok, tv_exc, ov_ev, ov_rd, on_ev, on_rd, op_ev, op_rd, snap_va, snap_lv, snap_di, snapl_lv, snapl_di, 
    rd1_some, rd2_some, av_c, av_val, av_fld, av_op2, av_op1, vbl, av_chain, av_and, av_or, av_tr, av_not, av_if, av_tval, av_tand, av_tor, av_tnot, 
    av_ttrue, av_nil, av_cons, av_tup, av_lst, av_lstm, rda_some, av_app, os_nil, os_cons, osr_nil, cons2_some, osr_cons, av_sl, av_pno, av_pat, av_va, 
    frk_ok, frk_exc, slk_some, av_call, ge_nil, ge_v, ge_p, conss_some, gs_nil, gs_v, gs_p, gp_nil, gp_v, gp_p, hand_nil, hs_lv, hs_di, hs_va, hs_ins, 
    get_nil, put_nil, av_mtl, append_l, av_mtp, vfk_va, vfk_lv, vfk_di, vfk_nlv, vfk_rw, vfk_retf, vfk_next, vfk_exc, fin_eq, oko_nil, oko_t, oko_f, no_va, 
    no_lv, no_di, no_ins, msk_t, msk_f, List.zipWith_cons_cons, List.zipWith_nil_left, Bool.true_and, Bool.and_true, vs_seq, vsk_next, vsk_ret, vsk_retf, 
    vsk_brk, vsk_cont, vsk_exc, vs_nil, vs_brk, vs_cont, vs_expr, vs_ret, vs_retn, vs_retm, vs_reti, vs_if, vs_set, vs_setm, vs_asg, vg_nm, vg_tp, vgs_nil, 
    vgs_cons, vs_par, vs_aug, vs_sub, vs_for, vi_seq, vi_r1, vi_r2, rgk_t, loopv_next, loopv_cont, isBl_bl, truD_bl, truD_int, ty_int, ty_bl, ty_str, 
    ty_non, ty_tup, ty_lst, isi_ap, seqOf_lst, seqOf_tup, add_ii, sub_ii, mul_ii, mulOk_l, mulOk_r, fdiv_ii, divmod_ii, mod_ii, pow_ii, neg_i, ord_ii, 
    is_non, isnt_non, is_bl, isnt_bl, abs_i, int_i, int_b, max_ii, min_ii, len_tup, len_lst, tuple_lst, tuple_tup, list_lst, list_tup, DL.sl_lst, 
    DL.sl_tup, Nat.reduceAdd, Nat.zero_add, Nat.sub_self, List.replicate_zero, List.replicate_succ, List.getElem?_cons_zero, List.getElem?_cons_succ, 
    List.set_cons_zero, List.set_cons_succ, List.map_cons, List.map_nil, List.cons_append, List.nil_append, List.reduceReplicate, Nat.reduceSub, 
    List.length_cons, List.length_nil, if_true, if_false, reduceIte, reduceCtorEq, Bool.false_eq_true, Bool.true_eq_false, sizeLine_eq, Int.reduceToNat, 
    ix_tupm, ix_lstm, atI_0, atI_1, atI_2, atI_3, atI_4, atI_5, Option.bind_some, Bool.not_true, Bool.not_false, Nat.reduceLeDiff, Nat.reduceLT, pow10, 
    Int.natCast_zero, Int.natCast_one, Int.cast_ofNat_Int, Int.reduceBEq, Int.reduceBNe, kb_NoneType_int, kb_NoneType_bool, kb_NoneType_str, 
    kb_NoneType_tuple, kb_NoneType_list, kb_NoneType_dict, kb_bool_int, kb_bool_bool, kb_bool_str, kb_bool_tuple, kb_bool_list, kb_bool_dict, kb_int_int, 
    kb_int_bool, kb_int_str, kb_int_tuple, kb_int_list, kb_int_dict, kb_str_int, kb_str_bool, kb_str_str, kb_str_tuple, kb_str_list, kb_str_dict, 
    kb_tuple_int, kb_tuple_bool, kb_tuple_str, kb_tuple_tuple, kb_tuple_list, kb_tuple_dict, kb_list_int, kb_list_bool, kb_list_str, kb_list_tuple, 
    kb_list_list, kb_list_dict, kb_dict_int, kb_dict_bool, kb_dict_str, kb_dict_tuple, kb_dict_list, kb_dict_dict, Int.reduceLT, Int.reduceLE, 
    Int.reduceEq, Int.reduceNe, Nat.reduceEqDiff, decide_true, decide_false, and_self, and_true, true_and, ct, al, he]
end LW

namespace LW
open PySem PySem.Spec PyProof.Rows L2 DL
set_option maxHeartbeats 0
def d0 : He.DefD := ⟨("_law_mixed", none), "_law_mixed", "_law_mixed", defArgs (top 10), defBody (top 10), defScope (top 10), [], []⟩
def d1 : He.DefD := ⟨("looked_text", none), "looked_text", "looked_text", defArgs (top 6), defBody (top 6), defScope (top 6), [], []⟩
def d2 : He.DefD := ⟨("read_number", none), "read_number", "read_number", defArgs (top 7), defBody (top 7), defScope (top 7), [], []⟩
def d3 : He.DefD := ⟨("read_coin", none), "read_coin", "read_coin", defArgs (top 8), defBody (top 8), defScope (top 8), [], []⟩
def d4 : He.DefD := ⟨("_law_bad_number", none), "_law_bad_number", "_law_bad_number", defArgs (top 12), defBody (top 12), defScope (top 12), [], []⟩
def d5 : He.DefD := ⟨("_law_refused", none), "_law_refused", "_law_refused", defArgs (top 11), defBody (top 11), defScope (top 11), [], []⟩
def d6 : He.DefD := ⟨("_law_whole", none), "_law_whole", "_law_whole", defArgs (top 14), defBody (top 14), defScope (top 14), [], []⟩
def d7 : He.DefD := ⟨("_law_bad_coin", none), "_law_bad_coin", "_law_bad_coin", defArgs (top 13), defBody (top 13), defScope (top 13), [], []⟩
def d8 : He.DefD := ⟨("law", none), "law", "law", defArgs (top 15), defBody (top 15), defScope (top 15), [], []⟩
def clA (K : PySem.W.Frag) : Nat → Addr := fun c => He.ga K ((["CoinError", "NoText"] : List Str).getD c "")
def fn : List He.DefD := [d0, d1, d2, d3, d4, d5, d6, d7, d8]
def fa : List He.Fa := [.glo "looked_text", .glo "read_number", .glo "read_coin", .glo "_law_mixed", .glo "_law_whole", .glo "_law_bad_number", .glo "_law_refused", .glo "_law_bad_coin", .glo "law", .free "isinstance", .free "str", .free "len", .free "all", .free "int", .free "ValueError", .free "bool", .free "tuple", .free "abs", .int "MOST_FIGURES" 60, .exc "NoText", .glo "NoText", .str "FIGURES" "0123456789", .exc "CoinError", .glo "CoinError", .exm "NoText" "CoinError" true]
def ex0 (K : PySem.W.Frag) : Bool := decide (PySem.W.kitOne K (.type "NoneType") (.ref (He.ga K "NoText")) = some false)
def ex1 (K : PySem.W.Frag) : Bool := (decide (PySem.W.findIn K (.ref (He.ga K "NoText")) "__getattribute__" = some (some (.builtin "BaseException.__getattribute__"))) && (decide (PySem.W.findIn K (.ref (He.ga K "NoText")) "__getattr__" = some none) && (decide (PySem.W.subIn K (.ref (He.ga K "NoText")) (.type "BaseException") = some true) && (PySem.W.hasDictIn K (He.ga K "NoText") && (decide (PySem.W.findIn K (.ref (He.ga K "NoText")) "__class__" = some (some (.builtin "object.__class__"))) && (decide (PySem.W.specialIn K (.builtin "object.__class__") "__get__" = some (some (.builtin "getset_descriptor.__get__"))) && (decide (PySem.W.takesIn K (.builtin "object.__class__") = some true) && decide (PySem.W.mroIn K (He.ga K "NoText") (.type "object") = some true))))))))
def ex2 (K : PySem.W.Frag) : Bool := decide (PySem.W.kitOne K (.ref (He.ga K "NoText")) (.ref (He.ga K "NoText")) = some true)
def ex3 (K : PySem.W.Frag) : Bool := decide (PySem.W.kitOne K (.type "NoneType") (.type "ValueError") = some false)
def ex4 (K : PySem.W.Frag) : Bool := decide (PySem.W.kitOne K (.ref (He.ga K "NoText")) (.type "ValueError") = some true)
def ex (K : PySem.W.Frag) : Bool := ex0 K && ex1 K && ex2 K && ex3 K && ex4 K
abbrev R : PySem.W.OpenRow := PySem.W.OpenLaw.row PySem.Challenge.rw_spentonce_k61_numbers_and_coins
abbrev hk : PySem.W.Hook := He.hookX 4 fa fn [] [] ex
def ob (s : PySem.W.SharedT) : He.AlX := He.obsX 4 fa fn [] [] ex (HandSHeadRun.getT s)
theorem ob_eq (s : PySem.W.SharedT) : ob s = hk.obs s.abs := He.obsX_eq (HandSHeadRun.getT_eq s)
def names : List PySem.Str := (["CoinError", "FIGURES", "MOST_FIGURES", "NoText", "__name__", "_law_bad_coin", "_law_bad_number", "_law_mixed", "_law_refused", "_law_whole", "looked_text", "read_coin", "read_number"] : List PySem.Str)
theorem run (w : World) : HandSHeadRun.RunEq R (PySem.W.view R.prog [15]) hk ob 20000 names w := by
  intro os
  kernel_rfl
theorem facts {P : Program} {w : World} {K : PySem.W.Frag} {h : Heap} {mg : Str → Option Value} {f : Addr} (X : K.In h) (G : h.Ns mainGlobals mg) (hfa : mg ("law" : Str) = some (.ref f)) (cx : He.SaysX fa fn [] [] ex w h K) (cl : Nat → Addr) (hcl : cl = clA K) :
    ∃ fd : FuncData, (∀ (s : Shared) (v : Value), BindsTo s fd ⟨[v], []⟩ [("script", v)]) ∧ ∀ base : Heap, K.In base → base.Ns mainGlobals mg → FnOk P w K mg base (L2.CX P w) 5 f fd ["script"] (spF ⟨P, w, K, cl⟩ 1 F_law) := by
  have c := cx.t.d
  obtain ⟨fd0, D0⟩ := c.def_ 0 (d := d0) rfl
  obtain ⟨fd1, D1⟩ := c.def_ 1 (d := d1) rfl
  obtain ⟨fd2, D2⟩ := c.def_ 2 (d := d2) rfl
  obtain ⟨fd3, D3⟩ := c.def_ 3 (d := d3) rfl
  obtain ⟨fd4, D4⟩ := c.def_ 4 (d := d4) rfl
  obtain ⟨fd5, D5⟩ := c.def_ 5 (d := d5) rfl
  obtain ⟨fd6, D6⟩ := c.def_ 6 (d := d6) rfl
  obtain ⟨fd7, D7⟩ := c.def_ 7 (d := d7) rfl
  obtain ⟨fd8, D8⟩ := c.def_ 8 (d := d8) rfl
  have m_looked_text := He.glo_ok X G (c.fact 0 (f := .glo "looked_text") rfl)
  have m_read_number := He.glo_ok X G (c.fact 1 (f := .glo "read_number") rfl)
  have m_read_coin := He.glo_ok X G (c.fact 2 (f := .glo "read_coin") rfl)
  have m__law_mixed := He.glo_ok X G (c.fact 3 (f := .glo "_law_mixed") rfl)
  have m__law_whole := He.glo_ok X G (c.fact 4 (f := .glo "_law_whole") rfl)
  have m__law_bad_number := He.glo_ok X G (c.fact 5 (f := .glo "_law_bad_number") rfl)
  have m__law_refused := He.glo_ok X G (c.fact 6 (f := .glo "_law_refused") rfl)
  have m__law_bad_coin := He.glo_ok X G (c.fact 7 (f := .glo "_law_bad_coin") rfl)
  have m_law := He.glo_ok X G (c.fact 8 (f := .glo "law") rfl)
  have g_isinstance := He.free_ok X G (c.fact 9 (f := .free "isinstance") rfl)
  have g_str := He.free_ok X G (c.fact 10 (f := .free "str") rfl)
  have g_len := He.free_ok X G (c.fact 11 (f := .free "len") rfl)
  have g_all := He.free_ok X G (c.fact 12 (f := .free "all") rfl)
  have g_int := He.free_ok X G (c.fact 13 (f := .free "int") rfl)
  have g_ValueError := He.free_ok X G (c.fact 14 (f := .free "ValueError") rfl)
  have g_bool := He.free_ok X G (c.fact 15 (f := .free "bool") rfl)
  have g_tuple := He.free_ok X G (c.fact 16 (f := .free "tuple") rfl)
  have g_abs := He.free_ok X G (c.fact 17 (f := .free "abs") rfl)
  have v_MOST_FIGURES := He.int_ok X G (c.fact 18 (f := .int "MOST_FIGURES" 60) rfl)
  have em : (ex0 K && ex1 K && ex2 K && ex3 K && ex4 K) = true := cx.more
  simp only [Bool.and_eq_true] at em
  obtain ⟨⟨⟨⟨e0, e1⟩, e2⟩, e3⟩, e4⟩ := em
  subst hcl
  have x_NoText : ExcK K mg (clA K 1) "NoText" := (fun z => ⟨z.1, z.2.1, He.glo_ok X G (c.fact 20 (f := .glo "NoText") rfl), z.2.2.1, z.2.2.2⟩) (He.exc_ok (c.fact 19 (f := .exc "NoText") rfl))
  have v_FIGURES := He.str_ok X G (c.fact 21 (f := .str "FIGURES" "0123456789") rfl)
  have x_CoinError : ExcK K mg (clA K 0) "CoinError" := (fun z => ⟨z.1, z.2.1, He.glo_ok X G (c.fact 23 (f := .glo "CoinError") rfl), z.2.2.1, z.2.2.2⟩) (He.exc_ok (c.fact 22 (f := .exc "CoinError") rfl))
  have e_NoText_CoinError : PySem.W.exmOne K (.ref (clA K 1)) (.ref (clA K 0)) = some true := He.exm_ok (c.fact 24 (f := .exm "NoText" "CoinError" true) rfl)
  have kz_NoneType_NoText : PySem.W.kitOne K (.type "NoneType") (.ref (clA K 1)) = some false := of_decide_eq_true e0
  have ec_NoText : ExcC K (clA K 1) := exc_c e1
  have ki_NoText_NoText : PySem.W.kitOne K (.ref (clA K 1)) (.ref (clA K 1)) = some true := of_decide_eq_true e2
  have kz_NoneType_ValueError : PySem.W.kitOne K (.type "NoneType") (.type "ValueError") = some false := of_decide_eq_true e3
  have ky_NoText_ValueError : PySem.W.kitOne K (.ref (clA K 1)) (.type "ValueError") = some true := of_decide_eq_true e4
  cases hfa.symm.trans m_law
  have b := FunD.bindsA (ps := ["script"]) D8 fun _ _ _ _ _ _ us hl => match us, hl with | [_], _ => rfl
  refine ⟨fd8, fun s v => b s [v] rfl, fun base _ _ => ?_⟩
  have o__law_mixed := ok__law_mixed (P := P) (w := w) (mg := mg) (base := base) (cl := clA K) D0 
  have c__law_mixed : Cal P w K mg base (clA K) 1 "_law_mixed" F__law_mixed := cal_of o__law_mixed (FunD.bindsN D0 fun _ _ _ _ _ _ us hl => match us, hl with | [_], _ => rfl) m__law_mixed D0.kp
  have o_looked_text := ok_looked_text (P := P) (w := w) (mg := mg) (base := base) (cl := clA K) D1 g_isinstance g_str x_NoText
  have c_looked_text : Cal P w K mg base (clA K) 1 "looked_text" F_looked_text := cal_of o_looked_text (FunD.bindsN D1 fun _ _ _ _ _ _ us hl => match us, hl with | [_], _ => rfl) m_looked_text D1.kp
  have o_read_number := ok_read_number (P := P) (w := w) (mg := mg) (base := base) (cl := clA K) D2 c_looked_text g_len v_MOST_FIGURES v_FIGURES g_all x_NoText g_int
  have c_read_number : Cal P w K mg base (clA K) 2 "read_number" F_read_number := cal_of o_read_number (FunD.bindsN D2 fun _ _ _ _ _ _ us hl => match us, hl with | [_], _ => rfl) m_read_number D2.kp
  have o_read_coin := ok_read_coin (P := P) (w := w) (mg := mg) (base := base) (cl := clA K) D3 c_looked_text g_len x_NoText c_read_number
  have c_read_coin : Cal P w K mg base (clA K) 3 "read_coin" F_read_coin := cal_of o_read_coin (FunD.bindsN D3 fun _ _ _ _ _ _ us hl => match us, hl with | [_], _ => rfl) m_read_coin D3.kp
  have o__law_bad_number := ok__law_bad_number (P := P) (w := w) (mg := mg) (base := base) (cl := clA K) D4 g_len
  have c__law_bad_number : Cal P w K mg base (clA K) 1 "_law_bad_number" F__law_bad_number := cal_of o__law_bad_number (FunD.bindsN D4 fun _ _ _ _ _ _ us hl => match us, hl with | [_, _], _ => rfl) m__law_bad_number D4.kp
  have o__law_refused := ok__law_refused (P := P) (w := w) (mg := mg) (base := base) (cl := clA K) D5 x_CoinError e_NoText_CoinError c_read_coin c_read_number g_isinstance kz_NoneType_NoText ec_NoText x_NoText ki_NoText_NoText kz_NoneType_ValueError ky_NoText_ValueError g_ValueError
  have c__law_refused : Cal P w K mg base (clA K) 4 "_law_refused" F__law_refused := cal_of o__law_refused (FunD.bindsN D5 fun _ _ _ _ _ _ us hl => match us, hl with | [_, _], _ => rfl) m__law_refused D5.kp
  have o__law_whole := ok__law_whole (P := P) (w := w) (mg := mg) (base := base) (cl := clA K) D6 g_isinstance g_int g_bool
  have c__law_whole : Cal P w K mg base (clA K) 1 "_law_whole" F__law_whole := cal_of o__law_whole (FunD.bindsN D6 fun _ _ _ _ _ _ us hl => match us, hl with | [_], _ => rfl) m__law_whole D6.kp
  have o__law_bad_coin := ok__law_bad_coin (P := P) (w := w) (mg := mg) (base := base) (cl := clA K) D7 
  have c__law_bad_coin : Cal P w K mg base (clA K) 1 "_law_bad_coin" F__law_bad_coin := cal_of o__law_bad_coin (FunD.bindsN D7 fun _ _ _ _ _ _ us hl => match us, hl with | [_, _, _], _ => rfl) m__law_bad_coin D7.kp
  exact ok_law D8 c__law_mixed g_str c_read_number c__law_whole c_read_coin g_isinstance g_tuple g_all g_abs c__law_bad_number c__law_refused c__law_bad_coin
end LW

open PySem PySem.W PySem.Calls PyProof.Rows
theorem PySem.Challenge.cw_spentonce_k61_numbers_and_coins_holds : PySem.Challenge.rw_spentonce_k61_numbers_and_coins.Holds := by
  w_on; o_law
  refine HandSHeadRun.head_any (r := OpenLaw.row PySem.Challenge.rw_spentonce_k61_numbers_and_coins) (q := view (OpenLaw.row PySem.Challenge.rw_spentonce_k61_numbers_and_coins).prog [15]) (H := LW.hk) (ob := LW.ob) (M := 20000) (loose := LW.names) (d := HandSHeadRun.topDef (OpenLaw.row PySem.Challenge.rw_spentonce_k61_numbers_and_coins).prog 15) (kwd := []) LW.ob_eq
    (by kernel_rfl) (fun s => by kernel_rfl) LW.run (by kernel_rfl) (by kernel_rfl) (by kernel_rfl) (by rfl) (by first | assumption | decide +kernel) (by decide +kernel) ⟨rfl, rfl, rfl, rfl, rfl, by decide +kernel⟩ ?hw ?hc
  case hw => w_witness2
  case hc =>
    refine L2.walk_ofE (l := PySem.Challenge.rw_spentonce_k61_numbers_and_coins) (n := 63) (k := 5) (x := "script") (CX := L2.CX0) rfl (by decide) (by kernel_rfl) ⟨rfl, by decide, by decide⟩ ?F (fun _ _ _ _ z => z)
    intro w mg fa h Y G hmg0
    obtain ⟨K, KX, c⟩ := Y
    have hmg : mg ("law" : PySem.Str) = some (.ref fa) := by
      have e : (HandSHeadRun.topDef (OpenLaw.row PySem.Challenge.rw_spentonce_k61_numbers_and_coins).prog 15).name = ("law" : PySem.Str) := by kernel_rfl
      rw [← e]
      exact hmg0
    obtain ⟨fd, hb, hF⟩ := LW.facts (P := (PySem.Challenge.rw_spentonce_k61_numbers_and_coins).prog) (w := w) KX G hmg c (LW.clA K) rfl
    exact ⟨K, fd, DL.spLaw K, KX, hb, fun H a ns hl _ hS => ⟨a, ns, rfl, hS, hl, fun _ => rfl⟩, fun base i j => DL.fn_calm (hF base i j) fun vs H Q E h => DL.law_sp LW.main vs H Q E h⟩
