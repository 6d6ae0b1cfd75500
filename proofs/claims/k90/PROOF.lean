import PyProof.Rows.All
import Wide.All
import OpenK.AllK
import Wide.FinOn
import HandS.HotCalls
import HandS.ForMost
import HandS.ForExc
import HandS.IsInst
import HandS.Deep
import HandS.Style
import HandS.StrMore
import HandS.Conv
import HandS.Replace
import HandS.Flow
import HandS.SetFor
import HandS.ExcOwn
import HandS.TryOnly
import HandS.ExcIs
import PyProof.ListStr
import KE.GoesEnum
import KE.GoesZip
import KE.GoesMore
import HandS.RevTup
import KE.SortData
import KE.DataFind
import KE.DataMinMax
import HandS.More
import HandS.Flt
import HandS.ReplaceLit
import KE.GoesRaise
import PySem.Challenge.RW_fewfind_k90_texts
import HandS.Codes
import KE.IntTextText
set_option Elab.async false
set_option linter.all false
set_option maxRecDepth 100000
set_option maxHeartbeats 4000000
/-! What a text computes, as plain functions over data; how it is tied to the text. -/
namespace FF
open PySem L2

/-! ### answers -/
inductive R (α : Type) where
  | ok (a : α)
  | exn (c : Str)
  | bad
def R.bind {α β : Type} : R α → (α → R β) → R β
  | .ok a, f => f a
  | .exn c, _ => .exn c
  | .bad, _ => .bad
abbrev D := PyData
def kD : Key → D
  | .inl i => .int i
  | .inr x => .str x
inductive Sl where
  | no
  | val (d : D)
  | own (ds : List D)
  | odc (kvs : List (Key × D))
  | obj (n : Nat)
abbrev Env := List Sl
inductive Fl where
  | next (e : Env)
  | ret (d : D)
  | brk (e : Env)
  | cont (e : Env)
  | exn (c : Str) (e : Env)
  | bad

/-! ### data in a heap -/
mutual
inductive Rep (Kf : PySem.W.Frag) (G : Hp) : V → D → Prop
  | non : Rep Kf G .non .none
  | bl (b : Bool) : Rep Kf G (.bl b) (.bool b)
  | int (i : Int) : Rep Kf G (.int i) (.int i)
  | str (x : Str) : Rep Kf G (.str x) (.str x)
  | lst {a : Addr} {vs : List V} {ds : List D} : SqL Kf G a vs → RepL Kf G vs ds → Rep Kf G (.ref a) (.list ds)
  | tup {a : Addr} {vs : List V} {ds : List D} : G a = some (.tup vs) → RepL Kf G vs ds → Rep Kf G (.ref a) (.tuple ds)
  | dct {a : Addr} {o : Obj} {kvs : List (Key × V)} {ds : List (D × D)} : G a = some (.frz o (.dK kvs)) → RepK Kf G kvs ds → Rep Kf G (.ref a) (.dict ds)
inductive RepL (Kf : PySem.W.Frag) (G : Hp) : List V → List D → Prop
  | nil : RepL Kf G [] []
  | cons {v : V} {vs : List V} {d : D} {ds : List D} : Rep Kf G v d → RepL Kf G vs ds → RepL Kf G (v :: vs) (d :: ds)
inductive RepK (Kf : PySem.W.Frag) (G : Hp) : List (Key × V) → List (D × D) → Prop
  | nil : RepK Kf G [] []
  | cons {k : Key} {v : V} {kvs : List (Key × V)} {d : D} {ds : List (D × D)} : Rep Kf G v d → RepK Kf G kvs ds → RepK Kf G ((k, v) :: kvs) ((kD k, d) :: ds)
end

/-- what G knows H has; a dict may be locked there -/
def Sub (G H : Hp) : Prop := ∀ a o, G a = some o → H a = some o ∨ ∃ od kvs, o = .dK kvs ∧ H a = some (.frz od (.dK kvs))
def Ext (H H' : Hp) : Prop := ∀ a o, H a = some o → H' a = some o
theorem Ext.refl (H : Hp) : Ext H H := fun _ _ h => h
theorem Ext.trans {H H1 H2 : Hp} (a : Ext H H1) (b : Ext H1 H2) : Ext H H2 := fun x o h => b x o (a x o h)
theorem Ext.new {H : Hp} {p : Addr} {o : HO} (h : H p = none) : Ext H (upd H p o) := fun a u e => by
  rw [upd_ne (ne_of_none e h)]
  exact e
theorem Sub.refl (H : Hp) : Sub H H := fun _ _ h => .inl h
theorem Sub.of (h : Ext G H) : Sub G H := fun a o e => .inl (h a o e)
theorem Sub.ext {G H H' : Hp} (a : Sub G H) (b : Ext H H') : Sub G H' := fun x o h => by
  rcases a x o h with q | ⟨od, kvs, e, q⟩
  · exact .inl (b _ _ q)
  · exact .inr ⟨od, kvs, e, b _ _ q⟩
theorem Sub.pre {G G' H : Hp} (a : Ext G G') (b : Sub G' H) : Sub G H := fun x o h => b x o (a x o h)
theorem Sub.none {G H : Hp} (a : Sub G H) {p : Addr} (h : H p = none) : G p = Option.none := by
  cases e : G p with
  | none => rfl
  | some o =>
    rcases a p o e with q | ⟨od, kvs, _, q⟩ <;> (rw [h] at q; cases q)
theorem Sub.sq {Kf : PySem.W.Frag} {G H : Hp} (a : Sub G H) {p : Addr} {vs : List V} (h : SqL Kf G p vs) : SqL Kf H p vs := by
  rcases h with (h | ⟨o, h⟩) | h
  · rcases a _ _ h with q | ⟨od, kvs, e, q⟩
    · exact .inl (.inl q)
    · cases e
  · rcases a _ _ h with q | ⟨od, kvs, e, q⟩
    · exact .inl (.inr ⟨o, q⟩)
    · cases e
  · exact .inr h
theorem Sub.lst {G H : Hp} (a : Sub G H) {p : Addr} {vs : List V} (h : Rd G p (.lst vs)) : Rd H p (.lst vs) := by
  rcases h with h | ⟨o, h⟩
  · rcases a _ _ h with q | ⟨od, kvs, e, q⟩
    · exact .inl q
    · cases e
  · rcases a _ _ h with q | ⟨od, kvs, e, q⟩
    · exact .inr ⟨o, q⟩
    · cases e
theorem Sub.tup {G H : Hp} (a : Sub G H) {p : Addr} {vs : List V} (h : G p = some (.tup vs)) : H p = some (.tup vs) := by
  rcases a _ _ h with q | ⟨od, kvs, e, q⟩
  · exact q
  · cases e
theorem Sub.frz {G H : Hp} (a : Sub G H) {p : Addr} {o : Obj} {u : HO} (h : G p = some (.frz o u)) : H p = some (.frz o u) := by
  rcases a _ _ h with q | ⟨od, kvs, e, q⟩
  · exact q
  · cases e
theorem Sub.dct {G H : Hp} (a : Sub G H) {p : Addr} {kvs : List (Key × V)} (h : Rd G p (.dK kvs)) : Rd H p (.dK kvs) := by
  rcases h with h | ⟨o, h⟩
  · rcases a _ _ h with q | ⟨od, kvs', e, q⟩
    · exact .inl q
    · cases e
      exact .inr ⟨od, q⟩
  · rcases a _ _ h with q | ⟨od, kvs, e, q⟩
    · exact .inr ⟨o, q⟩
    · cases e

mutual
theorem Rep.mono {Kf : PySem.W.Frag} {G H : Hp} (s : Sub G H) : ∀ {v : V} {d : D}, Rep Kf G v d → Rep Kf H v d
  | _, _, .non => .non
  | _, _, .bl b => .bl b
  | _, _, .int i => .int i
  | _, _, .str x => .str x
  | _, _, .lst h r => .lst (s.sq h) (r.mono s)
  | _, _, .tup h r => .tup (s.tup h) (r.mono s)
  | _, _, .dct h r => .dct (s.frz h) (r.mono s)
theorem RepL.mono {Kf : PySem.W.Frag} {G H : Hp} (s : Sub G H) : ∀ {v : List V} {d : List D}, RepL Kf G v d → RepL Kf H v d
  | _, _, .nil => .nil
  | _, _, .cons h r => .cons (h.mono s) (r.mono s)
theorem RepK.mono {Kf : PySem.W.Frag} {G H : Hp} (s : Sub G H) : ∀ {v : List (Key × V)} {d : List (D × D)}, RepK Kf G v d → RepK Kf H v d
  | _, _, .nil => .nil
  | _, _, .cons h r => .cons (h.mono s) (r.mono s)
end
theorem RepL.length {Kf : PySem.W.Frag} {G : Hp} : ∀ {v : List V} {d : List D}, RepL Kf G v d → v.length = d.length
  | _, _, .nil => rfl
  | _, _, .cons _ r => by rw [List.length_cons, List.length_cons, r.length]
theorem RepL.get {Kf : PySem.W.Frag} {G : Hp} : ∀ {vs : List V} {ds : List D} {i : Nat} {d : D}, RepL Kf G vs ds → ds[i]? = some d → ∃ v, vs[i]? = some v ∧ Rep Kf G v d
  | _, _, _, _, .nil, e => by simp at e
  | _, _, 0, _, .cons h _, e => by simp at e; subst e; exact ⟨_, rfl, h⟩
  | _, _, i + 1, d, .cons _ r, e => by
    obtain ⟨v, h1, h2⟩ := RepL.get (i := i) (d := d) r (by simpa using e)
    exact ⟨v, by simpa using h1, h2⟩
theorem RepL.app {Kf : PySem.W.Frag} {G : Hp} : ∀ {vs ws : List V} {ds es : List D}, RepL Kf G vs ds → RepL Kf G ws es → RepL Kf G (vs ++ ws) (ds ++ es)
  | _, _, _, _, .nil, s => s
  | _, _, _, _, .cons h r, s => .cons h (r.app s)
theorem RepL.set {Kf : PySem.W.Frag} {G : Hp} {v : V} {d : D} (h : Rep Kf G v d) : ∀ {vs : List V} {ds : List D} (i : Nat), RepL Kf G vs ds → RepL Kf G (vs.set i v) (ds.set i d)
  | _, _, _, .nil => .nil
  | _, _, 0, .cons _ r => .cons h r
  | _, _, i + 1, .cons q r => .cons q (RepL.set h i r)
theorem RepL.one {Kf : PySem.W.Frag} {G : Hp} {v : V} {d : D} (h : Rep Kf G v d) : RepL Kf G [v] [d] := .cons h .nil
theorem RepL.take {Kf : PySem.W.Frag} {G : Hp} : ∀ {vs : List V} {ds : List D} (n : Nat), RepL Kf G vs ds → RepL Kf G (vs.take n) (ds.take n)
  | _, _, 0, _ => .nil
  | _, _, _ + 1, .nil => .nil
  | _, _, n + 1, .cons h r => .cons h (RepL.take n r)
theorem RepL.drop {Kf : PySem.W.Frag} {G : Hp} : ∀ {vs : List V} {ds : List D} (n : Nat), RepL Kf G vs ds → RepL Kf G (vs.drop n) (ds.drop n)
  | _, _, 0, r => r
  | _, _, _ + 1, .nil => .nil
  | _, _, n + 1, .cons _ r => RepL.drop n r
theorem RepL.reverse {Kf : PySem.W.Frag} {G : Hp} {vs : List V} {ds : List D} (h : RepL Kf G vs ds) : RepL Kf G vs.reverse ds.reverse := by
  induction vs generalizing ds with
  | nil => cases h; exact .nil
  | cons v vs ih =>
    cases h with
    | cons h r =>
      rw [List.reverse_cons, List.reverse_cons]
      exact (ih r).app (.one h)
theorem repL_mem {Kf : PySem.W.Frag} {G : Hp} : ∀ {vs : List V} {ds : List D} {v : V}, RepL Kf G vs ds → v ∈ vs → ∃ d ∈ ds, Rep Kf G v d
  | _, _, _, .nil, h => by cases h
  | _, _, _, .cons h r, m => by
    rcases List.mem_cons.mp m with rfl | m
    · exact ⟨_, List.mem_cons_self, h⟩
    · obtain ⟨d, hd, q⟩ := repL_mem r m
      exact ⟨d, List.mem_cons_of_mem _ hd, q⟩

/-! ### a step of an expression -/
structure Step (G H G' H' : Hp) : Prop where
  g : Ext G G'
  s : Sub G' H'
  h : Ext H H'
  k : ∀ a, H a ≠ none → G' a = G a
def notFrz : HO → Prop := fun _ => True
section
variable {Kf : PySem.W.Frag} {G H G1 H1 G2 H2 : Hp}
theorem Step.refl (s : Sub G H) : Step G H G H := ⟨.refl _, s, .refl _, fun _ _ => rfl⟩
theorem Step.trans (a : Step G H G1 H1) (b : Step G1 H1 G2 H2) : Step G H G2 H2 :=
  ⟨a.g.trans b.g, b.s, a.h.trans b.h, fun x hx => by
    have h1 : H1 x ≠ none := by
      cases e : H x with
      | none => exact absurd e hx
      | some o =>
        rw [a.h x o e]
        exact fun z => by cases z
    rw [b.k x h1, a.k x hx]⟩
theorem Step.new (s : Sub G H) {p : Addr} {o : HO} (hp : H p = none) (nf : notFrz o) : Step G H (upd G p o) (upd H p o) :=
  ⟨Ext.new (s.none hp), fun a u e => by
    by_cases h : a = p
    · subst h
      rw [upd_same] at e ⊢
      exact .inl e
    · rw [upd_ne h] at e ⊢
      exact s a u e, Ext.new hp, fun a ha => by
    by_cases h : a = p
    · subst h
      exact absurd hp ha
    · rw [upd_ne h]⟩
theorem Step.sub (a : Step G H G1 H1) : Sub G H1 := Sub.pre a.g a.s
end

/-! ### slots -/
def SlOk (Kf : PySem.W.Frag) (G H : Hp) (o : Option (Option V)) : Sl → Prop
  | .no => True
  | .obj _ => True
  | .val d => ∃ v, o = some (some v) ∧ Rep Kf G v d
  | .own ds => ∃ p vs, o = some (some (.ref p)) ∧ G p = none ∧ H p = some (.lst vs) ∧ RepL Kf G vs ds
  | .odc kvs => ∃ p ws, o = some (some (.ref p)) ∧ G p = none ∧ H p = some (.dK ws) ∧ RepK Kf G ws (kvs.map fun x => (kD x.1, x.2))
/-- the slots as an expression may know them -/
structure Re (Kf : PySem.W.Frag) (σ : L2.St) (G H : Hp) (ρ : Env) : Prop where
  s : Sub G H
  len : σ.length = ρ.length
  sl : ∀ (i : Nat) x, ρ[i]? = some x → SlOk Kf G H σ[i]? x
theorem SlOk.step {Kf : PySem.W.Frag} {G H G' H' : Hp} (a : Step G H G' H') {o : Option (Option V)} : ∀ {x : Sl}, SlOk Kf G H o x → SlOk Kf G' H' o x
  | .no, _ => trivial
  | .obj _, _ => trivial
  | .val d, ⟨v, e, r⟩ => ⟨v, e, r.mono (.of a.g)⟩
  | .own ds, ⟨p, vs, e, n, h, r⟩ => ⟨p, vs, e, by rw [a.k p (by rw [h]; exact fun z => by cases z), n], a.h _ _ h, r.mono (.of a.g)⟩
  | .odc kvs, ⟨p, ws, e, n, h, r⟩ => ⟨p, ws, e, by rw [a.k p (by rw [h]; exact fun z => by cases z), n], a.h _ _ h, r.mono (.of a.g)⟩
theorem Re.step {Kf : PySem.W.Frag} {σ : L2.St} {G H G' H' : Hp} {ρ : Env} (r : Re Kf σ G H ρ) (a : Step G H G' H') : Re Kf σ G' H' ρ :=
  ⟨a.s, r.len, fun i x e => (r.sl i x e).step a⟩
def isOwn : Sl → Bool
  | .own _ => true
  | .odc _ => true
  | _ => false
/-- the slots as a statement may know them: G0, H0 at the def's entry -/
structure Rl (Kf : PySem.W.Frag) (G0 H0 : Hp) (σ : L2.St) (G H : Hp) (ρ : Env) : Prop where
  st : Step G0 H0 G H
  re : Re Kf σ G H ρ
  fresh : ∀ (i : Nat) x p, ρ[i]? = some x → isOwn x = true → σ[i]? = some (some (.ref p)) → H0 p = none
  dis : ∀ (i j : Nat) x y p, i ≠ j → ρ[i]? = some x → ρ[j]? = some y → isOwn x = true → isOwn y = true → σ[i]? = some (some (V.ref p)) → σ[j]? = some (some (V.ref p)) → False
theorem Rl.step {Kf : PySem.W.Frag} {G0 H0 : Hp} {σ : L2.St} {G H G' H' : Hp} {ρ : Env} (r : Rl Kf G0 H0 σ G H ρ) (a : Step G H G' H') : Rl Kf G0 H0 σ G' H' ρ :=
  ⟨r.st.trans a, r.re.step a, r.fresh, r.dis⟩
end FF

namespace FF
open PySem L2

def lft {α : Type} : Option α → R α
  | some a => .ok a
  | none => .bad
/-! ### mirrors of expressions -/
def eVar (i : Nat) : Env → R D := fun ρ => match ρ[i]? with
  | some (.val d) => .ok d
  | _ => .bad
def eC (d : D) : Env → R D := fun _ => .ok d
def eBin (g : D → D → Option D) (a b : Env → R D) : Env → R D := fun ρ => (a ρ).bind fun x => (b ρ).bind fun y => lft (g x y)
def eUn (g : D → Option D) (a : Env → R D) : Env → R D := fun ρ => (a ρ).bind fun x => lft (g x)
def aNil : Env → R (List D) := fun _ => .ok []
def aCons (a : Env → R D) (r : Env → R (List D)) : Env → R (List D) := fun ρ => (a ρ).bind fun x => (r ρ).bind fun xs => .ok (x :: xs)
def eBlt (g : List D → Option D) (a : Env → R (List D)) : Env → R D := fun ρ => (a ρ).bind fun xs => lft (g xs)
def eFn (f : List D → R D) (a : Env → R (List D)) : Env → R D := fun ρ => (a ρ).bind f
def boolOf : D → R Bool
  | .bool k => .ok k
  | _ => .bad
def tVal (a : Env → R D) : Env → R Bool := fun ρ => (a ρ).bind boolOf
def tAndM (a b : Env → R Bool) : Env → R Bool := fun ρ => (a ρ).bind fun x => if x = true then b ρ else .ok false
def tOrM (a b : Env → R Bool) : Env → R Bool := fun ρ => (a ρ).bind fun x => if x = true then .ok true else b ρ
def tNotM (a : Env → R Bool) : Env → R Bool := fun ρ => (a ρ).bind fun x => .ok (!x)
def eAnd (a b : Env → R D) : Env → R D := fun ρ => (tVal a ρ).bind fun x => if x = true then b ρ else .ok (.bool false)
def eOr (a b : Env → R D) : Env → R D := fun ρ => (tVal a ρ).bind fun x => if x = true then .ok (.bool true) else b ρ
def eNot (a : Env → R D) : Env → R D := fun ρ => (tVal a ρ).bind fun x => .ok (.bool (!x))
def eIf (t : Env → R Bool) (a b : Env → R D) : Env → R D := fun ρ => (t ρ).bind fun x => if x = true then a ρ else b ρ
def lim {α : Type} (xs : List α) (d : D) : Option D := if xs.length ≤ 1000000 then some d else none
def eTup (a : Env → R (List D)) : Env → R D := fun ρ => (a ρ).bind fun xs => lft (lim xs (.tuple xs))
def eLst (a : Env → R (List D)) : Env → R D := fun ρ => (a ρ).bind fun xs => lft (lim xs (.list xs))
/-- a op b op' c -/
def eChain (g g' : D → D → Option D) (a b c : Env → R D) : Env → R D := fun ρ => (a ρ).bind fun x => (b ρ).bind fun y => (lft (g x y)).bind fun z => (boolOf z).bind fun k =>
  if k = true then (c ρ).bind fun w => lft (g' y w) else .ok (.bool false)

/-! ### the tie -/
def Post {α : Type} (X : Cx) (W : WX) (σ : L2.St) (G H : Hp) (r : R α) (Q : α → Prop) : Prop := match r with
  | .ok a => Q a
  | .exn c => ∀ G' H' C, Step G H G' H' → X.mg c = some (.ref C) → W (.ref C) none σ H'
  | .bad => False
def OkE (Kf : PySem.W.Frag) (G H : Hp) (Q : VK) (d : D) : Prop := ∀ v G' H', Step G H G' H' → Rep Kf G' v d → Q v H'
def OkA (Kf : PySem.W.Frag) (G H : Hp) (Q : List V → Hp → Prop) (d : List D) : Prop := ∀ v G' H', Step G H G' H' → RepL Kf G' v d → Q v H'
def OkB (G H : Hp) (Q : Bool → Hp → Prop) (b : Bool) : Prop := ∀ G' H', Step G H G' H' → Q b H'
structure ME (X : Cx) (W : WX) (e : Expr) (m : Env → R D) : Prop where
  ex : ∃ t, PE X e t ∧ ∀ σ G H ρ Q, Re X.K σ G H ρ → Post X W σ G H (m ρ) (OkE X.K G H Q) → t σ H Q
structure MA (X : Cx) (W : WX) (e : List Expr) (m : Env → R (List D)) : Prop where
  ex : ∃ t, PA X e t ∧ ∀ σ G H ρ Q, Re X.K σ G H ρ → Post X W σ G H (m ρ) (OkA X.K G H Q) → t σ H Q
structure MT (X : Cx) (W : WX) (e : Expr) (m : Env → R Bool) : Prop where
  ex : ∃ t, PT X e t ∧ ∀ σ G H ρ Q, Re X.K σ G H ρ → Post X W σ G H (m ρ) (OkB G H Q) → t σ H Q
structure MW (X : Cx) (W : WX) (e : Expr) (m : Env → R Bool) : Prop where
  ex : ∃ t, PW X e t ∧ ∀ σ G H ρ Q, Re X.K σ G H ρ → Post X W σ G H (m ρ) (OkB G H Q) → t σ H Q
section
variable {Kf : PySem.W.Frag} {X : Cx} {W : WX} {σ : L2.St} {G H G1 H1 : Hp} {α β : Type}
theorem Post.imp {r : R α} {Q Q' : α → Prop} (h : Post X W σ G H r Q) (k : ∀ a, r = .ok a → Q a → Q' a) : Post X W σ G H r Q' := by
  cases r with
  | ok a => exact k a rfl h
  | exn c => exact h
  | bad => exact h
theorem Post.bind {r : R α} {f : α → R β} {Q : β → Prop} (h : Post X W σ G H (r.bind f) Q) : Post X W σ G H r (fun a => Post X W σ G H (f a) Q) := by
  cases r with
  | ok a => exact h
  | exn c => exact h
  | bad => exact h
theorem Post.step {r : R α} {Q Q' : α → Prop} (h : Post X W σ G H r Q) (a : Step G H G1 H1) (k : ∀ a, Q a → Q' a) : Post X W σ G1 H1 r Q' := by
  cases r with
  | ok x => exact k x h
  | exn c => exact fun G' H' C b => h G' H' C (a.trans b)
  | bad => exact h
theorem Post.lft {o : Option α} {Q : α → Prop} (h : Post X W σ G H (FF.lft o) Q) : ∃ a, o = some a ∧ Q a := by
  cases o with
  | none => exact h.elim
  | some a => exact ⟨a, rfl, h⟩
theorem OkE.step {Q : VK} (a : Step G H G1 H1) : ∀ d, OkE Kf G H Q d → OkE Kf G1 H1 Q d := fun _ h v G' H' b r => h v G' H' (a.trans b) r
theorem OkA.step {Q : List V → Hp → Prop} (a : Step G H G1 H1) : ∀ d, OkA Kf G H Q d → OkA Kf G1 H1 Q d := fun _ h v G' H' b r => h v G' H' (a.trans b) r
theorem OkB.step {Q : Bool → Hp → Prop} (a : Step G H G1 H1) : ∀ d, OkB G H Q d → OkB G1 H1 Q d := fun _ h G' H' b => h G' H' (a.trans b)
theorem OkE.now {Q : VK} {d : D} (s : Sub G H) (h : OkE Kf G H Q d) {v : V} (r : Rep Kf G v d) : Q v H := h v G H (.refl s) r
/-- an operation on values -/
def OpM (X : Cx) (f : Value → Value → Sem Value) (g : D → D → Option D) : Prop :=
  ∃ r, OpR X f r ∧ ∀ G H x y a b d Q, Sub G H → Rep X.K G x a → Rep X.K G y b → g a b = some d → OkE X.K G H Q d → r x y H Q
def UnM (X : Cx) (f : Value → Sem Value) (g : D → Option D) : Prop :=
  ∃ r, UnR X f r ∧ ∀ G H x a d Q, Sub G H → Rep X.K G x a → g a = some d → OkE X.K G H Q d → r x H Q
def CallM (X : Cx) (f : Value) (g : List D → Option D) : Prop :=
  ∃ r, CallR X f r ∧ ∀ G H xs as d Q, Sub G H → RepL X.K G xs as → g as = some d → OkE X.K G H Q d → r xs H Q
variable {a b c : Expr} {ma mb mc : Env → R D} {ta tb : Env → R Bool} {pos : Pos} {es : List Expr} {ms : Env → R (List D)}
theorem me_var {i : Nat} {e : Expr} (h : PE X e (tVar i)) : ME X W e (eVar i) := by
  refine ⟨tVar i, h, fun σ G H ρ Q re h => ?_⟩
  unfold eVar at h
  cases e : ρ[i]? with
  | none => rw [e] at h; exact h.elim
  | some x =>
    rw [e] at h
    cases x with
    | val d =>
      obtain ⟨v, hv, r⟩ := re.sl i _ e
      exact ⟨v, hv, OkE.now re.s h r⟩
    | no => exact h.elim
    | obj _ => exact h.elim
    | own ds => exact h.elim
    | odc ds => exact h.elim
theorem me_c {e : Expr} {v : V} {d : D} (h : PE X e (tC v)) (r : ∀ G, Rep X.K G v d) : ME X W e (eC d) :=
  ⟨tC v, h, fun σ G H ρ Q re h => OkE.now re.s h (r G)⟩
theorem me_int {i : Int} {j : Nat} : ME X W (.Constant (.int i) j pos) (eC (.int i)) := me_c pe_int fun _ => .int i
theorem me_bl {i : Bool} {j : Nat} : ME X W (.Constant (.bool i) j pos) (eC (.bool i)) := me_c pe_bl fun _ => .bl i
theorem me_non {j : Nat} : ME X W (.Constant .none j pos) (eC .none) := me_c pe_non fun _ => .non
theorem me_str {x : Str} {j : Nat} : ME X W (.Constant (.str x) j pos) (eC (.str x)) := me_c pe_str fun _ => .str x
/-- a module's constant -/
theorem me_gs {x : Str} {z : Str} {t : Tok} (hg : Gl X x) (hm : X.mg x = some (.str z t)) (hd : (x == ("__debug__" : Str)) = false := by decide) : ME X W (.Name x pos) (eC (.str z)) :=
  me_c (pe_glob hg hm (v := .str z) ⟨t, rfl⟩ hd) fun _ => .str z
theorem me_gi {x : Str} {z : Int} {t : Tok} (hg : Gl X x) (hm : X.mg x = some (.int z t)) (hd : (x == ("__debug__" : Str)) = false := by decide) : ME X W (.Name x pos) (eC (.int z)) :=
  me_c (pe_glob hg hm (v := .int z) ⟨t, rfl⟩ hd) fun _ => .int z
theorem me_bin {op : Operator} {g : D → D → Option D} (ho : OpM X (binaryOp op) g) (ha : ME X W a ma) (hb : ME X W b mb) : ME X W (.BinOp a op b pos) (eBin g ma mb) := by
  obtain ⟨r, hr, hs⟩ := ho
  obtain ⟨t, pt, ht⟩ := ha.ex
  obtain ⟨u, pu, hu⟩ := hb.ex
  refine ⟨_, pe_op hr pt pu, fun σ G H ρ Q re h => ?_⟩
  refine ht σ G H ρ _ re (h.bind.imp fun x _ h1 => fun v G1 H1 s1 r1 => ?_)
  refine hu σ G1 H1 ρ _ (re.step s1) ((h1.bind.step s1 fun _ z => z).imp fun y _ h2 => fun v2 G2 H2 s2 r2 => ?_)
  obtain ⟨d, e, q⟩ := h2.lft
  exact hs G2 H2 v v2 x y d Q s2.s (r1.mono (.of s2.g)) r2 e (OkE.step (s1.trans s2) d q)
theorem me_un {op : UnaryOp} {g : D → Option D} (ho : UnM X (unaryOp op) g) (ha : ME X W a ma) : ME X W (.UnaryOp op a pos) (eUn g ma) := by
  obtain ⟨r, hr, hs⟩ := ho
  obtain ⟨t, pt, ht⟩ := ha.ex
  refine ⟨_, pe_un hr pt, fun σ G H ρ Q re h => ?_⟩
  refine ht σ G H ρ _ re (h.bind.imp fun x _ h1 => fun v G1 H1 s1 r1 => ?_)
  obtain ⟨d, e, q⟩ := h1.lft
  exact hs G1 H1 v x d Q s1.s r1 e (OkE.step s1 d q)
theorem me_cmp {op : CmpOp} {g : D → D → Option D} (ho : OpM X (compareOp op) g) (ha : ME X W a ma) (hb : ME X W b mb) (hm : behindInMarks op b = false) : ME X W (.Compare a [op] [b] pos) (eBin g ma mb) := by
  obtain ⟨r, hr, hs⟩ := ho
  obtain ⟨t, pt, ht⟩ := ha.ex
  obtain ⟨u, pu, hu⟩ := hb.ex
  refine ⟨_, pe_cmpR hr pt pu hm, fun σ G H ρ Q re h => ?_⟩
  refine ht σ G H ρ _ re (h.bind.imp fun x _ h1 => fun v G1 H1 s1 r1 => ?_)
  refine hu σ G1 H1 ρ _ (re.step s1) ((h1.bind.step s1 fun _ z => z).imp fun y _ h2 => fun v2 G2 H2 s2 r2 => ?_)
  obtain ⟨d, e, q⟩ := h2.lft
  exact hs G2 H2 v v2 x y d Q s2.s (r1.mono (.of s2.g)) r2 e (OkE.step (s1.trans s2) d q)
theorem boolOf_ok {d : D} {k : Bool} (h : boolOf d = .ok k) : d = .bool k := by
  cases d <;> cases h
  rfl
theorem rep_bool {v : V} {k : Bool} (h : Rep Kf G v (.bool k)) : v = .bl k := by cases h; rfl
theorem me_chain {op op' : CmpOp} {g g' : D → D → Option D} (ho : OpM X (compareOp op) g) (ho' : OpM X (compareOp op') g') (ha : ME X W a ma) (hb : ME X W b mb) (hc : ME X W c mc)
    (hm : lastMarks [op, op'] [b, c] = false := by with_unfolding_all rfl) : ME X W (.Compare a [op, op'] [b, c] pos) (eChain g g' ma mb mc) := by
  obtain ⟨r, hr, hs⟩ := ho
  obtain ⟨r', hr', hs'⟩ := ho'
  obtain ⟨t, pt, ht⟩ := ha.ex
  obtain ⟨u, pu, hu⟩ := hb.ex
  obtain ⟨w, pw, hw⟩ := hc.ex
  refine ⟨_, pe_chain hr hr' pt pu pw hm, fun σ G H ρ Q re h => ?_⟩
  refine ht σ G H ρ _ re (h.bind.imp fun x _ h1 => fun v G1 H1 s1 r1 => ?_)
  refine hu σ G1 H1 ρ _ (re.step s1) ((h1.bind.step s1 fun _ z => z).imp fun y _ h2 => fun v2 G2 H2 s2 r2 => ?_)
  obtain ⟨d, e, q⟩ := h2.bind.lft
  refine hs G2 H2 v v2 x y d _ s2.s (r1.mono (.of s2.g)) r2 e fun v3 G3 H3 s3 r3 => ?_
  have q := q.bind
  cases ek : boolOf d with
  | bad => rw [ek] at q; exact q.elim
  | exn _ => cases d <;> cases ek
  | ok k =>
    rw [ek] at q
    have ed := boolOf_ok ek
    subst ed
    refine ⟨k, rep_bool r3, ?_⟩
    have s03 := (s1.trans s2).trans s3
    cases k with
    | true =>
      refine iteT ?_
      have q : Post X W σ G H ((mc ρ).bind fun w => FF.lft (g' y w)) (OkE X.K G H Q) := q
      refine hw σ G3 H3 ρ _ (re.step s03) ((q.bind.step s03 fun _ z => z).imp fun z _ h4 => fun v4 G4 H4 s4 r4 => ?_)
      obtain ⟨d', e', q'⟩ := h4.lft
      exact hs' G4 H4 v2 v4 y z d' Q s4.s (r2.mono (.of (s3.trans s4).g)) r4 e' (OkE.step (s03.trans s4) d' q')
    | false =>
      refine iteF ?_
      have q : OkE X.K G H Q (.bool false) := q
      exact q _ G3 H3 s03 (.bl false)
theorem ma_nil : MA X W [] aNil := ⟨tNil, pa_nil, fun σ G H ρ Q re h => h [] G H (.refl re.s) .nil⟩
theorem ma_cons {e : Expr} (ha : ME X W e ma) (hr : MA X W es ms) (hs : starEach (e :: es) X.env = (false, eval e X.env) :: starEach es X.env := by rfl) : MA X W (e :: es) (aCons ma ms) := by
  obtain ⟨t, pt, ht⟩ := ha.ex
  obtain ⟨u, pu, hu⟩ := hr.ex
  refine ⟨_, pa_cons pt pu hs, fun σ G H ρ Q re h => ?_⟩
  refine ht σ G H ρ _ re (h.bind.imp fun x _ h1 => fun v G1 H1 s1 r1 => ?_)
  refine hu σ G1 H1 ρ _ (re.step s1) ((h1.bind.step s1 fun _ z => z).imp fun y _ h2 => fun v2 G2 H2 s2 r2 => ?_)
  exact h2 _ G2 H2 (s1.trans s2) (.cons (r1.mono (.of s2.g)) r2)
theorem lim_some {α : Type} {xs : List α} {d d' : D} (h : lim xs d = some d') : xs.length ≤ 1000000 ∧ d' = d := by
  unfold lim at h
  split at h
  · exact ⟨by assumption, (Option.some.inj h).symm⟩
  · cases h
theorem sz_line {n : Nat} (h : n ≤ 1000000) : n ≤ sizeLine := Nat.le_trans h (by decide)
theorem me_tup {x1} (h : MA X W es ms) : ME X W (.Tuple es x1 pos) (eTup ms) := by
  obtain ⟨t, pt, ht⟩ := h.ex
  refine ⟨_, pe_tup pt, fun σ G H ρ Q re h => ?_⟩
  refine ht σ G H ρ _ re (h.bind.imp fun x _ h1 => fun v G1 H1 s1 r1 => ?_)
  obtain ⟨d, e, q⟩ := h1.lft
  obtain ⟨hl, rfl⟩ := lim_some e
  refine ⟨by rw [r1.length]; exact sz_line hl, fun p hp => ?_⟩
  have s2 := Step.new (o := .tup v) s1.s hp trivial
  exact q _ _ _ (s1.trans s2) (.tup upd_same (r1.mono (.of s2.g)))
theorem me_lst (h : MA X W es ms) : ME X W (.List es pos) (eLst ms) := by
  obtain ⟨t, pt, ht⟩ := h.ex
  refine ⟨_, pe_lst pt, fun σ G H ρ Q re h => ?_⟩
  refine ht σ G H ρ _ re (h.bind.imp fun x _ h1 => fun v G1 H1 s1 r1 => ?_)
  obtain ⟨d, e, q⟩ := h1.lft
  obtain ⟨hl, rfl⟩ := lim_some e
  refine ⟨by rw [r1.length]; exact sz_line hl, fun p hp => ?_⟩
  have s2 := Step.new (o := .lst v) s1.s hp trivial
  exact q _ _ _ (s1.trans s2) (.lst (SqL.of upd_same) (r1.mono (.of s2.g)))
/-! tests -/
theorem mt_val {e : Expr} (h : ME X W e ma) (he : ∀ whole, isTrue e X.env whole = (do let v ← whole; standAt e.pos; holding [v] (truthy v)) := by intro _; rfl) : MT X W e (tVal ma) := by
  obtain ⟨t, pt, ht⟩ := h.ex
  refine ⟨_, pt_val pt he, fun σ G H ρ Q re h => ?_⟩
  refine ht σ G H ρ _ re (h.bind.imp fun x _ h1 => fun v G1 H1 s1 r1 => ?_)
  cases ek : boolOf x with
  | bad => rw [ek] at h1; exact h1.elim
  | exn _ => cases x <;> cases ek
  | ok k =>
    rw [ek] at h1
    have ed := boolOf_ok ek
    subst ed
    exact ⟨k, rep_bool r1, h1 G1 H1 s1⟩
theorem mt_of {e : Expr} {t : TT} (pt : PT X e t) (hm : ∀ σ G H ρ Q, Re X.K σ G H ρ → Post X W σ G H (ta ρ) (OkB G H Q) → t σ H Q) : MT X W e ta := ⟨t, pt, hm⟩
theorem mt_cmp {op : CmpOp} {g : D → D → Option D} (ho : OpM X (compareOp op) g) (ha : ME X W a ma) (hb : ME X W b mb) (hm : behindInMarks op b = false) : MT X W (.Compare a [op] [b] pos) (tVal (eBin g ma mb)) := by
  obtain ⟨r, hr, hs⟩ := ho
  obtain ⟨t, pt, ht⟩ := ha.ex
  obtain ⟨u, pu, hu⟩ := hb.ex
  refine ⟨_, pt_cmpR hr pt pu hm, fun σ G H ρ Q re h => ?_⟩
  refine ht σ G H ρ _ re (h.bind.bind.imp fun x _ h1 => fun v G1 H1 s1 r1 => ?_)
  refine hu σ G1 H1 ρ _ (re.step s1) ((h1.bind.step s1 fun _ z => z).imp fun y _ h2 => fun v2 G2 H2 s2 r2 => ?_)
  obtain ⟨d, e, q⟩ := h2.lft
  refine hs G2 H2 v v2 x y d _ s2.s (r1.mono (.of s2.g)) r2 e fun v3 G3 H3 s3 r3 => ?_
  cases ek : boolOf d with
  | bad => rw [ek] at q; exact q.elim
  | exn _ => cases d <;> cases ek
  | ok k =>
    rw [ek] at q
    have ed := boolOf_ok ek
    subst ed
    exact ⟨k, rep_bool r3, q G3 H3 ((s1.trans s2).trans s3)⟩
theorem mt_chain {op op' : CmpOp} {g g' : D → D → Option D} (ho : OpM X (compareOp op) g) (ho' : OpM X (compareOp op') g') (ha : ME X W a ma) (hb : ME X W b mb) (hc : ME X W c mc)
    (hm : lastMarks [op, op'] [b, c] = false := by with_unfolding_all rfl) : MT X W (.Compare a [op, op'] [b, c] pos) (tVal (eChain g g' ma mb mc)) := by
  obtain ⟨r, hr, hs⟩ := ho
  obtain ⟨r', hr', hs'⟩ := ho'
  obtain ⟨t, pt, ht⟩ := ha.ex
  obtain ⟨u, pu, hu⟩ := hb.ex
  obtain ⟨w, pw, hw⟩ := hc.ex
  refine ⟨_, pt_chain hr hr' pt pu pw hm, fun σ G H ρ Q re h => ?_⟩
  refine ht σ G H ρ _ re (h.bind.bind.imp fun x _ h1 => fun v G1 H1 s1 r1 => ?_)
  refine hu σ G1 H1 ρ _ (re.step s1) ((h1.bind.step s1 fun _ z => z).imp fun y _ h2 => fun v2 G2 H2 s2 r2 => ?_)
  obtain ⟨d, e, q⟩ := h2.bind.lft
  refine hs G2 H2 v v2 x y d _ s2.s (r1.mono (.of s2.g)) r2 e fun v3 G3 H3 s3 r3 => ?_
  have q := q.bind
  cases ek : boolOf d with
  | bad => rw [ek] at q; exact q.elim
  | exn _ => cases d <;> cases ek
  | ok k =>
    rw [ek] at q
    have ed := boolOf_ok ek
    subst ed
    refine ⟨k, rep_bool r3, ?_⟩
    have s03 := (s1.trans s2).trans s3
    cases k with
    | true =>
      refine iteT ?_
      have q : Post X W σ G H ((mc ρ).bind fun w => FF.lft (g' y w)) (fun d => Post X W σ G H (boolOf d) (OkB G H Q)) := q
      refine hw σ G3 H3 ρ _ (re.step s03) ((q.bind.step s03 fun _ z => z).imp fun z _ h4 => fun v4 G4 H4 s4 r4 => ?_)
      obtain ⟨d', e', q'⟩ := h4.lft
      refine hs' G4 H4 v2 v4 y z d' _ s4.s (r2.mono (.of (s3.trans s4).g)) r4 e' fun v5 G5 H5 s5 r5 => ?_
      cases ek' : boolOf d' with
      | bad => rw [ek'] at q'; exact q'.elim
      | exn _ => cases d' <;> cases ek'
      | ok k' =>
        rw [ek'] at q'
        have ed := boolOf_ok ek'
        subst ed
        exact ⟨k', rep_bool r5, q' G5 H5 ((s03.trans s4).trans s5)⟩
    | false =>
      refine iteF ?_
      have q : OkB G H Q false := q
      exact ⟨false, rfl, q G3 H3 s03⟩
theorem mw_and1 (ha : MT X W a ta) : MW X W (.BoolOp .And [a] pos) ta := by
  obtain ⟨t, pt, ht⟩ := ha.ex
  exact ⟨t, pw_and1 pt, ht⟩
theorem mw_or1 (ha : MT X W a ta) : MW X W (.BoolOp .Or [a] pos) ta := by
  obtain ⟨t, pt, ht⟩ := ha.ex
  exact ⟨t, pw_or1 pt, ht⟩
theorem mw_and {rest : List Expr} (ha : MT X W a ta) (hb : MW X W (.BoolOp .And (b :: rest) pos) tb) : MW X W (.BoolOp .And (a :: b :: rest) pos) (tAndM ta tb) := by
  obtain ⟨t, pt, ht⟩ := ha.ex
  obtain ⟨u, pu, hu⟩ := hb.ex
  refine ⟨_, pw_and pt pu, fun σ G H ρ Q re h => ?_⟩
  refine ht σ G H ρ _ re (h.bind.imp fun x _ h1 => fun G1 H1 s1 => ?_)
  cases x with
  | true =>
    refine iteT ?_
    have h1 : Post X W σ G H (tb ρ) (OkB G H Q) := h1
    exact hu σ G1 H1 ρ Q (re.step s1) (h1.step s1 (OkB.step s1))
  | false =>
    refine iteF ?_
    have h1 : OkB G H Q false := h1
    exact h1 G1 H1 s1
theorem mw_or {rest : List Expr} (ha : MT X W a ta) (hb : MW X W (.BoolOp .Or (b :: rest) pos) tb) : MW X W (.BoolOp .Or (a :: b :: rest) pos) (tOrM ta tb) := by
  obtain ⟨t, pt, ht⟩ := ha.ex
  obtain ⟨u, pu, hu⟩ := hb.ex
  refine ⟨_, pw_or pt pu, fun σ G H ρ Q re h => ?_⟩
  refine ht σ G H ρ _ re (h.bind.imp fun x _ h1 => fun G1 H1 s1 => ?_)
  cases x with
  | false =>
    refine iteF ?_
    have h1 : Post X W σ G H (tb ρ) (OkB G H Q) := h1
    exact hu σ G1 H1 ρ Q (re.step s1) (h1.step s1 (OkB.step s1))
  | true =>
    refine iteT ?_
    have h1 : OkB G H Q true := h1
    exact h1 G1 H1 s1
theorem mt_w {e : Expr} (h : MW X W e ta) : MT X W e ta := by
  obtain ⟨t, pt, ht⟩ := h.ex
  exact ⟨t, pt.pt, ht⟩
theorem mt_not (ha : MT X W a ta) : MT X W (.UnaryOp .Not a pos) (tNotM ta) := by
  obtain ⟨t, pt, ht⟩ := ha.ex
  refine ⟨_, pt_not pt, fun σ G H ρ Q re h => ?_⟩
  exact ht σ G H ρ _ re (h.bind.imp fun x _ h1 => fun G1 H1 s1 => h1 G1 H1 s1)
/-! and, or, not as values -/
theorem post_val {ρ : Env} {Q : VK} {K : Bool → Prop} {h1 : Post X W σ G H (tVal ma ρ) K} : Post X W σ G H (ma ρ) (fun d => ∃ k, d = .bool k ∧ K k) := by
  refine h1.bind.imp fun d _ h => ?_
  cases ek : boolOf d with
  | bad => rw [ek] at h; exact h.elim
  | exn _ => cases d <;> cases ek
  | ok k =>
    rw [ek] at h
    exact ⟨k, boolOf_ok ek, h⟩
theorem me_and {rest : List Expr} (ha : ME X W a ma) (hb : ME X W (.BoolOp .And (b :: rest) pos) mb) : ME X W (.BoolOp .And (a :: b :: rest) pos) (eAnd ma mb) := by
  obtain ⟨t, pt, ht⟩ := ha.ex
  obtain ⟨u, pu, hu⟩ := hb.ex
  refine ⟨_, pe_and pt pu, fun σ G H ρ Q re h => ?_⟩
  refine ht σ G H ρ _ re ((post_val (Q := Q) (h1 := h.bind)).imp fun x _ h1 => fun v G1 H1 s1 r1 => ?_)
  obtain ⟨k, rfl, h1⟩ := h1
  refine ⟨k, rep_bool r1, ?_⟩
  cases k with
  | true =>
    refine iteT ?_
    have h1 : Post X W σ G H (mb ρ) (OkE X.K G H Q) := h1
    exact hu σ G1 H1 ρ Q (re.step s1) (h1.step s1 (OkE.step s1))
  | false =>
    refine iteF ?_
    have h1 : OkE X.K G H Q (.bool false) := h1
    exact h1 _ G1 H1 s1 (.bl false)
theorem me_or {rest : List Expr} (ha : ME X W a ma) (hb : ME X W (.BoolOp .Or (b :: rest) pos) mb) : ME X W (.BoolOp .Or (a :: b :: rest) pos) (eOr ma mb) := by
  obtain ⟨t, pt, ht⟩ := ha.ex
  obtain ⟨u, pu, hu⟩ := hb.ex
  refine ⟨_, pe_or pt pu, fun σ G H ρ Q re h => ?_⟩
  refine ht σ G H ρ _ re ((post_val (Q := Q) (h1 := h.bind)).imp fun x _ h1 => fun v G1 H1 s1 r1 => ?_)
  obtain ⟨k, rfl, h1⟩ := h1
  refine ⟨k, rep_bool r1, ?_⟩
  cases k with
  | false =>
    refine iteF ?_
    have h1 : Post X W σ G H (mb ρ) (OkE X.K G H Q) := h1
    exact hu σ G1 H1 ρ Q (re.step s1) (h1.step s1 (OkE.step s1))
  | true =>
    refine iteT ?_
    have h1 : OkE X.K G H Q (.bool true) := h1
    exact h1 _ G1 H1 s1 (.bl true)
theorem me_one {op : BoolOp} (ha : ME X W a ma) : ME X W (.BoolOp op [a] pos) ma := by
  obtain ⟨t, pt, ht⟩ := ha.ex
  exact ⟨t, pe_one pt, ht⟩
theorem me_not (ha : ME X W a ma) : ME X W (.UnaryOp .Not a pos) (eNot ma) := by
  obtain ⟨t, pt, ht⟩ := ha.ex
  refine ⟨_, pe_not pt, fun σ G H ρ Q re h => ?_⟩
  refine ht σ G H ρ _ re ((post_val (Q := Q) (h1 := h.bind)).imp fun x _ h1 => fun v G1 H1 s1 r1 => ?_)
  obtain ⟨k, rfl, h1⟩ := h1
  have h1 : OkE X.K G H Q (.bool (!k)) := h1
  exact ⟨k, rep_bool r1, h1 _ G1 H1 s1 (.bl _)⟩
theorem me_if (hc : MT X W c ta) (ha : ME X W a ma) (hb : ME X W b mb) : ME X W (.IfExp c a b pos) (eIf ta ma mb) := by
  obtain ⟨w, pw, hw⟩ := hc.ex
  obtain ⟨t, pt, ht⟩ := ha.ex
  obtain ⟨u, pu, hu⟩ := hb.ex
  refine ⟨_, pe_ifExp pw pt pu, fun σ G H ρ Q re h => ?_⟩
  refine hw σ G H ρ _ re (h.bind.imp fun x _ h1 => fun G1 H1 s1 => ?_)
  cases x with
  | true =>
    refine iteT ?_
    have h1 : Post X W σ G H (ma ρ) (OkE X.K G H Q) := h1
    exact ht σ G1 H1 ρ Q (re.step s1) (h1.step s1 (OkE.step s1))
  | false =>
    refine iteF ?_
    have h1 : Post X W σ G H (mb ρ) (OkE X.K G H Q) := h1
    exact hu σ G1 H1 ρ Q (re.step s1) (h1.step s1 (OkE.step s1))
/-! calls of built-ins -/
theorem me_blt {x : Str} {p : Pos} {e : Expr} {id : String} {g : List D → Option D} (hc : CallM X (.builtin id) g) (hg : Gl X x) (hm : X.mg x = none) (hv : bootBuiltins x = some (.builtin id)) (ha : MA X W (e :: es) ms) (hn : x ≠ "__name__" := by decide) (hdb : (x == ("__debug__" : Str)) = false := by decide)
    (he : starEach (e :: es) X.env = (false, eval e X.env) :: starEach es X.env := by rfl) (hpl : (backTo pos (starEach es X.env)).any (·.1) = false := by rfl) : ME X W (.Call (.Name x p) (e :: es) [] pos) (eBlt g ms) := by
  obtain ⟨r, hr, hs⟩ := hc
  obtain ⟨t, pt, ht⟩ := ha.ex
  refine ⟨_, pe_callB hr hg hm hv pt hn hdb he hpl, fun σ G H ρ Q re h => ?_⟩
  refine ht σ G H ρ _ re (h.bind.imp fun xs _ h1 => fun v G1 H1 s1 r1 => ?_)
  obtain ⟨d, e, q⟩ := h1.lft
  exact hs G1 H1 v xs d Q s1.s r1 e (OkE.step s1 d q)
theorem me_ty {x : Str} {p : Pos} {e : Expr} {id : String} {g : List D → Option D} (hc : CallM X (.type id) g) (hg : Gl X x) (hm : X.mg x = none) (hv : bootBuiltins x = some (.type id)) (ha : MA X W (e :: es) ms) (hn : x ≠ "__name__" := by decide) (hdb : (x == ("__debug__" : Str)) = false := by decide)
    (he : starEach (e :: es) X.env = (false, eval e X.env) :: starEach es X.env := by rfl) (hpl : (backTo pos (starEach es X.env)).any (·.1) = false := by rfl) : ME X W (.Call (.Name x p) (e :: es) [] pos) (eBlt g ms) := by
  obtain ⟨r, hr, hs⟩ := hc
  obtain ⟨t, pt, ht⟩ := ha.ex
  refine ⟨_, pe_callTy hr hg hm hv pt hn hdb he hpl, fun σ G H ρ Q re h => ?_⟩
  refine ht σ G H ρ _ re (h.bind.imp fun xs _ h1 => fun v G1 H1 s1 r1 => ?_)
  obtain ⟨d, e, q⟩ := h1.lft
  exact hs G1 H1 v xs d Q s1.s r1 e (OkE.step s1 d q)
end
/-! ### a def -/
def spM (Kf : PySem.W.Frag) (mg : Str → Option Value) (f : List D → R D) : Sp := fun vs H Q E => ∃ G ds, Sub G H ∧ RepL Kf G vs ds ∧ match f ds with
  | .ok d => OkE Kf G H Q d
  | .exn c => ∀ G' H' C, Step G H G' H' → mg c = some (.ref C) → E (.ref C) none H'
  | .bad => False
section
variable {Kf : PySem.W.Frag} {X : Cx} {W : WX} {k : Nat} {f : Addr} {fd : FuncData} {ps : List Str} {x : Str} {p pos : Pos} {e : Expr} {es : List Expr} {ms : Env → R (List D)} {fm : List D → R D}
theorem me_call (F : FnOk X.prog X.w X.K X.mg X.base (L2N.CX X.prog X.w) k f fd ps (spM X.K X.mg fm)) (hr : Room k X.A) (hg : Gl X x) (hm : X.mg x = some (.ref f)) (hk : PySem.W.keepIn X.K (.ref f) = true) (hb : Binds X.K fd ps []) (tk : L2N.Takes X W)
    (ha : MA X W (e :: es) ms) (hdb : (x == ("__debug__" : Str)) = false := by decide) (he : starEach (e :: es) X.env = (false, eval e X.env) :: starEach es X.env := by rfl) (hpl : (backTo pos (starEach es X.env)).any (·.1) = false := by rfl) :
    ME X W (.Call (.Name x p) (e :: es) [] pos) (eFn fm ms) := by
  obtain ⟨t, pt, ht⟩ := ha.ex
  refine ⟨_, pe_callS (E := WE W) F hr hg hm hk hb (fun σ => L2N.passAt tk σ) pt hdb he hpl, fun σ G H ρ Q re h => ?_⟩
  refine ht σ G H ρ _ re (h.bind.imp fun xs _ h1 => fun v G1 H1 s1 r1 => ?_)
  refine ⟨G1, xs, s1.s, r1, ?_⟩
  cases ef : fm xs with
  | ok d =>
    rw [ef] at h1
    exact OkE.step s1 d h1
  | exn c =>
    rw [ef] at h1
    exact fun G' H' C s2 hC => h1 G' H' C (s1.trans s2) hC
  | bad =>
    rw [ef] at h1
    exact h1.elim
end
end FF

namespace FF
open PySem L2

/-! ### mirrors of statements -/
def liftS {α : Type} (ρ : Env) (r : R α) (k : α → Fl) : Fl := match r with
  | .ok a => k a
  | .exn c => .exn c ρ
  | .bad => .bad
abbrev MSt := Env → Fl
def sNext : MSt := fun ρ => .next ρ
def sSeq (a b : MSt) : MSt := fun ρ => match a ρ with
  | .next ρ' => b ρ'
  | x => x
def sSet (i : Nat) (e : Env → R D) : MSt := fun ρ => liftS ρ (e ρ) fun d => .next (ρ.set i (.val d))
/-- target by a pattern -/
abbrev MTg := D → Env → R Env
def gN (i : Nat) : MTg := fun d ρ => .ok (ρ.set i (.val d))
def gsNil : List D → Env → R Env := fun ds ρ => match ds with
  | [] => .ok ρ
  | _ => .bad
def gsCons (g : MTg) (r : List D → Env → R Env) : List D → Env → R Env := fun ds ρ => match ds with
  | [] => .bad
  | d :: ds => (g d ρ).bind fun ρ' => r ds ρ'
def gT (g : List D → Env → R Env) : MTg := fun d ρ => match d with
  | .tuple ds => g ds ρ
  | _ => .bad
def sAsg (g : MTg) (e : Env → R D) : MSt := fun ρ => liftS ρ (e ρ) fun d => liftS ρ (g d ρ) fun ρ' => .next ρ'
def sRet (e : Env → R D) : MSt := fun ρ => liftS ρ (e ρ) fun d => .ret d
def sRetN : MSt := fun ρ => .ret .none
def sExpr (e : Env → R D) : MSt := fun ρ => liftS ρ (e ρ) fun _ => .next ρ
def sIf (t : Env → R Bool) (a b : MSt) : MSt := fun ρ => liftS ρ (t ρ) fun k => if k = true then a ρ else b ρ
def sBrk : MSt := fun ρ => .brk ρ
def sCont : MSt := fun ρ => .cont ρ
def sNever : MSt := fun _ => .bad
/-- the list in the slot is fixed -/
def sFix (i : Nat) : MSt := fun ρ => match ρ[i]? with
  | some (.own ds) => .next (ρ.set i (.val (.list ds)))
  | some (.odc kvs) => .next (ρ.set i (.val (.dict (kvs.map fun x => (kD x.1, x.2)))))
  | _ => .next ρ
/-- a written list, to be changed -/
def sOwn (i : Nat) (a : Env → R (List D)) : MSt := fun ρ => liftS ρ (a ρ) fun ds => if ds.length ≤ 1000000 then .next (ρ.set i (.own ds)) else .bad
def sApp (i : Nat) (e : Env → R D) : MSt := fun ρ => match ρ[i]? with
  | some (.own ds) => liftS ρ (e ρ) fun d => if ds.length ≤ 1000000 then .next (ρ.set i (.own (ds ++ [d]))) else .bad
  | _ => .bad
def ixNat (n : Nat) (d : D) : Option Nat := match d with
  | .int k => ixN n k
  | _ => none
def sPut (i : Nat) (j e : Env → R D) : MSt := fun ρ => liftS ρ (e ρ) fun d => match ρ[i]? with
  | some (.own ds) => liftS ρ (j ρ) fun k => match ixNat ds.length k with
    | some n => .next (ρ.set i (.own (ds.set n d)))
    | none => .bad
  | _ => .bad
def forL (g : MTg) (b : MSt) : List D → MSt
  | [], ρ => .next ρ
  | d :: ds, ρ => liftS ρ (g d ρ) fun ρ1 => match b ρ1 with
    | .next ρ2 => forL g b ds ρ2
    | .cont ρ2 => forL g b ds ρ2
    | .brk ρ2 => .next ρ2
    | x => x
def sFor (it : Env → R (List D)) (g : MTg) (b : MSt) : MSt := fun ρ => liftS ρ (it ρ) fun ds => forL g b ds ρ
def whileL (t : Env → R Bool) (b : MSt) : Nat → MSt
  | 0, _ => .bad
  | n + 1, ρ => liftS ρ (t ρ) fun k => if k = true then (match b ρ with
    | .next ρ2 => whileL t b n ρ2
    | .cont ρ2 => whileL t b n ρ2
    | .brk ρ2 => .next ρ2
    | x => x) else .next ρ
def sWhile (fuel : Nat) (t : Env → R Bool) (b : MSt) : MSt := whileL t b fuel
/-- a def -/
def fnM (n N : Nat) (m : MSt) (ds : List D) : R D := if ds.length = n then (match m (ds.map Sl.val ++ List.replicate (N - n) Sl.no) with
  | .next _ => .ok .none
  | .ret d => .ok d
  | .exn c _ => .exn c
  | _ => .bad) else .bad

/-! ### the tie -/
def PostS (X : Cx) (W : WX) (G0 H0 : Hp) (E : Ends) : Fl → Prop
  | .next ρ => ∀ σ G H, Rl X.K G0 H0 σ G H ρ → E.nx σ H
  | .ret d => ∀ v G H, Step G0 H0 G H → Rep X.K G v d → E.rt v H
  | .brk ρ => ∀ σ G H, Rl X.K G0 H0 σ G H ρ → E.bk σ H
  | .cont ρ => ∀ σ G H, Rl X.K G0 H0 σ G H ρ → E.ct σ H
  | .exn c ρ => ∀ σ G H C, Rl X.K G0 H0 σ G H ρ → X.mg c = some (.ref C) → W (.ref C) none σ H
  | .bad => False
structure MS (X : Cx) (W : WX) (st : Stmt) (m : MSt) : Prop where
  ex : ∃ t, PS X st t ∧ ∀ G0 H0 σ G H ρ E, Rl X.K G0 H0 σ G H ρ → PostS X W G0 H0 E (m ρ) → t E σ H
structure MSs (X : Cx) (W : WX) (st : List Stmt) (m : MSt) : Prop where
  ex : ∃ t, PSs X st t ∧ ∀ G0 H0 σ G H ρ E, Rl X.K G0 H0 σ G H ρ → PostS X W G0 H0 E (m ρ) → t E σ H
/-- a target -/
structure MG (X : Cx) (e : Expr) (g : MTg) : Prop where
  ex : ∃ t, PG X e t ∧ ∀ G0 H0 σ G H ρ ρ' d v Q, Rl X.K G0 H0 σ G H ρ → Rep X.K G v d → g d ρ = .ok ρ' → (∀ σ', Rl X.K G0 H0 σ' G H ρ' → Q σ' H) → t v σ H Q
structure MGs (X : Cx) (e : List Expr) (g : List D → Env → R Env) : Prop where
  ex : ∃ t, PGs X e t ∧ ∀ G0 H0 σ G H ρ ρ' ds vs Q, Rl X.K G0 H0 σ G H ρ → RepL X.K G vs ds → g ds ρ = .ok ρ' → (∀ σ', Rl X.K G0 H0 σ' G H ρ' → Q σ' H) → t vs σ H Q
/-- nothing is raised by storing -/
def Calm (g : MTg) : Prop := ∀ d ρ c, g d ρ ≠ .exn c
/-- the iterator J goes through ds -/
def Thru (Kf : PySem.W.Frag) (G1 H1 : Hp) (J : It) (ds : List D) : Prop := ∀ G H, Ext G1 G → Sub G H → True →
  (∀ i d, ds[i]? = some d → J.go i H ∧ ∀ x H', J.yld i H x H' → ∃ G', Step G H G' H' ∧ Rep Kf G' x d) ∧ J.stop ds.length H
def OkI (Kf : PySem.W.Frag) (G H : Hp) (R' : It → Hp → Prop) (ds : List D) : Prop := ∀ J G' H', Step G H G' H' → Thru Kf G' H' J ds → R' J H'
structure MI (X : Cx) (W : WX) (tg e : Expr) (m : Env → R (List D)) : Prop where
  ex : ∃ t, PI X tg e t ∧ ∀ σ G H ρ Q, Re X.K σ G H ρ → Post X W σ G H (m ρ) (OkI X.K G H Q) → t σ H Q
section
variable {Kf : PySem.W.Frag} {X : Cx} {W : WX} {G0 H0 G1 H1 G H G' H' : Hp} {σ σ' : L2.St} {ρ ρ' : Env}
theorem Rl.up (r : Rl Kf G0 H0 σ G1 H1 ρ) : Rl Kf G1 H0 σ G1 H1 ρ :=
  ⟨⟨.refl _, r.re.s, r.st.h, fun _ _ => rfl⟩, r.re, r.fresh, r.dis⟩
theorem Rl.down (a : Step G0 H0 G1 H1) (r : Rl Kf G1 H0 σ G H ρ) : Rl Kf G0 H0 σ G H ρ :=
  ⟨⟨a.g.trans r.st.g, r.st.s, r.st.h, fun x hx => by rw [r.st.k x hx, a.k x hx]⟩, r.re, r.fresh, r.dis⟩
theorem Step.down (a : Step G0 H0 G1 H1) (r : Step G1 H0 G H) : Step G0 H0 G H :=
  ⟨a.g.trans r.g, r.s, r.h, fun x hx => by rw [r.k x hx, a.k x hx]⟩
theorem PostS.base {E : Ends} {f : Fl} (a : Step G0 H0 G1 H1) (h : PostS X W G0 H0 E f) : PostS X W G1 H0 E f := by
  cases f with
  | next ρ => exact fun σ G H r => h σ G H (r.down a)
  | ret d => exact fun v G H s r => h v G H (a.down s) r
  | brk ρ => exact fun σ G H r => h σ G H (r.down a)
  | cont ρ => exact fun σ G H r => h σ G H (r.down a)
  | exn c ρ => exact fun σ G H C r => h σ G H C (r.down a)
  | bad => exact h
theorem PostS.lift {α : Type} {E : Ends} {r : R α} {k : α → Fl} (rl : Rl X.K G0 H0 σ G H ρ) (h : PostS X W G0 H0 E (liftS ρ r k)) : Post X W σ G H r (fun a => PostS X W G0 H0 E (k a)) := by
  cases r with
  | ok a => exact h
  | exn c => exact fun G' H' C s hC => h σ G' H' C (rl.step s) hC
  | bad => exact h
theorem get_set_ne {α : Type} {l : List α} {i j : Nat} {x : α} (h : i ≠ j) : (l.set i x)[j]? = l[j]? := List.getElem?_set_ne h
theorem Rl.set {v : V} {d : D} (r : Rl Kf G0 H0 σ G H ρ) (i : Nat) (h : Rep Kf G v d) : Rl Kf G0 H0 (σ.set i (some v)) G H (ρ.set i (.val d)) := by
  refine ⟨r.st, ⟨r.re.s, by rw [List.length_set, List.length_set, r.re.len], fun j x e => ?_⟩, fun j x p e o q => ?_, fun j l x y p n ej el oj ol qj ql => ?_⟩
  · by_cases hj : i = j
    · subst hj
      have hl : i < ρ.length := by
        have := (List.getElem?_eq_some_iff.mp e).1
        rw [List.length_set] at this
        exact this
      rw [List.getElem?_set_self hl] at e
      cases e
      exact ⟨v, List.getElem?_set_self (by rw [r.re.len]; exact hl), h⟩
    · rw [get_set_ne hj] at e ⊢
      exact r.re.sl j x e
  · by_cases hj : i = j
    · subst hj
      have hl : i < ρ.length := by
        have := (List.getElem?_eq_some_iff.mp e).1
        rw [List.length_set] at this
        exact this
      rw [List.getElem?_set_self hl] at e
      cases e
      cases o
    · rw [get_set_ne hj] at e q
      exact r.fresh j x p e o q
  · by_cases hj : i = j
    · subst hj
      have hl : i < ρ.length := by
        have := (List.getElem?_eq_some_iff.mp ej).1
        rw [List.length_set] at this
        exact this
      rw [List.getElem?_set_self hl] at ej
      cases ej
      cases oj
    · by_cases hl : i = l
      · subst hl
        have hl : i < ρ.length := by
          have := (List.getElem?_eq_some_iff.mp el).1
          rw [List.length_set] at this
          exact this
        rw [List.getElem?_set_self hl] at el
        cases el
        cases ol
      · rw [get_set_ne hj] at ej qj
        rw [get_set_ne hl] at el ql
        exact r.dis j l x y p n ej el oj ol qj ql
/-! statements -/
variable {e tg : Expr} {st : Stmt} {rest : List Stmt} {pos : Pos} {me : Env → R D} {m mr ma mb : MSt} {g : MTg} {gs : List D → Env → R Env}
theorem mss_nil : MSs X W [] sNext := ⟨tNext, pss_nil, fun G0 H0 σ G H ρ E r h => h σ G H r⟩
theorem mss_one (h : MS X W st m) : MSs X W [st] m := by
  obtain ⟨t, pt, ht⟩ := h.ex
  exact ⟨t, pss_one pt, ht⟩
theorem mss_cons (h : MS X W st m) (hr : MSs X W rest mr) : MSs X W (st :: rest) (sSeq m mr) := by
  obtain ⟨t, pt, ht⟩ := h.ex
  obtain ⟨u, pu, hu⟩ := hr.ex
  refine ⟨_, pss_cons pt pu, fun G0 H0 σ G H ρ E r h => ?_⟩
  refine ht G0 H0 σ G H ρ _ r ?_
  unfold sSeq at h
  cases em : m ρ with
  | next ρ' =>
    rw [em] at h
    exact fun σ' G' H' r' => hu G0 H0 σ' G' H' ρ' E r' h
  | ret d => rw [em] at h; exact h
  | brk ρ' => rw [em] at h; exact h
  | cont ρ' => rw [em] at h; exact h
  | exn c ρ' => rw [em] at h; exact h
  | bad => rw [em] at h; exact h
/-- a mirror's own word, ahead of the statements -/
theorem mss_pre {f : Env → Env} (hf : ∀ G0 H0 σ G H ρ, Rl X.K G0 H0 σ G H ρ → ∃ G', Step G0 H0 G' H ∧ Rl X.K G0 H0 σ G' H (f ρ)) (hr : MSs X W rest mr) : MSs X W rest (fun ρ => mr (f ρ)) := by
  obtain ⟨u, pu, hu⟩ := hr.ex
  refine ⟨u, pu, fun G0 H0 σ G H ρ E r h => ?_⟩
  obtain ⟨G', _, r'⟩ := hf G0 H0 σ G H ρ r
  exact hu G0 H0 σ G' H (f ρ) E r' h
theorem ms_set {i : Nat} {x : Str} {pos' : Pos} (he : ME X W e me) (hN : X.N.Nodup) (hi : X.N[i]? = some x) (hx : Loc X.env.scope x) (hs : swapsWith e (some (.Name x pos')) pos.line X.env = pure false := by rfl)
    (hf : X.fn x = true ∨ X.env.scope.names.lookup x = some .local := by first | exact .inl rfl | exact .inr rfl | assumption) : MS X W (.Assign [.Name x pos'] e pos) (sSet i me) := by
  obtain ⟨t, pt, ht⟩ := he.ex
  refine ⟨_, ps_set hN hi hx pt hs hf, fun G0 H0 σ G H ρ E r h => ?_⟩
  refine ht σ G H ρ _ r.re ((PostS.lift r h).imp fun d _ h1 => fun v G1 H1 s1 r1 => ?_)
  exact h1 _ G1 H1 ((r.step s1).set i r1)
theorem mg_name {i : Nat} {x : Str} (hN : X.N.Nodup) (hi : X.N[i]? = some x) (hx : Loc X.env.scope x) (hf : X.fn x = true ∨ X.env.scope.names.lookup x = some .local := by first | exact .inl rfl | exact .inr rfl | assumption) : MG X (.Name x pos) (gN i) :=
  ⟨gName i, pg_name hN hi hx hf, fun G0 H0 σ G H ρ ρ' d v Q r h e k => by cases e; exact k _ (r.set i h)⟩
theorem mgs_nil : MGs X [] gsNil := ⟨gNil, pgs_nil, fun G0 H0 σ G H ρ ρ' ds vs Q r h e k => by
  cases h with
  | nil => cases e; exact ⟨rfl, k _ r⟩
  | cons _ _ => cases e⟩
theorem R.bind_ok {α β : Type} {r : R α} {f : α → R β} {b : β} (h : r.bind f = .ok b) : ∃ a, r = .ok a ∧ f a = .ok b := by
  cases r with
  | ok a => exact ⟨a, rfl, h⟩
  | exn c => cases h
  | bad => cases h
theorem mgs_cons {es : List Expr} (h1 : MG X e g) (h2 : MGs X es gs) (hs : (assignEach (e :: es) X.env).map (·.2) = assign e X.env :: (assignEach es X.env).map (·.2) := by rfl) : MGs X (e :: es) (gsCons g gs) := by
  obtain ⟨t, pt, ht⟩ := h1.ex
  obtain ⟨u, pu, hu⟩ := h2.ex
  refine ⟨_, pgs_cons pt pu hs, fun G0 H0 σ G H ρ ρ' ds vs Q r h e k => ?_⟩
  cases h with
  | nil => cases e
  | cons h hr =>
    obtain ⟨ρ1, e1, e2⟩ := R.bind_ok e
    exact ⟨_, _, rfl, ht G0 H0 σ G H ρ ρ1 _ _ _ r h e1 fun σ1 r1 => hu G0 H0 σ1 G H ρ1 ρ' _ _ _ r1 hr e2 k⟩
theorem mgs_len {n : Nat} {es : List Expr} {ds : List D} : True := trivial
theorem mg_tup {es : List Expr} {k : Nat} {n : Nat} (hc : X.calm = true) (h : MGs X es gs) (hl : ∀ ds ρ ρ', gs ds ρ = .ok ρ' → ds.length = n)
    (hn : (assignEach es X.env).length = n := by rfl) (hst : (assignEach es X.env).findIdx? (·.1) = none := by rfl) : MG X (.Tuple es k pos) (gT gs) := by
  obtain ⟨u, pu, hu⟩ := h.ex
  refine ⟨_, pg_tup hc pu hn hst, fun G0 H0 σ G H ρ ρ' d v Q r h e kk => ?_⟩
  cases h with
  | tup ha hr => exact ⟨_, _, rfl, SqT.of (r.re.s.tup ha), by rw [hr.length]; exact hl _ _ _ e, hu G0 H0 σ G H ρ ρ' _ _ Q r hr e kk⟩
  | _ => cases e
theorem ms_asg {g : MTg} (he : ME X W e me) (hg : MG X tg g) (hcg : Calm g) (hs : swapsWithSole [tg] e pos.line X.env = pure false := by rfl) (hw : swappedStores [tg] e X.env = pure none := by rfl)
    (h1 : (assignEach [tg] X.env).map (·.2) = [assign tg X.env] := by rfl) : MS X W (.Assign [tg] e pos) (sAsg g me) := by
  obtain ⟨t, pt, ht⟩ := he.ex
  obtain ⟨u, pu, hu⟩ := hg.ex
  refine ⟨_, ps_asg pt pu hs hw h1, fun G0 H0 σ G H ρ E r h => ?_⟩
  refine ht σ G H ρ _ r.re ((PostS.lift r h).imp fun d _ h1 => fun v G1 H1 s1 r1 => ?_)
  cases eg : g d ρ with
  | ok ρ' =>
    rw [eg] at h1
    exact hu G0 H0 σ G1 H1 ρ ρ' d v _ (r.step s1) r1 eg fun σ' r' => h1 σ' G1 H1 r'
  | exn c => exact absurd eg (hcg d ρ c)
  | bad => rw [eg] at h1; exact h1.elim
theorem ms_ret (he : ME X W e me) : MS X W (.Return (some e) pos) (sRet me) := by
  obtain ⟨t, pt, ht⟩ := he.ex
  refine ⟨_, ps_ret pt, fun G0 H0 σ G H ρ E r h => ?_⟩
  refine ht σ G H ρ _ r.re ((PostS.lift r h).imp fun d _ h1 => fun v G1 H1 s1 r1 => ?_)
  exact h1 v G1 H1 (r.st.trans s1) r1
theorem ms_retN : MS X W (.Return none pos) sRetN := ⟨_, ps_retN, fun G0 H0 σ G H ρ E r h => h _ G H r.st .non⟩
theorem ms_expr (he : ME X W e me) (hs : swapsWith e none pos.line X.env = pure false := by rfl) : MS X W (.Expr e pos) (sExpr me) := by
  obtain ⟨t, pt, ht⟩ := he.ex
  refine ⟨_, ps_expr pt hs, fun G0 H0 σ G H ρ E r h => ?_⟩
  refine ht σ G H ρ _ r.re ((PostS.lift r h).imp fun d _ h1 => fun v G1 H1 s1 r1 => ?_)
  exact h1 σ G1 H1 (r.step s1)
theorem ms_if {c : Expr} {a b : List Stmt} {tc : Env → R Bool} (hc : MT X W c tc) (ha : MSs X W a ma) (hb : MSs X W b mb) : MS X W (.If c a b pos) (sIf tc ma mb) := by
  obtain ⟨t, pt, ht⟩ := hc.ex
  obtain ⟨u, pu, hu⟩ := ha.ex
  obtain ⟨w, pw, hw⟩ := hb.ex
  refine ⟨_, ps_if pt pu pw, fun G0 H0 σ G H ρ E r h => ?_⟩
  refine ht σ G H ρ _ r.re ((PostS.lift r h).imp fun k _ h1 => fun G1 H1 s1 => ?_)
  cases k with
  | true =>
    refine iteT ?_
    exact hu G0 H0 σ G1 H1 ρ E (r.step s1) h1
  | false =>
    refine iteF ?_
    exact hw G0 H0 σ G1 H1 ρ E (r.step s1) h1
theorem ms_pass : MS X W (.Pass pos) sNext := ⟨_, ps_pass, fun G0 H0 σ G H ρ E r h => h σ G H r⟩
theorem ms_break : MS X W (.Break pos) sBrk := ⟨_, ps_break, fun G0 H0 σ G H ρ E r h => h σ G H r⟩
theorem ms_continue : MS X W (.Continue pos) sCont := ⟨_, ps_continue, fun G0 H0 σ G H ρ E r h => h σ G H r⟩
theorem ms_doc {x j pos'} : MS X W (.Expr (.Constant (.str x) j pos') pos) sNext := ⟨_, ps_doc, fun G0 H0 σ G H ρ E r h => h σ G H r⟩
theorem ms_never : MS X W st sNever := ⟨_, ps_never, fun G0 H0 σ G H ρ E r h => h.elim⟩
/-! loops -/
theorem ms_for {iter : Expr} {body : List Stmt} {mi : Env → R (List D)} (hp : PassesOwn (model X.prog X.w) X.A X.env X.xe) (hc : X.calm = true) (hi : MI X W tg iter mi) (hg : MG X tg g) (hcg : Calm g) (hb : MSs X W body m)
    (hs : ∀ x, foldedSetIterable iter X.env x = pure x := by intro _; rfl) : MS X W (.For tg iter body [] pos) (sFor mi g m) := by
  obtain ⟨ti, pti, hti⟩ := hi.ex
  obtain ⟨tgt, ptg, htg⟩ := hg.ex
  obtain ⟨tb, ptb, htb⟩ := hb.ex
  refine ⟨_, ps_for hp hc pti ptg ptb hs, fun G0 H0 σ G H ρ E r h => ?_⟩
  refine hti σ G H ρ _ r.re ((PostS.lift r h).imp fun ds _ h1 => fun J G1 H1 s1 thru => ?_)
  have r1 := r.step s1
  have h1 := PostS.base (G1 := G1) (H1 := H1) r1.st h1
  refine ⟨fun i n σ H => i + n = ds.length ∧ ∃ G ρ, Rl X.K G1 H0 σ G H ρ ∧ PostS X W G1 H0 E (forL g m (ds.drop i) ρ), ⟨ds.length, Nat.zero_add _, G1, ρ, r1.up, h1⟩, ?_⟩
  rintro i n σ' H' ⟨hn, G', ρ', r', h'⟩
  obtain ⟨hgo, hstop⟩ := thru G' H' r'.st.g r'.re.s trivial
  by_cases hlt : i < ds.length
  · refine .inr ⟨(hgo i ds[i] (List.getElem?_eq_getElem hlt)).1, fun σ H => (i + 1) + (n - 1) = ds.length ∧ ∃ G ρ, Rl X.K G1 H0 σ G H ρ ∧ PostS X W G1 H0 E (forL g m (ds.drop (i + 1)) ρ), fun σ H q => ⟨n - 1, by omega, q⟩, fun x H2 hy => ?_⟩
    obtain ⟨G2, s2, rx⟩ := (hgo i ds[i] (List.getElem?_eq_getElem hlt)).2 x H2 hy
    have r2 := r'.step s2
    rw [List.drop_eq_getElem_cons hlt] at h'
    unfold forL at h'
    cases eg : g ds[i] ρ' with
    | exn c => exact absurd eg (hcg _ _ c)
    | bad => rw [eg] at h'; exact h'.elim
    | ok ρ1 =>
      rw [eg] at h'
      have h' : PostS X W G1 H0 E (match m ρ1 with
        | .next ρ2 => forL g m (ds.drop (i + 1)) ρ2
        | .cont ρ2 => forL g m (ds.drop (i + 1)) ρ2
        | .brk ρ2 => .next ρ2
        | x => x) := h'
      refine htg G1 H0 σ' G2 H2 ρ' ρ1 _ x _ r2 rx eg fun σ3 r3 => ?_
      refine htb G1 H0 σ3 G2 H2 ρ1 _ r3 ?_
      cases em : m ρ1 with
      | next ρ2 => rw [em] at h'; exact fun σ4 G4 H4 r4 => ⟨by omega, G4, ρ2, r4, h'⟩
      | cont ρ2 => rw [em] at h'; exact fun σ4 G4 H4 r4 => ⟨by omega, G4, ρ2, r4, h'⟩
      | brk ρ2 => rw [em] at h'; exact h'
      | ret d => rw [em] at h'; exact h'
      | exn c ρ2 => rw [em] at h'; exact h'
      | bad => rw [em] at h'; exact h'
  · have e : i = ds.length := by omega
    subst e
    rw [List.drop_length] at h'
    exact .inl ⟨hstop, h' σ' G' H' r'⟩
theorem ms_while {c : Expr} {body : List Stmt} {tc : Env → R Bool} (fuel : Nat) (hp : PassesOwn (model X.prog X.w) X.A X.env X.xe) (hc : MT X W c tc) (hb : MSs X W body m) : MS X W (.While c body [] pos) (sWhile fuel tc m) := by
  obtain ⟨t, pt, ht⟩ := hc.ex
  obtain ⟨tb, ptb, htb⟩ := hb.ex
  refine ⟨_, ps_while hp pt ptb, fun G0 H0 σ G H ρ E r h => ?_⟩
  refine ⟨fun n σ H => ∃ G ρ, Rl X.K G0 H0 σ G H ρ ∧ PostS X W G0 H0 E (whileL tc m n ρ), ⟨fuel, G, ρ, r, h⟩, ?_⟩
  rintro n σ' H' ⟨G', ρ', r', h'⟩
  cases n with
  | zero => exact h'.elim
  | succ n =>
    unfold whileL at h'
    refine ht σ' G' H' ρ' _ r'.re ((PostS.lift r' h').imp fun k _ h1 => fun G1 H1 s1 => ?_)
    have r1 := r'.step s1
    cases k with
    | false =>
      refine iteF ?_
      have h1 : PostS X W G0 H0 E (.next ρ') := h1
      exact h1 σ' G1 H1 r1
    | true =>
      refine iteT ?_
      have h1 : PostS X W G0 H0 E (match m ρ' with
        | .next ρ2 => whileL tc m n ρ2
        | .cont ρ2 => whileL tc m n ρ2
        | .brk ρ2 => .next ρ2
        | x => x) := h1
      refine ⟨fun σ H => ∃ G ρ, Rl X.K G0 H0 σ G H ρ ∧ PostS X W G0 H0 E (whileL tc m n ρ), fun σ H q => ⟨n, Nat.lt_succ_self n, q⟩, ?_⟩
      refine htb G0 H0 σ' G1 H1 ρ' _ r1 ?_
      cases em : m ρ' with
      | next ρ2 => rw [em] at h1; exact fun σ4 G4 H4 r4 => ⟨G4, ρ2, r4, h1⟩
      | cont ρ2 => rw [em] at h1; exact fun σ4 G4 H4 r4 => ⟨G4, ρ2, r4, h1⟩
      | brk ρ2 => rw [em] at h1; exact h1
      | ret d => rw [em] at h1; exact h1
      | exn c ρ2 => rw [em] at h1; exact h1
      | bad => rw [em] at h1; exact h1
end
end FF

namespace FF
open PySem L2
/-! ### lists that are changed -/
section
variable {Kf : PySem.W.Frag} {X : Cx} {W : WX} {G0 H0 G1 H1 G H G' H' : Hp} {σ σ' : L2.St} {ρ ρ' : Env}
theorem SlOk.lay {o : Option (Option V)} {p : Addr} {u : HO} (hp : H p = none) : ∀ {x : Sl}, SlOk Kf G H o x → SlOk Kf G (upd H p u) o x
  | .no, _ => trivial
  | .obj _, _ => trivial
  | .val d, h => h
  | .own ds, ⟨q, vs, e, n, h, r⟩ => ⟨q, vs, e, n, by rw [upd_ne (ne_of_none h hp)]; exact h, r⟩
  | .odc kvs, ⟨q, ws, e, n, h, r⟩ => ⟨q, ws, e, n, by rw [upd_ne (ne_of_none h hp)]; exact h, r⟩
theorem Ext.none {H H' : Hp} (e : Ext H H') {p : Addr} (h : H' p = none) : H p = Option.none := by
  cases q : H p with
  | none => rfl
  | some o => rw [e p o q] at h; cases h
theorem Step.layH {p : Addr} {u : HO} (s : Step G0 H0 G H) (hp : H0 p = none) (hg : G p = none) (nf : notFrz u) : Step G0 H0 G (upd H p u) :=
  ⟨s.g, fun a o e => by
    have n : a ≠ p := fun z => by rw [z, hg] at e; cases e
    rw [upd_ne n]
    exact s.s a o e, fun a o e => by
    have n : a ≠ p := fun z => by rw [z, hp] at e; cases e
    rw [upd_ne n]
    exact s.h a o e, s.k⟩
theorem lt_of_set {α : Type} {l : List α} {i : Nat} {x y : α} (e : (l.set i x)[i]? = some y) : i < l.length := by
  have := (List.getElem?_eq_some_iff.mp e).1
  rw [List.length_set] at this
  exact this
/-- a new list, owned -/
theorem Rl.ownNew {p : Addr} {u : HO} {x : Sl} (r : Rl Kf G0 H0 σ G H ρ) (i : Nat) (hp : H p = none) (nf : notFrz u) (hx : SlOk Kf G (upd H p u) (some (some (.ref p))) x) :
    Rl Kf G0 H0 (σ.set i (some (.ref p))) G (upd H p u) (ρ.set i x) := by
  have hp0 := r.st.h.none hp
  refine ⟨r.st.layH hp0 (r.re.s.none hp) nf, ⟨r.re.s.ext (.new hp), by rw [List.length_set, List.length_set, r.re.len], fun j y e => ?_⟩, fun j y q e o z => ?_, fun j l y z q n ej el oj ol qj ql => ?_⟩
  · by_cases hj : i = j
    · subst hj
      have hl := lt_of_set e
      rw [List.getElem?_set_self hl] at e
      cases e
      rw [List.getElem?_set_self (by rw [r.re.len]; exact hl)]
      exact hx
    · rw [get_set_ne hj] at e ⊢
      exact (r.re.sl j y e).lay hp
  · by_cases hj : i = j
    · subst hj
      have hl := lt_of_set e
      rw [List.getElem?_set_self (by rw [r.re.len]; exact hl)] at z
      cases z
      exact hp0
    · rw [get_set_ne hj] at e z
      exact r.fresh j y q e o z
  · have key : ∀ (j l : Nat) (z : Sl) (q : Addr), i = j → i ≠ l → (ρ.set i x)[l]? = some z → isOwn z = true → (ρ.set i x)[j]? ≠ none → (σ.set i (some (.ref p)))[j]? = some (some (V.ref q)) → (σ.set i (some (.ref p)))[l]? = some (some (V.ref q)) → False := by
      intro j l z q hj hl el ol ej qj ql
      subst hj
      rw [get_set_ne hl] at el ql
      have h1 : i < σ.length := by
        have := (List.getElem?_eq_some_iff.mp qj).1
        rw [List.length_set] at this
        exact this
      rw [List.getElem?_set_self h1] at qj
      cases qj
      have so := r.re.sl l z el
      rw [ql] at so
      cases z with
      | no => cases ol
      | obj _ => cases ol
      | val d => cases ol
      | own ds =>
        obtain ⟨q, vs, e, _, h, _⟩ := so
        cases e
        rw [hp] at h
        cases h
      | odc kvs =>
        obtain ⟨q, vs, e, _, h, _⟩ := so
        cases e
        rw [hp] at h
        cases h
    by_cases hj : i = j
    · by_cases hl : i = l
      · exact n (hj.symm.trans hl)
      · exact key j l z q hj hl el ol (by rw [ej]; exact fun z => by cases z) qj ql
    · by_cases hl : i = l
      · exact key l j y q hl hj ej oj (by rw [el]; exact fun z => by cases z) ql qj
      · rw [get_set_ne hj] at ej qj
        rw [get_set_ne hl] at el ql
        exact r.dis j l y z q n ej el oj ol qj ql
/-- an owned one is changed -/
theorem Rl.ownUpd {p : Addr} {u : HO} {x y : Sl} {i : Nat} (r : Rl Kf G0 H0 σ G H ρ) (e : ρ[i]? = some x) (ox : isOwn x = true) (eσ : σ[i]? = some (some (.ref p))) (oy : isOwn y = true) (nf : notFrz u) (hg : G p = none) (hy : SlOk Kf G (upd H p u) (some (some (.ref p))) y) :
    Rl Kf G0 H0 σ G (upd H p u) (ρ.set i y) := by
  have hp0 := r.fresh i x p e ox eσ
  have hi : i < ρ.length := (List.getElem?_eq_some_iff.mp e).1
  have ne : ∀ j, i ≠ j → ∀ z, ρ[j]? = some z → isOwn z = true → ∀ q, σ[j]? = some (some (.ref q)) → q ≠ p := fun j hj z ez oz q eq hq => by
    subst hq
    exact r.dis i j x z q hj e ez ox oz eσ eq
  refine ⟨r.st.layH hp0 hg nf, ⟨(r.st.layH hp0 hg nf).s, by rw [List.length_set, r.re.len], fun j z ez => ?_⟩, fun j z q ez oz eq => ?_, fun j l z w q n ej el oj ol qj ql => ?_⟩
  · by_cases hj : i = j
    · subst hj
      rw [List.getElem?_set_self hi] at ez
      cases ez
      rw [eσ]
      exact hy
    · rw [get_set_ne hj] at ez
      have so := r.re.sl j z ez
      cases z with
      | no => trivial
      | obj _ => trivial
      | val d => exact so
      | own ds =>
        obtain ⟨q, vs, e1, n1, h1, r1⟩ := so
        exact ⟨q, vs, e1, n1, by rw [upd_ne (ne j hj _ ez rfl q e1)]; exact h1, r1⟩
      | odc ds =>
        obtain ⟨q, vs, e1, n1, h1, r1⟩ := so
        exact ⟨q, vs, e1, n1, by rw [upd_ne (ne j hj _ ez rfl q e1)]; exact h1, r1⟩
  · by_cases hj : i = j
    · subst hj
      rw [eσ] at eq
      cases eq
      exact hp0
    · rw [get_set_ne hj] at ez
      exact r.fresh j z q ez oz eq
  · by_cases hj : i = j
    · subst hj
      rw [get_set_ne n] at el
      exact r.dis i l x w q n e el ox ol qj ql
    · by_cases hl : i = l
      · subst hl
        rw [get_set_ne hj] at ej
        exact r.dis j i z x q n ej e oj ox qj ql
      · rw [get_set_ne hj] at ej
        rw [get_set_ne hl] at el
        exact r.dis j l z w q n ej el oj ol qj ql
theorem Step.fix {p : Addr} {u : HO} (s : Step G0 H0 G H) (h0 : H0 p = none) (hg : G p = none) (h : H p = some u) : Step G0 H0 (upd G p u) H :=
  ⟨fun a o e => by
    have n : a ≠ p := fun z => by
      subst z
      have := s.g a o e
      rw [hg] at this
      cases this
    rw [upd_ne n]
    exact s.g a o e, fun a o e => by
    by_cases n : a = p
    · subst n
      rw [upd_same] at e
      cases e
      exact .inl h
    · rw [upd_ne n] at e
      exact s.s a o e, s.h, fun a ha => by
    have n : a ≠ p := fun z => by subst z; exact ha h0
    rw [upd_ne n]
    exact s.k a ha⟩
def fixE (i : Nat) (ρ : Env) : Env := match ρ[i]? with
  | some (.own ds) => ρ.set i (.val (.list ds))
  | _ => ρ
theorem Rl.fixAt {p : Addr} {u : HO} {x : Sl} {i : Nat} {d : D} (r : Rl Kf G0 H0 σ G H ρ) (e : ρ[i]? = some x) (ox : isOwn x = true) (eσ : σ[i]? = some (some (.ref p))) (hg : G p = none) (h : H p = some u) (hd : Rep Kf (upd G p u) (.ref p) d) :
    Step G0 H0 (upd G p u) H ∧ Rl Kf G0 H0 σ (upd G p u) H (ρ.set i (.val d)) := by
  have hp0 := r.fresh i x p e ox eσ
  have hi : i < ρ.length := (List.getElem?_eq_some_iff.mp e).1
  have st := r.st.fix hp0 hg h
  have gx : Ext G (upd G p u) := .new hg
  have ne : ∀ j, i ≠ j → ∀ z, ρ[j]? = some z → isOwn z = true → ∀ q, σ[j]? = some (some (.ref q)) → q ≠ p := fun j hj z ez oz q eq hq => by
    subst hq
    exact r.dis i j x z q hj e ez ox oz eσ eq
  refine ⟨st, st, ⟨st.s, by rw [List.length_set, r.re.len], fun j z ez => ?_⟩, fun j z q ez oz eq => ?_, fun j l z w q n ej el oj ol qj ql => ?_⟩
  · by_cases hj : i = j
    · subst hj
      rw [List.getElem?_set_self hi] at ez
      cases ez
      exact ⟨_, eσ, hd⟩
    · rw [get_set_ne hj] at ez
      have so := r.re.sl j z ez
      cases z with
      | no => trivial
      | obj _ => trivial
      | val d =>
        obtain ⟨v, e1, r1⟩ := so
        exact ⟨v, e1, r1.mono (.of gx)⟩
      | own ds =>
        obtain ⟨q, vs, e1, n1, h1, r1⟩ := so
        exact ⟨q, vs, e1, by rw [upd_ne (ne j hj _ ez rfl q e1)]; exact n1, h1, r1.mono (.of gx)⟩
      | odc ds =>
        obtain ⟨q, vs, e1, n1, h1, r1⟩ := so
        exact ⟨q, vs, e1, by rw [upd_ne (ne j hj _ ez rfl q e1)]; exact n1, h1, r1.mono (.of gx)⟩
  · by_cases hj : i = j
    · subst hj
      rw [List.getElem?_set_self hi] at ez
      cases ez
      cases oz
    · rw [get_set_ne hj] at ez
      exact r.fresh j z q ez oz eq
  · by_cases hj : i = j
    · subst hj
      rw [List.getElem?_set_self hi] at ej
      cases ej
      cases oj
    · by_cases hl : i = l
      · subst hl
        rw [List.getElem?_set_self hi] at el
        cases el
        cases ol
      · rw [get_set_ne hj] at ej
        rw [get_set_ne hl] at el
        exact r.dis j l z w q n ej el oj ol qj ql
theorem Rl.fix (r : Rl Kf G0 H0 σ G H ρ) (i : Nat) : ∃ G', Step G0 H0 G' H ∧ Rl Kf G0 H0 σ G' H (fixE i ρ) := by
  unfold fixE
  cases e : ρ[i]? with
  | none => exact ⟨G, r.st, r⟩
  | some x =>
    have so := r.re.sl i x e
    cases x with
    | no => exact ⟨G, r.st, r⟩
    | obj _ => exact ⟨G, r.st, r⟩
    | val d => exact ⟨G, r.st, r⟩
    | own ds =>
      obtain ⟨p, vs, e1, n1, h1, r1⟩ := so
      exact ⟨_, r.fixAt e rfl e1 n1 h1 (.lst (SqL.of upd_same) (r1.mono (.of (.new n1))))⟩
    | odc ds => exact ⟨G, r.st, r⟩
/-- the list in slot i is fixed from here on -/
def sFixed (i : Nat) (m : MSt) : MSt := fun ρ => m (fixE i ρ)
theorem mss_fix {rest : List Stmt} {m : MSt} (i : Nat) (h : MSs X W rest m) : MSs X W rest (sFixed i m) := mss_pre (f := fixE i) (fun G0 H0 σ G H ρ r => r.fix i) h
theorem ms_fix {st : Stmt} {m : MSt} (i : Nat) (h : MS X W st m) : MS X W st (sFixed i m) := by
  obtain ⟨u, pu, hu⟩ := h.ex
  refine ⟨u, pu, fun G0 H0 σ G H ρ E r h => ?_⟩
  obtain ⟨G', _, r'⟩ := r.fix i
  exact hu G0 H0 σ G' H (fixE i ρ) E r' h
variable {e tg a b : Expr} {es : List Expr} {pos : Pos} {me mj : Env → R D} {ms : Env → R (List D)}
/-- x = [..], to be changed -/
theorem ms_own {i : Nat} {x : Str} {pos' lp : Pos} (h : MA X W es ms) (hN : X.N.Nodup) (hi : X.N[i]? = some x) (hx : Loc X.env.scope x) (hs : swapsWith (.List es lp) (some (.Name x pos')) pos.line X.env = pure false := by rfl)
    (hf : X.fn x = true ∨ X.env.scope.names.lookup x = some .local := by first | exact .inl rfl | exact .inr rfl | assumption) : MS X W (.Assign [.Name x pos'] (.List es lp) pos) (sOwn i ms) := by
  obtain ⟨t, pt, ht⟩ := h.ex
  refine ⟨_, ps_set hN hi hx (pe_lst pt) hs hf, fun G0 H0 σ G H ρ E r h => ?_⟩
  refine ht σ G H ρ _ r.re ((PostS.lift r h).imp fun ds _ h1 => fun vs G1 H1 s1 r1 => ?_)
  have h1 : PostS X W G0 H0 E (if ds.length ≤ 1000000 then .next (ρ.set i (.own ds)) else .bad) := h1
  by_cases hl : ds.length ≤ 1000000
  · rw [if_pos hl] at h1
    refine ⟨by rw [r1.length]; exact sz_line hl, fun p hp => ?_⟩
    have r2 := (r.step s1).ownNew (x := .own ds) (u := .lst vs) i hp trivial ⟨p, vs, rfl, s1.s.none hp, upd_same, r1⟩
    exact h1 _ _ _ r2
  · rw [if_neg hl] at h1
    exact h1.elim
/-- x.append(e) -/
theorem ms_app {i : Nat} {o : Expr} {apos cpos : Pos} (ho : PE X o (tVar i)) (he : ME X W e me)
    (hbase : attributeBase o "append" X.env (eval o X.env) = eval o X.env := by rfl)
    (hfew : ((backTo cpos (starEach [e] X.env)).all (fun x => !x.1) && (backToKw cpos (keywordEach [] X.env)).all (fun x => x.1.isSome)
      && decide (([e] : List Expr).length + ([] : List Keyword).length + (if ([] : List Keyword).isEmpty then 0 else 1) < 30)) = true := by rfl)
    (hline : (apos.endLine == cpos.line) = true := by rfl) (hst : starEach [e] X.env = (false, eval e X.env) :: starEach [] X.env := by rfl) (hplain : (backTo cpos (starEach [] X.env)).any (·.1) = false := by rfl)
    (hs : swapsWith (.Call (.Attribute o "append" apos) [e] [] cpos) none pos.line X.env = pure false := by rfl) :
    MS X W (.Expr (.Call (.Attribute o "append" apos) [e] [] cpos) pos) (sApp i me) := by
  obtain ⟨t, pt, ht⟩ := he.ex
  refine ⟨_, ps_expr (pe_bm PySem.F.plainAttrs_list PySem.F.slot_list_append PySem.F.type_list_append mt_append ho (pa_cons pt pa_nil hst) hbase hfew hline hst hplain) hs, fun G0 H0 σ G H ρ E r h => ?_⟩
  unfold sApp at h
  cases ei : ρ[i]? with
  | none => rw [ei] at h; exact h.elim
  | some x =>
    rw [ei] at h
    cases x with
    | no => exact h.elim
    | obj _ => exact h.elim
    | val d => exact h.elim
    | odc d => exact h.elim
    | own ds =>
      obtain ⟨p, vs, e1, n1, h1, r1⟩ := r.re.sl i _ ei
      refine ⟨_, e1, .inl ⟨rfl, _, SqL.of h1⟩, ?_⟩
      refine ht σ G H ρ _ r.re ((PostS.lift r h).imp fun d _ h2 => fun v G1 H1 s1 rv => ?_)
      have h2 : PostS X W G0 H0 E (if ds.length ≤ 1000000 then .next (ρ.set i (.own (ds ++ [d]))) else .bad) := h2
      by_cases hl : ds.length ≤ 1000000
      · rw [if_pos hl] at h2
        refine ⟨p, vs, v, rfl, rfl, s1.h _ _ h1, by rw [r1.length]; exact Nat.lt_of_le_of_lt hl (by decide), ?_⟩
        have r' := r.step s1
        have hg : G1 p = none := by rw [s1.k p (by rw [h1]; exact fun z => by cases z), n1]
        exact h2 _ _ _ (r'.ownUpd ei rfl e1 (y := .own (ds ++ [d])) (u := .lst (vs ++ [v])) rfl trivial hg ⟨p, _, rfl, hg, upd_same, (r1.mono (.of s1.g)).app (.one rv)⟩)
      · rw [if_neg hl] at h2
        exact h2.elim
/-- x[j] = e -/
theorem ms_put {i : Nat} {o j : Expr} {ppos : Pos} (ho : PE X o (tVar i)) (hj : ME X W j mj) (he : ME X W e me)
    (ha : ∀ v, assign (.Subscript o j ppos) X.env v = (do
      let ov ← holding [v] (eval o X.env)
      let iv ← holding [v, ov] (eval j X.env)
      standAt ppos
      holding [v, ov, iv] (setItem ov iv v)
      release [v, ov, iv] []) := by intro _; rfl)
    (hs : swapsWithSole [.Subscript o j ppos] e pos.line X.env = pure false := by rfl) (hw : swappedStores [.Subscript o j ppos] e X.env = pure none := by rfl)
    (h1 : (assignEach [.Subscript o j ppos] X.env).map (·.2) = [assign (.Subscript o j ppos) X.env] := by rfl) :
    MS X W (.Assign [.Subscript o j ppos] e pos) (sPut i mj me) := by
  obtain ⟨t, pt, ht⟩ := he.ex
  obtain ⟨u, pu, hu⟩ := hj.ex
  refine ⟨_, ps_asg pt (pg_sub ho pu set_list ha) hs hw h1, fun G0 H0 σ G H ρ E r h => ?_⟩
  refine ht σ G H ρ _ r.re ((PostS.lift r h).imp fun d _ h2 => fun v G1 H1 s1 rv => ?_)
  have r' := r.step s1
  cases ei : ρ[i]? with
  | none => rw [ei] at h2; exact h2.elim
  | some x =>
    rw [ei] at h2
    cases x with
    | no => exact h2.elim
    | obj _ => exact h2.elim
    | val d => exact h2.elim
    | odc d => exact h2.elim
    | own ds =>
      obtain ⟨p, vs, e1, n1, hp1, r1⟩ := r'.re.sl i _ ei
      refine ⟨_, e1, ?_⟩
      refine hu σ G1 H1 ρ _ r'.re ((PostS.lift r' h2).imp fun k _ h3 => fun kv G2 H2 s2 rk => ?_)
      have h3 : PostS X W G0 H0 E (match ixNat ds.length k with | some n => .next (ρ.set i (.own (ds.set n d))) | none => .bad) := h3
      cases rk with
      | int kk =>
        have h3 : PostS X W G0 H0 E (match ixN ds.length kk with | some n => .next (ρ.set i (.own (ds.set n d))) | none => .bad) := h3
        cases en : ixN ds.length kk with
        | none => rw [en] at h3; exact h3.elim
        | some n =>
          rw [en] at h3
          refine ⟨p, vs, kk, n, rfl, rfl, s2.h _ _ hp1, by rw [r1.length]; exact en, ?_⟩
          have hg : G2 p = none := by rw [s2.k p (by rw [hp1]; exact fun z => by cases z), n1]
          exact h3 _ _ _ ((r'.step s2).ownUpd ei rfl e1 (y := .own (ds.set n d)) (u := .lst (vs.set n v)) rfl trivial hg ⟨p, _, rfl, hg, upd_same, RepL.set (rv.mono (.of s2.g)) n (r1.mono (.of s2.g))⟩)
      | _ => exact h3.elim
end
end FF

namespace FF
open PySem L2
/-! ### comprehensions -/
abbrev W0 : WX := fun _ _ _ _ => False
def noX {α : Type} : R α → R α
  | .ok a => .ok a
  | _ => .bad
def wipeE (ρ : Env) : List Nat → Env
  | [] => ρ
  | v :: vs => (wipeE ρ vs).set v .no
def compL (g : MTg) (t : Env → R Bool) (e : Env → R D) (ρ0 : Env) : List D → R (List D)
  | [] => .ok []
  | d :: ds => (noX (g d ρ0)).bind fun ρ1 => (noX (t ρ1)).bind fun b => if b = true then (noX (e ρ1)).bind fun y => (compL g t e ρ0 ds).bind fun ys => .ok (y :: ys) else compL g t e ρ0 ds
def fLc (mi : Env → R (List D)) (g : MTg) (t : Env → R Bool) (e : Env → R D) (vs : List Nat) : Env → R (List D) := fun ρ => (mi ρ).bind fun ds => if ds.length ≤ 1000000 then compL g t e (wipeE ρ vs) ds else .bad
def eLc (mi : Env → R (List D)) (g : MTg) (t : Env → R Bool) (e : Env → R D) (vs : List Nat) : Env → R D := fun ρ => (fLc mi g t e vs ρ).bind fun ys => .ok (.list ys)
/-- a new list: not known to G' -/
def OkF (Kf : PySem.W.Frag) (G H : Hp) (Q : VK) (ds : List D) : Prop := ∀ p vs G' H', Step G H G' H' → H p = none → G' p = none → H' p = some (.lst vs) → RepL Kf G' vs ds → Q (.ref p) H'
structure MF (X : Cx) (W : WX) (e : Expr) (m : Env → R (List D)) : Prop where
  ex : ∃ t, PE X e t ∧ ∀ σ G H ρ Q, Re X.K σ G H ρ → Post X W σ G H (m ρ) (OkF X.K G H Q) → t σ H Q
def sOwnF (i : Nat) (m : Env → R (List D)) : MSt := fun ρ => liftS ρ (m ρ) fun ds => .next (ρ.set i (.own ds))
def tYesM : Env → R Bool := fun _ => .ok true

section
variable {Kf : PySem.W.Frag} {X : Cx} {W : WX} {G0 H0 G1 H1 G H G' H' : Hp} {σ σ' : L2.St} {ρ ρ' : Env}
theorem Re.setNo (r : Re Kf σ G H ρ) (i : Nat) : Re Kf (σ.set i none) G H (ρ.set i .no) :=
  ⟨r.s, by rw [List.length_set, List.length_set, r.len], fun j x e => by
    by_cases hj : i = j
    · subst hj
      rw [List.getElem?_set_self (lt_of_set e)] at e
      cases e
      trivial
    · rw [get_set_ne hj] at e ⊢
      exact r.sl j x e⟩
theorem Re.wipe (r : Re Kf σ G H ρ) : ∀ vs : List Nat, Re Kf (L2.wipe σ vs) G H (wipeE ρ vs)
  | [] => r
  | v :: vs => (Re.wipe r vs).setNo v
theorem Re.set {v : V} {d : D} (r : Re Kf σ G H ρ) (i : Nat) (h : Rep Kf G v d) : Re Kf (σ.set i (some v)) G H (ρ.set i (.val d)) :=
  ⟨r.s, by rw [List.length_set, List.length_set, r.len], fun j x e => by
    by_cases hj : i = j
    · subst hj
      have hl := lt_of_set e
      rw [List.getElem?_set_self hl] at e
      cases e
      exact ⟨v, List.getElem?_set_self (by rw [r.len]; exact hl), h⟩
    · rw [get_set_ne hj] at e ⊢
      exact r.sl j x e⟩
theorem wipe_set {i : Nat} {x : Option V} : ∀ {vs : List Nat} (σ : L2.St), i ∈ vs → L2.wipe (σ.set i x) vs = L2.wipe σ vs
  | [], _, h => by cases h
  | v :: vs, σ, h => by
    show (L2.wipe (σ.set i x) vs).set v none = (L2.wipe σ vs).set v none
    by_cases hv : i ∈ vs
    · rw [wipe_set σ hv]
    · have e : i = v := (List.mem_cons.mp h).resolve_right hv
      subst e
      have comm : ∀ (ws : List Nat), i ∉ ws → L2.wipe (σ.set i x) ws = (L2.wipe σ ws).set i x := by
        intro ws
        induction ws with
        | nil => intro _; rfl
        | cons w ws ih =>
          intro hn
          show (L2.wipe (σ.set i x) ws).set w none = ((L2.wipe σ ws).set w none).set i x
          rw [ih (fun z => hn (List.mem_cons_of_mem _ z)), List.set_comm _ _ (fun z => hn (by rw [z]; exact List.mem_cons_self))]
      rw [comm vs hv, List.set_set]
def rdC (Kf : PySem.W.Frag) (g : MTg) (vs : List Nat) : TG := fun v σ H Q => ∃ G ρ ρ' d, Re Kf σ G H ρ ∧ Rep Kf G v d ∧ g d ρ = .ok ρ' ∧ ∀ σ', Re Kf σ' G H ρ' → L2.wipe σ' vs = L2.wipe σ vs → Q σ' H
def rdCs (Kf : PySem.W.Frag) (g : List D → Env → R Env) (vs : List Nat) : TGs := fun xs σ H Q => ∃ G ρ ρ' ds, Re Kf σ G H ρ ∧ RepL Kf G xs ds ∧ g ds ρ = .ok ρ' ∧ ∀ σ', Re Kf σ' G H ρ' → L2.wipe σ' vs = L2.wipe σ vs → Q σ' H
def rdE (X : Cx) (W : WX) (m : Env → R D) : TE := fun σ H Q => ∃ G ρ, Re X.K σ G H ρ ∧ Post X W σ G H (m ρ) (OkE X.K G H Q)
def rdT (X : Cx) (W : WX) (m : Env → R Bool) : TT := fun σ H Q => ∃ G ρ, Re X.K σ G H ρ ∧ Post X W σ G H (m ρ) (OkB G H Q)
theorem pg_imp {e : Expr} {t t' : TG} (h : PG X e t) (k : ∀ v σ H Q, t' v σ H Q → t v σ H Q) : PG X e t' := ⟨fun pins s σ H v u Q I r q => h.run pins s σ H v u Q I r (k v σ H Q q)⟩
theorem pgs_imp {e : List Expr} {t t' : TGs} (h : PGs X e t) (k : ∀ v σ H Q, t' v σ H Q → t v σ H Q) : PGs X e t' := ⟨fun pins s σ H v u Q I r q => h.run pins s σ H v u Q I r (k v σ H Q q)⟩
theorem pe_imp {e : Expr} {t t' : TE} (h : PE X e t) (k : ∀ σ H Q, t' σ H Q → t σ H Q) : PE X e t' := ⟨fun pins s σ H Q I q => h.run pins s σ H Q I (k σ H Q q)⟩
theorem pe_or {e : Expr} {t t' : TE} (h : PE X e t) (h' : PE X e t') : PE X e (fun σ H Q => t σ H Q ∨ t' σ H Q) := ⟨fun pins s σ H Q I q => q.elim (h.run pins s σ H Q I) (h'.run pins s σ H Q I)⟩
theorem ps_or {e : Stmt} {t t' : TS} (h : PS X e t) (h' : PS X e t') : PS X e (fun D σ H => t D σ H ∨ t' D σ H) := ⟨fun pins s σ H D I q => q.elim (h.run pins s σ H D I) (h'.run pins s σ H D I)⟩
theorem pts_imp {e : List Expr} {t t' : TT} (h : PTs X e t) (k : ∀ σ H Q, t' σ H Q → t σ H Q) : PTs X e t' := ⟨fun pins s σ H Q I q => h.run pins s σ H Q I (k σ H Q q)⟩
theorem pi_or {tg e : Expr} {t t' : TI} (h : PI X tg e t) (h' : PI X tg e t') : PI X tg e (fun σ H Q => t σ H Q ∨ t' σ H Q) := ⟨fun pins s σ H Q I q => q.elim (h.run pins s σ H Q I) (h'.run pins s σ H Q I)⟩
theorem ME.pe {e : Expr} {m : Env → R D} (h : ME X W e m) : PE X e (rdE X W m) := by
  obtain ⟨t, pt, ht⟩ := h.ex
  exact pe_imp pt fun σ H Q ⟨G, ρ, re, p⟩ => ht σ G H ρ Q re p
theorem mts_nil : PTs X [] (rdT X W tYesM) := pts_imp pts_nil fun σ H Q ⟨G, ρ, re, p⟩ => p G H (.refl re.s)
theorem mts_one {c : Expr} {m : Env → R Bool} (h : MT X W c m) : PTs X [c] (rdT X W m) := by
  obtain ⟨t, pt, ht⟩ := h.ex
  exact pts_imp (pts_one pt) fun σ H Q ⟨G, ρ, re, p⟩ => ht σ G H ρ Q re p
theorem mc_name {i : Nat} {x : Str} {pos : Pos} {vs : List Nat} (hN : X.N.Nodup) (hi : X.N[i]? = some x) (hv : i ∈ vs) (hx : Loc X.env.scope x) (hf : X.fn x = true ∨ X.env.scope.names.lookup x = some .local := by first | exact .inl rfl | exact .inr rfl | assumption) : PG X (.Name x pos) (rdC X.K (gN i) vs) :=
  pg_imp (pg_name hN hi hx hf) fun v σ H Q ⟨G, ρ, ρ', d, re, r, e, k⟩ => by
    cases e
    exact k _ (re.set i r) (wipe_set σ hv)
theorem mcs_nil {vs : List Nat} : PGs X [] (rdCs X.K gsNil vs) := pgs_imp pgs_nil fun v σ H Q ⟨G, ρ, ρ', ds, re, r, e, k⟩ => by
  cases r with
  | nil => cases e; exact ⟨rfl, k σ re rfl⟩
  | cons _ _ => cases e
theorem mcs_cons {e : Expr} {es : List Expr} {g : MTg} {gs : List D → Env → R Env} {vs : List Nat} (h1 : PG X e (rdC X.K g vs)) (h2 : PGs X es (rdCs X.K gs vs)) (hs : (assignEach (e :: es) X.env).map (·.2) = assign e X.env :: (assignEach es X.env).map (·.2) := by rfl) :
    PGs X (e :: es) (rdCs X.K (gsCons g gs) vs) := pgs_imp (pgs_cons h1 h2 hs) fun v σ H Q ⟨G, ρ, ρ', ds, re, r, e, k⟩ => by
  cases r with
  | nil => cases e
  | cons r rs =>
    obtain ⟨ρ1, e1, e2⟩ := R.bind_ok e
    exact ⟨_, _, rfl, G, ρ, ρ1, _, re, r, e1, fun σ1 re1 w1 => ⟨G, ρ1, ρ', _, re1, rs, e2, fun σ2 re2 w2 => k σ2 re2 (w2.trans w1)⟩⟩
theorem mc_tup {es : List Expr} {k : Nat} {n : Nat} {pos : Pos} {gs : List D → Env → R Env} {vs : List Nat} (hc : X.calm = true) (h : PGs X es (rdCs X.K gs vs)) (hl : ∀ ds ρ ρ', gs ds ρ = .ok ρ' → ds.length = n)
    (hn : (assignEach es X.env).length = n := by rfl) (hst : (assignEach es X.env).findIdx? (·.1) = none := by rfl) : PG X (.Tuple es k pos) (rdC X.K (gT gs) vs) :=
  pg_imp (pg_tup hc h hn hst) fun v σ H Q ⟨G, ρ, ρ', d, re, r, e, k⟩ => by
    cases r with
    | tup ha hr => exact ⟨_, _, rfl, SqT.of (re.s.tup ha), by rw [hr.length]; exact hl _ _ _ e, G, ρ, ρ', _, re, hr, e, k⟩
    | _ => cases e
theorem noX_post {α : Type} {r : R α} {a : α} (h : noX r = .ok a) : r = .ok a := by
  cases r with
  | ok b => cases h; rfl
  | exn c => cases h
  | bad => cases h
theorem lc_runF {wi : TI} {mi : Env → R (List D)} {g : MTg} {mt : Env → R Bool} {me : Env → R D} {vs : List Nat} {Q : VK} (re : Re X.K σ G H ρ) (h : Post X W σ G H (fLc mi g mt me vs ρ) (OkF X.K G H Q))
    (hi : ∀ R', Post X W σ G H (mi ρ) (OkI X.K G H R') → wi σ H R') : tLc wi (rdC X.K g vs) (rdT X W0 mt) (rdE X W0 me) vs σ H Q := by
  unfold tLc
  refine hi _ ((Post.bind h).imp fun ds _ h1 => fun J G1 H1 s1 thru => ?_)
  intro Dl hD
  have h1 : Post X W σ G H (if ds.length ≤ 1000000 then compL g mt me (wipeE ρ vs) ds else R.bad) (OkF X.K G H Q) := h1
  rcases (Decidable.em (ds.length ≤ 1000000)).symm with hl | hl
  · rw [if_neg hl] at h1
    exact h1.elim
  rw [if_pos hl] at h1
  cases ec : compL g mt me (wipeE ρ vs) ds with
  | exn c =>
    exfalso
    have key : ∀ l : List D, compL g mt me (wipeE ρ vs) l ≠ .exn c := by
      intro l
      induction l with
      | nil => intro z; cases z
      | cons d l ih =>
        intro z
        unfold compL at z
        cases e1 : noX (g d (wipeE ρ vs)) with
        | exn c => cases e2 : g d (wipeE ρ vs) <;> (rw [e2] at e1; cases e1)
        | bad => rw [e1] at z; cases z
        | ok ρ1 =>
          rw [e1] at z
          have z : ((noX (mt ρ1)).bind fun b => if b = true then (noX (me ρ1)).bind fun y => (compL g mt me (wipeE ρ vs) l).bind fun ys => R.ok (y :: ys) else compL g mt me (wipeE ρ vs) l) = R.exn c := z
          cases e2 : noX (mt ρ1) with
          | exn c => cases e3 : mt ρ1 <;> (rw [e3] at e2; cases e2)
          | bad => rw [e2] at z; cases z
          | ok b =>
            rw [e2] at z
            cases b with
            | false => exact ih z
            | true =>
              have z : ((noX (me ρ1)).bind fun y => (compL g mt me (wipeE ρ vs) l).bind fun ys => R.ok (y :: ys)) = R.exn c := z
              cases e3 : noX (me ρ1) with
              | exn c => cases e4 : me ρ1 <;> (rw [e4] at e3; cases e3)
              | bad => rw [e3] at z; cases z
              | ok y =>
                rw [e3] at z
                have z : ((compL g mt me (wipeE ρ vs) l).bind fun ys => R.ok (y :: ys)) = R.exn c := z
                cases e4 : compL g mt me (wipeE ρ vs) l with
                | exn c' =>
                  rw [e4] at z
                  injection z with z
                  subst z
                  exact ih e4
                | bad => rw [e4] at z; cases z
                | ok ys => rw [e4] at z; cases z
    exact key ds ec
  | bad => rw [ec] at h1; exact h1.elim
  | ok fin =>
    rw [ec] at h1
    have h1 : OkF X.K G H Q fin := h1
    have re1 := re.step s1
    refine ⟨fun i n H' => i + n = ds.length ∧ ∃ G' acc as ys, Step G1 H1 G' H' ∧ G' Dl = none ∧ H' Dl = some (.lst acc) ∧ RepL X.K G' acc as ∧ as.length ≤ i ∧ compL g mt me (wipeE ρ vs) (ds.drop i) = .ok ys ∧ fin = as ++ ys, ⟨ds.length, Nat.zero_add _, G1, [], [], fin, ?_, ?_, upd_same, .nil, Nat.zero_le _, ec, rfl⟩, ?_⟩
    · exact (Step.refl s1.s).layH hD (s1.s.none hD) trivial
    · exact s1.s.none hD
    · rintro i n H2 ⟨hn, G2, acc, as, ys, s2, g2, hd2, r2, al, e2, ef⟩
      have thru2 := thru G2 H2 s2.g s2.s (trivial)
      by_cases hlt : i < ds.length
      · refine .inr ⟨(thru2.1 i ds[i] (List.getElem?_eq_getElem hlt)).1, fun H' => (i + 1) + (n - 1) = ds.length ∧ ∃ G' acc as ys, Step G1 H1 G' H' ∧ G' Dl = none ∧ H' Dl = some (.lst acc) ∧ RepL X.K G' acc as ∧ as.length ≤ i + 1 ∧ compL g mt me (wipeE ρ vs) (ds.drop (i + 1)) = .ok ys ∧ fin = as ++ ys, fun H' q => ⟨n - 1, by omega, q⟩, fun x H3 hy => ?_⟩
        obtain ⟨G3, s3, rx⟩ := (thru2.1 i ds[i] (List.getElem?_eq_getElem hlt)).2 x H3 hy
        rw [List.drop_eq_getElem_cons hlt] at e2
        unfold compL at e2
        obtain ⟨ρ1, e3, e2⟩ := R.bind_ok e2
        obtain ⟨b, e4, e2⟩ := R.bind_ok e2
        have e3 := noX_post e3
        have e4 := noX_post e4
        have s13 := s2.trans s3
        refine ⟨G3, wipeE ρ vs, ρ1, _, (re1.step s13).wipe vs, rx, e3, fun σ2 re2 hw => ⟨by rw [hw]; exact (wipe_idem σ vs), ?_⟩⟩
        refine ⟨G3, ρ1, re2, ?_⟩
        rw [e4]
        intro G4 H4 s4
        have s14 := s13.trans s4
        have hD1 : ∀ {Ga Ha Gb Hb : Hp}, Step Ga Ha Gb Hb → Ha Dl ≠ none → Ga Dl = none → Gb Dl = none := fun s h g => by rw [s.k _ h, g]
        have nd2 : H2 Dl ≠ none := by rw [hd2]; exact fun z => by cases z
        have g4 : G4 Dl = none := hD1 (s3.trans s4) nd2 g2
        have hd4 : H4 Dl = some (.lst acc) := (s3.trans s4).h _ _ hd2
        cases b with
        | false =>
          refine iteF ?_
          exact ⟨by omega, G4, acc, as, ys, s14, g4, hd4, r2.mono (.of (s3.trans s4).g), by omega, e2, ef⟩
        | true =>
          refine iteT ?_
          have e2 : ((noX (me ρ1)).bind fun y => (compL g mt me (wipeE ρ vs) (ds.drop (i + 1))).bind fun ys => R.ok (y :: ys)) = .ok ys := e2
          obtain ⟨y, e5, e2⟩ := R.bind_ok e2
          obtain ⟨ys', e6, e2⟩ := R.bind_ok e2
          cases e2
          have e5 := noX_post e5
          refine ⟨G4, ρ1, re2.step s4, ?_⟩
          rw [e5]
          intro v G5 H5 s5 rv
          have s35 := (s3.trans s4).trans s5
          have g5 : G5 Dl = none := hD1 s35 nd2 g2
          have hd5 : H5 Dl = some (.lst acc) := s35.h _ _ hd2
          refine ⟨acc, hd5, by rw [r2.length]; exact Nat.lt_of_le_of_lt (show as.length ≤ 1000000 by omega) (by decide), by omega, G5, acc ++ [v], as ++ [y], ys', ?_, g5, upd_same, (r2.mono (.of s35.g)).app (.one rv), ?_, e6, ?_⟩
          · exact (s14.trans s5).layH hD g5 trivial
          · rw [List.length_append, List.length_singleton]; omega
          · rw [ef, List.append_assoc]; rfl
      · have e : i = ds.length := by omega
        subst e
        rw [List.drop_length] at e2
        cases e2
        rw [List.append_nil] at ef
        subst ef
        refine .inl ⟨thru2.2, ?_⟩
        exact h1 Dl acc G2 H2 (s1.trans s2) (s1.h.none hD) g2 hd2 r2
where
  wipe_idem (σ : L2.St) (vs : List Nat) : L2.wipe (L2.wipe σ vs) vs = L2.wipe σ vs := by
    have h1 : ∀ (ws : List Nat) (τ : L2.St), (∀ v ∈ ws, τ[v]? = none ∨ τ[v]? = some none) → L2.wipe τ ws = τ := by
      intro ws
      induction ws with
      | nil => intro τ _; rfl
      | cons w ws ih =>
        intro τ h
        show (L2.wipe τ ws).set w none = τ
        rw [ih τ fun v hv => h v (List.mem_cons_of_mem _ hv)]
        apply List.ext_getElem?
        intro j
        by_cases hj : w = j
        · subst hj
          rcases h w List.mem_cons_self with q | q
          · have : τ.length ≤ w := List.getElem?_eq_none_iff.mp q
            rw [List.getElem?_eq_none (by rw [List.length_set]; exact this), q]
          · have : w < τ.length := (List.getElem?_eq_some_iff.mp q).1
            rw [List.getElem?_set_self this, q]
        · rw [List.getElem?_set_ne hj]
    refine h1 vs _ ?_
    have h2 : ∀ (ws : List Nat), ∀ v ∈ ws, (L2.wipe σ ws)[v]? = none ∨ (L2.wipe σ ws)[v]? = some none := by
      intro ws
      induction ws with
      | nil => intro v hv; cases hv
      | cons w ws ih =>
        intro v hv
        show ((L2.wipe σ ws).set w none)[v]? = none ∨ ((L2.wipe σ ws).set w none)[v]? = some none
        by_cases hj : w = v
        · subst hj
          by_cases hl : w < (L2.wipe σ ws).length
          · exact .inr (List.getElem?_set_self hl)
          · exact .inl (List.getElem?_eq_none (by rw [List.length_set]; omega))
        · rw [List.getElem?_set_ne hj]
          rcases List.mem_cons.mp hv with e | e
          · exact absurd e.symm hj
          · exact ih v e
    exact h2 vs
theorem okF_of {Q : VK} {ds : List D} (h : OkE Kf G H Q (.list ds)) : OkF Kf G H Q ds := fun p vs G' H' s hp hg hh r =>
  h _ _ _ (s.fix hp hg hh) (.lst (SqL.of upd_same) (r.mono (.of (.new hg))))
theorem lc_run {wi : TI} {mi : Env → R (List D)} {g : MTg} {mt : Env → R Bool} {me : Env → R D} {vs : List Nat} {Q : VK} (re : Re X.K σ G H ρ) (h : Post X W σ G H (eLc mi g mt me vs ρ) (OkE X.K G H Q))
    (hi : ∀ R', Post X W σ G H (mi ρ) (OkI X.K G H R') → wi σ H R') : tLc wi (rdC X.K g vs) (rdT X W0 mt) (rdE X W0 me) vs σ H Q :=
  lc_runF re ((Post.bind h).imp fun ds _ z => okF_of z) hi
theorem mf_lc {elt tg iter : Expr} {ifs : List Expr} {scope : Scope} {own : List (Str × Nat)} {pos : Pos} {mi : Env → R (List D)} {g : MTg} {mt : Env → R Bool} {me : Env → R D} (hc : X.calm = true) (hN : X.N.Nodup) (hi : MI X W tg iter mi) (ok : BlkOk X.N X.env.scope scope own)
    (hg : ∀ (s : Shared) (H : Hp) (C : Addr) (cl : List (Str × Addr)) (fp : List Addr), PG (X.blk s H scope (compEnvC scope cl C X.env) fp) tg (rdC X.K g (own.map (·.2))))
    (ht : ∀ (s : Shared) (H : Hp) (C : Addr) (cl : List (Str × Addr)) (fp : List Addr), PTs (X.blk s H scope (compEnvC scope cl C X.env) fp) ifs (rdT (X.blk s H scope (compEnvC scope cl C X.env) fp) W0 mt))
    (he : ∀ (s : Shared) (H : Hp) (C : Addr) (cl : List (Str × Addr)) (fp : List Addr), ME (X.blk s H scope (compEnvC scope cl C X.env) fp) W0 elt me) (hs : ∀ x, foldedSetIterable iter X.env x = pure x := by intro _; rfl) :
    MF X W (.ListComp elt [⟨tg, iter, ifs, 0⟩] scope pos) (fLc mi g mt me (own.map (·.2))) := by
  obtain ⟨ti, pti, hti⟩ := hi.ex
  refine ⟨_, pe_lc (tt := rdT X W0 mt) (te := rdE X W0 me) hc hN pti ok hg ht (fun s H C cl fp => (he s H C cl fp).pe) hs, fun σ G H ρ Q re h => ?_⟩
  exact lc_runF re h fun R' p => hti σ G H ρ R' re p
theorem me_lc {elt tg iter : Expr} {ifs : List Expr} {scope : Scope} {own : List (Str × Nat)} {pos : Pos} {mi : Env → R (List D)} {g : MTg} {mt : Env → R Bool} {me : Env → R D} (hc : X.calm = true) (hN : X.N.Nodup) (hi : MI X W tg iter mi) (ok : BlkOk X.N X.env.scope scope own)
    (hg : ∀ (s : Shared) (H : Hp) (C : Addr) (cl : List (Str × Addr)) (fp : List Addr), PG (X.blk s H scope (compEnvC scope cl C X.env) fp) tg (rdC X.K g (own.map (·.2))))
    (ht : ∀ (s : Shared) (H : Hp) (C : Addr) (cl : List (Str × Addr)) (fp : List Addr), PTs (X.blk s H scope (compEnvC scope cl C X.env) fp) ifs (rdT (X.blk s H scope (compEnvC scope cl C X.env) fp) W0 mt))
    (he : ∀ (s : Shared) (H : Hp) (C : Addr) (cl : List (Str × Addr)) (fp : List Addr), ME (X.blk s H scope (compEnvC scope cl C X.env) fp) W0 elt me) (hs : ∀ x, foldedSetIterable iter X.env x = pure x := by intro _; rfl) :
    ME X W (.ListComp elt [⟨tg, iter, ifs, 0⟩] scope pos) (eLc mi g mt me (own.map (·.2))) := by
  obtain ⟨ti, pti, hti⟩ := hi.ex
  refine ⟨_, pe_lc (tt := rdT X W0 mt) (te := rdE X W0 me) hc hN pti ok hg ht (fun s H C cl fp => (he s H C cl fp).pe) hs, fun σ G H ρ Q re h => ?_⟩
  exact lc_run re h fun R' p => hti σ G H ρ R' re p
theorem ms_setLc {i : Nat} {y : Str} {py spos : Pos} {elt tg iter : Expr} {ifs : List Expr} {scope : Scope} {own : List (Str × Nat)} {pos : Pos} {mi : Env → R (List D)} {g : MTg} {mt : Env → R Bool} {me : Env → R D} (hc : X.calm = true) (hN : X.N.Nodup)
    (hy : X.N[i]? = some y) (hyl : X.env.scope.names.lookup y = some .local)
    (hsw : swapsWith (.ListComp elt [⟨tg, iter, ifs, 0⟩] scope pos) (some (.Name y py)) spos.line X.env = pure true) (hi : MI X W tg iter mi) (ok : BlkOk X.N X.env.scope scope own)
    (hg : ∀ (s : Shared) (H : Hp) (C : Addr) (cl : List (Str × Addr)) (fp : List Addr), PG (X.blk s H scope (compEnvC scope cl C X.env) fp) tg (rdC X.K g (own.map (·.2))))
    (ht : ∀ (s : Shared) (H : Hp) (C : Addr) (cl : List (Str × Addr)) (fp : List Addr), PTs (X.blk s H scope (compEnvC scope cl C X.env) fp) ifs (rdT (X.blk s H scope (compEnvC scope cl C X.env) fp) W0 mt))
    (he : ∀ (s : Shared) (H : Hp) (C : Addr) (cl : List (Str × Addr)) (fp : List Addr), ME (X.blk s H scope (compEnvC scope cl C X.env) fp) W0 elt me) (hs : ∀ x, foldedSetIterable iter X.env x = pure x := by intro _; rfl) :
    MS X W (.Assign [.Name y py] (.ListComp elt [⟨tg, iter, ifs, 0⟩] scope pos) spos) (sSet i (eLc mi g mt me (own.map (·.2)))) := by
  obtain ⟨ti, pti, hti⟩ := hi.ex
  refine ⟨_, ps_setLc (tt := rdT X W0 mt) (te := rdE X W0 me) hc hN hy hyl hsw pti ok hg ht (fun s H C cl fp => (he s H C cl fp).pe) hs, fun G0 H0 σ G H ρ E r h => ?_⟩
  refine lc_run (W := W) (ρ := ρ) r.re ((PostS.lift r h).imp fun d _ h1 => fun v G1 H1 s1 r1 => ?_) fun R' p => hti σ G H ρ R' r.re p
  exact h1 _ G1 H1 ((r.step s1).set i r1)
end
end FF

namespace FF
open PySem L2
/-! ### what is walked -/
section
variable {Kf : PySem.W.Frag} {X : Cx} {W : WX} {G H G1 H1 : Hp} {σ : L2.St} {ρ : Env}
/-- the signs of a text -/
def signs (x : Str) : List D := x.cps.toList.map fun c => .str ⟨#[c]⟩
def itemsOf : D → R (List D)
  | .list ds => .ok ds
  | .tuple ds => .ok ds
  | .str x => .ok (signs x)
  | _ => .bad
def iAny (m : Env → R D) : Env → R (List D) := fun ρ => (m ρ).bind itemsOf
theorem thru_list {a : Addr} {K : PySem.W.Frag} {vs : List V} {ds : List D} (h : SqL K G1 a vs) (r : RepL Kf G1 vs ds) : Thru Kf G1 H1 (Itl K a) ds := fun G H e s _ => by
  have hs : SqL K H a vs := s.sq ((Sub.of e).sq h)
  have hu : ∀ xs, SqL K H a xs → xs = vs ∨ True := fun _ _ => .inr trivial
  refine ⟨fun i d ed => ?_, vs, hs, by rw [r.length]; exact Nat.le_refl _⟩
  obtain ⟨v, ev, rv⟩ := r.get ed
  exact ⟨⟨vs, v, hs, ev⟩, fun x H' ⟨eh, hx⟩ => ⟨G, by rw [eh]; exact .refl s, by
    have := hx vs hs
    rw [ev] at this
    cases this
    exact rv.mono (.of e)⟩⟩
theorem thru_tup {a : Addr} {K : PySem.W.Frag} {vs : List V} {ds : List D} (h : G1 a = some (.tup vs)) (r : RepL Kf G1 vs ds) : Thru Kf G1 H1 (Itt K a) ds := fun G H e s _ => by
  have hs : SqT K H a vs := SqT.of (s.tup (e _ _ h))
  refine ⟨fun i d ed => ?_, vs, hs, by rw [r.length]; exact Nat.le_refl _⟩
  obtain ⟨v, ev, rv⟩ := r.get ed
  exact ⟨⟨vs, v, hs, ev⟩, fun x H' ⟨eh, hx⟩ => ⟨G, by rw [eh]; exact .refl s, by
    have := hx vs hs
    rw [ev] at this
    cases this
    exact rv.mono (.of e)⟩⟩
theorem signs_len (x : Str) : (signs x).length = x.cps.size := by
  unfold signs
  rw [List.length_map, Array.length_toList]
theorem thru_str (x : Str) : Thru Kf G1 H1 (Its x) (signs x) := fun G H e s _ => by
  refine ⟨fun i d ed => ?_, by rw [signs_len]; exact Nat.le_refl _⟩
  unfold signs at ed
  rw [List.getElem?_map, Array.getElem?_toList] at ed
  cases ec : x.cps[i]? with
  | none => rw [ec] at ed; cases ed
  | some c =>
    rw [ec] at ed
    cases ed
    refine ⟨(Array.getElem?_eq_some_iff.mp ec).1, fun v H' ⟨eh, c', e1, e2⟩ => ⟨G, by rw [eh]; exact .refl s, ?_⟩⟩
    rw [ec] at e1
    cases e1
    subst e2
    exact .str _
theorem mi_any {tg l : Expr} {ml : Env → R D} (hl : ME X W l ml) : MI X W tg l (iAny ml) := by
  obtain ⟨t, pt, ht⟩ := hl.ex
  refine ⟨_, pi_or (pi_list pt) (pi_or (pi_tup pt) (pi_str pt)), fun σ G H ρ Q re h => ?_⟩
  have h := Post.bind h
  cases em : ml ρ with
  | bad => rw [em] at h; exact h.elim
  | exn c =>
    rw [em] at h
    refine .inl (ht σ G H ρ _ re ?_)
    rw [em]
    exact h
  | ok d =>
    rw [em] at h
    have h : Post X W σ G H (itemsOf d) (OkI X.K G H Q) := h
    have key : ∀ Q' : VK, OkE X.K G H Q' d → t σ H Q' := fun Q' k => ht σ G H ρ Q' re (by rw [em]; exact k)
    cases d with
    | list ds => exact .inl (key _ fun v G' H' s r => by
        cases r with
        | lst ha rs => exact ⟨_, rfl, ⟨_, s.s.sq ha⟩, h _ G' H' s (thru_list ha rs)⟩)
    | tuple ds => exact .inr (.inl (key _ fun v G' H' s r => by
        cases r with
        | tup ha rs => exact ⟨_, rfl, ⟨_, SqT.of (s.s.tup ha)⟩, h _ G' H' s (thru_tup ha rs)⟩))
    | str x => exact .inr (.inr (key _ fun v G' H' s r => by
        cases r with
        | str => exact ⟨_, rfl, h _ G' H' s (thru_str x)⟩))
    | _ => exact h.elim
/-- lo, lo + 1, .. -/
def rangeD (lo hi : Int) : List D := (List.range (hi - lo).toNat).map fun i => .int (lo + ((i : Nat) : Int))
theorem thru_rng (lo : Int) (n : Nat) : Thru Kf G1 H1 (Itr lo n) ((List.range n).map fun i => .int (lo + ((i : Nat) : Int))) := fun G H e s _ => by
  refine ⟨fun i d ed => ?_, by rw [List.length_map, List.length_range]; exact Nat.le_refl _⟩
  rw [List.getElem?_map] at ed
  cases ec : (List.range n)[i]? with
  | none => rw [ec] at ed; cases ed
  | some c =>
    obtain ⟨h1, h2⟩ := List.getElem?_eq_some_iff.mp ec
    rw [List.getElem_range] at h2
    subst h2
    rw [ec] at ed
    cases ed
    rw [List.length_range] at h1
    exact ⟨h1, fun v H' ⟨eh, e1⟩ => ⟨G, by rw [eh]; exact .refl s, by rw [e1]; exact .int _⟩⟩
def small62 (i : Int) : Bool := decide (-(2 ^ 62) ≤ i) && decide (i < 2 ^ 62)
def rng1 : List D → Option (List D)
  | [.int n] => if small62 n then some (rangeD 0 n) else none
  | _ => none
def rng2 : List D → Option (List D)
  | [.int m, .int n] => if small62 m && small62 n then some (rangeD m n) else none
  | _ => none
def iRg1 (ma : Env → R (List D)) : Env → R (List D) := fun ρ => (ma ρ).bind fun xs => lft (rng1 xs)
def iRg2 (ma : Env → R (List D)) : Env → R (List D) := fun ρ => (ma ρ).bind fun xs => lft (rng2 xs)
theorem small62_of {i : Int} (h : small62 i = true) : -(2 ^ 62) ≤ i ∧ i < 2 ^ 62 := by
  unfold small62 at h
  rw [Bool.and_eq_true] at h
  exact ⟨of_decide_eq_true h.1, of_decide_eq_true h.2⟩
theorem mi_rng1 {tg a : Expr} {ma : Env → R (List D)} {p pos : Pos} (hg : Gl X "range") (hm : X.mg "range" = none) (ha : MA X W [a] ma) (hs : starEach [a] X.env = [(false, eval a X.env)] := by rfl) : MI X W tg (.Call (.Name "range" p) [a] [] pos) (iRg1 ma) := by
  obtain ⟨t, pt, ht⟩ := ha.ex
  refine ⟨_, pi_range1 hg hm pt hs, fun σ G H ρ Q re h => ?_⟩
  refine ht σ G H ρ _ re ((Post.bind h).imp fun xs _ h1 => fun v G1 H1 s1 r1 => ?_)
  obtain ⟨ds, e, q⟩ := h1.lft
  cases r1 with
  | nil => cases e
  | cons r1 rs =>
    cases rs with
    | cons _ _ => cases r1 <;> cases e
    | nil =>
      cases r1 with
      | int n =>
        have e : (if small62 n then some (rangeD 0 n) else none) = some ds := e
        split at e
        · rename_i hn
          cases e
          obtain ⟨h1, h2⟩ := small62_of hn
          refine ⟨n, rfl, h1, h2, q _ G1 H1 s1 ?_⟩
          unfold rangeD
          rw [Int.sub_zero]
          exact thru_rng 0 n.toNat
        · cases e
      | _ => cases e
theorem mi_rng2 {tg a b : Expr} {ma : Env → R (List D)} {p pos : Pos} (hg : Gl X "range") (hm : X.mg "range" = none) (ha : MA X W [a, b] ma) (hs : starEach [a, b] X.env = [(false, eval a X.env), (false, eval b X.env)] := by rfl) (hs2 : starEach [b] X.env = [(false, eval b X.env)] := by rfl) :
    MI X W tg (.Call (.Name "range" p) [a, b] [] pos) (iRg2 ma) := by
  obtain ⟨t, pt, ht⟩ := ha.ex
  refine ⟨_, pi_range2 hg hm pt hs hs2, fun σ G H ρ Q re h => ?_⟩
  refine ht σ G H ρ _ re ((Post.bind h).imp fun xs _ h1 => fun v G1 H1 s1 r1 => ?_)
  obtain ⟨ds, e, q⟩ := h1.lft
  cases r1 with
  | nil => cases e
  | cons r1 rs =>
    cases rs with
    | nil => cases r1 <;> cases e
    | cons r2 rs =>
      cases rs with
      | cons _ _ => cases r1 <;> cases r2 <;> cases e
      | nil =>
        cases r1 with
        | int m =>
          cases r2 with
          | int n =>
            have e : (if small62 m && small62 n then some (rangeD m n) else none) = some ds := e
            split at e
            · rename_i hn
              cases e
              rw [Bool.and_eq_true] at hn
              obtain ⟨h1, h2⟩ := small62_of hn.1
              obtain ⟨h3, h4⟩ := small62_of hn.2
              exact ⟨m, n, rfl, ⟨h1, h2, h3, h4⟩, q _ G1 H1 s1 (thru_rng m _)⟩
            · cases e
          | _ => cases e
        | _ => cases r2 <;> cases e
/-! enumerate, zip, reversed of lists -/
def enumD : Nat → List D → List D
  | _, [] => []
  | n, d :: ds => .tuple [.int ((n : Nat) : Int), d] :: enumD (n + 1) ds
theorem enumD_get : ∀ (ds : List D) (n i : Nat) (d : D), (enumD n ds)[i]? = some d → ∃ x, ds[i]? = some x ∧ d = .tuple [.int (((n + i : Nat)) : Int), x]
  | [], n, i, d, h => by cases h
  | x :: ds, n, 0, d, h => ⟨x, rfl, (Option.some.inj h).symm⟩
  | x :: ds, n, i + 1, d, h => by
    obtain ⟨y, e1, e2⟩ := enumD_get ds (n + 1) i d h
    exact ⟨y, e1, by rw [e2, show n + 1 + i = n + (i + 1) by omega]⟩
theorem enumD_len : ∀ (ds : List D) (n : Nat), (enumD n ds).length = ds.length
  | [], _ => rfl
  | _ :: ds, n => by show (enumD (n + 1) ds).length + 1 = _; rw [enumD_len ds]; rfl
theorem thru_enum {a : Addr} {K : PySem.W.Frag} {vs : List V} {ds : List D} (h : SqL K G1 a vs) (r : RepL Kf G1 vs ds) : Thru Kf G1 H1 (Ite K a) (enumD 0 ds) := fun G H e s _ => by
  have hs : SqL K H a vs := s.sq ((Sub.of e).sq h)
  refine ⟨fun i d ed => ?_, vs, hs, by rw [r.length, enumD_len]; exact Nat.le_refl _⟩
  obtain ⟨x, ex, rfl⟩ := enumD_get _ _ _ _ ed
  obtain ⟨v, ev, rv⟩ := r.get ex
  refine ⟨⟨vs, v, hs, ev⟩, fun y H' ⟨T, z, ey, hT, eh, hz⟩ => ?_⟩
  have := hz vs hs
  rw [ev] at this
  cases this
  subst ey
  subst eh
  have st := Step.new (o := .tup [.int ((i : Nat) : Int), v]) s hT trivial
  refine ⟨_, st, .tup upd_same (.cons ?_ (.one (rv.mono (.of (e.trans st.g)))))⟩
  rw [Nat.zero_add]
  exact .int _
def listOf : D → Option (List D)
  | .list ds => some ds
  | _ => none
def enumOf : List D → Option (List D)
  | [.list ds] => some (enumD 0 ds)
  | _ => none
def iEn (ma : Env → R (List D)) : Env → R (List D) := fun ρ => (ma ρ).bind fun xs => lft (enumOf xs)
theorem mi_enum {e : Expr} {ma : Env → R (List D)} {p pos tpos : Pos} {elts : List Expr} {kk : Nat} (hg : Gl X "enumerate") (hm : X.mg "enumerate" = none) (ha : MA X W [e] ma) (hs : starEach [e] X.env = [(false, eval e X.env)] := by rfl) :
    MI X W (.Tuple elts kk tpos) (.Call (.Name "enumerate" p) [e] [] pos) (iEn ma) := by
  obtain ⟨t, pt, ht⟩ := ha.ex
  refine ⟨_, pi_enum hg hm pt hs, fun σ G H ρ Q re h => ?_⟩
  refine ht σ G H ρ _ re ((Post.bind h).imp fun xs _ h1 => fun v G1 H1 s1 r1 => ?_)
  obtain ⟨ds, e, q⟩ := h1.lft
  cases r1 with
  | nil => cases e
  | cons r1 rs =>
    cases rs with
    | cons _ _ => cases r1 <;> cases e
    | nil =>
      cases r1 with
      | lst ha hr =>
        cases e
        exact ⟨_, _, rfl, s1.s.sq ha, q _ G1 H1 s1 (thru_enum ha hr)⟩
      | _ => cases e
def zipD : List D → List D → List D
  | x :: xs, y :: ys => .tuple [x, y] :: zipD xs ys
  | _, _ => []
theorem zipD_get : ∀ (xs ys : List D) (i : Nat) (d : D), (zipD xs ys)[i]? = some d → ∃ x y, xs[i]? = some x ∧ ys[i]? = some y ∧ d = .tuple [x, y]
  | [], _, _, _, h => by cases h
  | _ :: _, [], _, _, h => by cases h
  | x :: xs, y :: ys, 0, d, h => ⟨x, y, rfl, rfl, (Option.some.inj h).symm⟩
  | x :: xs, y :: ys, i + 1, d, h => zipD_get xs ys i d h
theorem zipD_len : ∀ (xs ys : List D), (zipD xs ys).length = min xs.length ys.length
  | [], _ => by simp [zipD]
  | _ :: _, [] => by simp [zipD]
  | x :: xs, y :: ys => by show (zipD xs ys).length + 1 = _; rw [zipD_len xs ys, List.length_cons, List.length_cons]; omega
theorem thru_zip {a b : Addr} {K : PySem.W.Frag} {vs ws : List V} {ds es : List D} (h : SqL K G1 a vs) (r : RepL Kf G1 vs ds) (h2 : SqL K G1 b ws) (r2 : RepL Kf G1 ws es) : Thru Kf G1 H1 (Itz K a b) (zipD ds es) := fun G H e s _ => by
  have hs : SqL K H a vs := s.sq ((Sub.of e).sq h)
  have hs2 : SqL K H b ws := s.sq ((Sub.of e).sq h2)
  refine ⟨fun i d ed => ?_, vs, ws, hs, hs2, by rw [r.length, r2.length, zipD_len]; omega⟩
  obtain ⟨x, y, ex, ey, rfl⟩ := zipD_get _ _ _ _ ed
  obtain ⟨v, ev, rv⟩ := r.get ex
  obtain ⟨w, ew, rw'⟩ := r2.get ey
  refine ⟨⟨vs, ws, v, w, hs, hs2, ev, ew⟩, fun z H' ⟨T, x', y', ez, hT, eh, hx, hy⟩ => ?_⟩
  have e1 := hx vs hs
  rw [ev] at e1
  cases e1
  have e2 := hy ws hs2
  rw [ew] at e2
  cases e2
  subst ez
  subst eh
  have st := Step.new (o := .tup [v, w]) s hT trivial
  exact ⟨_, st, .tup upd_same (.cons (rv.mono (.of (e.trans st.g))) (.one (rw'.mono (.of (e.trans st.g)))))⟩
def zipOf : List D → Option (List D)
  | [.list xs, .list ys] => some (zipD xs ys)
  | _ => none
def iZp (ma : Env → R (List D)) : Env → R (List D) := fun ρ => (ma ρ).bind fun xs => lft (zipOf xs)
theorem mi_zip {e e2 : Expr} {ma : Env → R (List D)} {p pos tpos : Pos} {elts : List Expr} {kk : Nat} (hg : Gl X "zip") (hm : X.mg "zip" = none) (ha : MA X W [e, e2] ma)
    (hs : starEach [e, e2] X.env = (false, eval e X.env) :: starEach [e2] X.env := by rfl) (hpl : (backTo pos (starEach [e2] X.env)).any (·.1) = false := by rfl) :
    MI X W (.Tuple elts kk tpos) (.Call (.Name "zip" p) [e, e2] [] pos) (iZp ma) := by
  obtain ⟨t, pt, ht⟩ := ha.ex
  refine ⟨_, pi_zip hg hm pt hs hpl, fun σ G H ρ Q re h => ?_⟩
  refine ht σ G H ρ _ re ((Post.bind h).imp fun xs _ h1 => fun v G1 H1 s1 r1 => ?_)
  obtain ⟨ds, e, q⟩ := h1.lft
  cases r1 with
  | nil => cases e
  | cons r1 rs =>
    cases rs with
    | nil => cases r1 <;> cases e
    | cons r2 rs =>
      cases rs with
      | cons _ _ => cases r1 <;> cases r2 <;> cases e
      | nil =>
        cases r1 with
        | lst ha hr =>
          cases r2 with
          | lst hb hq =>
            cases e
            exact ⟨_, _, _, _, rfl, s1.s.sq ha, s1.s.sq hb, q _ G1 H1 s1 (thru_zip ha hr hb hq)⟩
          | _ => cases e
        | _ => cases r2 <;> cases e
theorem thru_rev {a : Addr} {K : PySem.W.Frag} {vs : List V} {ds : List D} (h : SqL K G1 a vs) (r : RepL Kf G1 vs ds) : Thru Kf G1 H1 (Itv K a vs.length) ds.reverse := fun G H e s _ => by
  have hs : SqL K H a vs := s.sq ((Sub.of e).sq h)
  refine ⟨fun i d ed => ?_, by show vs.length ≤ ds.reverse.length; rw [r.length, List.length_reverse]; exact Nat.le_refl _⟩
  have hi : i < ds.length := by
    have := (List.getElem?_eq_some_iff.mp ed).1
    rw [List.length_reverse] at this
    exact this
  rw [List.getElem?_reverse hi] at ed
  obtain ⟨v, ev, rv⟩ := r.get ed
  rw [← r.length] at ev hi
  exact ⟨⟨hi, vs, v, hs, ev⟩, fun x H' ⟨eh, hx⟩ => ⟨G, by rw [eh]; exact .refl s, by
    have := hx vs hs
    rw [ev] at this
    cases this
    exact rv.mono (.of e)⟩⟩
def revOf : List D → Option (List D)
  | [.list xs] => some xs.reverse
  | _ => none
def iRv (ma : Env → R (List D)) : Env → R (List D) := fun ρ => (ma ρ).bind fun xs => lft (revOf xs)
theorem mi_rev {tg e : Expr} {ma : Env → R (List D)} {p pos : Pos} (hg : Gl X "reversed") (hm : X.mg "reversed" = none) (ha : MA X W [e] ma) (hs : starEach [e] X.env = [(false, eval e X.env)] := by rfl) : MI X W tg (.Call (.Name "reversed" p) [e] [] pos) (iRv ma) := by
  obtain ⟨t, pt, ht⟩ := ha.ex
  refine ⟨_, pi_reversed hg hm pt hs, fun σ G H ρ Q re h => ?_⟩
  refine ht σ G H ρ _ re ((Post.bind h).imp fun xs _ h1 => fun v G1 H1 s1 r1 => ?_)
  obtain ⟨ds, e, q⟩ := h1.lft
  cases r1 with
  | nil => cases e
  | cons r1 rs =>
    cases rs with
    | cons _ _ => cases r1 <;> cases e
    | nil =>
      cases r1 with
      | lst ha hr =>
        cases e
        exact ⟨_, _, rfl, s1.s.sq ha, q _ G1 H1 s1 (thru_rev ha hr)⟩
      | _ => cases e
end
/-! ### defs -/
/-- the context of a body -/
structure Cz (X : Cx) (W : WX) (k : Nat) : Prop where
  tk : L2N.Takes X W
  po : PassesOwn (model X.prog X.w) X.A X.env X.xe
  calm : X.calm = true
  nd : X.N.Nodup
  room : Room k X.A
theorem fnM_len {n N : Nat} {m : MSt} {ds : List D} (h : fnM n N m ds ≠ .bad) : ds.length = n := by
  unfold fnM at h
  split at h
  · assumption
  · exact absurd rfl h
theorem start_rl {G H : Hp} (s : Sub G H) {vs : List V} {ds : List D} (r : RepL Kf G vs ds) (N : List Str) : Rl Kf G H (L2.start N vs) G H (ds.map Sl.val ++ List.replicate (N.length - ds.length) Sl.no) := by
  have hno : ∀ (i : Nat) x, (ds.map Sl.val ++ List.replicate (N.length - ds.length) Sl.no)[i]? = some x → isOwn x = false := by
    intro i x e
    have hm := List.mem_of_getElem? e
    rcases List.mem_append.mp hm with h | h
    · obtain ⟨d, _, rfl⟩ := List.mem_map.mp h
      rfl
    · rw [(List.mem_replicate.mp h).2]
      rfl
  refine ⟨.refl s, ⟨s, ?_, fun i x e => ?_⟩, fun i x p e o => ?_, fun i j x y p _ e _ o => ?_⟩
  · unfold L2.start
    rw [List.length_append, List.length_append, List.length_map, List.length_map, List.length_replicate, List.length_replicate, r.length]
  · unfold L2.start
    by_cases hi : i < ds.length
    · rw [List.getElem?_append_left (by rw [List.length_map]; exact hi), List.getElem?_map, List.getElem?_eq_getElem hi] at e
      cases e
      obtain ⟨v, ev, rv⟩ := r.get (List.getElem?_eq_getElem hi)
      rw [List.getElem?_append_left (by rw [List.length_map, r.length]; exact hi), List.getElem?_map, ev]
      exact ⟨v, rfl, rv⟩
    · rw [List.getElem?_append_right (by rw [List.length_map]; omega)] at e
      rw [(List.mem_replicate.mp (List.mem_of_getElem? e)).2]
      trivial
  · rw [hno i x e] at o
    cases o
  · rw [hno i x e] at o
    cases o
section
variable {P : Program} {w : World} {K : PySem.W.Frag} {mg : Str → Option Value} {base : Heap}
/-- a def by its mirror -/
theorem fn_ok {x qual : Str} {st : Stmt} {f : Addr} {fd : FuncData} {N ps : List Str} {k : Nat} {m : MSt} (F : Fun K x qual st f fd) (S : FnScope N ps (defScope st))
    (hb : ∀ (cdv : Value) (A : Around) (outer : List PySem.Env) (s : Shared) (H : Hp) (E : XK), Cz (cxOf (L2N.CX P w) P w K mg base N qual (defScope st) f cdv A outer s H E) (fun cls d _ H => E cls d H) k →
      MSs (cxOf (L2N.CX P w) P w K mg base N qual (defScope st) f cdv A outer s H E) (fun cls d _ H => E cls d H) (defBody st) m) :
    FnOk P w K mg base (L2N.CX P w) (k + 1) f fd ps (spM K mg (fnM ps.length N.length m)) := by
  obtain ⟨_, _, _, _, _, _, cdv, _, _, rfl, hlk, hcode⟩ := F.ex
  refine fn_of hlk hcode S (fun vs H Q E h => ?_) (fun A outer s H vs Q E hr h => ?_)
  · obtain ⟨G, ds, sg, r, h⟩ := h
    rw [r.length]
    refine fnM_len (m := m) (N := N.length) fun z => ?_
    rw [z] at h
    exact h.elim
  · obtain ⟨G, ds, sg, r, h⟩ := h
    have cz : Cz (cxOf (L2N.CX P w) P w K mg base N qual (defScope st) f cdv A outer s H E) (fun cls d _ H => E cls d H) k := ⟨L2N.takes_of rfl rfl rfl rfl, passes_of rfl, rfl, S.nd, hr⟩
    obtain ⟨t, pt, ht⟩ := (hb cdv A outer s H E cz).ex
    refine ⟨t, pt, ht G H _ G H _ _ (start_rl sg r N) ?_⟩
    have el : ds.length = ps.length := fnM_len (m := m) (N := N.length) fun z => by
      rw [z] at h
      exact h.elim
    unfold fnM at h
    rw [if_pos el] at h
    rw [el]
    generalize hm : m (ds.map Sl.val ++ List.replicate (N.length - ps.length) Sl.no) = f at h ⊢
    cases f with
    | next ρ => exact fun σ' G' H' r' => h .non G' H' r'.st .non
    | ret d => exact fun v G' H' s' r' => h v G' H' s' r'
    | exn c ρ => exact fun σ' G' H' C r' hC => h G' H' C r'.st hC
    | brk ρ => exact h.elim
    | cont ρ => exact h.elim
    | bad => exact h.elim
end
end FF

namespace FF
open PySem L2
/-! ### operations -/
def lm {α : Type} (n : Nat) (a : α) : Option α := if n ≤ 1000000 then some a else none
def addD : D → D → Option D
  | .int i, .int j => some (.int (i + j))
  | .str x, .str y => lm (x.length + y.length) (.str (x ++ y))
  | .list xs, .list ys => lm (xs.length + ys.length) (.list (xs ++ ys))
  | _, _ => none
def subD : D → D → Option D
  | .int i, .int j => some (.int (i - j))
  | _, _ => none
def cmul (i j : Int) : Bool := decide (-(2 ^ 64) < i) && decide (i < 2 ^ 64) || decide (-(2 ^ 64) < j) && decide (j < 2 ^ 64)
def mulD : D → D → Option D
  | .int i, .int j => if cmul i j then some (.int (i * j)) else none
  | .str x, .int n => if decide (n < 1000000) && decide (x.length * n.toNat ≤ 1000000) && decide (-(2 ^ 62) ≤ n) then some (.str (Txt.mul x n)) else none
  | _, _ => none
def repD : D → D → Option D
  | .list xs, .int n => if decide (n < 1000000) && decide (xs.length * n.toNat ≤ 1000000) && decide (-(2 ^ 62) ≤ n) then some (.list (List.replicate n.toNat xs).flatten) else none
  | _, _ => none
def modD : D → D → Option D
  | .int i, .int j => if 0 < j then some (.int (i % j)) else none
  | _, _ => none
def fdivD : D → D → Option D
  | .int i, .int j => if 0 < j ∧ j < 1073741824 then some (.int (i / j)) else none
  | _, _ => none
def negD : D → Option D
  | .int i => some (.int (-i))
  | _ => none
def shp (d : D) : Bool := SeqAt.shaped d
def eqD (a b : D) : Option D := if shp a && shp b then some (.bool (PyData.eqv a b)) else none
def neD (a b : D) : Option D := if shp a && shp b then some (.bool (!PyData.eqv a b)) else none
def ltD : D → D → Option D
  | .int i, .int j => some (.bool (decide (i < j)))
  | .str x, .str y => some (.bool (decide (x.cps.toList < y.cps.toList)))
  | _, _ => none
def leD : D → D → Option D
  | .int i, .int j => some (.bool (decide (i ≤ j)))
  | _, _ => none
def gtD : D → D → Option D
  | .int i, .int j => some (.bool (decide (j < i)))
  | _, _ => none
def geD : D → D → Option D
  | .int i, .int j => some (.bool (decide (j ≤ i)))
  | _, _ => none
def isNone : D → Bool
  | .none => true
  | _ => false
def isD : D → D → Option D
  | a, .none => some (.bool (isNone a))
  | .bool a, .bool b => some (.bool (decide (a = b)))
  | _, _ => none
def nisD : D → D → Option D
  | a, .none => some (.bool (!isNone a))
  | .bool a, .bool b => some (.bool (!decide (a = b)))
  | _, _ => none
def sign? (x : Str) : Option Nat := match x.cps.toList with
  | [c] => some c
  | _ => none
/-- a in b -/
def inB : D → D → Option Bool
  | .str x, .str z => match sign? x with
    | some c => some (decide (c ∈ z.cps.toList))
    | none => none
  | d, .list ds => if shp d && shp (.list ds) then some (ds.any fun z => PyData.eqv z d) else none
  | _, _ => none
def inD (a b : D) : Option D := (inB a b).map fun k => .bool k
def ninD (a b : D) : Option D := (inB a b).map fun k => .bool (!k)
def ixD : D → D → Option D
  | .list ds, .int i => atI ds i
  | .tuple ds, .int i => atI ds i
  | .str x, .int i => if x.length ≤ 1000000 then (atI x.cps.toList i).map fun c => .str ⟨#[c]⟩ else none
  | _, _ => none
def lenD : List D → Option D
  | [.list ds] => some (.int ds.length)
  | [.tuple ds] => some (.int ds.length)
  | [.str x] => lm x.length (.int x.length)
  | _ => none
def cutL {α : Type} (xs : List α) (lo hi : Option Int) : List α := (xs.drop (HT.sIx xs.length 0 lo)).take (HT.sIx xs.length xs.length hi - HT.sIx xs.length 0 lo)
def slD (d : D) (lo hi : Option Int) : Option D := match d with
  | .list ds => some (.list (cutL ds lo hi))
  | .str x => lm x.length (.str (cutS x lo hi))
  | _ => none
section
variable {Kf : PySem.W.Frag} {X : Cx} {G H : Hp}
theorem OkE.at {Q : VK} {d : D} (s : Sub G H) (h : OkE Kf G H Q d) {v : V} (r : Rep Kf G v d) : Q v H := h v G H (.refl s) r
mutual
theorem Rep.dp (s : Sub G H) : ∀ {v : V} {d : D}, Rep Kf G v d → d.canLay0 = true → Dp Kf H v d
  | _, _, .non, _ => .non
  | _, _, .bl b, _ => .bl b
  | _, _, .int i, _ => .int i
  | _, _, .str x, _ => .str x
  | _, _, .lst (ds := ds) h r, e => .lst (s.sq h) (r.dp s (by simpa [PyData.canLay0] using e))
  | _, _, .tup h r, e => .tup (SqT.of (s.tup h)) (r.dp s (by simpa [PyData.canLay0] using e))
  | _, _, .dct h r, e => by simp [PyData.canLay0] at e
theorem RepL.dp (s : Sub G H) : ∀ {v : List V} {d : List D}, RepL Kf G v d → PyData.canLayAll0 d = true → DpAll Kf H v d
  | _, _, .nil, _ => .nil
  | _, _, .cons h r, e => by
    rw [PyData.canLayAll0, Bool.and_eq_true] at e
    exact .cons (h.dp s e.1) (r.dp s e.2)
end
theorem shp_lay {d : D} (h : shp d = true) : d.canLay0 = true := SeqAt.canLay_of_shaped h
theorem opm_of {f : Value → Value → Sem Value} {g : D → D → Option D} {r : R2} (hr : OpR X f r) (h : ∀ G H x y a b d Q, Sub G H → Rep X.K G x a → Rep X.K G y b → g a b = some d → OkE X.K G H Q d → r x y H Q) : OpM X f g := ⟨r, hr, h⟩
theorem opm_sub : OpM X (binaryOp .Sub) subD := opm_of op_sub fun G H x y a b d Q s ra rb e q => by
  cases ra <;> cases rb <;> first | cases e | skip
  exact ⟨_, _, rfl, rfl, q.at s (.int _)⟩
theorem opm_mod : OpM X (binaryOp .Mod) modD := opm_of op_mod fun G H x y a b d Q s ra rb e q => by
  cases ra <;> cases rb <;> first | cases e | skip
  rename_i i j
  have e : (if 0 < j then some (PyData.int (i % j)) else none) = some d := e
  split at e
  · cases e
    exact ⟨_, _, rfl, rfl, by assumption, q.at s (.int _)⟩
  · cases e
theorem opm_fdiv : OpM X (binaryOp .FloorDiv) fdivD := opm_of op_fdiv fun G H x y a b d Q s ra rb e q => by
  cases ra <;> cases rb <;> first | cases e | skip
  rename_i i j
  have e : (if 0 < j ∧ j < 1073741824 then some (PyData.int (i / j)) else none) = some d := e
  split at e
  · cases e
    exact ⟨_, _, rfl, rfl, by assumption, q.at s (.int _)⟩
  · cases e
theorem unm_neg : UnM X (unaryOp .USub) negD := ⟨_, un_neg, fun G H x a d Q s ra e q => by
  cases ra <;> first | cases e | skip
  exact ⟨_, rfl, q.at s (.int _)⟩⟩
theorem opm_lt : OpM X (compareOp .Lt) ltD := opm_of (op_lt.or op_lt_str) fun G H x y a b d Q s ra rb e q => by
  cases ra <;> cases rb <;> first | cases e | skip
  · exact .inl ⟨_, _, rfl, rfl, q.at s (.bl _)⟩
  · exact .inr ⟨_, _, rfl, rfl, q.at s (.bl _)⟩
theorem opm_le : OpM X (compareOp .LtE) leD := opm_of op_le fun G H x y a b d Q s ra rb e q => by
  cases ra <;> cases rb <;> first | cases e | skip
  exact ⟨_, _, rfl, rfl, q.at s (.bl _)⟩
theorem opm_gt : OpM X (compareOp .Gt) gtD := opm_of op_gt fun G H x y a b d Q s ra rb e q => by
  cases ra <;> cases rb <;> first | cases e | skip
  exact ⟨_, _, rfl, rfl, q.at s (.bl _)⟩
theorem opm_ge : OpM X (compareOp .GtE) geD := opm_of op_ge fun G H x y a b d Q s ra rb e q => by
  cases ra <;> cases rb <;> first | cases e | skip
  exact ⟨_, _, rfl, rfl, q.at s (.bl _)⟩
theorem opm_eq (hu : X.A.units + 64 < cLine) : OpM X (compareOp .Eq) eqD := opm_of (op_eqD hu) fun G H x y a b d Q s ra rb e q => by
  unfold eqD at e
  split at e
  · rename_i h
    rw [Bool.and_eq_true] at h
    cases e
    exact ⟨a, b, ra.dp s (shp_lay h.1), rb.dp s (shp_lay h.2), h.1, h.2, q.at s (.bl _)⟩
  · cases e
theorem opm_ne (hu : X.A.units + 64 < cLine) : OpM X (compareOp .NotEq) neD := opm_of (op_neD hu) fun G H x y a b d Q s ra rb e q => by
  unfold neD at e
  split at e
  · rename_i h
    rw [Bool.and_eq_true] at h
    cases e
    exact ⟨a, b, ra.dp s (shp_lay h.1), rb.dp s (shp_lay h.2), h.1, h.2, q.at s (.bl _)⟩
  · cases e
theorem rep_isNone {v : V} {d : D} (r : Rep Kf G v d) : decide (v = .non) = isNone d := by cases r <;> rfl
theorem opm_is : OpM X (compareOp .Is) isD := opm_of (op_isN.or op_isBl) fun G H x y a b d Q s ra rb e q => by
  cases rb with
  | non =>
    have e : some (PyData.bool (isNone a)) = some d := by cases a <;> exact e
    cases e
    exact .inl ⟨rfl, by rw [rep_isNone ra]; exact q.at s (.bl _)⟩
  | bl k =>
    cases ra <;> first | cases e | skip
    exact .inr ⟨_, _, rfl, rfl, q.at s (.bl _)⟩
  | _ => cases ra <;> cases e
theorem opm_nis : OpM X (compareOp .IsNot) nisD := opm_of (op_notN.or op_notBl) fun G H x y a b d Q s ra rb e q => by
  cases rb with
  | non =>
    have e : some (PyData.bool (!isNone a)) = some d := by cases a <;> exact e
    cases e
    exact .inl ⟨rfl, by rw [rep_isNone ra]; exact q.at s (.bl _)⟩
  | bl k =>
    cases ra <;> first | cases e | skip
    exact .inr ⟨_, _, rfl, rfl, q.at s (.bl _)⟩
  | _ => cases ra <;> cases e
theorem sign_of {x : Str} {c : Nat} (h : sign? x = some c) : x = ⟨#[c]⟩ := by
  unfold sign? at h
  split at h
  · rename_i c' e
    have hc : c' = c := Option.some.inj h
    subst hc
    cases x with
    | mk cps =>
      have e : cps.toList = [c'] := e
      have : cps = #[c'] := Array.toList_inj.mp e
      rw [this]
  · cases h
theorem opm_in (hu : X.A.units + 65 < cLine) : OpM X (compareOp .In) inD := opm_of (op_in_sign.or (op_inD hu)) fun G H x y a b d Q s ra rb e q => by
  unfold inD at e
  cases ei : inB a b with
  | none => rw [ei] at e; cases e
  | some k =>
    rw [ei] at e
    cases e
    cases rb with
    | str z =>
      cases ra <;> first | cases ei | skip
      rename_i y
      have ei : (match sign? y with | some c => some (decide (c ∈ z.cps.toList)) | none => none) = some k := ei
      cases es : sign? y with
      | none => rw [es] at ei; cases ei
      | some c =>
        rw [es] at ei
        cases ei
        exact .inl ⟨c, z, by rw [sign_of es], rfl, q.at s (.bl _)⟩
    | lst ha hr =>
      rename_i ds
      have ei : (if shp a && shp (.list ds) then some (ds.any fun z => PyData.eqv z a) else none) = some k := by cases a <;> exact ei
      split at ei
      · rename_i h
        rw [Bool.and_eq_true] at h
        cases ei
        exact .inr ⟨a, ds, ra.dp s (shp_lay h.1), (Rep.lst ha hr).dp s (shp_lay h.2), h.1, h.2, q.at s (.bl _)⟩
      · cases ei
    | _ => cases ra <;> cases ei
theorem opm_nin (hu : X.A.units + 65 < cLine) : OpM X (compareOp .NotIn) ninD := opm_of (op_notIn_sign.or (op_notInD hu)) fun G H x y a b d Q s ra rb e q => by
  unfold ninD at e
  cases ei : inB a b with
  | none => rw [ei] at e; cases e
  | some k =>
    rw [ei] at e
    cases e
    cases rb with
    | str z =>
      cases ra <;> first | cases ei | skip
      rename_i y
      have ei : (match sign? y with | some c => some (decide (c ∈ z.cps.toList)) | none => none) = some k := ei
      cases es : sign? y with
      | none => rw [es] at ei; cases ei
      | some c =>
        rw [es] at ei
        cases ei
        exact .inl ⟨c, z, by rw [sign_of es], rfl, q.at s (.bl _)⟩
    | lst ha hr =>
      rename_i ds
      have ei : (if shp a && shp (.list ds) then some (ds.any fun z => PyData.eqv z a) else none) = some k := by cases a <;> exact ei
      split at ei
      · rename_i h
        rw [Bool.and_eq_true] at h
        cases ei
        exact .inr ⟨a, ds, ra.dp s (shp_lay h.1), (Rep.lst ha hr).dp s (shp_lay h.2), h.1, h.2, q.at s (.bl _)⟩
      · cases ei
    | _ => cases ra <;> cases ei
/-! + of lists, locked ones and the module's own too -/
def rCatR (Kf : PySem.W.Frag) : R2 := fun x y H Q => ∃ l b xs zs, x = .ref l ∧ y = .ref b ∧ SqL Kf H l xs ∧ SqL Kf H b zs ∧ xs.length + zs.length ≤ sizeLine ∧ ∀ p, H p = none → Q (.ref p) (upd H p (.lst (xs ++ zs)))
theorem op_catR : OpR X (binaryOp .Add) (rCatR X.K) := by
  intro pins s σ H x y v u Q I rx ry h
  obtain ⟨l, b, xs, zs, rfl, rfl, hH, hB, hz, q⟩ := h
  cases rx
  cases ry
  obtain ⟨its, r, ⟨⟨c1, d1, t1, sl1⟩, n1, e1, k1, j1, a1⟩, _⟩ := I.list hH
  obtain ⟨its2, r2, ⟨⟨c2, d2, t2, sl2⟩, n2, e2, k2, j2, a2⟩, _⟩ := I.list hB
  simp only at k1 j1 a1 k2 j2 a2
  subst k1 j1 a1 k2 j2 a2
  have hl := r.length
  have hl2 := r2.length
  refine PySem.concat_meets ⟨_, e1, rfl⟩ ⟨_, e2, rfl⟩ PySem.noFill_list_add PySem.seq_list_add PySem.F.slot_list_add PySem.F.entry_list_add (PySem.F.args_list_add_2 _ _)
    (PyProof.Rows.list_addW l b its.toArray its2.toArray n1 n2 none none sl1 sl2 (by rw [List.size_toArray, List.size_toArray]; omega)) ⟨e1, e2, ?_⟩
  have glue : its.toArray ++ its2.toArray = (its ++ its2).toArray := by simp
  rw [glue]
  exact ⟨.ref _, _, I.lnew (t' := s.toks) (r.append r2) (by rw [List.length_append]; omega), rfl, q _ I.fresh⟩
theorem lm_some {α : Type} {n : Nat} {a b : α} (h : lm n a = some b) : n ≤ 1000000 ∧ b = a := by
  unfold lm at h
  split at h
  · exact ⟨by assumption, (Option.some.inj h).symm⟩
  · cases h
theorem opm_add : OpM X (binaryOp .Add) addD := opm_of (op_add.or (op_add_str.or op_catR)) fun G H x y a b d Q s ra rb e q => by
  cases ra <;> cases rb <;> first | cases e | skip
  · exact .inl ⟨_, _, rfl, rfl, q.at s (.int _)⟩
  · obtain ⟨hl, rfl⟩ := lm_some e
    exact .inr (.inl ⟨_, _, rfl, rfl, sz_line hl, q.at s (.str _)⟩)
  · rename_i a1 vs1 ds1 h1 r1 a2 vs2 ds2 h2 r2
    obtain ⟨hl, rfl⟩ := lm_some e
    refine .inr (.inr ⟨_, _, _, _, rfl, rfl, s.sq h1, s.sq h2, by rw [r1.length, r2.length]; exact sz_line hl, fun p hp => ?_⟩)
    have st := Step.new (o := .lst (vs1 ++ vs2)) s hp trivial
    exact q _ _ _ st (.lst (SqL.of upd_same) ((r1.mono (.of st.g)).app (r2.mono (.of st.g))))
/-- a text times a number -/
theorem op_mulS : OpR X (binaryOp .Mult) (fun x y H Q => ∃ z n, x = .str z ∧ y = .int n ∧ MulOk z n ∧ Q (.str (Txt.mul z n)) H) := by
  intro pins s σ H x y v u Q I rx ry h
  obtain ⟨z, n, rfl, rfl, hm, q⟩ := h
  obtain ⟨t, rfl⟩ := rx
  obtain ⟨t2, rfl⟩ := ry
  exact SB.mul hm fun t' k => ⟨.str (Txt.mul z n), H, I.tok k, ⟨t', rfl⟩, q⟩
theorem mulOk_of {x : Str} {n : Int} (h1 : n < 1000000) (h2 : x.length * n.toNat ≤ 1000000) (h3 : -(2 ^ 62) ≤ n) : MulOk x n := by
  refine ⟨?_, fun h _ => ?_, fun h _ => ?_⟩
  · have : ¬ n < -(2 ^ 63 : Int) := by omega
    have : ¬ n ≥ 2 ^ 63 := by omega
    simp [*]
    omega
  · have hx : (x.length : Int) ≤ 1000000 := by
      have h4 : 1 ≤ n.toNat := by omega
      have := Nat.le_mul_of_pos_right x.length h4
      omega
    have : (1000000 : Int) ≤ (2 ^ 63 - 1) / n := by
      rw [Int.le_ediv_iff_mul_le (by omega)]
      omega
    omega
  · unfold Builtin.Str.tooLong
    have := sz_line h2
    simp only [decide_eq_false_iff_not]
    omega
theorem opm_mul : OpM X (binaryOp .Mult) mulD := opm_of (op_mul.or op_mulS) fun G H x y a b d Q s ra rb e q => by
  cases ra <;> cases rb <;> first | cases e | skip
  · rename_i i j
    have e : (if cmul i j then some (PyData.int (i * j)) else none) = some d := e
    split at e
    · rename_i hc
      cases e
      refine .inl ⟨_, _, rfl, rfl, ?_, q.at s (.int _)⟩
      unfold cmul at hc
      rw [Bool.or_eq_true, Bool.and_eq_true, Bool.and_eq_true] at hc
      exact hc.imp (fun h => ⟨of_decide_eq_true h.1, of_decide_eq_true h.2⟩) (fun h => ⟨of_decide_eq_true h.1, of_decide_eq_true h.2⟩)
    · cases e
  · rename_i x n
    have e : (if decide (n < 1000000) && decide (x.length * n.toNat ≤ 1000000) && decide (-(2 ^ 62) ≤ n) then some (PyData.str (Txt.mul x n)) else none) = some d := e
    split at e
    · rename_i hc
      cases e
      rw [Bool.and_eq_true, Bool.and_eq_true] at hc
      exact .inr (⟨_, _, rfl, rfl, mulOk_of (of_decide_eq_true hc.1.1) (of_decide_eq_true hc.1.2) (of_decide_eq_true hc.2), q.at s (.str _)⟩)
    · cases e
theorem repL_rep {vs : List V} {ds : List D} (h : RepL Kf G vs ds) : ∀ m : Nat, RepL Kf G (List.replicate m vs).flatten (List.replicate m ds).flatten
  | 0 => .nil
  | m + 1 => by
    rw [List.replicate_succ, List.replicate_succ, List.flatten_cons, List.flatten_cons]
    exact h.app (repL_rep h m)
/-- [a, ..] * n -/
theorem me_rep {W : WX} {es : List Expr} {b : Expr} {ms : Env → R (List D)} {mb : Env → R D} {lp pos : Pos} (h : MA X W es ms) (hb : ME X W b mb) : ME X W (.BinOp (.List es lp) .Mult b pos) (eBin repD (eLst ms) mb) := by
  obtain ⟨t, pt, ht⟩ := h.ex
  obtain ⟨u, pu, hu⟩ := hb.ex
  refine ⟨_, pe_op op_rep (pe_lst pt) pu, fun σ G H ρ Q re h => ?_⟩
  refine ht σ G H ρ _ re (h.bind.bind.imp fun xs _ h1 => fun vs G1 H1 s1 r1 => ?_)
  obtain ⟨d, e, q⟩ := h1.lft
  obtain ⟨hl, rfl⟩ := lim_some e
  refine ⟨by rw [r1.length]; exact sz_line hl, fun p hp => ?_⟩
  have s2 := Step.new (o := .lst vs) s1.s hp trivial
  have s12 := s1.trans s2
  refine hu σ _ _ ρ _ (re.step s12) ((q.bind.step s12 fun _ z => z).imp fun y _ h2 => fun v2 G2 H2 s3 r2 => ?_)
  obtain ⟨d, e, q⟩ := h2.lft
  cases r2 with
  | int n =>
    have e : (if decide (n < 1000000) && decide (xs.length * n.toNat ≤ 1000000) && decide (-(2 ^ 62) ≤ n) then some (PyData.list (List.replicate n.toNat xs).flatten) else none) = some d := e
    split at e
    · rename_i hc
      cases e
      rw [Bool.and_eq_true, Bool.and_eq_true] at hc
      have c1 := of_decide_eq_true hc.1.1
      have c2 := of_decide_eq_true hc.1.2
      have c3 := of_decide_eq_true hc.2
      refine ⟨p, n, vs, rfl, rfl, s3.h _ _ upd_same, by omega, by omega, by rw [r1.length]; exact sz_line c2, fun p2 hp2 => ?_⟩
      have s4 := Step.new (o := .lst (List.replicate n.toNat vs).flatten) s3.s hp2 trivial
      exact q _ _ _ ((s12.trans s3).trans s4) (.lst (SqL.of upd_same) (repL_rep (r1.mono (.of ((s2.trans s3).trans s4).g)) _))
    · cases e
  | _ => cases e
/-! subscripts, slices, len -/
theorem atI_get' {α : Type} {xs : List α} {i : Int} {v : α} (h : atI xs i = some v) : ∃ j, ixN xs.length i = some j ∧ xs[j]? = some v := by
  unfold atI at h
  cases e : ixN xs.length i with
  | none => rw [e] at h; cases h
  | some j => rw [e] at h; exact ⟨j, rfl, h⟩
theorem atI_rep {vs : List V} {ds : List D} {i : Int} {d : D} (r : RepL Kf G vs ds) (h : atI ds i = some d) : ∃ v, atI vs i = some v ∧ Rep Kf G v d := by
  obtain ⟨j, e1, e2⟩ := atI_get' h
  obtain ⟨v, e3, rv⟩ := r.get e2
  refine ⟨v, ?_, rv⟩
  unfold atI
  rw [r.length, e1]
  exact e3
theorem me_ix {W : WX} {a b : Expr} {ma mb : Env → R D} {pos : Pos} (ha : ME X W a ma) (hb : ME X W b mb) (hs : PlainIx b := by intro _ _; rfl) : ME X W (.Subscript a b pos) (eBin ixD ma mb) := by
  obtain ⟨t, pt, ht⟩ := ha.ex
  obtain ⟨u, pu, hu⟩ := hb.ex
  refine ⟨_, pe_ix ix_seq pt pu hs, fun σ G H ρ Q re h => ?_⟩
  refine ht σ G H ρ _ re (h.bind.imp fun x _ h1 => fun v G1 H1 s1 r1 => ?_)
  refine hu σ G1 H1 ρ _ (re.step s1) ((h1.bind.step s1 fun _ z => z).imp fun y _ h2 => fun v2 G2 H2 s2 r2 => ?_)
  obtain ⟨d, e, q⟩ := h2.lft
  have r1 := r1.mono (.of s2.g)
  have q := OkE.step (s1.trans s2) d q
  cases r2 with
  | int i =>
    cases r1 with
    | lst ha hr =>
      obtain ⟨v, ev, rv⟩ := atI_rep hr e
      exact .inl ⟨_, _, _, _, rfl, rfl, s2.s.sq ha, ev, q.at s2.s rv⟩
    | tup ha hr =>
      obtain ⟨v, ev, rv⟩ := atI_rep hr e
      exact .inr (.inl ⟨_, _, _, _, rfl, rfl, SqT.of (s2.s.tup ha), ev, q.at s2.s rv⟩)
    | str x =>
      have e : (if x.length ≤ 1000000 then (atI x.cps.toList i).map fun c => (PyData.str ⟨#[c]⟩) else none) = some d := e
      split at e
      · rename_i hl
        cases ec : atI x.cps.toList i with
        | none => rw [ec] at e; cases e
        | some c =>
          rw [ec] at e
          cases e
          exact .inr (.inr ⟨_, _, _, rfl, rfl, sz_line hl, ec, q.at s2.s (.str _)⟩)
      · cases e
    | _ => cases e
  | _ => cases r1 <;> cases e
theorem repL_cut {vs : List V} {ds : List D} (r : RepL Kf G vs ds) (lo hi : Option Int) : RepL Kf G (cutV vs lo hi) (cutL ds lo hi) := by
  unfold cutV cutL
  rw [r.length]
  exact (r.drop _).take _
def intOf : D → Option Int
  | .int i => some i
  | _ => none
abbrev EO := Env → R (Option Int)
def oNone : EO := fun _ => .ok none
def oSome (m : Env → R D) : EO := fun ρ => (m ρ).bind fun d => (lft (intOf d)).bind fun i => .ok (some i)
def OkO (G H : Hp) (Q : Option Int → Hp → Prop) (o : Option Int) : Prop := ∀ G' H', Step G H G' H' → Q o H'
structure MO (X : Cx) (W : WX) (e : Option Expr) (m : EO) : Prop where
  ex : ∃ t, PO X e t ∧ ∀ σ G H ρ Q, Re X.K σ G H ρ → Post X W σ G H (m ρ) (OkO G H Q) → t σ H Q
theorem mo_none {W : WX} : MO X W none oNone := ⟨_, po_none, fun σ G H ρ Q re h => h G H (.refl re.s)⟩
theorem mo_some {W : WX} {e : Expr} {m : Env → R D} (h : ME X W e m) : MO X W (some e) (oSome m) := by
  obtain ⟨t, pt, ht⟩ := h.ex
  refine ⟨_, po_some pt, fun σ G H ρ Q re h => ?_⟩
  refine ht σ G H ρ _ re (h.bind.imp fun x _ h1 => fun v G1 H1 s1 r1 => ?_)
  obtain ⟨i, e, q⟩ := h1.bind.lft
  cases r1 <;> first | cases e | skip
  exact ⟨_, rfl, q G1 H1 s1⟩
def eSl (m : Env → R D) (lo hi : EO) : Env → R D := fun ρ => (m ρ).bind fun d => (lo ρ).bind fun l => (hi ρ).bind fun u => lft (slD d l u)
theorem me_sl {W : WX} {e : Expr} {lo hi : Option Expr} {m : Env → R D} {ml mh : EO} {p2 pos : Pos} (h : ME X W e m) (hl : MO X W lo ml) (hh : MO X W hi mh) : ME X W (.Subscript e (.Slice lo hi none p2) pos) (eSl m ml mh) := by
  obtain ⟨t, pt, ht⟩ := h.ex
  obtain ⟨u, pu, hu⟩ := hl.ex
  obtain ⟨w, pw, hw⟩ := hh.ex
  refine ⟨_, pe_slice (sl_list.or sl_str) pt pu pw, fun σ G H ρ Q re h => ?_⟩
  refine ht σ G H ρ _ re (h.bind.imp fun x _ h1 => fun v G1 H1 s1 r1 => ?_)
  refine hu σ G1 H1 ρ _ (re.step s1) ((h1.bind.step s1 fun _ z => z).imp fun l _ h2 => fun G2 H2 s2 => ?_)
  refine hw σ G2 H2 ρ _ (re.step (s1.trans s2)) ((h2.bind.step (s1.trans s2) fun _ z => z).imp fun u _ h3 => fun G3 H3 s3 => ?_)
  obtain ⟨d, e, q⟩ := h3.lft
  have s23 := s2.trans s3
  have q := OkE.step (s1.trans s23) d q
  have r1 := r1.mono (.of s23.g)
  cases r1 with
  | lst ha hr =>
    rename_i vs1 ds1 _
    cases e
    refine .inl ⟨_, _, rfl, s3.s.sq ha, fun p hp => ?_⟩
    have st := Step.new (o := .lst (cutV vs1 l u)) s3.s hp trivial
    exact q _ _ _ st (.lst (SqL.of upd_same) ((repL_cut hr l u).mono (.of st.g)))
  | str z =>
    obtain ⟨hl, rfl⟩ := lm_some e
    exact .inr ⟨_, rfl, sz_line hl, q.at s3.s (.str _)⟩
  | _ => cases e
theorem callm_len : CallM X (.builtin "len") lenD := ⟨_, call_len, fun G H xs as d Q s r e q => by
  cases r with
  | nil => cases e
  | cons r rs =>
    cases rs with
    | cons _ _ => cases r <;> cases e
    | nil =>
      cases r with
      | lst ha hr => cases e; exact ⟨_, _, rfl, .inl ⟨_, s.sq ha, rfl⟩, by rw [hr.length]; exact q.at s (.int _)⟩
      | tup ha hr => cases e; exact ⟨_, _, rfl, .inr ⟨_, SqT.of (s.tup ha), rfl⟩, by rw [hr.length]; exact q.at s (.int _)⟩
      | str x =>
        obtain ⟨hl, rfl⟩ := lm_some e
        exact ⟨_, _, rfl, ⟨sz_line hl, rfl⟩, q.at s (.int _)⟩
      | _ => cases e⟩
end
end FF

namespace FF
open PySem L2
/-! ### built-ins -/
def tyN : D → String
  | .none => "NoneType"
  | .bool _ => "bool"
  | .int _ => "int"
  | .str _ => "str"
  | .list _ => "list"
  | .tuple _ => "tuple"
  | .dict _ => "dict"
def isiD (t : String) (d : D) : Option D := (kitB (tyN d) t).map fun b => .bool b
def bools : List D → Option (List Bool)
  | [] => some []
  | .bool b :: r => (bools r).map fun bs => b :: bs
  | _ => none
def intsL : List D → Option (List Int)
  | [] => some []
  | .int b :: r => (intsL r).map fun bs => b :: bs
  | _ => none
def strs' : List D → Option (List Str)
  | [] => some []
  | .str b :: r => (strs' r).map fun bs => b :: bs
  | _ => none
def allD : List D → Option D
  | [.list ds] => (bools ds).map fun bs => .bool (bs.all id)
  | _ => none
def anyD : List D → Option D
  | [.list ds] => (bools ds).map fun bs => .bool (bs.any id)
  | _ => none
def sumD : List D → Option D
  | [.list ds] => (intsL ds).map fun bs => .int bs.sum
  | _ => none
def maxL : List Int → Int
  | [] => 0
  | [a] => a
  | a :: r => max a (maxL r)
def minL : List Int → Int
  | [] => 0
  | [a] => a
  | a :: r => min a (minL r)
theorem maxL_spec : ∀ ns : List Int, ns ≠ [] → maxL ns ∈ ns ∧ ∀ y ∈ ns, y ≤ maxL ns
  | [], h => absurd rfl h
  | [a], _ => ⟨List.mem_singleton.mpr rfl, fun y hy => by rw [List.mem_singleton.mp hy]; exact Int.le_refl _⟩
  | a :: b :: r, _ => by
    obtain ⟨h1, h2⟩ := maxL_spec (b :: r) (by simp)
    have e : maxL (a :: b :: r) = max a (maxL (b :: r)) := rfl
    rw [e]
    refine ⟨?_, fun y hy => ?_⟩
    · rcases Int.le_total a (maxL (b :: r)) with h | h
      · rw [Int.max_eq_right h]; exact List.mem_cons_of_mem _ h1
      · rw [Int.max_eq_left h]; exact List.mem_cons_self
    · rcases List.mem_cons.mp hy with rfl | hy
      · exact Int.le_max_left _ _
      · exact Int.le_trans (h2 y hy) (Int.le_max_right _ _)
theorem minL_spec : ∀ ns : List Int, ns ≠ [] → minL ns ∈ ns ∧ ∀ y ∈ ns, minL ns ≤ y
  | [], h => absurd rfl h
  | [a], _ => ⟨List.mem_singleton.mpr rfl, fun y hy => by rw [List.mem_singleton.mp hy]; exact Int.le_refl _⟩
  | a :: b :: r, _ => by
    obtain ⟨h1, h2⟩ := minL_spec (b :: r) (by simp)
    have e : minL (a :: b :: r) = min a (minL (b :: r)) := rfl
    rw [e]
    refine ⟨?_, fun y hy => ?_⟩
    · rcases Int.le_total a (minL (b :: r)) with h | h
      · rw [Int.min_eq_left h]; exact List.mem_cons_self
      · rw [Int.min_eq_right h]; exact List.mem_cons_of_mem _ h1
    · rcases List.mem_cons.mp hy with rfl | hy
      · exact Int.min_le_left _ _
      · exact Int.le_trans (Int.min_le_right _ _) (h2 y hy)
def maxD : List D → Option D
  | [.list ds] => (intsL ds).bind fun ns => if ns = [] then none else some (.int (maxL ns))
  | [.int i, .int j] => some (.int (max i j))
  | _ => none
def minD : List D → Option D
  | [.list ds] => (intsL ds).bind fun ns => if ns = [] then none else some (.int (minL ns))
  | [.int i, .int j] => some (.int (min i j))
  | _ => none
def intD : List D → Option D
  | [.int i] => some (.int i)
  | [.bool k] => some (.int (if k then 1 else 0))
  | [.str x] => if x.length ≤ 640 then (PySem.intText? x).map fun n => .int n else none
  | _ => none
def lstD : List D → Option D
  | [.list ds] => some (.list ds)
  | [.tuple ds] => some (.list ds)
  | _ => none
def tupD : List D → Option D
  | [.list ds] => some (.tuple ds)
  | [.tuple ds] => some (.tuple ds)
  | _ => none
section
variable {Kf : PySem.W.Frag} {X : Cx} {G H : Hp}
theorem rep_bools : ∀ {vs : List V} {ds : List D} {bs : List Bool}, RepL Kf G vs ds → bools ds = some bs → vs = bs.map V.bl
  | _, _, _, .nil, e => by cases e; rfl
  | _, _, _, .cons h r, e => by
    cases h with
    | bl b =>
      rw [bools] at e
      cases eb : bools _ with
      | none => rw [eb] at e; cases e
      | some bs => rw [eb] at e; cases e; rw [rep_bools r eb]; rfl
    | _ => cases e
theorem rep_ints : ∀ {vs : List V} {ds : List D} {bs : List Int}, RepL Kf G vs ds → intsL ds = some bs → vs = bs.map V.int
  | _, _, _, .nil, e => by cases e; rfl
  | _, _, _, .cons h r, e => by
    cases h with
    | int b =>
      rw [intsL] at e
      cases eb : intsL _ with
      | none => rw [eb] at e; cases e
      | some bs => rw [eb] at e; cases e; rw [rep_ints r eb]; rfl
    | _ => cases e
theorem rep_strs : ∀ {vs : List V} {ds : List D} {bs : List Str}, RepL Kf G vs ds → strs' ds = some bs → vs = bs.map V.str
  | _, _, _, .nil, e => by cases e; rfl
  | _, _, _, .cons h r, e => by
    cases h with
    | str b =>
      rw [strs'] at e
      cases eb : strs' _ with
      | none => rw [eb] at e; cases e
      | some bs => rw [eb] at e; cases e; rw [rep_strs r eb]; rfl
    | _ => cases e
theorem repL_of_ints (G : Hp) : ∀ ns : List Int, RepL Kf G (ns.map V.int) (ns.map PyData.int)
  | [] => .nil
  | n :: r => .cons (.int n) (repL_of_ints G r)
theorem repL_of_strs (G : Hp) : ∀ ns : List Str, RepL Kf G (ns.map V.str) (ns.map PyData.str)
  | [] => .nil
  | n :: r => .cons (.str n) (repL_of_strs G r)
theorem rep_ty (s : Sub G H) {v : V} {d : D} (r : Rep Kf G v d) : TyX Kf H v (.type (tyN d)) := by
  cases r with
  | non => exact .base .non
  | bl b => exact .base (.bl b)
  | int i => exact .base (.int i)
  | str x => exact .base (.str x)
  | lst h _ =>
    rcases s.sq h with (h | ⟨o, h⟩) | ⟨o, its, n, h, hc, _⟩
    · exact .base (.lst h)
    · exact .base (.frz h)
    · exact .kList h hc
  | tup h _ => exact .base (.tup (s.tup h))
  | dct h _ =>
    exact .fDict (s.frz h)
theorem me_isi {W : WX} {a : Expr} {ma : Env → R D} {p q pos : Pos} {t : Str} {T : String} (ha : ME X W a ma) (hg : Gl X "isinstance") (hm : X.mg "isinstance" = none) (gt : Gl X t) (mt : X.mg t = none) (bt : bootBuiltins t = some (.type T))
    (hs : starEach [a, .Name t q] X.env = (false, eval a X.env) :: starEach [.Name t q] X.env := by rfl) (hs2 : starEach [.Name t q] X.env = (false, eval (.Name t q) X.env) :: starEach [] X.env := by rfl)
    (hpl : (backTo pos (starEach [.Name t q] X.env)).any (·.1) = false := by rfl) (hn : t ≠ "__name__" := by decide) (hd : (t == ("__debug__" : Str)) = false := by decide) :
    ME X W (.Call (.Name "isinstance" p) [a, .Name t q] [] pos) (eUn (isiD T) ma) := by
  obtain ⟨u, pu, hu⟩ := ha.ex
  refine ⟨_, pe_callB call_isi hg hm (by decide +kernel) (pa_cons pu (pa_cons (pe_bltn (v := .ty T) gt mt bt rfl hn hd) pa_nil hs2) hs) (he := hs) (hpl := hpl), fun σ G H ρ Q re h => ?_⟩
  refine hu σ G H ρ _ re (h.bind.imp fun x _ h1 => fun v G1 H1 s1 r1 => ?_)
  obtain ⟨d, e, q⟩ := h1.lft
  unfold isiD at e
  cases ek : kitB (tyN x) T with
  | none => rw [ek] at e; cases e
  | some b =>
    rw [ek] at e
    cases e
    exact ⟨v, .ty T, _, _, b, rfl, .ty T, rep_ty s1.s r1, kit_ty ek, q _ G1 H1 s1 (.bl b)⟩
theorem callm_all (hc : X.calm = true) : CallM X (.builtin "all") allD := ⟨_, cr_all hc, fun G H xs as d Q s r e q => by
  cases r with
  | nil => cases e
  | cons r rs =>
    cases rs with
    | cons _ _ => cases r <;> cases e
    | nil =>
      cases r with
      | lst ha hr =>
        rename_i ds
        have e : (bools ds).map (fun bs => PyData.bool (bs.all id)) = some d := e
        cases eb : bools ds with
        | none => rw [eb] at e; cases e
        | some bs =>
          rw [eb] at e
          cases e
          have := rep_bools hr eb
          subst this
          exact ⟨_, bs, rfl, s.sq ha, q.at s (.bl _)⟩
      | _ => cases e⟩
theorem callm_sum (hc : X.calm = true) : CallM X (.builtin "sum") sumD := ⟨_, cr_sum hc, fun G H xs as d Q s r e q => by
  cases r with
  | nil => cases e
  | cons r rs =>
    cases rs with
    | cons _ _ => cases r <;> cases e
    | nil =>
      cases r with
      | lst ha hr =>
        rename_i ds
        have e : (intsL ds).map (fun bs => PyData.int bs.sum) = some d := e
        cases eb : intsL ds with
        | none => rw [eb] at e; cases e
        | some bs =>
          rw [eb] at e
          cases e
          have := rep_ints hr eb
          subst this
          exact ⟨_, bs, rfl, s.sq ha, q.at s (.int _)⟩
      | _ => cases e⟩
theorem max2_eq (i j : Int) : (if j > i then j else i) = max i j := by
  split
  · rw [Int.max_eq_right (by omega)]
  · rw [Int.max_eq_left (by omega)]
theorem min2_eq (i j : Int) : (if j < i then j else i) = min i j := by
  split
  · rw [Int.min_eq_right (by omega)]
  · rw [Int.min_eq_left (by omega)]
theorem callm_max (hc : X.calm = true) : CallM X (.builtin "max") maxD := ⟨_, (cr_max hc).or (call_max2 hc), fun G H xs as d Q s r e q => by
  cases r with
  | nil => cases e
  | cons r rs =>
    cases rs with
    | cons r2 rs =>
      cases rs with
      | cons _ _ => cases r <;> cases r2 <;> cases e
      | nil =>
        cases r with
        | int i =>
          cases r2 with
          | int j =>
            cases e
            exact .inr ⟨i, j, rfl, by rw [max2_eq]; exact q.at s (.int _)⟩
          | _ => cases e
        | _ => cases r2 <;> cases e
    | nil =>
      cases r with
      | lst ha hr =>
        rename_i ds
        have e : ((intsL ds).bind fun ns => if ns = [] then none else some (PyData.int (maxL ns))) = some d := e
        cases eb : intsL ds with
        | none => rw [eb] at e; cases e
        | some bs =>
          rw [eb] at e
          have e : (if bs = [] then none else some (PyData.int (maxL bs))) = some d := e
          split at e
          · cases e
          · rename_i hne
            cases e
            have := rep_ints hr eb
            subst this
            refine .inl ⟨_, bs, rfl, s.sq ha, List.length_pos_iff.mpr hne, fun m hm hle => ?_⟩
            obtain ⟨h1, h2⟩ := maxL_spec bs hne
            have e : m = maxL bs := Int.le_antisymm (h2 m hm) (hle _ h1)
            subst e
            exact q.at s (.int _)
      | _ => cases e⟩
theorem callm_min (hc : X.calm = true) : CallM X (.builtin "min") minD := ⟨_, (cr_min hc).or (call_min2 hc), fun G H xs as d Q s r e q => by
  cases r with
  | nil => cases e
  | cons r rs =>
    cases rs with
    | cons r2 rs =>
      cases rs with
      | cons _ _ => cases r <;> cases r2 <;> cases e
      | nil =>
        cases r with
        | int i =>
          cases r2 with
          | int j =>
            cases e
            exact .inr ⟨i, j, rfl, by rw [min2_eq]; exact q.at s (.int _)⟩
          | _ => cases e
        | _ => cases r2 <;> cases e
    | nil =>
      cases r with
      | lst ha hr =>
        rename_i ds
        have e : ((intsL ds).bind fun ns => if ns = [] then none else some (PyData.int (minL ns))) = some d := e
        cases eb : intsL ds with
        | none => rw [eb] at e; cases e
        | some bs =>
          rw [eb] at e
          have e : (if bs = [] then none else some (PyData.int (minL bs))) = some d := e
          split at e
          · cases e
          · rename_i hne
            cases e
            have := rep_ints hr eb
            subst this
            refine .inl ⟨_, bs, rfl, s.sq ha, List.length_pos_iff.mpr hne, fun m hm hle => ?_⟩
            obtain ⟨h1, h2⟩ := minL_spec bs hne
            have e : m = minL bs := Int.le_antisymm (hle _ h1) (h2 m hm)
            subst e
            exact q.at s (.int _)
      | _ => cases e⟩
theorem callm_int : CallM X (.type "int") intD := ⟨_, call_int1.or call_int_str, fun G H xs as d Q s r e q => by
  cases r with
  | nil => cases e
  | cons r rs =>
    cases rs with
    | cons _ _ => cases r <;> cases e
    | nil =>
      cases r with
      | int i => cases e; exact .inl (.inl ⟨i, rfl, q.at s (.int _)⟩)
      | bl k => cases e; exact .inl (.inr ⟨k, rfl, q.at s (.int _)⟩)
      | str x =>
        have e : (if x.length ≤ 640 then (PySem.intText? x).map fun n => PyData.int n else none) = some d := e
        split at e
        · cases en : PySem.intText? x with
          | none => rw [en] at e; cases e
          | some n =>
            rw [en] at e
            cases e
            exact .inr ⟨x, n, rfl, en, by assumption, q.at s (.int _)⟩
        · cases e
      | _ => cases e⟩
theorem callm_list : CallM X (.type "list") lstD := ⟨_, call_list_of, fun G H xs as d Q s r e q => by
  cases r with
  | nil => cases e
  | cons r rs =>
    cases rs with
    | cons _ _ => cases r <;> cases e
    | nil =>
      cases r with
      | lst ha hr =>
        rename_i vs ds
        cases e
        refine ⟨_, _, rfl, .inl (s.sq ha), fun p hp => ?_⟩
        have st := Step.new (o := .lst vs) s hp trivial
        exact q _ _ _ st (.lst (SqL.of upd_same) (hr.mono (.of st.g)))
      | tup ha hr =>
        rename_i vs ds
        cases e
        refine ⟨_, _, rfl, .inr (SqT.of (s.tup ha)), fun p hp => ?_⟩
        have st := Step.new (o := .lst vs) s hp trivial
        exact q _ _ _ st (.lst (SqL.of upd_same) (hr.mono (.of st.g)))
      | _ => cases e⟩
theorem callm_tuple : CallM X (.type "tuple") tupD := ⟨_, call_tuple_of, fun G H xs as d Q s r e q => by
  cases r with
  | nil => cases e
  | cons r rs =>
    cases rs with
    | cons _ _ => cases r <;> cases e
    | nil =>
      cases r with
      | lst ha hr =>
        rename_i vs ds
        cases e
        refine ⟨_, _, rfl, .inl ⟨s.sq ha, fun p hp => ?_⟩⟩
        have st := Step.new (o := .tup vs) s hp trivial
        exact q _ _ _ st (.tup upd_same (hr.mono (.of st.g)))
      | tup ha hr =>
        cases e
        exact ⟨_, _, rfl, .inr ⟨SqT.of (s.tup ha), q.at s (.tup ha hr)⟩⟩
      | _ => cases e⟩
/-! list(range(..)) -/
def lrg (lo hi : Int) : Option D := if small62 lo && small62 hi && decide ((hi - lo).toNat ≤ 1000000) then some (.list (rangeD lo hi)) else none
def lrg1 : D → Option D
  | .int n => lrg 0 n
  | _ => none
def lrg2 : D → D → Option D
  | .int m, .int n => lrg m n
  | _, _ => none
theorem lrg_some {lo hi : Int} {d : D} (h : lrg lo hi = some d) : RgOk lo hi ∧ d = .list (rangeD lo hi) := by
  unfold lrg at h
  split at h
  · rename_i hc
    rw [Bool.and_eq_true, Bool.and_eq_true] at hc
    obtain ⟨h1, h2⟩ := small62_of hc.1.1
    obtain ⟨h3, h4⟩ := small62_of hc.1.2
    exact ⟨⟨h1, h2, h3, h4, Nat.le_trans (of_decide_eq_true hc.2) (by decide)⟩, (Option.some.inj h).symm⟩
  · cases h
theorem repL_rg (G : Hp) (lo hi : Int) : RepL Kf G (rgV lo hi) (rangeD lo hi) := by
  unfold rgV rangeD
  generalize List.range (hi - lo).toNat = l
  induction l with
  | nil => exact .nil
  | cons a l ih => exact .cons (.int _) ih
theorem me_lrg1 {W : WX} {a : Expr} {ma : Env → R D} {p p2 pos pos2 : Pos} (hc : X.calm = true) (gl : Gl X "list") (ml : X.mg "list" = none) (gr : Gl X "range") (mr : X.mg "range" = none) (ha : ME X W a ma)
    (na : starEach [a] X.env = (false, eval a X.env) :: starEach [] X.env := by rfl)
    (nl : starEach [.Call (.Name "range" p2) [a] [] pos2] X.env = (false, eval (.Call (.Name "range" p2) [a] [] pos2) X.env) :: starEach [] X.env := by rfl) :
    ME X W (.Call (.Name "list" p) [.Call (.Name "range" p2) [a] [] pos2] [] pos) (eUn lrg1 ma) := by
  obtain ⟨t, pt, ht⟩ := ha.ex
  refine ⟨_, pe_listRg hc gl ml (prg_1 gr mr pt na) nl, fun σ G H ρ Q re h => ?_⟩
  refine ht σ G H ρ _ re (h.bind.imp fun x _ h1 => fun v G1 H1 s1 r1 => ?_)
  obtain ⟨d, e, q⟩ := h1.lft
  cases r1 with
  | int n =>
    obtain ⟨ok, rfl⟩ := lrg_some e
    refine ⟨n, rfl, ok, fun p hp => ?_⟩
    have st := Step.new (o := .lst (rgV 0 n)) s1.s hp trivial
    exact q _ _ _ (s1.trans st) (.lst (SqL.of upd_same) (repL_rg _ _ _))
  | _ => cases e
theorem me_lrg2 {W : WX} {a b : Expr} {ma mb : Env → R D} {p p2 pos pos2 : Pos} (hc : X.calm = true) (gl : Gl X "list") (ml : X.mg "list" = none) (gr : Gl X "range") (mr : X.mg "range" = none) (ha : ME X W a ma) (hb : ME X W b mb)
    (na : starEach [a, b] X.env = (false, eval a X.env) :: starEach [b] X.env := by rfl) (nb : starEach [b] X.env = (false, eval b X.env) :: starEach [] X.env := by rfl) (hp : (backTo pos2 (starEach [b] X.env)).any (·.1) = false := by rfl)
    (nl : starEach [.Call (.Name "range" p2) [a, b] [] pos2] X.env = (false, eval (.Call (.Name "range" p2) [a, b] [] pos2) X.env) :: starEach [] X.env := by rfl) :
    ME X W (.Call (.Name "list" p) [.Call (.Name "range" p2) [a, b] [] pos2] [] pos) (eBin lrg2 ma mb) := by
  obtain ⟨t, pt, ht⟩ := ha.ex
  obtain ⟨u, pu, hu⟩ := hb.ex
  refine ⟨_, pe_listRg hc gl ml (prg_2 gr mr pt pu na nb hp) nl, fun σ G H ρ Q re h => ?_⟩
  refine ht σ G H ρ _ re (h.bind.imp fun x _ h1 => fun v G1 H1 s1 r1 => ?_)
  refine hu σ G1 H1 ρ _ (re.step s1) ((h1.bind.step s1 fun _ z => z).imp fun y _ h2 => fun v2 G2 H2 s2 r2 => ?_)
  obtain ⟨d, e, q⟩ := h2.lft
  cases r1 with
  | int m =>
    cases r2 with
    | int n =>
      obtain ⟨ok, rfl⟩ := lrg_some e
      refine ⟨m, n, rfl, rfl, ok, fun p hp => ?_⟩
      have st := Step.new (o := .lst (rgV m n)) s2.s hp trivial
      exact q _ _ _ ((s1.trans s2).trans st) (.lst (SqL.of upd_same) (repL_rg _ _ _))
    | _ => cases e
  | _ => cases r2 <;> cases e
/-! methods of texts and lists -/
def MtMd (X : Cx) (T id : String) (g : D → List D → Option D) : Prop :=
  ∃ r, MtR X id r ∧ ∀ G H x xs a as d Q, Sub G H → Rep X.K G x a → RepL X.K G xs as → g a as = some d → OkE X.K G H Q d → r x xs H Q
def eMt (g : D → List D → Option D) (o : Env → R D) (a : Env → R (List D)) : Env → R D := fun ρ => (o ρ).bind fun x => if (tyN x == "str" || tyN x == "list") = true then (a ρ).bind fun xs => lft (g x xs) else .bad
theorem rep_tyV (s : Sub G H) {v : V} {d : D} {T : String} (r : Rep Kf G v d) (h : (tyN d == "str" || tyN d == "list") = true) (hT : tyN d = T) : tyV Kf T v H := by
  subst hT
  cases r with
  | str x => exact rfl
  | lst ha _ => exact .inl ⟨rfl, _, s.sq ha⟩
  | _ => simp [tyN] at h
variable {W : WX} {o e : Expr} {es : List Expr} {mo : Env → R D} {ms : Env → R (List D)} {name : Str} {apos cpos : Pos} {T id : String} {g : D → List D → Option D}
/-- only receivers of the type -/
def onTy (T : String) (g : D → List D → Option D) : D → List D → Option D := fun x xs => if tyN x = T then g x xs else none
theorem onTy_some {x : D} {xs : List D} {d : D} (h : onTy T g x xs = some d) : tyN x = T ∧ g x xs = some d := by
  unfold onTy at h
  split at h
  · exact ⟨by assumption, h⟩
  · cases h
def eMeth (T : String) (g : D → List D → Option D) (o : Env → R D) (a : Env → R (List D)) : Env → R D := fun ρ => (o ρ).bind fun x => if tyN x = T then (a ρ).bind fun xs => lft (g x xs) else .bad
theorem me_meth (hT : T = "str" ∨ T = "list") (pa : PlainAttrs T) (slot : Slot T name id) (hty : typeOf (.builtin id) = pure (.type "method_descriptor")) (hm : MtMd X T id g) (ho : ME X W o mo) (ha : MA X W (e :: es) ms)
    (hbase : attributeBase o name X.env (eval o X.env) = eval o X.env := by rfl)
    (hfew : ((backTo cpos (starEach (e :: es) X.env)).all (fun x => !x.1) && (backToKw cpos (keywordEach [] X.env)).all (fun x => x.1.isSome)
      && decide ((e :: es).length + ([] : List Keyword).length + (if ([] : List Keyword).isEmpty then 0 else 1) < 30)) = true := by rfl)
    (hline : (apos.endLine == cpos.line) = true := by rfl) (hs : starEach (e :: es) X.env = (false, eval e X.env) :: starEach es X.env := by rfl) (hplain : (backTo cpos (starEach es X.env)).any (·.1) = false := by rfl) :
    ME X W (.Call (.Attribute o name apos) (e :: es) [] cpos) (eMeth T g mo ms) := by
  obtain ⟨r, hr, hrs⟩ := hm
  obtain ⟨t, pt, ht⟩ := ho.ex
  obtain ⟨u, pu, hu⟩ := ha.ex
  refine ⟨_, pe_bm pa slot hty hr pt pu hbase hfew hline hs hplain, fun σ G H ρ Q re h => ?_⟩
  refine ht σ G H ρ _ re (h.bind.imp fun x _ h1 => fun v G1 H1 s1 r1 => ?_)
  have h1 : Post X W σ G H (if tyN x = T then (ms ρ).bind fun xs => lft (g x xs) else .bad) (OkE X.K G H Q) := h1
  by_cases hx : tyN x = T
  · rw [if_pos hx] at h1
    refine ⟨rep_tyV s1.s r1 (by rw [hx]; rcases hT with rfl | rfl <;> rfl) hx, ?_⟩
    refine hu σ G1 H1 ρ _ (re.step s1) ((h1.bind.step s1 fun _ z => z).imp fun xs _ h2 => fun vs G2 H2 s2 r2 => ?_)
    obtain ⟨d, e, q⟩ := h2.lft
    exact hrs G2 H2 v vs x xs d Q s2.s (r1.mono (.of s2.g)) r2 e (OkE.step (s1.trans s2) d q)
  · rw [if_neg hx] at h1
    exact h1.elim
theorem me_meth0 (hT : T = "str" ∨ T = "list") (pa : PlainAttrs T) (slot : Slot T name id) (hty : typeOf (.builtin id) = pure (.type "method_descriptor")) (hm : MtMd X T id g) (ho : ME X W o mo)
    (hbase : attributeBase o name X.env (eval o X.env) = eval o X.env := by rfl) (hline : (apos.endLine == cpos.line) = true := by rfl) :
    ME X W (.Call (.Attribute o name apos) [] [] cpos) (eMeth T g mo aNil) := by
  obtain ⟨r, hr, hrs⟩ := hm
  obtain ⟨t, pt, ht⟩ := ho.ex
  refine ⟨_, pe_bm0 pa slot hty hr pt hbase hline, fun σ G H ρ Q re h => ?_⟩
  refine ht σ G H ρ _ re (h.bind.imp fun x _ h1 => fun v G1 H1 s1 r1 => ?_)
  have h1 : Post X W σ G H (if tyN x = T then lft (g x []) else .bad) (OkE X.K G H Q) := h1
  by_cases hx : tyN x = T
  · rw [if_pos hx] at h1
    refine ⟨rep_tyV s1.s r1 (by rw [hx]; rcases hT with rfl | rfl <;> rfl) hx, ?_⟩
    obtain ⟨d, e, q⟩ := h1.lft
    exact hrs G1 H1 v [] x [] d Q s1.s r1 .nil e (OkE.step s1 d q)
  · rw [if_neg hx] at h1
    exact h1.elim
def lowerD : D → List D → Option D
  | .str x, [] => lm x.length (.str (Txt.lower x))
  | _, _ => none
theorem mtm_lower : MtMd X "str" "str.lower" lowerD := ⟨_, mt_lower, fun G H x xs a as d Q s r rs e q => by
  cases r <;> cases rs <;> first | cases e | skip
  obtain ⟨hl, rfl⟩ := lm_some e
  exact ⟨_, rfl, rfl, Nat.le_trans hl (by decide), q.at s (.str _)⟩⟩
def sidxD : D → List D → Option D
  | .str x, [.str y] => match Builtin.Str.occurrences x y 0 x.length 1 with
    | i :: _ => some (.int ((i : Nat) : Int))
    | [] => none
  | _, _ => none
theorem mtm_sidx : MtMd X "str" "str.index" sidxD := ⟨_, mt_sindex, fun G H x xs a as d Q s r rs e q => by
  cases r with
  | str x =>
    cases rs with
    | nil => cases e
    | cons r1 rs =>
      cases r1 with
      | str y =>
        cases rs with
        | cons _ _ => cases e
        | nil =>
          have e : (match Builtin.Str.occurrences x y 0 x.length 1 with | i :: _ => some (PyData.int ((i : Nat) : Int)) | [] => none) = some d := e
          cases eo : Builtin.Str.occurrences x y 0 x.length 1 with
          | nil => rw [eo] at e; cases e
          | cons i rest =>
            rw [eo] at e
            cases e
            exact ⟨x, y, i, rest, rfl, rfl, eo, q.at s (.int _)⟩
      | _ => cases rs <;> cases e
  | _ => cases rs with
    | nil => cases e
    | cons r1 rs => cases e⟩
def scountD : D → List D → Option D
  | .str x, [.str y] => some (.int (Txt.count x y))
  | _, _ => none
theorem mtm_scount : MtMd X "str" "str.count" scountD := ⟨_, mt_count, fun G H x xs a as d Q s r rs e q => by
  cases r with
  | str x =>
    cases rs with
    | nil => cases e
    | cons r1 rs =>
      cases r1 with
      | str y =>
        cases rs with
        | cons _ _ => cases e
        | nil => cases e; exact ⟨x, y, rfl, rfl, q.at s (.int _)⟩
      | _ => cases rs <;> cases e
  | _ => cases rs with
    | nil => cases e
    | cons r1 rs => cases e⟩
def splitD : D → List D → Option D
  | .str x, [.str y] => if (y.length == 0) = false ∧ x.length ≤ 1000000 then some (.list ((Txt.split x y).map PyData.str)) else none
  | _, _ => none
theorem mtm_split : MtMd X "str" "str.split" splitD := ⟨_, mt_split, fun G H x xs a as d Q s r rs e q => by
  cases r with
  | str x =>
    cases rs with
    | nil => cases e
    | cons r1 rs =>
      cases r1 with
      | str y =>
        cases rs with
        | cons _ _ => cases e
        | nil =>
          have e : (if (y.length == 0) = false ∧ x.length ≤ 1000000 then some (PyData.list ((Txt.split x y).map PyData.str)) else none) = some d := e
          split at e
          · rename_i hc
            cases e
            refine ⟨x, y, rfl, rfl, hc.1, ?_, fun p hp => ?_⟩
            · have : (1000002 : Nat) ≤ sizeLine := by decide
              omega
            · have st := Step.new (o := .lst ((Txt.split x y).map V.str)) s hp trivial
              exact q _ _ _ st (.lst (SqL.of upd_same) (repL_of_strs _ _))
          · cases e
      | _ => cases rs <;> cases e
  | _ => cases rs with
    | nil => cases e
    | cons r1 rs => cases e⟩
/-- all the letters together -/
def totL : List Str → Nat
  | [] => 0
  | x :: r => x.length + totL r
/-! list.index, over any data -/
def lidxD : D → List D → Option D
  | .list ds, [d] => if shp (.list ds) && shp d then (ds.findIdx? fun z => PyData.eqv z d).map fun j => .int ((j : Nat) : Int) else none
  | _, _ => none
theorem mtm_lidx (hu : X.A.units + 65 < cLine) : MtMd X "list" "list.index" lidxD := ⟨_, mt_indexD hu, fun G H x xs a as d Q s r rs e q => by
  cases r with
  | lst ha hr =>
    rename_i ad vs ds
    cases rs with
    | nil => cases e
    | cons r1 rs =>
      rename_i v vs' y ys
      cases rs with
      | cons _ _ => cases e
      | nil =>
        have e : (if shp (.list ds) && shp y then (ds.findIdx? fun z => PyData.eqv z y).map fun j => PyData.int ((j : Nat) : Int) else none) = some d := e
        split at e
        · rename_i hc
          rw [Bool.and_eq_true] at hc
          cases ej : ds.findIdx? fun z => PyData.eqv z y with
          | none => rw [ej] at e; cases e
          | some j =>
            rw [ej] at e
            cases e
            obtain ⟨hj, h1, h2⟩ := List.findIdx?_eq_some_iff_getElem.mp ej
            refine ⟨ad, v, y, ds, j, ds[j], rfl, rfl, (Rep.lst ha hr).dp s (shp_lay hc.1), r1.dp s (shp_lay hc.2), hc.1, hc.2, List.getElem?_eq_getElem hj, h1, fun m z' hm ez => ?_, q.at s (.int _)⟩
            obtain ⟨hm', rfl⟩ := List.getElem?_eq_some_iff.mp ez
            have := h2 m hm
            simpa using this
        · cases e
  | _ => cases rs with
    | nil => cases e
    | cons r1 rs => cases e⟩
/-! x or y of texts and lists -/
def truD : D → Option Bool
  | .none => some false
  | .bool b => some b
  | .int i => some (i != 0)
  | .str x => if x.length ≤ 1000000 then some ((x.length : Int) != 0) else none
  | .list ds => some (!ds.isEmpty)
  | .tuple ds => some (!ds.isEmpty)
  | .dict _ => none
theorem rep_tru (s : Sub G H) {v : V} {d : D} {k : Bool} (r : Rep Kf G v d) (h : truD d = some k) : TruV Kf v H k := by
  cases r with
  | non => cases h; rfl
  | bl b => cases h; rfl
  | int i => cases h; rfl
  | str x =>
    have h : (if x.length ≤ 1000000 then some ((x.length : Int) != 0) else none) = some k := h
    split at h
    · rename_i hl
      exact ⟨sz_line hl, (Option.some.inj h).symm⟩
    · cases h
  | lst ha hr =>
    rename_i a vs ds
    cases h
    exact .inl ⟨vs, s.sq ha, by cases hr <;> rfl⟩
  | tup ha hr =>
    rename_i a vs ds
    cases h
    exact .inr (.inl ⟨vs, SqT.of (s.tup ha), by cases hr <;> rfl⟩)
  | dct _ _ => cases h
def eOrT (a b : Env → R D) : Env → R D := fun ρ => (a ρ).bind fun x => (lft (truD x)).bind fun k => if k = true then .ok x else b ρ
theorem me_orT {a b : Expr} {rest : List Expr} {ma mb : Env → R D} {pos : Pos} (ha : ME X W a ma) (hb : ME X W (.BoolOp .Or (b :: rest) pos) mb) : ME X W (.BoolOp .Or (a :: b :: rest) pos) (eOrT ma mb) := by
  obtain ⟨t, pt, ht⟩ := ha.ex
  obtain ⟨u, pu, hu⟩ := hb.ex
  refine ⟨_, pe_orT pt pu, fun σ G H ρ Q re h => ?_⟩
  refine ht σ G H ρ _ re (h.bind.imp fun x _ h1 => fun v G1 H1 s1 r1 => ?_)
  obtain ⟨k, e, q⟩ := h1.bind.lft
  refine ⟨k, rep_tru s1.s r1 e, ?_⟩
  cases k with
  | true =>
    refine iteT ?_
    have q : OkE X.K G H Q x := q
    exact q _ G1 H1 s1 r1
  | false =>
    refine iteF ?_
    have q : Post X W σ G H (mb ρ) (OkE X.K G H Q) := q
    exact hu σ G1 H1 ρ Q (re.step s1) (q.step s1 (OkE.step s1))
def tTru (m : Env → R D) : Env → R Bool := fun ρ => (m ρ).bind fun d => lft (truD d)
theorem mt_tru {a : Expr} {ma : Env → R D} (ha : ME X W a ma) (he : ∀ whole, isTrue a X.env whole = (do let v ← whole; standAt a.pos; holding [v] (truthy v)) := by intro _; rfl) : MT X W a (tTru ma) := by
  obtain ⟨t, pt, ht⟩ := ha.ex
  refine ⟨_, pt_truth pt he, fun σ G H ρ Q re h => ?_⟩
  refine ht σ G H ρ _ re (h.bind.imp fun x _ h1 => fun v G1 H1 s1 r1 => ?_)
  obtain ⟨k, e, q⟩ := h1.lft
  exact ⟨k, rep_tru s1.s r1 e, q G1 H1 s1⟩
/-- xs[::-1] of a list -/
def revD : D → Option D
  | .list ds => some (.list ds.reverse)
  | _ => none
theorem me_revL {a : Expr} {ma : Env → R D} {k : Nat} {p1 p2 p3 pos : Pos} (ha : ME X W a ma) : ME X W (.Subscript a (.Slice none none (some (.UnaryOp .USub (.Constant (.int 1) k p1) p2)) p3) pos) (eUn revD ma) := by
  obtain ⟨t, pt, ht⟩ := ha.ex
  refine ⟨_, pe_revL pt, fun σ G H ρ Q re h => ?_⟩
  refine ht σ G H ρ _ re (h.bind.imp fun x _ h1 => fun v G1 H1 s1 r1 => ?_)
  obtain ⟨d, e, q⟩ := h1.lft
  cases r1 with
  | lst ha hr =>
    rename_i vs ds _
    cases e
    refine ⟨_, _, rfl, s1.s.sq ha, fun p hp => ?_⟩
    have st := Step.new (o := .lst vs.reverse) s1.s hp trivial
    exact q _ _ _ (s1.trans st) (.lst (SqL.of upd_same) (hr.reverse.mono (.of st.g)))
  | _ => cases e
end
end FF

namespace FF
open PySem L2
/-! ### reading owned lists; expressions that make a new list -/
def eIxO (i : Nat) (j : Env → R D) : Env → R D := fun ρ => match ρ[i]? with
  | some (.own ds) => (j ρ).bind fun k => lft (ixD (.list ds) k)
  | _ => .bad
def eLenO (i : Nat) : Env → R D := fun ρ => match ρ[i]? with
  | some (.own ds) => .ok (.int ds.length)
  | _ => .bad
def eCmpO (g : D → D → Option D) (i : Nat) (e : Env → R D) : Env → R D := fun ρ => match ρ[i]? with
  | some (.own ds) => (e ρ).bind fun k => lft (g (.list ds) k)
  | _ => .bad
section
variable {Kf : PySem.W.Frag} {X : Cx} {W : WX} {G H : Hp} {a b o j e : Expr} {ma mb mj me : Env → R D} {pos : Pos} {i : Nat} {es : List Expr} {ms : Env → R (List D)}
theorem own_at {σ : L2.St} {ρ : Env} {α : Type} {f : List D → R α} {Q : α → Prop} (re : Re X.K σ G H ρ) (h : Post X W σ G H (match ρ[i]? with | some (.own ds) => f ds | _ => .bad) Q) :
    ∃ p vs ds, ρ[i]? = some (.own ds) ∧ σ[i]? = some (some (.ref p)) ∧ G p = none ∧ H p = some (.lst vs) ∧ RepL X.K G vs ds ∧ Post X W σ G H (f ds) Q := by
  cases ei : ρ[i]? with
  | none => rw [ei] at h; exact h.elim
  | some x =>
    rw [ei] at h
    cases x with
    | own ds =>
      obtain ⟨p, vs, e1, n1, h1, r1⟩ := re.sl i _ ei
      exact ⟨p, vs, ds, rfl, e1, n1, h1, r1, h⟩
    | no => exact h.elim
    | obj _ => exact h.elim
    | val d => exact h.elim
    | odc d => exact h.elim
theorem me_ixO (ho : PE X o (tVar i)) (hj : ME X W j mj) (hs : PlainIx j := by intro _ _; rfl) : ME X W (.Subscript o j pos) (eIxO i mj) := by
  obtain ⟨u, pu, hu⟩ := hj.ex
  refine ⟨_, pe_ix ix_list ho pu hs, fun σ G H ρ Q re h => ?_⟩
  obtain ⟨p, vs, ds, _, e1, n1, h1, r1, h⟩ := own_at re h
  refine ⟨_, e1, ?_⟩
  refine hu σ G H ρ _ re (h.bind.imp fun k _ h2 => fun v G1 H1 s1 rk => ?_)
  obtain ⟨d, e, q⟩ := h2.lft
  cases rk with
  | int n =>
    obtain ⟨v, ev, rv⟩ := atI_rep (r1.mono (.of s1.g)) e
    exact ⟨p, vs, n, v, rfl, rfl, SqL.of (s1.h _ _ h1), ev, q _ G1 H1 s1 rv⟩
  | _ => cases e
theorem me_lenO {p : Pos} (ho : PE X o (tVar i)) (hg : Gl X "len") (hm : X.mg "len" = none) (hs : starEach [o] X.env = (false, eval o X.env) :: starEach [] X.env := by rfl) (hpl : (backTo pos (starEach [] X.env)).any (·.1) = false := by rfl) : ME X W (.Call (.Name "len" p) [o] [] pos) (eLenO i) := by
  refine ⟨_, pe_callB call_len_seq hg hm boot_len (pa_cons ho pa_nil hs) (he := hs) (hpl := hpl), fun σ G H ρ Q re h => ?_⟩
  obtain ⟨p, vs, ds, _, e1, n1, h1, r1, h⟩ := own_at re h
  refine ⟨_, e1, p, vs, rfl, .inl (SqL.of h1), ?_⟩
  rw [r1.length]
  exact h _ G H (.refl re.s) (.int _)
theorem me_eqO {ne : Bool} (hu : X.A.units + 64 < cLine) (ho : PE X o (tVar i)) (he : ME X W e me) : ME X W (.Compare o [if ne then .NotEq else .Eq] [e] pos) (eCmpO (if ne then neD else eqD) i me) := by
  obtain ⟨u, pu, hu'⟩ := he.ex
  cases ne with
  | true =>
    refine ⟨_, pe_cmpR (op_neD hu) ho pu (nomark _), fun σ G H ρ Q re h => ?_⟩
    obtain ⟨p, vs, ds, _, e1, n1, h1, r1, h⟩ := own_at re h
    refine ⟨_, e1, ?_⟩
    refine hu' σ G H ρ _ re (h.bind.imp fun k _ h2 => fun v G1 H1 s1 rk => ?_)
    obtain ⟨d, e, q⟩ := h2.lft
    have e : neD (.list ds) k = some d := e
    unfold neD at e
    split at e
    · rename_i hc
      rw [Bool.and_eq_true] at hc
      cases e
      have hl := shp_lay hc.1
      exact ⟨.list ds, k, .lst (SqL.of (s1.h _ _ h1)) ((r1.mono (.of s1.g)).dp s1.s (by simpa [PyData.canLay0] using hl)), rk.dp s1.s (shp_lay hc.2), hc.1, hc.2, q _ G1 H1 s1 (.bl _)⟩
    · cases e
  | false =>
    refine ⟨_, pe_cmpR (op_eqD hu) ho pu (nomark _), fun σ G H ρ Q re h => ?_⟩
    obtain ⟨p, vs, ds, _, e1, n1, h1, r1, h⟩ := own_at re h
    refine ⟨_, e1, ?_⟩
    refine hu' σ G H ρ _ re (h.bind.imp fun k _ h2 => fun v G1 H1 s1 rk => ?_)
    obtain ⟨d, e, q⟩ := h2.lft
    have e : eqD (.list ds) k = some d := e
    unfold eqD at e
    split at e
    · rename_i hc
      rw [Bool.and_eq_true] at hc
      cases e
      have hl := shp_lay hc.1
      exact ⟨.list ds, k, .lst (SqL.of (s1.h _ _ h1)) ((r1.mono (.of s1.g)).dp s1.s (by simpa [PyData.canLay0] using hl)), rk.dp s1.s (shp_lay hc.2), hc.1, hc.2, q _ G1 H1 s1 (.bl _)⟩
    · cases e
theorem mt_eqO {ne : Bool} (hu : X.A.units + 64 < cLine) (ho : PE X o (tVar i)) (he : ME X W e me) : MT X W (.Compare o [if ne then .NotEq else .Eq] [e] pos) (tVal (eCmpO (if ne then neD else eqD) i me)) := by
  obtain ⟨u, pu, hu'⟩ := he.ex
  cases ne with
  | true =>
    refine ⟨_, pt_cmpR (op_neD hu) ho pu (nomark _), fun σ G H ρ Q re h => ?_⟩
    obtain ⟨p, vs, ds, _, e1, n1, h1, r1, h⟩ := own_at re h.bind
    refine ⟨_, e1, ?_⟩
    refine hu' σ G H ρ _ re (h.bind.imp fun k _ h2 => fun v G1 H1 s1 rk => ?_)
    obtain ⟨d, e, q⟩ := h2.lft
    have e : neD (.list ds) k = some d := e
    unfold neD at e
    split at e
    · rename_i hc
      rw [Bool.and_eq_true] at hc
      cases e
      have hl := shp_lay hc.1
      exact ⟨.list ds, k, .lst (SqL.of (s1.h _ _ h1)) ((r1.mono (.of s1.g)).dp s1.s (by simpa [PyData.canLay0] using hl)), rk.dp s1.s (shp_lay hc.2), hc.1, hc.2, _, rfl, q G1 H1 s1⟩
    · cases e
  | false =>
    refine ⟨_, pt_cmpR (op_eqD hu) ho pu (nomark _), fun σ G H ρ Q re h => ?_⟩
    obtain ⟨p, vs, ds, _, e1, n1, h1, r1, h⟩ := own_at re h.bind
    refine ⟨_, e1, ?_⟩
    refine hu' σ G H ρ _ re (h.bind.imp fun k _ h2 => fun v G1 H1 s1 rk => ?_)
    obtain ⟨d, e, q⟩ := h2.lft
    have e : eqD (.list ds) k = some d := e
    unfold eqD at e
    split at e
    · rename_i hc
      rw [Bool.and_eq_true] at hc
      cases e
      have hl := shp_lay hc.1
      exact ⟨.list ds, k, .lst (SqL.of (s1.h _ _ h1)) ((r1.mono (.of s1.g)).dp s1.s (by simpa [PyData.canLay0] using hl)), rk.dp s1.s (shp_lay hc.2), hc.1, hc.2, _, rfl, q G1 H1 s1⟩
    · cases e
theorem step_lay {p : Addr} {vs : List V} (s : Sub G H) (hp : H p = none) : Step G H G (upd H p (.lst vs)) := (Step.refl s).layH hp (s.none hp) trivial
/-- xs + ys, a new list -/
def catF : D → D → Option (List D)
  | .list xs, .list ys => lm (xs.length + ys.length) (xs ++ ys)
  | _, _ => none
def fBin (g : D → D → Option (List D)) (a b : Env → R D) : Env → R (List D) := fun ρ => (a ρ).bind fun x => (b ρ).bind fun y => lft (g x y)
theorem cat_read {x y : V} {da db : D} {ds : List D} {Q : VK} (s : Sub G H) (ra : Rep Kf G x da) (rb : Rep Kf G y db) (e : catF da db = some ds) (q : OkF Kf G H Q ds) : rCatR Kf x y H Q := by
  cases ra <;> cases rb <;> first | cases e | skip
  rename_i a1 vs1 ds1 h1 r1 a2 vs2 ds2 h2 r2
  obtain ⟨hl, rfl⟩ := lm_some e
  refine ⟨_, _, _, _, rfl, rfl, s.sq h1, s.sq h2, by rw [r1.length, r2.length]; exact sz_line hl, fun p hp => ?_⟩
  exact q p _ _ _ (step_lay s hp) hp (s.none hp) upd_same (r1.app r2)
theorem OkF.step {G1 H1 : Hp} {Q : VK} (a : Step G H G1 H1) : ∀ d, OkF Kf G H Q d → OkF Kf G1 H1 Q d := fun _ h p vs G' H' b hp hg hh r => h p vs G' H' (a.trans b) (a.h.none hp) hg hh r
theorem mf_add (ha : ME X W a ma) (hb : ME X W b mb) : MF X W (.BinOp a .Add b pos) (fBin catF ma mb) := by
  obtain ⟨t, pt, ht⟩ := ha.ex
  obtain ⟨u, pu, hu⟩ := hb.ex
  refine ⟨_, pe_op op_catR pt pu, fun σ G H ρ Q re h => ?_⟩
  refine ht σ G H ρ _ re (h.bind.imp fun x _ h1 => fun v G1 H1 s1 r1 => ?_)
  refine hu σ G1 H1 ρ _ (re.step s1) ((h1.bind.step s1 fun _ z => z).imp fun y _ h2 => fun v2 G2 H2 s2 r2 => ?_)
  obtain ⟨ds, e, q⟩ := h2.lft
  exact cat_read s2.s (r1.mono (.of s2.g)) r2 e (OkF.step (s1.trans s2) ds q)
/-- what stands in the heap comes to a slot -/
theorem ownIn {G0 H0 G H : Hp} {σ : L2.St} {ρ : Env} {p : Addr} {x : Sl} (r : Rl Kf G0 H0 σ G H ρ) (i : Nat) (hx : SlOk Kf G H (some (some (.ref p))) x) (h0 : H0 p = none)
    (ne : ∀ (j : Nat) y q, ρ[j]? = some y → isOwn y = true → σ[j]? = some (some (.ref q)) → q ≠ p) : Rl Kf G0 H0 (σ.set i (some (.ref p))) G H (ρ.set i x) := by
  refine ⟨r.st, ⟨r.re.s, by rw [List.length_set, List.length_set, r.re.len], fun j y e => ?_⟩, fun j y q e o z => ?_, fun j l y z q n ej el oj ol qj ql => ?_⟩
  · by_cases hj : i = j
    · subst hj
      have hl := lt_of_set e
      rw [List.getElem?_set_self hl] at e
      cases e
      rw [List.getElem?_set_self (by rw [r.re.len]; exact hl)]
      exact hx
    · rw [get_set_ne hj] at e ⊢
      exact r.re.sl j y e
  · by_cases hj : i = j
    · subst hj
      have hl := lt_of_set e
      rw [List.getElem?_set_self (by rw [r.re.len]; exact hl)] at z
      cases z
      exact h0
    · rw [get_set_ne hj] at e z
      exact r.fresh j y q e o z
  · have self : ∀ q, (σ.set i (some (.ref p)))[i]? = some (some (.ref q)) → q = p := fun q hq => by
      have h1 : i < σ.length := by
        have := (List.getElem?_eq_some_iff.mp hq).1
        rw [List.length_set] at this
        exact this
      rw [List.getElem?_set_self h1] at hq
      cases hq
      rfl
    by_cases hj : i = j
    · subst hj
      have e1 := self q qj
      subst e1
      rw [get_set_ne n] at el ql
      exact ne l z _ el ol ql rfl
    · by_cases hl : i = l
      · subst hl
        have e1 := self q ql
        subst e1
        rw [get_set_ne hj] at ej qj
        exact ne j y _ ej oj qj rfl
      · rw [get_set_ne hj] at ej qj
        rw [get_set_ne hl] at el ql
        exact r.dis j l y z q n ej el oj ol qj ql
theorem own_in {G0 H0 G H G1 H1 : Hp} {σ : L2.St} {ρ : Env} {p : Addr} {vs : List V} {ds : List D} (r : Rl Kf G0 H0 σ G H ρ) (s1 : Step G H G1 H1) (i : Nat) (hp : H p = none) (hg : G1 p = none) (hh : H1 p = some (.lst vs)) (r1 : RepL Kf G1 vs ds) : Rl Kf G0 H0 (σ.set i (some (.ref p))) G1 H1 (ρ.set i (.own ds)) := by
  have r' := r.step s1
  refine ownIn r' i ⟨p, vs, rfl, hg, hh, r1⟩ (r.st.h.none hp) fun j y q ej oj qj z => ?_
  subst z
  have so := r.re.sl j y ej
  rw [qj] at so
  cases y with
  | no => cases oj
  | obj _ => cases oj
  | val d => cases oj
  | own ds' =>
    obtain ⟨p', vs', e', _, h', _⟩ := so
    cases e'
    rw [hp] at h'
    cases h'
  | odc kvs =>
    obtain ⟨p', vs', e', _, h', _⟩ := so
    cases e'
    rw [hp] at h'
    cases h'
theorem ms_ownF {x : Str} {pos' : Pos} {m : Env → R (List D)} (h : MF X W e m) (hN : X.N.Nodup) (hi : X.N[i]? = some x) (hx : Loc X.env.scope x) (hs : swapsWith e (some (.Name x pos')) pos.line X.env = pure false := by rfl)
    (hf : X.fn x = true ∨ X.env.scope.names.lookup x = some .local := by first | exact .inl rfl | exact .inr rfl | assumption) : MS X W (.Assign [.Name x pos'] e pos) (sOwnF i m) := by
  obtain ⟨t, pt, ht⟩ := h.ex
  refine ⟨_, ps_set hN hi hx pt hs hf, fun G0 H0 σ G H ρ E r h => ?_⟩
  refine ht σ G H ρ _ r.re ((PostS.lift r h).imp fun ds _ h1 => fun p vs G1 H1 s1 hp hg hh r1 => ?_)
  exact h1 _ G1 H1 (own_in r s1 i hp hg hh r1)
theorem ms_ownLc {y : Str} {py spos : Pos} {elt tg iter : Expr} {ifs : List Expr} {scope : Scope} {own : List (Str × Nat)} {mi : Env → R (List D)} {g : MTg} {mt : Env → R Bool} {me : Env → R D} (hc : X.calm = true) (hN : X.N.Nodup)
    (hy : X.N[i]? = some y) (hyl : X.env.scope.names.lookup y = some .local)
    (hsw : swapsWith (.ListComp elt [⟨tg, iter, ifs, 0⟩] scope pos) (some (.Name y py)) spos.line X.env = pure true) (hi : MI X W tg iter mi) (ok : BlkOk X.N X.env.scope scope own)
    (hg : ∀ (s : Shared) (H : Hp) (C : Addr) (cl : List (Str × Addr)) (fp : List Addr), PG (X.blk s H scope (compEnvC scope cl C X.env) fp) tg (rdC X.K g (own.map (·.2))))
    (ht : ∀ (s : Shared) (H : Hp) (C : Addr) (cl : List (Str × Addr)) (fp : List Addr), PTs (X.blk s H scope (compEnvC scope cl C X.env) fp) ifs (rdT (X.blk s H scope (compEnvC scope cl C X.env) fp) W0 mt))
    (he : ∀ (s : Shared) (H : Hp) (C : Addr) (cl : List (Str × Addr)) (fp : List Addr), ME (X.blk s H scope (compEnvC scope cl C X.env) fp) W0 elt me) (hs : ∀ x, foldedSetIterable iter X.env x = pure x := by intro _; rfl) :
    MS X W (.Assign [.Name y py] (.ListComp elt [⟨tg, iter, ifs, 0⟩] scope pos) spos) (sOwnF i (fLc mi g mt me (own.map (·.2)))) := by
  obtain ⟨ti, pti, hti⟩ := hi.ex
  refine ⟨_, ps_setLc (tt := rdT X W0 mt) (te := rdE X W0 me) hc hN hy hyl hsw pti ok hg ht (fun s H C cl fp => (he s H C cl fp).pe) hs, fun G0 H0 σ G H ρ E r h => ?_⟩
  refine lc_runF (W := W) (ρ := ρ) r.re ((PostS.lift r h).imp fun ds _ h1 => fun p vs G1 H1 s1 hp hg hh r1 => ?_) fun R' p => hti σ G H ρ R' r.re p
  exact h1 _ G1 H1 (own_in r s1 i hp hg hh r1)
end
/-! ### defs of the text -/
structure FunAt (K : PySem.W.Frag) (mg : Str → Option Value) (x : Str) (st : Stmt) (ps : List Str) : Prop where
  ex : ∃ f fd, Fun K x x st f fd ∧ mg x = some (.ref f) ∧ ∀ us : List Value, us.length = ps.length → bindArgs fd ⟨us, []⟩ = pure (ps.zip us)
structure DefAt (P : Program) (w : World) (K : PySem.W.Frag) (mg : Str → Option Value) (base : Heap) (x : Str) (ps : List Str) (k : Nat) (fm : List D → R D) : Prop where
  ex : ∃ f fd, FnOk P w K mg base (L2N.CX P w) k f fd ps (spM K mg fm) ∧ mg x = some (.ref f) ∧ PySem.W.keepIn K (.ref f) = true ∧ Binds K fd ps []
theorem def_ok {P : Program} {w : World} {K : PySem.W.Frag} {mg : Str → Option Value} {base : Heap} {x : Str} {st : Stmt} {N ps : List Str} {k : Nat} {m : MSt} (F : FunAt K mg x st ps) (S : FnScope N ps (defScope st))
    (hb : ∀ (f : Addr) (cdv : Value) (A : Around) (outer : List PySem.Env) (s : Shared) (H : Hp) (E : XK), Cz (cxOf (L2N.CX P w) P w K mg base N x (defScope st) f cdv A outer s H E) (fun cls d _ H => E cls d H) k →
      MSs (cxOf (L2N.CX P w) P w K mg base N x (defScope st) f cdv A outer s H E) (fun cls d _ H => E cls d H) (defBody st) m) : DefAt P w K mg base x ps (k + 1) (fnM ps.length N.length m) := by
  obtain ⟨f, fd, F, hm, hb'⟩ := F.ex
  exact ⟨f, fd, fn_ok F S (hb f), hm, F.kp, .all hb'⟩
theorem me_def {X : Cx} {W : WX} {k j : Nat} {x : Str} {ps : List Str} {fm : List D → R D} {p pos : Pos} {e : Expr} {es : List Expr} {ms : Env → R (List D)} (F : DefAt X.prog X.w X.K X.mg X.base x ps k fm) (hr : Room j X.A) (hk : k ≤ j) (hg : Gl X x) (tk : L2N.Takes X W)
    (ha : MA X W (e :: es) ms) (hdb : (x == ("__debug__" : Str)) = false := by decide) (he : starEach (e :: es) X.env = (false, eval e X.env) :: starEach es X.env := by rfl) (hpl : (backTo pos (starEach es X.env)).any (·.1) = false := by rfl) :
    ME X W (.Call (.Name x p) (e :: es) [] pos) (eFn fm ms) := by
  obtain ⟨f, fd, F, hm, kp, hb⟩ := F.ex
  exact me_call F (hr.mono hk) hg hm kp hb tk ha hdb he hpl
structure CStr (mg : Str → Option Value) (x z : Str) : Prop where
  ex : ∃ t, mg x = some (.str z t)
structure CInt (mg : Str → Option Value) (x : Str) (z : Int) : Prop where
  ex : ∃ t, mg x = some (.int z t)
theorem me_cs {X : Cx} {W : WX} {x z : Str} {pos : Pos} (h : CStr X.mg x z) (hg : Gl X x) (hd : (x == ("__debug__" : Str)) = false := by decide) : ME X W (.Name x pos) (eC (.str z)) := by
  obtain ⟨t, h⟩ := h.ex
  exact me_gs hg h hd
theorem me_ci {X : Cx} {W : WX} {x : Str} {z : Int} {pos : Pos} (h : CInt X.mg x z) (hg : Gl X x) (hd : (x == ("__debug__" : Str)) = false := by decide) : ME X W (.Name x pos) (eC (.int z)) := by
  obtain ⟨t, h⟩ := h.ex
  exact me_gi hg h hd
theorem Cz.u64 {X : Cx} {W : WX} {k : Nat} (c : Cz X W k) : X.A.units + 64 < cLine := by
  have := c.room.un
  omega
theorem Cz.u65 {X : Cx} {W : WX} {k : Nat} (c : Cz X W k) : X.A.units + 65 < cLine := by
  have := c.room.un
  omega
theorem Cz.u1 {X : Cx} {W : WX} {k : Nat} (c : Cz X W k) : X.A.units + 1 < cLine := by
  have := c.room.un
  omega
theorem takesN {X : Cx} : L2N.Takes X W0 := fun _ _ ⟨_, _, _, _, _, _, _, _, _, _, _, _, _, _, _, _, z⟩ => z.elim
/-- a comprehension's block -/
theorem Cz.blk {X : Cx} {W : WX} {k : Nat} (c : Cz X W k) (s : Shared) (H : Hp) (scope : Scope) (cenv : PySem.Env) (fp : List Addr) : Cz (X.blk s H scope cenv fp) W0 k := ⟨takesN, PassesOwn.never, c.calm, c.nd, c.room⟩
end FF

namespace FF
open PySem L2
/-! ### targets -/
theorem calm_N (i : Nat) : Calm (gN i) := fun d ρ c h => by cases h
def CalmS (g : List D → Env → R Env) : Prop := ∀ d ρ c, g d ρ ≠ .exn c
theorem calm_nil : CalmS gsNil := fun d ρ c h => by cases d <;> cases h
theorem calm_cons {g : MTg} {gs : List D → Env → R Env} (h : Calm g) (hs : CalmS gs) : CalmS (gsCons g gs) := fun d ρ c z => by
  cases d with
  | nil => cases z
  | cons d ds =>
    have z : ((g d ρ).bind fun ρ' => gs ds ρ') = .exn c := z
    cases e : g d ρ with
    | ok ρ' => rw [e] at z; exact hs ds ρ' c z
    | exn c' => exact h d ρ c' e
    | bad => rw [e] at z; cases z
theorem calm_T {gs : List D → Env → R Env} (h : CalmS gs) : Calm (gT gs) := fun d ρ c z => by
  cases d with
  | tuple ds => exact h ds ρ c z
  | _ => cases z
def LenS (g : List D → Env → R Env) (n : Nat) : Prop := ∀ ds ρ ρ', g ds ρ = .ok ρ' → ds.length = n
theorem len_nil : LenS gsNil 0 := fun ds ρ ρ' h => by
  cases ds with
  | nil => rfl
  | cons _ _ => cases h
theorem len_cons {g : MTg} {gs : List D → Env → R Env} {n : Nat} (h : LenS gs n) : LenS (gsCons g gs) (n + 1) := fun ds ρ ρ' z => by
  cases ds with
  | nil => cases z
  | cons d ds =>
    obtain ⟨ρ1, _, e⟩ := R.bind_ok z
    rw [List.length_cons, h ds ρ1 ρ' e]
/-! ### the end -/
/-- the law's own promise -/
def spTrue (K : PySem.W.Frag) : Sp := fun vs H Q _ => ∃ (a : Addr) (ns : List Int), vs = [.ref a] ∧ SqL K H a (ns.map V.int) ∧ ns.length ≤ 63 ∧ ∀ H', Q (.bl true) H'
theorem true_of {K : PySem.W.Frag} {mg : Str → Option Value} {fm : List D → R D} (h : ∀ ns : List Int, ns.length ≤ 63 → fm [.list (ns.map PyData.int)] = .ok (.bool true)) : ∀ vs H Q E, spTrue K vs H Q E → spM K mg fm vs H Q E := by
  rintro vs H Q E ⟨a, ns, rfl, hs, hl, q⟩
  refine ⟨H, [.list (ns.map PyData.int)], .refl H, .cons (.lst hs (repL_of_ints H ns)) .nil, ?_⟩
  rw [h ns hl]
  intro v G' H' _ r
  cases r
  exact q H'
section
variable {K : PySem.W.Frag} {h : Heap} {mg : Str → Option Value}
theorem funAt_mk {x : Str} {st : Stmt} {ps : List Str} {f : Addr} {oc : Value} {od an : Option Addr} {osl : Array (Option Value)} {kV doc pm cdv ct : Value} (X : K.In h) (G : h.Ns mainGlobals mg)
    (a : PySem.W.nsIn K mainGlobals x = some (some (.ref f)))
    (l : K.lookup f = some ⟨oc, od, .func (PySem.W.fnOf x x (defArgs st) (defBody st) (defScope st) .none kV doc pm an cdv ct), osl⟩) (c : PySem.W.codeIn K cdv x = true) (k : PySem.W.keepIn K (.ref f) = true)
    (hb : ∀ (kV doc pm : Value) (an : Option Addr) (cdv ct : Value) (us : List Value), us.length = ps.length → bindArgs (PySem.W.fnOf x x (defArgs st) (defBody st) (defScope st) .none kV doc pm an cdv ct) ⟨us, []⟩ = pure (ps.zip us)) : FunAt K mg x st ps :=
  ⟨f, _, fun_mk l c k, PySem.W.mg_of X G a, hb kV doc pm an cdv ct⟩
theorem cstr_mk {x z : Str} {t : Tok} (X : K.In h) (G : h.Ns mainGlobals mg) (a : PySem.W.nsIn K mainGlobals x = some (some (.str z t))) : CStr mg x z := ⟨t, PySem.W.mg_of X G a⟩
theorem cint_mk {x : Str} {z : Int} {t : Tok} (X : K.In h) (G : h.Ns mainGlobals mg) (a : PySem.W.nsIn K mainGlobals x = some (some (.int z t))) : CInt mg x z := ⟨t, PySem.W.mg_of X G a⟩
end
section
variable {K : PySem.W.Frag} {h : Heap} {mg : Str → Option Value} {C : Prop}
theorem withFun {x : Str} {st : Stmt} {ps : List Str} {f : Addr} {oc : Value} {od an : Option Addr} {osl : Array (Option Value)} {kV doc pm cdv ct : Value} (X : K.In h) (G : h.Ns mainGlobals mg)
    (a : PySem.W.nsIn K mainGlobals x = some (some (.ref f)))
    (l : K.lookup f = some ⟨oc, od, .func (PySem.W.fnOf x x (defArgs st) (defBody st) (defScope st) .none kV doc pm an cdv ct), osl⟩) (c : PySem.W.codeIn K cdv x = true) (k : PySem.W.keepIn K (.ref f) = true)
    (hb : ∀ (kV doc pm : Value) (an : Option Addr) (cdv ct : Value) (us : List Value), us.length = ps.length → bindArgs (PySem.W.fnOf x x (defArgs st) (defBody st) (defScope st) .none kV doc pm an cdv ct) ⟨us, []⟩ = pure (ps.zip us))
    (k2 : FunAt K mg x st ps → C) : C := k2 (funAt_mk X G a l c k hb)
theorem withT {T : PySem.W.Frag → (Str → Option Value) → Prop} (X : K.In h) (G : h.Ns mainGlobals mg) (t : T K mg) (k : T K mg → C) : C := k t
theorem withNone {x : Str} (X : K.In h) (G : h.Ns mainGlobals mg) (a : PySem.W.nsIn K mainGlobals x = some none) (k : mg x = none → C) : C := k (PySem.W.mg_none_of X G a)
theorem withStr {x z : Str} {t : Tok} (X : K.In h) (G : h.Ns mainGlobals mg) (a : PySem.W.nsIn K mainGlobals x = some (some (.str z t))) (k : CStr mg x z → C) : C := k (cstr_mk X G a)
theorem withInt {x : Str} {z : Int} {t : Tok} (X : K.In h) (G : h.Ns mainGlobals mg) (a : PySem.W.nsIn K mainGlobals x = some (some (.int z t))) (k : CInt mg x z → C) : C := k (cint_mk X G a)
end
/-- the law's def, from its promise at every base -/
theorem law_end {l : PySem.W.OpenLaw} {q : Program} {loose : List Str} {XP : (Str → Option Value) → Heap → Prop} {YP : World → Heap → Prop} {d : DefRec} {K : Params → PySem.W.Frag} {x : Str} {k : Nat} {st : Stmt} {fm : List D → R D}
    (hn : l.most = some 63) (hdf : d.params.defaults = []) (hr : Room k callerA) (hY : ∀ (w : World) (h : Heap), YP w h → (K w.params).In h)
    (F : ∀ (w : World) (mg : Str → Option Value) (h : Heap), (K w.params).In h → h.Ns mainGlobals mg → FunAt (K w.params) mg d.name st [x] ∧ ∀ (f : Addr) (fd : FuncData), Fun (K w.params) d.name d.name st f fd → ∀ base : Heap, (K w.params).In base → base.Ns mainGlobals mg →
      FnOk l.prog w (K w.params) mg base (L2N.CX l.prog w) k f fd [x] (spM (K w.params) mg fm))
    (math : ∀ ns : List Int, ns.length ≤ 63 → fm [.list (ns.map PyData.int)] = .ok (.bool true)) : PySem.W.WalkO q loose XP YP l.row.toRowW d [] (fun f vs => PySem.call f vs) := by
  refine L2.walk_of (n := 63) (k := k) (x := x) (CX := fun w => L2N.CX l.prog w) (sp := fun w => spTrue (K w.params)) hn (by decide) hdf hr hY (fun w mg fa h KX G hfa => ?_) (fun w H a ns hl _ hS => ⟨a, ns, rfl, hS, hl, fun _ => rfl⟩) fun w H s e s' z => ?_
  · obtain ⟨FA, FF⟩ := F w mg h KX G
    obtain ⟨f, fd, Fn, hm, hb⟩ := FA.ex
    rw [hfa] at hm
    cases hm
    exact ⟨fd, fun s u => .of_eq (hb [u] rfl), fun base kb gb => (FF _ fd Fn base kb gb).imp (true_of math)⟩
  · obtain ⟨a, B, H', cls, d, _, _, _, _, _, _, _, z⟩ := z
    exact z
end FF

namespace FF
open PySem L2
/-! ### mirrors, applied -/
section
variable {α β : Type} {a : α} {f : α → R β} {ρ ρ' : Env} {m n : MSt} {g : D → D → Option D} {h : D → Option D} {k : List D → Option D} {p q o : Env → R D} {ps : Env → R (List D)} {t u : Env → R Bool} {i : Nat} {d : D} {x : Sl}
@[simp] theorem bind_ok' : (R.ok a).bind f = f a := by exact rfl
@[simp] theorem bind_bad' : (R.bad : R α).bind f = .bad := by exact rfl
@[simp] theorem bind_exn' {c : Str} : (R.exn c : R α).bind f = .exn c := by exact rfl
@[simp] theorem lft_some' : lft (some a) = .ok a := by exact rfl
@[simp] theorem lft_none' : lft (none : Option α) = .bad := by exact rfl
@[simp] theorem liftS_ok' {w : α → Fl} : liftS ρ (.ok a) w = w a := by exact rfl
@[simp] theorem liftS_exn' {w : α → Fl} {c : Str} : liftS ρ (.exn c) w = .exn c ρ := by exact rfl
@[simp] theorem eVar_0 : eVar 0 (.val d :: ρ) = .ok d := by exact rfl
@[simp] theorem eVar_s : eVar (i + 1) (x :: ρ) = eVar i ρ := by exact rfl
@[simp] theorem eC_a : eC d ρ = .ok d := by exact rfl
@[simp] theorem eBin_a : eBin g p q ρ = (p ρ).bind fun x => (q ρ).bind fun y => lft (g x y) := by exact rfl
@[simp] theorem eUn_a : eUn h p ρ = (p ρ).bind fun x => lft (h x) := by exact rfl
@[simp] theorem aNil_a : aNil ρ = .ok [] := by exact rfl
@[simp] theorem aCons_a : aCons p ps ρ = (p ρ).bind fun x => (ps ρ).bind fun xs => .ok (x :: xs) := by exact rfl
@[simp] theorem eBlt_a : eBlt k ps ρ = (ps ρ).bind fun xs => lft (k xs) := by exact rfl
@[simp] theorem eFn_a {f : List D → R D} : eFn f ps ρ = (ps ρ).bind f := by exact rfl
@[simp] theorem boolOf_a {b : Bool} : boolOf (.bool b) = .ok b := by exact rfl
@[simp] theorem tVal_a : tVal p ρ = (p ρ).bind boolOf := by exact rfl
@[simp] theorem tAndM_a : tAndM t u ρ = (t ρ).bind fun x => if x = true then u ρ else .ok false := by exact rfl
@[simp] theorem tOrM_a : tOrM t u ρ = (t ρ).bind fun x => if x = true then .ok true else u ρ := by exact rfl
@[simp] theorem tNotM_a : tNotM t ρ = (t ρ).bind fun x => .ok (!x) := by exact rfl
@[simp] theorem eAnd_a : eAnd p q ρ = (tVal p ρ).bind fun x => if x = true then q ρ else .ok (.bool false) := by exact rfl
@[simp] theorem eOr_a : eOr p q ρ = (tVal p ρ).bind fun x => if x = true then .ok (.bool true) else q ρ := by exact rfl
@[simp] theorem eNot_a : eNot p ρ = (tVal p ρ).bind fun x => .ok (.bool (!x)) := by exact rfl
@[simp] theorem eIf_a : eIf t p q ρ = (t ρ).bind fun x => if x = true then p ρ else q ρ := by exact rfl
@[simp] theorem eTup_a : eTup ps ρ = (ps ρ).bind fun xs => lft (lim xs (.tuple xs)) := by exact rfl
@[simp] theorem eLst_a : eLst ps ρ = (ps ρ).bind fun xs => lft (lim xs (.list xs)) := by exact rfl
@[simp] theorem eChain_a {g' : D → D → Option D} : eChain g g' p q o ρ = (p ρ).bind fun x => (q ρ).bind fun y => (lft (g x y)).bind fun z => (boolOf z).bind fun k => if k = true then (o ρ).bind fun w => lft (g' y w) else .ok (.bool false) := by exact rfl
@[simp] theorem sNext_a : sNext ρ = .next ρ := by exact rfl
theorem sSeq_a : sSeq m n ρ = match m ρ with | .next ρ' => n ρ' | x => x := by exact rfl
@[simp] theorem sSet_a : sSet i p ρ = liftS ρ (p ρ) fun d => .next (ρ.set i (.val d)) := by exact rfl
@[simp] theorem sRet_a : sRet p ρ = liftS ρ (p ρ) fun d => .ret d := by exact rfl
@[simp] theorem sRetN_a : sRetN ρ = .ret .none := by exact rfl
@[simp] theorem sExpr_a : sExpr p ρ = liftS ρ (p ρ) fun _ => .next ρ := by exact rfl
@[simp] theorem sIf_a : sIf t m n ρ = liftS ρ (t ρ) fun k => if k = true then m ρ else n ρ := by exact rfl
@[simp] theorem sFor_a {it : Env → R (List D)} {g : MTg} : sFor it g m ρ = liftS ρ (it ρ) fun ds => forL g m ds ρ := by exact rfl
@[simp] theorem sOwn_a : sOwn i ps ρ = liftS ρ (ps ρ) fun ds => if ds.length ≤ 1000000 then .next (ρ.set i (.own ds)) else .bad := by exact rfl
@[simp] theorem sOwnF_a : sOwnF i ps ρ = liftS ρ (ps ρ) fun ds => .next (ρ.set i (.own ds)) := by exact rfl
@[simp] theorem sFixed_a : sFixed i m ρ = m (fixE i ρ) := by exact rfl
@[simp] theorem gN_a : gN i d ρ = .ok (ρ.set i (.val d)) := by exact rfl
@[simp] theorem gT_a {gs : List D → Env → R Env} {ds : List D} : gT gs (.tuple ds) ρ = gs ds ρ := by exact rfl
@[simp] theorem gsNil_a : gsNil [] ρ = .ok ρ := by exact rfl
@[simp] theorem gsCons_a {g : MTg} {gs : List D → Env → R Env} {ds : List D} : gsCons g gs (d :: ds) ρ = (g d ρ).bind fun ρ' => gs ds ρ' := by exact rfl
@[simp] theorem iAny_a : iAny p ρ = (p ρ).bind itemsOf := by exact rfl
@[simp] theorem items_l {ds : List D} : itemsOf (.list ds) = .ok ds := by exact rfl
@[simp] theorem items_t {ds : List D} : itemsOf (.tuple ds) = .ok ds := by exact rfl
@[simp] theorem items_s {z : Str} : itemsOf (.str z) = .ok (signs z) := by exact rfl
@[simp] theorem iRg1_a : iRg1 ps ρ = (ps ρ).bind fun xs => lft (rng1 xs) := by exact rfl
@[simp] theorem iRg2_a : iRg2 ps ρ = (ps ρ).bind fun xs => lft (rng2 xs) := by exact rfl
@[simp] theorem iEn_a : iEn ps ρ = (ps ρ).bind fun xs => lft (enumOf xs) := by exact rfl
@[simp] theorem iZp_a : iZp ps ρ = (ps ρ).bind fun xs => lft (zipOf xs) := by exact rfl
@[simp] theorem iRv_a : iRv ps ρ = (ps ρ).bind fun xs => lft (revOf xs) := by exact rfl
@[simp] theorem enumOf_a {ds : List D} : enumOf [.list ds] = some (enumD 0 ds) := by exact rfl
@[simp] theorem revOf_a {ds : List D} : revOf [.list ds] = some ds.reverse := by exact rfl
@[simp] theorem forL_nil {g : MTg} : forL g m [] ρ = .next ρ := by exact rfl
theorem forL_cons {g : MTg} {ds : List D} : forL g m (d :: ds) ρ = liftS ρ (g d ρ) fun ρ1 => match m ρ1 with
    | .next ρ2 => forL g m ds ρ2
    | .cont ρ2 => forL g m ds ρ2
    | .brk ρ2 => .next ρ2
    | x => x := rfl
@[simp] theorem fLc_a {it : Env → R (List D)} {g : MTg} {vs : List Nat} : fLc it g t p vs ρ = (it ρ).bind fun ds => if ds.length ≤ 1000000 then compL g t p (wipeE ρ vs) ds else .bad := by exact rfl
@[simp] theorem eLc_a {it : Env → R (List D)} {g : MTg} {vs : List Nat} : eLc it g t p vs ρ = (fLc it g t p vs ρ).bind fun ys => .ok (.list ys) := by exact rfl
@[simp] theorem tYesM_a : tYesM ρ = .ok true := by exact rfl
@[simp] theorem eSl_a {lo hi : EO} : eSl p lo hi ρ = (p ρ).bind fun d => (lo ρ).bind fun l => (hi ρ).bind fun u => lft (slD d l u) := by exact rfl
@[simp] theorem oNone_a : oNone ρ = .ok none := by exact rfl
@[simp] theorem oSome_a : oSome p ρ = (p ρ).bind fun d => (lft (intOf d)).bind fun i => .ok (some i) := by exact rfl
@[simp] theorem intOf_a {z : Int} : intOf (.int z) = some z := by exact rfl
@[simp] theorem eMeth_a {T : String} {gm : D → List D → Option D} : eMeth T gm o ps ρ = (o ρ).bind fun x => if tyN x = T then (ps ρ).bind fun xs => lft (gm x xs) else .bad := by exact rfl
@[simp] theorem eOrT_a : eOrT p q ρ = (p ρ).bind fun x => (lft (truD x)).bind fun k => if k = true then .ok x else q ρ := by exact rfl
@[simp] theorem eLenO_a {ds : List D} (e : ρ[i]? = some (.own ds)) : eLenO i ρ = .ok (.int ds.length) := by unfold eLenO; rw [e]
@[simp] theorem eIxO_a {ds : List D} (e : ρ[i]? = some (.own ds)) : eIxO i p ρ = (p ρ).bind fun k => lft (ixD (.list ds) k) := by unfold eIxO; rw [e]
@[simp] theorem eCmpO_a {ds : List D} (e : ρ[i]? = some (.own ds)) : eCmpO g i p ρ = (p ρ).bind fun k => lft (g (.list ds) k) := by unfold eCmpO; rw [e]
@[simp] theorem noX_ok : noX (.ok a) = .ok a := by exact rfl
@[simp] theorem compL_nil {g : MTg} : compL g t p ρ [] = .ok [] := by exact rfl
@[simp] theorem tyN_str {z : Str} : tyN (.str z) = "str" := by exact rfl
@[simp] theorem tyN_list {ds : List D} : tyN (.list ds) = "list" := by exact rfl
end
/-- a comprehension, item by item, that keeps some: by a plain function of the item -/
theorem compL_filterMap {g : MTg} {t : Env → R Bool} {e : Env → R D} {ρ0 : Env} {α : Type} (enc : α → D) (b : α → Bool) (v : α → D) : ∀ (xs : List α),
    (∀ x ∈ xs, ∃ ρ1, g (enc x) ρ0 = .ok ρ1 ∧ t ρ1 = .ok (b x) ∧ (b x = true → e ρ1 = .ok (v x))) → compL g t e ρ0 (xs.map enc) = .ok ((xs.filter b).map v)
  | [], _ => rfl
  | x :: xs, h => by
    obtain ⟨ρ1, h1, h2, h3⟩ := h x List.mem_cons_self
    have ih := compL_filterMap enc b v xs fun y hy => h y (List.mem_cons_of_mem _ hy)
    show (noX (g (enc x) ρ0)).bind _ = _
    rw [h1, noX_ok, bind_ok', h2, noX_ok, bind_ok', List.filter_cons]
    cases hb : b x with
    | true => simp [h3 hb, ih]
    | false => simp [ih]
theorem compL_map {g : MTg} {t : Env → R Bool} {e : Env → R D} {ρ0 : Env} {α : Type} (enc : α → D) (v : α → D) (xs : List α)
    (h : ∀ x ∈ xs, ∃ ρ1, g (enc x) ρ0 = .ok ρ1 ∧ t ρ1 = .ok true ∧ e ρ1 = .ok (v x)) : compL g t e ρ0 (xs.map enc) = .ok (xs.map v) := by
  have := compL_filterMap (g := g) (t := t) (e := e) (ρ0 := ρ0) enc (fun _ => true) v xs fun x hx => by
    obtain ⟨ρ1, a, b, c⟩ := h x hx
    exact ⟨ρ1, a, b, fun _ => c⟩
  rw [this, show xs.filter (fun _ => true) = xs from List.filter_eq_self.mpr (fun _ _ => rfl)]
/-- a loop, by an invariant on the slots -/
theorem forL_inv {g : MTg} {b : MSt} {α : Type} (enc : α → D) (st : Env → List α → Prop) : ∀ (xs : List α) (ρ : Env),
    st ρ xs → (∀ x r ρ, st ρ (x :: r) → ∃ ρ1 ρ2, g (enc x) ρ = .ok ρ1 ∧ (b ρ1 = .next ρ2 ∨ b ρ1 = .cont ρ2) ∧ st ρ2 r) → ∃ ρ', forL g b (xs.map enc) ρ = .next ρ' ∧ st ρ' []
  | [], ρ, h, _ => ⟨ρ, rfl, h⟩
  | x :: xs, ρ, h, k => by
    obtain ⟨ρ1, ρ2, h1, h2, h3⟩ := k x xs ρ h
    obtain ⟨ρ', h4, h5⟩ := forL_inv enc st xs ρ2 h3 k
    refine ⟨ρ', ?_, h5⟩
    rw [List.map_cons, forL_cons, h1, liftS_ok']
    rcases h2 with h2 | h2 <;> (rw [h2]; exact h4)
end FF

namespace FF
open PySem L2
/-! ### texts as lists of codes -/
def S (l : List Nat) : Str := ⟨l.toArray⟩
/-- a text's data -/
abbrev tx (l : List Nat) : D := .str (S l)
@[simp] theorem S_toList (l : List Nat) : (S l).cps.toList = l := by simp [S]
theorem S_of (x : Str) : S x.cps.toList = x := by cases x; simp [S]
@[simp] theorem S_len (l : List Nat) : (S l).length = l.length := by simp [S, Str.length]
@[simp] theorem S_app (a b : List Nat) : S a ++ S b = S (a ++ b) := by
  show (⟨a.toArray ++ b.toArray⟩ : Str) = ⟨(a ++ b).toArray⟩
  simp
theorem S_inj {a b : List Nat} : S a = S b ↔ a = b := by
  constructor
  · intro h
    have := congrArg (fun z : Str => z.cps.toList) h
    simpa using this
  · intro h; rw [h]
theorem S_one (c : Nat) : (⟨#[c]⟩ : Str) = S [c] := rfl
@[simp] theorem signs_S (l : List Nat) : signs (S l) = l.map fun c => tx [c] := by
  unfold signs
  rw [S_toList]
  rfl
@[simp] theorem addD_S (a b : List Nat) : addD (tx a) (tx b) = lm (a.length + b.length) (tx (a ++ b)) := by
  show lm ((S a).length + (S b).length) (PyData.str (S a ++ S b)) = _
  rw [S_len, S_len, S_app]
@[simp] theorem addD_i (a b : Int) : addD (.int a) (.int b) = some (.int (a + b)) := by exact rfl
@[simp] theorem addD_l (a b : List D) : addD (.list a) (.list b) = lm (a.length + b.length) (.list (a ++ b)) := by exact rfl
@[simp] theorem subD_i (a b : Int) : subD (.int a) (.int b) = some (.int (a - b)) := by exact rfl
theorem lm_ok {α : Type} {n : Nat} {a : α} (h : n ≤ 1000000) : lm n a = some a := if_pos h
@[simp] theorem lenD_S (a : List Nat) : lenD [tx a] = lm a.length (.int a.length) := by
  show lm (S a).length (PyData.int (S a).length) = _
  rw [S_len]
@[simp] theorem lenD_l (a : List D) : lenD [.list a] = some (.int a.length) := by exact rfl
@[simp] theorem ixD_S (a : List Nat) (i : Int) : ixD (tx a) (.int i) = if a.length ≤ 1000000 then (atI a i).map fun c => tx [c] else none := by
  show (if (S a).length ≤ 1000000 then (atI (S a).cps.toList i).map fun c => PyData.str ⟨#[c]⟩ else none) = _
  rw [S_len, S_toList]
  rfl
@[simp] theorem ixD_l (a : List D) (i : Int) : ixD (.list a) (.int i) = atI a i := by exact rfl
@[simp] theorem ixD_t (a : List D) (i : Int) : ixD (.tuple a) (.int i) = atI a i := by exact rfl
theorem cutS_S (a : List Nat) (lo hi : Option Int) : cutS (S a) lo hi = S (cutL a lo hi) := by
  unfold cutS cutL
  rw [S_len, S_toList]
  rfl
@[simp] theorem slD_S (a : List Nat) (lo hi : Option Int) : slD (tx a) lo hi = lm a.length (tx (cutL a lo hi)) := by
  show lm (S a).length (PyData.str (cutS (S a) lo hi)) = _
  rw [S_len, cutS_S]
@[simp] theorem slD_l (a : List D) (lo hi : Option Int) : slD (.list a) lo hi = some (.list (cutL a lo hi)) := by exact rfl
@[simp] theorem sign_S (c : Nat) : sign? (S [c]) = some c := by simp [sign?]
@[simp] theorem inB_S (c : Nat) (z : List Nat) : inB (tx [c]) (tx z) = some (decide (c ∈ z)) := by
  show (match sign? (S [c]) with | some c => some (decide (c ∈ (S z).cps.toList)) | none => none) = _
  rw [sign_S, S_toList]
@[simp] theorem inD_S (c : Nat) (z : List Nat) : inD (tx [c]) (tx z) = some (.bool (decide (c ∈ z))) := by
  unfold inD
  rw [inB_S]
  rfl
@[simp] theorem ninD_S (c : Nat) (z : List Nat) : ninD (tx [c]) (tx z) = some (.bool (!decide (c ∈ z))) := by
  unfold ninD
  rw [inB_S]
  rfl
@[simp] theorem truD_S (a : List Nat) : truD (tx a) = if a.length ≤ 1000000 then some (!a.isEmpty) else none := by
  show (if (S a).length ≤ 1000000 then some (((S a).length : Int) != 0) else none) = _
  rw [S_len]
  have e : ((a.length : Int) != 0) = !a.isEmpty := by
    rw [Bool.eq_iff_iff]
    cases a <;> simp
    omega
  rw [e]
@[simp] theorem isNone_S (a : List Nat) : isNone (tx a) = false := by exact rfl
@[simp] theorem isNone_n : isNone .none = true := by exact rfl
@[simp] theorem isNone_i (i : Int) : isNone (.int i) = false := by exact rfl
@[simp] theorem isNone_l (i : List D) : isNone (.list i) = false := by exact rfl
@[simp] theorem isNone_t (i : List D) : isNone (.tuple i) = false := by exact rfl
@[simp] theorem isNone_b (i : Bool) : isNone (.bool i) = false := by exact rfl
@[simp] theorem isD_n (d : D) : isD d .none = some (.bool (isNone d)) := by cases d <;> rfl
@[simp] theorem nisD_n (d : D) : nisD d .none = some (.bool (!isNone d)) := by cases d <;> rfl
@[simp] theorem ltD_i (a b : Int) : ltD (.int a) (.int b) = some (.bool (decide (a < b))) := by exact rfl
@[simp] theorem leD_i (a b : Int) : leD (.int a) (.int b) = some (.bool (decide (a ≤ b))) := by exact rfl
@[simp] theorem gtD_i (a b : Int) : gtD (.int a) (.int b) = some (.bool (decide (b < a))) := by exact rfl
@[simp] theorem geD_i (a b : Int) : geD (.int a) (.int b) = some (.bool (decide (b ≤ a))) := by exact rfl
@[simp] theorem negD_i (a : Int) : negD (.int a) = some (.int (-a)) := by exact rfl
@[simp] theorem minD_2 (a b : Int) : minD [.int a, .int b] = some (.int (min a b)) := by exact rfl
@[simp] theorem maxD_2 (a b : Int) : maxD [.int a, .int b] = some (.int (max a b)) := by exact rfl
@[simp] theorem intD_i (a : Int) : intD [.int a] = some (.int a) := by exact rfl
@[simp] theorem intD_b (a : Bool) : intD [.bool a] = some (.int (if a then 1 else 0)) := by exact rfl
theorem modD_i {a b : Int} (h : 0 < b) : modD (.int a) (.int b) = some (.int (a % b)) := if_pos h
theorem fdivD_i {a b : Int} (h : 0 < b ∧ b < 1073741824) : fdivD (.int a) (.int b) = some (.int (a / b)) := if_pos h
theorem mulD_i {a b : Int} (h : cmul a b = true) : mulD (.int a) (.int b) = some (.int (a * b)) := if_pos h
theorem cmul_l {a b : Int} (h : -(2 ^ 64) < a ∧ a < 2 ^ 64) : cmul a b = true := by
  unfold cmul
  rw [decide_eq_true h.1, decide_eq_true h.2]
  rfl
theorem cmul_r {a b : Int} (h : -(2 ^ 64) < b ∧ b < 2 ^ 64) : cmul a b = true := by
  unfold cmul
  rw [decide_eq_true h.1, decide_eq_true h.2, Bool.and_self, Bool.or_true]
/-! ### == of encoded data -/
structure Good {α : Type} [DecidableEq α] (n : Nat) (P : α → Prop) (f : α → D) : Prop where
  lay : ∀ x, P x → (f x).canLay0 = true ∧ (f x).depth ≤ n
  eqv : ∀ x y, PyData.eqv (f x) (f y) = decide (x = y)
theorem good_int : Good 0 (fun _ => True) PyData.int := ⟨fun x _ => ⟨rfl, Nat.le_refl _⟩, fun x y => by simp [PyData.eqv, BEq.beq]⟩
theorem good_bool : Good 0 (fun _ => True) PyData.bool := ⟨fun x _ => ⟨rfl, Nat.le_refl _⟩, fun x y => by cases x <;> cases y <;> rfl⟩
/-- codes that are codes -/
def Cps (l : List Nat) : Prop := ∀ c ∈ l, c < 1114112
theorem good_tx : Good 0 Cps tx := ⟨fun x h => ⟨by
  simp only [PyData.canLay0]
  show (S x).cps.all (· < 0x110000) = true
  unfold S
  unfold Cps at h
  simpa using h, Nat.le_refl _⟩, fun x y => by
  simp only [PyData.eqv]
  rw [Bool.eq_iff_iff]
  simp [S_inj]⟩
theorem eqvAll_map {α : Type} [DecidableEq α] {f : α → D} (h : ∀ x y, PyData.eqv (f x) (f y) = decide (x = y)) : ∀ xs ys : List α, PyData.eqvAll (xs.map f) (ys.map f) = decide (xs = ys)
  | [], [] => rfl
  | [], _ :: _ => rfl
  | _ :: _, [] => rfl
  | x :: xs, y :: ys => by
    simp only [List.map_cons, PyData.eqvAll, h, eqvAll_map h xs ys]
    by_cases e : x = y <;> by_cases e2 : xs = ys <;> simp [e, e2]
theorem layAll_map {α : Type} {f : α → D} {n : Nat} : ∀ xs : List α, (∀ x ∈ xs, (f x).canLay0 = true ∧ (f x).depth ≤ n) → PyData.canLayAll0 (xs.map f) = true ∧ PyData.depthAll (xs.map f) ≤ n
  | [], _ => ⟨rfl, Nat.zero_le _⟩
  | x :: xs, h => by
    obtain ⟨h1, h2⟩ := h x List.mem_cons_self
    obtain ⟨h3, h4⟩ := layAll_map xs fun y hy => h y (List.mem_cons_of_mem _ hy)
    refine ⟨?_, ?_⟩
    · simp only [List.map_cons, PyData.canLayAll0, h1, h3, Bool.and_self]
    · simp only [List.map_cons, PyData.depthAll]
      omega
theorem good_list {α : Type} [DecidableEq α] {n : Nat} {P : α → Prop} {f : α → D} (g : Good n P f) : Good (n + 1) (fun xs : List α => ∀ x ∈ xs, P x) (fun xs => .list (xs.map f)) :=
  ⟨fun xs h => by
    obtain ⟨a, b⟩ := layAll_map (f := f) (n := n) xs fun x hx => g.lay x (h x hx)
    exact ⟨by simpa [PyData.canLay0] using a, by simp only [PyData.depth]; omega⟩, fun xs ys => by
    simp only [PyData.eqv]
    exact eqvAll_map g.eqv xs ys⟩
theorem good_pair {α β : Type} [DecidableEq α] [DecidableEq β] {n : Nat} {P : α → Prop} {f : α → D} {P' : β → Prop} {f' : β → D} (g : Good n P f) (g' : Good n P' f') : Good (n + 1) (fun p : α × β => P p.1 ∧ P' p.2) (fun p => .tuple [f p.1, f' p.2]) :=
  ⟨fun p h => by
    obtain ⟨a, b⟩ := g.lay p.1 h.1
    obtain ⟨a', b'⟩ := g'.lay p.2 h.2
    exact ⟨by simp [PyData.canLay0, PyData.canLayAll0, a, a'], by simp only [PyData.depth, PyData.depthAll]; omega⟩, fun p q => by
    obtain ⟨p1, p2⟩ := p
    obtain ⟨q1, q2⟩ := q
    simp only [PyData.eqv, PyData.eqvAll, g.eqv, g'.eqv]
    by_cases e : p1 = q1 <;> by_cases e2 : p2 = q2 <;> simp [e, e2]⟩
theorem shp_of {d : D} (h : d.canLay0 = true ∧ d.depth ≤ 64) : shp d = true := by
  unfold shp SeqAt.shaped
  rw [h.1, decide_eq_true h.2]
  rfl
theorem Good.shp {α : Type} [DecidableEq α] {n : Nat} {P : α → Prop} {f : α → D} (g : Good n P f) (hn : n ≤ 64) {x : α} (h : P x) : shp (f x) = true := shp_of ⟨(g.lay x h).1, Nat.le_trans (g.lay x h).2 hn⟩
theorem Good.eqD {α : Type} [DecidableEq α] {n : Nat} {P : α → Prop} {f : α → D} (g : Good n P f) (hn : n ≤ 64) {x y : α} (h : P x) (h' : P y) : eqD (f x) (f y) = some (.bool (decide (x = y))) := by
  unfold FF.eqD
  rw [g.shp hn h, g.shp hn h', g.eqv]
  rfl
theorem Good.neD {α : Type} [DecidableEq α] {n : Nat} {P : α → Prop} {f : α → D} (g : Good n P f) (hn : n ≤ 64) {x y : α} (h : P x) (h' : P y) : neD (f x) (f y) = some (.bool (!decide (x = y))) := by
  unfold FF.neD
  rw [g.shp hn h, g.shp hn h', g.eqv]
  rfl
theorem eqD_int (a b : Int) : eqD (.int a) (.int b) = some (.bool (decide (a = b))) := good_int.eqD (by decide) trivial trivial
theorem neD_int (a b : Int) : neD (.int a) (.int b) = some (.bool (!decide (a = b))) := good_int.neD (by decide) trivial trivial
theorem eqD_bool (a b : Bool) : eqD (.bool a) (.bool b) = some (.bool (decide (a = b))) := good_bool.eqD (by decide) trivial trivial
theorem neD_bool (a b : Bool) : neD (.bool a) (.bool b) = some (.bool (!decide (a = b))) := good_bool.neD (by decide) trivial trivial
theorem eqD_tx {a b : List Nat} (h : Cps a) (h' : Cps b) : eqD (tx a) (tx b) = some (.bool (decide (a = b))) := good_tx.eqD (by decide) h h'
theorem neD_tx {a b : List Nat} (h : Cps a) (h' : Cps b) : neD (tx a) (tx b) = some (.bool (!decide (a = b))) := good_tx.neD (by decide) h h'
theorem eqD_nil {ds : List D} (h : shp (.list ds) = true) : eqD (.list ds) (.list []) = some (.bool ds.isEmpty) := by
  unfold eqD
  rw [h, show shp (.list []) = true from rfl]
  cases ds <;> simp [PyData.eqv, PyData.eqvAll]
theorem neD_nil {ds : List D} (h : shp (.list ds) = true) : neD (.list ds) (.list []) = some (.bool (!ds.isEmpty)) := by
  unfold neD
  rw [h, show shp (.list []) = true from rfl]
  cases ds <;> simp [PyData.eqv, PyData.eqvAll]
/-! ### places -/
theorem atI_nat' {α : Type} (xs : List α) (i : Nat) : atI xs (i : Int) = xs[i]? := by
  unfold atI ixN
  rw [if_pos (Int.natCast_nonneg i)]
  by_cases h : i < xs.length
  · rw [if_pos (by omega)]
    rfl
  · rw [if_neg (by omega), List.getElem?_eq_none (by omega)]
    rfl
theorem atI_neg {α : Type} {xs : List α} {i : Nat} (h0 : 0 < i) (h : i ≤ xs.length) : atI xs (-(i : Int)) = xs[xs.length - i]? := by
  unfold atI ixN
  rw [if_neg (by omega), if_pos (by omega)]
  show xs[(-(i : Int) + (xs.length : Int)).toNat]? = _
  congr 1
  omega
theorem atI_m1 {α : Type} (xs : List α) (h : xs ≠ []) : atI xs (-1) = xs[xs.length - 1]? := by
  have := atI_neg (xs := xs) (i := 1) (by omega) (List.length_pos_iff.mpr h)
  simpa using this
end FF

namespace FF
open PySem L2
/-- a loop, by an invariant on the turn and the slots -/
theorem forL_ix {g : MTg} {b : MSt} (st : Nat → Env → Prop) : ∀ (xs : List D) (ρ : Env) (n : Nat), st n ρ →
    (∀ i d ρ, xs[i]? = some d → st (n + i) ρ → ∃ ρ1 ρ2, g d ρ = .ok ρ1 ∧ (b ρ1 = .next ρ2 ∨ b ρ1 = .cont ρ2) ∧ st (n + i + 1) ρ2) → ∃ ρ', forL g b xs ρ = .next ρ' ∧ st (n + xs.length) ρ'
  | [], ρ, n, h, _ => ⟨ρ, rfl, h⟩
  | x :: xs, ρ, n, h, k => by
    obtain ⟨ρ1, ρ2, h1, h2, h3⟩ := k 0 x ρ rfl h
    obtain ⟨ρ', h4, h5⟩ := forL_ix st xs ρ2 (n + 1) h3 fun i d ρ e q => by
      have := k (i + 1) d ρ e (by rw [← Nat.add_assoc, Nat.add_right_comm]; exact q)
      rw [← Nat.add_assoc, Nat.add_right_comm n i 1] at this
      exact this
    refine ⟨ρ', ?_, by rw [List.length_cons, Nat.add_comm xs.length 1, ← Nat.add_assoc]; exact h5⟩
    rw [forL_cons, h1, liftS_ok']
    rcases h2 with h2 | h2 <;> (rw [h2]; exact h4)
theorem forL_range {g : MTg} {b : MSt} (st : Nat → Env → Prop) (lo : Int) (n : Nat) (ρ : Env) (h0 : st 0 ρ)
    (hs : ∀ i ρ, i < n → st i ρ → ∃ ρ1 ρ2, g (.int (lo + (i : Int))) ρ = .ok ρ1 ∧ (b ρ1 = .next ρ2 ∨ b ρ1 = .cont ρ2) ∧ st (i + 1) ρ2) :
    ∃ ρ', forL g b ((List.range n).map fun (i : Nat) => PyData.int (lo + (i : Int))) ρ = .next ρ' ∧ st n ρ' := by
  have := forL_ix (g := g) (b := b) st ((List.range n).map fun (i : Nat) => PyData.int (lo + (i : Int))) ρ 0 h0 fun i d ρ e q => by
    rw [List.getElem?_map] at e
    cases er : (List.range n)[i]? with
    | none => rw [er] at e; cases e
    | some j =>
      obtain ⟨h1, h2⟩ := List.getElem?_eq_some_iff.mp er
      rw [List.getElem_range] at h2
      subst h2
      rw [er] at e
      cases e
      rw [List.length_range] at h1
      rw [Nat.zero_add] at q ⊢
      exact hs i ρ h1 q
  rw [Nat.zero_add, List.length_map, List.length_range] at this
  exact this
/-- over the signs of a text, or any list of items that are encoded -/
theorem forL_map {α : Type} {g : MTg} {b : MSt} (enc : α → D) (st : Nat → Env → Prop) (xs : List α) (ρ : Env) (h0 : st 0 ρ)
    (hs : ∀ i x ρ, xs[i]? = some x → st i ρ → ∃ ρ1 ρ2, g (enc x) ρ = .ok ρ1 ∧ (b ρ1 = .next ρ2 ∨ b ρ1 = .cont ρ2) ∧ st (i + 1) ρ2) :
    ∃ ρ', forL g b (xs.map enc) ρ = .next ρ' ∧ st xs.length ρ' := by
  have := forL_ix (g := g) (b := b) st (xs.map enc) ρ 0 h0 fun i d ρ e q => by
    rw [List.getElem?_map] at e
    cases er : xs[i]? with
    | none => rw [er] at e; cases e
    | some x =>
      rw [er] at e
      cases e
      rw [Nat.zero_add] at q ⊢
      exact hs i x ρ er q
  rw [Nat.zero_add, List.length_map] at this
  exact this
theorem mulD_mod {a m b : Int} (h : 0 < m ∧ m < 18446744073709551616) : mulD (.int (a % m)) (.int b) = some (.int (a % m * b)) := by
  have h1 := Int.emod_nonneg a (show m ≠ 0 by omega)
  have h2 := Int.emod_lt_of_pos a h.1
  exact mulD_i (cmul_l ⟨by omega, by omega⟩)
theorem mulD_lit {a b : Int} (h : -18446744073709551616 < a ∧ a < 18446744073709551616) : mulD (.int a) (.int b) = some (.int (a * b)) := mulD_i (cmul_l ⟨by omega, by omega⟩)
theorem rng1_ok {n : Int} (h : -1000000 ≤ n ∧ n ≤ 1000000) : rng1 [.int n] = some (rangeD 0 n) := by
  show (if small62 n then some (rangeD 0 n) else none) = _
  rw [if_pos]
  unfold small62
  rw [decide_eq_true (by omega), decide_eq_true (by omega)]
  rfl
theorem rng2_ok {m n : Int} (h : -1000000 ≤ n ∧ n ≤ 1000000) (h2 : -1000000 ≤ m ∧ m ≤ 1000000) : rng2 [.int m, .int n] = some (rangeD m n) := by
  show (if small62 m && small62 n then some (rangeD m n) else none) = _
  rw [if_pos]
  unfold small62
  rw [decide_eq_true (by omega), decide_eq_true (by omega), decide_eq_true (by omega), decide_eq_true (by omega)]
  rfl
/-- 0, 1, .. n - 1 -/
def natsD (n : Nat) : List D := (List.range n).map fun (i : Nat) => PyData.int (i : Int)
theorem natsD_len (n : Nat) : (natsD n).length = n := by unfold natsD; rw [List.length_map, List.length_range]
theorem rangeD_nat (n : Nat) : rangeD 0 (n : Int) = natsD n := by
  unfold rangeD natsD
  rw [show ((n : Int) - 0).toNat = n by omega]
  congr 1
  funext i
  rw [Int.zero_add]
theorem forL_nats {g : MTg} {b : MSt} (st : Nat → Env → Prop) (n : Nat) (ρ : Env) (h0 : st 0 ρ)
    (hs : ∀ i ρ, i < n → st i ρ → ∃ ρ1 ρ2, g (.int (i : Int)) ρ = .ok ρ1 ∧ (b ρ1 = .next ρ2 ∨ b ρ1 = .cont ρ2) ∧ st (i + 1) ρ2) :
    ∃ ρ', forL g b (natsD n) ρ = .next ρ' ∧ st n ρ' := by
  have := forL_range (g := g) (b := b) st 0 n ρ h0 fun i ρ hi q => by
    rw [Int.zero_add]
    exact hs i ρ hi q
  have e : ((List.range n).map fun (i : Nat) => PyData.int (0 + (i : Int))) = natsD n := by
    unfold natsD
    congr 1
    funext i
    rw [Int.zero_add]
  rw [e] at this
  exact this
/-! ### lower -/
def low (c : Nat) : Nat := if 65 ≤ c ∧ c ≤ 90 then c + 32 else c
def Asc (l : List Nat) : Prop := ∀ c ∈ l, c < 128
theorem Asc.cps {l : List Nat} (h : Asc l) : Cps l := fun c hc => Nat.lt_trans (h c hc) (by decide)
theorem lowerD_S {a : List Nat} (h : Asc a) : lowerD (tx a) [] = lm a.length (tx (a.map low)) := by
  show lm (S a).length (PyData.str (Txt.lower (S a))) = _
  rw [S_len, PyProof.Rows.lower_ascii (x := S a) (fun c hc => h c (by simpa using hc))]
  congr 2
  show (⟨a.toArray.map PyProof.Rows.lo1⟩ : Str) = ⟨(a.map low).toArray⟩
  rw [List.map_toArray]
  rfl
end FF

namespace FF
open PySem L2
/-! ### join, list of a text, str of a number -/
def joinD : D → List D → Option D
  | .str a, [.list ds] => match strs' ds with
    | some ys => if (ys.map (·.length)).sum + ys.length * a.length ≤ 1000000 then some (.str (Txt.join a ys)) else none
    | none => none
  | _, _ => none
def strD : List D → Option D
  | [.int i] => if i.natAbs.log2 < 1920 then some (.str (toString i)) else none
  | _ => none
def lstD2 : List D → Option D
  | [.str z] => lm z.length (.list (signs z))
  | xs => lstD xs
section
variable {X : Cx} {Kf : PySem.W.Frag} {G H : Hp}
theorem mtm_join : MtMd X "str" "str.join" joinD := ⟨_, mt_join, fun G H x xs a as d Q s r rs e q => by
  cases r with
  | str x =>
    cases rs with
    | nil => cases e
    | cons r1 rs =>
      cases r1 with
      | lst ha hr =>
        rename_i ad vs ds
        cases rs with
        | cons _ _ => cases e
        | nil =>
          have e : (match strs' ds with
            | some ys => if (ys.map (·.length)).sum + ys.length * x.length ≤ 1000000 then some (PyData.str (Txt.join x ys)) else none
            | none => none) = some d := e
          cases es : strs' ds with
          | none => rw [es] at e; cases e
          | some ys =>
            rw [es] at e
            have e : (if (ys.map (·.length)).sum + ys.length * x.length ≤ 1000000 then some (PyData.str (Txt.join x ys)) else none) = some d := e
            split at e
            · rename_i hl
              cases e
              have ev := rep_strs hr es
              subst ev
              exact ⟨x, ad, ys, rfl, rfl, .inl (s.sq ha), by omega, q.at s (.str _)⟩
            · cases e
      | _ => cases rs <;> cases e
  | _ => cases rs with
    | nil => cases e
    | cons r1 rs => cases e⟩
theorem callm_str : CallM X (.type "str") strD := ⟨_, call_str_int, fun G H xs as d Q s r e q => by
  cases r with
  | nil => cases e
  | cons r rs =>
    cases rs with
    | cons _ _ => cases r <;> cases e
    | nil =>
      cases r with
      | int i =>
        have e : (if i.natAbs.log2 < 1920 then some (PyData.str (toString i)) else none) = some d := e
        split at e
        · cases e
          rename_i hi
          exact ⟨i, rfl, hi, q.at s (.str _)⟩
        · cases e
      | _ => cases e⟩
theorem vals_signs {z : Str} {acc : Array Value} (h : ItemsOf (SignAt z) acc z.cps.size) : Vals (z.cps.toList.map fun c => V.str ⟨#[c]⟩) acc.toList := by
  obtain ⟨h1, h2⟩ := h
  have key : ∀ (l : List Nat) (vs : List Value), l.length = vs.length → (∀ (j : Nat) c v, l[j]? = some c → vs[j]? = some v → ∃ u, v = .str ⟨#[c]⟩ u) → Vals (l.map fun c => V.str ⟨#[c]⟩) vs := by
    intro l
    induction l with
    | nil =>
      intro vs hl _
      cases vs with
      | nil => exact .nil
      | cons _ _ => cases hl
    | cons c l ih =>
      intro vs hl h
      cases vs with
      | nil => cases hl
      | cons v vs =>
        obtain ⟨u, hu⟩ := h 0 c v rfl rfl
        exact .cons ⟨u, hu⟩ (ih vs (by simpa using hl) fun j c v e1 e2 => h (j + 1) c v (by simpa using e1) (by simpa using e2))
  refine key _ _ (by simp [h1]) fun j c v e1 e2 => ?_
  obtain ⟨c', u, e3, rfl⟩ := h2 j v (by rw [← Array.getElem?_toList]; exact e2)
  rw [← Array.getElem?_toList, e1] at e3
  cases e3
  exact ⟨u, rfl⟩
theorem call_list_txt (hc : X.calm = true) : CallR X (.type "list") (fun xs H Q => ∃ z : Str, xs = [.str z] ∧ z.cps.size ≤ sizeLine ∧ ∀ l, H l = none → Q (.ref l) (upd H l (.lst (z.cps.toList.map fun c => V.str ⟨#[c]⟩)))) := by
  intro pins s σ H xs us Q I r h
  obtain ⟨z, rfl, hz, q⟩ := h
  obtain ⟨u, rfl, t, rfl⟩ := vals1 r
  refine call_list_str (I.ok.hd hc) z t (fun h' tk acc' c' kp e it => ?_) hz
  refine ⟨.ref s.heap.objs.size, _, I.laid (t' := tk) kp (Nat.le_refl _) (show ObjOk X.prog X.w _ h' _ (.lst _) from ⟨by simpa using hz, acc'.toList, c', vals_signs it, by simpa using e⟩), rfl, q _ (I.hok.fresh (Nat.le_refl _))⟩
theorem repL_signs (z : Str) : RepL Kf G (z.cps.toList.map fun c => V.str ⟨#[c]⟩) (signs z) := by
  unfold signs
  generalize z.cps.toList = l
  induction l with
  | nil => exact .nil
  | cons c l ih => exact .cons (.str _) ih
theorem callm_list2 (hc : X.calm = true) : CallM X (.type "list") lstD2 := by
  obtain ⟨r1, c1, k1⟩ := callm_list (X := X)
  refine ⟨_, c1.or (call_list_txt hc), fun G H xs as d Q s r e q => ?_⟩
  by_cases hz : ∃ z, as = [.str z]
  · obtain ⟨z, rfl⟩ := hz
    obtain ⟨hl, rfl⟩ := lm_some (show lm z.length (PyData.list (signs z)) = some d from e)
    cases r with
    | cons r rs =>
      cases rs
      cases r
      refine .inr ⟨z, rfl, Nat.le_trans hl (by decide), fun p hp => ?_⟩
      have st := Step.new (o := .lst (z.cps.toList.map fun c => V.str ⟨#[c]⟩)) s hp trivial
      exact q _ _ _ st (.lst (SqL.of upd_same) (repL_signs z))
  · refine .inl (k1 G H xs as d Q s r ?_ q)
    have : lstD2 as = lstD as := by
      unfold lstD2
      split
      · rename_i z
        exact absurd ⟨z, rfl⟩ hz
      · rfl
    rw [← this]
    exact e
/-! ### what is raised -/
structure ExcAt (K : PySem.W.Frag) (mg : Str → Option Value) (x : Str) : Prop where
  ex : ∃ (C : Addr) (B newId initId : String) (bmB : List Value), mg x = some (.ref C) ∧ PySem.ExcBaseFacts B newId initId bmB ∧ PySem.W.excIn K C bmB newId = true ∧ PySem.W.keepIn K (.ref C) = true ∧
    PySem.W.subIn K (.ref C) (.type "BaseException") = some true ∧ PySem.W.typeIn K (.ref C) = some (.type "type")
def sRaise (x : Str) : MSt := fun ρ => .exn x ρ
theorem ms_raise {W : WX} {x m : Str} {j : Nat} {p p2 pos pos' : Pos} (E : ExcAt X.K X.mg x) (hc : X.calm = true) (tk : L2N.Takes X W) (hg : Gl X x) (hdb : (x == ("__debug__" : Str)) = false := by decide) :
    MS X W (.Raise (some (.Call (.Name x p) [.Constant (.str m) j p2] [] pos)) none pos') (sRaise x) := by
  obtain ⟨C, B, newId, initId, bmB, gC, F, q, kC, h1, h2⟩ := E.ex
  exact ⟨_, L2N.ps_raise hc tk (L2N.pmk_own F q gC kC (raises_own h1 h2) hg hdb), fun G0 H0 σ G H ρ E r h => h σ G H C r gC⟩
end
section
variable {K : PySem.W.Frag} {h : Heap} {mg : Str → Option Value} {C : Prop}
theorem withExc {x : Str} {c : Addr} (X : K.In h) (G : h.Ns mainGlobals mg) (a : PySem.W.nsIn K mainGlobals x = some (some (.ref c))) (q : ∃ (B newId initId : String) (bmB : List Value), PySem.ExcBaseFacts B newId initId bmB ∧ PySem.W.excIn K c bmB newId = true)
    (k1 : PySem.W.keepIn K (.ref c) = true) (s : PySem.W.subIn K (.ref c) (.type "BaseException") = some true) (t : PySem.W.typeIn K (.ref c) = some (.type "type")) (k : ExcAt K mg x → C) : C :=
  let ⟨B, n, i, b, F, q⟩ := q
  k ⟨c, B, n, i, b, PySem.W.mg_of X G a, F, q, k1, s, t⟩
end
end FF

namespace FF
open PySem L2
/-! ### dicts: of whole numbers and texts; changed while they are a def's own, locked from then on -/
def keyOf : D → Option Key
  | .int i => some (.inl i)
  | .str x => some (.inr x)
  | _ => none
def lookK (kvs : List (D × D)) (k : Key) : Option D := (kvs.find? fun p => decide (keyOf p.1 = some k)).map (·.2)
def dgetD : D → D → Option D
  | .dict kvs, d => (keyOf d).bind fun k => lookK kvs k
  | _, _ => none
def dinD : D → D → Option D
  | d, .dict kvs => (keyOf d).map fun k => .bool (lookK kvs k).isSome
  | _, _ => none
def keysOf : D → R (List D)
  | .dict kvs => .ok (kvs.map (·.1))
  | _ => .bad
def iKeysD (m : Env → R D) : Env → R (List D) := fun ρ => (m ρ).bind keysOf
def deqnD : D → Option D
  | .dict kvs => some (.bool kvs.isEmpty)
  | _ => none
/-- in its place, or at the end -/
def putD (kvs : List (Key × D)) (k : Key) (d : D) : List (Key × D) :=
  if (kvs.any fun kv => decide (kv.1 = k)) = true then kvs.map (fun kv => if kv.1 = k then (kv.1, d) else kv) else kvs ++ [(k, d)]
def sOdc (i : Nat) : MSt := fun ρ => .next (ρ.set i (.odc []))
def sDPut (i : Nat) (j e : Env → R D) : MSt := fun ρ => liftS ρ (e ρ) fun d => match ρ[i]? with
  | some (.odc kvs) => liftS ρ (j ρ) fun kd => match keyOf kd with
    | some k => if kvs.length ≤ 1000000 then .next (ρ.set i (.odc (putD kvs k d))) else .bad
    | none => .bad
  | _ => .bad
abbrev pairsD (kvs : List (Key × D)) : List (D × D) := kvs.map fun x => (kD x.1, x.2)
def fixD (i : Nat) (ρ : Env) : Env := match ρ[i]? with
  | some (.odc kvs) => ρ.set i (.val (.dict (pairsD kvs)))
  | _ => ρ
def sFixedD (i : Nat) (m : MSt) : MSt := fun ρ => m (fixD i ρ)
section
variable {Kf : PySem.W.Frag} {X : Cx} {W : WX} {G H G1 H1 G0 H0 : Hp} {σ : L2.St} {ρ : Env}
theorem keyOf_kD (k : Key) : keyOf (kD k) = some k := by cases k <;> rfl
theorem rep_key {v : V} {d : D} {k : Key} (r : Rep Kf G v d) (e : keyOf d = some k) : v = kV k := by
  cases r <;> cases e <;> rfl
theorem rep_kD (k : Key) : Rep Kf G (kV k) (kD k) := by
  cases k with
  | inl i => exact .int i
  | inr x => exact .str x
theorem repK_look {k : Key} : ∀ {ws : List (Key × V)} {ds : List (D × D)}, RepK Kf G ws ds → (∀ d, lookK ds k = some d → ∃ v, valV ws k = some v ∧ Rep Kf G v d) ∧ (valV ws k).isSome = (lookK ds k).isSome
  | _, _, .nil => ⟨fun d h => (by cases h), rfl⟩
  | _, _, .cons (k := k0) (v := v0) (d := d0) h r => by
    obtain ⟨ih1, ih2⟩ := repK_look (k := k) r
    by_cases hk : k0 = k
    · have e1 : ∀ ws, valV ((k0, v0) :: ws) k = some v0 := fun ws => valV_pos hk
      have e2 : ∀ ds, lookK ((kD k0, d0) :: ds) k = some d0 := fun ds => by
        unfold lookK
        rw [List.find?_cons_of_pos (by rw [keyOf_kD, hk]; simp)]
        rfl
      refine ⟨fun d hd => ?_, by rw [e1, e2]; rfl⟩
      rw [e2] at hd
      cases hd
      exact ⟨_, e1 _, h⟩
    · have e1 : ∀ ws, valV ((k0, v0) :: ws) k = valV ws k := fun ws => valV_neg hk
      have e2 : ∀ ds, lookK ((kD k0, d0) :: ds) k = lookK ds k := fun ds => by
        unfold lookK
        rw [List.find?_cons_of_neg (by rw [keyOf_kD]; simpa using hk)]
      rw [e1, e2]
      exact ⟨ih1, ih2⟩
theorem repK_len : ∀ {ws : List (Key × V)} {ds : List (D × D)}, RepK Kf G ws ds → ws.length = ds.length
  | _, _, .nil => rfl
  | _, _, .cons _ r => by rw [List.length_cons, List.length_cons, repK_len r]
theorem repK_get : ∀ {ws : List (Key × V)} {ds : List (D × D)} {i : Nat} {d : D}, RepK Kf G ws ds → (ds.map (·.1))[i]? = some d → ∃ k v, ws[i]? = some (k, v) ∧ d = kD k
  | _, _, _, _, .nil, h => by simp at h
  | _, _, 0, _, .cons _ _, h => by simp at h; exact ⟨_, _, rfl, h.symm⟩
  | _, _, i + 1, _, .cons _ r, h => by
    obtain ⟨k, v, e1, e2⟩ := repK_get (i := i) r (by simpa using h)
    exact ⟨k, v, by simpa using e1, e2⟩
theorem repK_app : ∀ {ws us : List (Key × V)} {ds es : List (D × D)}, RepK Kf G ws ds → RepK Kf G us es → RepK Kf G (ws ++ us) (ds ++ es)
  | _, _, _, _, .nil, s => s
  | _, _, _, _, .cons h r, s => .cons h (repK_app r s)
theorem repK_any {k : Key} : ∀ {ws : List (Key × V)} {kvs : List (Key × D)}, RepK Kf G ws (pairsD kvs) → (ws.any fun kv => decide (kv.1 = k)) = (kvs.any fun kv => decide (kv.1 = k)) := by
  intro ws kvs
  induction kvs generalizing ws with
  | nil => intro r; cases r; rfl
  | cons p kvs ih =>
    intro r
    obtain ⟨k0, d0⟩ := p
    generalize hz : pairsD ((k0, d0) :: kvs) = zs at r
    cases r with
    | nil => cases hz
    | cons h r =>
      rename_i k1 v1 ws d1 ds
      simp only [pairsD, List.map_cons, List.cons.injEq, Prod.mk.injEq] at hz
      obtain ⟨⟨hk, hd⟩, hz⟩ := hz
      have : k0 = k1 := by
        have := congrArg keyOf hk
        rw [keyOf_kD, keyOf_kD] at this
        exact Option.some.inj this
      subst this
      subst hz
      rw [List.any_cons, List.any_cons, ih r]
theorem repK_map {k : Key} {v : V} {d : D} (hv : Rep Kf G v d) : ∀ {ws : List (Key × V)} {kvs : List (Key × D)}, RepK Kf G ws (pairsD kvs) → RepK Kf G (ws.map fun kv => if kv.1 = k then (kv.1, v) else kv) (pairsD (kvs.map fun kv => if kv.1 = k then (kv.1, d) else kv)) := by
  intro ws kvs
  induction kvs generalizing ws with
  | nil => intro r; cases r; exact .nil
  | cons p kvs ih =>
    intro r
    obtain ⟨k0, d0⟩ := p
    generalize hz : pairsD ((k0, d0) :: kvs) = zs at r
    cases r with
    | nil => cases hz
    | cons h r =>
      rename_i k1 v1 ws d1 ds
      simp only [pairsD, List.map_cons, List.cons.injEq, Prod.mk.injEq] at hz
      obtain ⟨⟨hk, hd⟩, hz⟩ := hz
      have : k0 = k1 := by
        have := congrArg keyOf hk
        rw [keyOf_kD, keyOf_kD] at this
        exact Option.some.inj this
      subst this
      subst hz
      subst hd
      have ih := ih r
      by_cases hk2 : k0 = k
      · simp only [pairsD, List.map_cons, if_pos hk2]
        exact .cons hv ih
      · simp only [pairsD, List.map_cons, if_neg hk2]
        exact .cons h ih
theorem repK_put {k : Key} {v : V} {d : D} (hv : Rep Kf G v d) {ws : List (Key × V)} {kvs : List (Key × D)} (r : RepK Kf G ws (pairsD kvs)) : RepK Kf G (putK ws k v) (pairsD (putD kvs k d)) := by
  unfold putK putD
  rw [repK_any (k := k) r]
  split
  · exact repK_map hv r
  · rw [pairsD, List.map_append]
    exact repK_app r (.cons hv .nil)
/-! locks -/
theorem pe_lockA {e : Expr} {t : TE} (h : PE X e t) : PE X e (fun σ H Q => t σ H fun v H1 => ∃ d u, H1 d = some u ∧ Mut (some u) ∧ ∀ od, Q v (upd H1 d (.frz od u))) :=
  ⟨fun pins s σ H Q I hw => thn (h.run pins s σ H _ I hw) fun v s1 ⟨x, H1, I1, r, d, u, hd, mu, q⟩ => by
    obtain ⟨od, I2⟩ := I1.lock hd mu
    exact ⟨x, _, I2, r, q od⟩⟩
theorem pss_lockB {st : List Stmt} {t : TS} (h : PSs X st t) : PSs X st (fun D σ H => t D σ H ∨ ∃ d u, H d = some u ∧ Mut (some u) ∧ ∀ od, t D σ (upd H d (.frz od u))) :=
  ⟨fun pins s σ H D I hw => by
    rcases hw with hw | ⟨d, u, hd, mu, hw⟩
    · exact h.run pins s σ H D I hw
    · obtain ⟨od, I2⟩ := I.lock hd mu
      exact h.run pins s σ _ D I2 (hw od)⟩
theorem me_dnil {pos : Pos} : ME X W (.Dict [] [] pos) (eC (.dict [])) := by
  refine ⟨_, pe_lockA pe_dnewK, fun σ G H ρ Q re h => fun p hp => ⟨p, _, upd_same, trivial, fun od => ?_⟩⟩
  have e : upd (upd H p (.dK [])) p (.frz od (.dK [])) = upd H p (.frz od (.dK [])) := by
    funext a
    by_cases ha : a = p
    · subst ha; rw [upd_same, upd_same]
    · rw [upd_ne ha, upd_ne ha, upd_ne ha]
  rw [e]
  have st := Step.new (o := .frz od (.dK [])) re.s hp trivial
  exact h _ _ _ st (.dct upd_same .nil)
/-! reading -/
variable {a b : Expr} {ma mb : Env → R D} {pos : Pos}
theorem me_dget (hu : X.A.units + 1 < cLine) (ha : ME X W a ma) (hb : ME X W b mb) (hs : NoSl b := by intro _ _; rfl) : ME X W (.Subscript a b pos) (eBin dgetD ma mb) := by
  obtain ⟨t, pt, ht⟩ := ha.ex
  obtain ⟨u, pu, hu2⟩ := hb.ex
  refine ⟨_, pe_dget hu pt pu hs, fun σ G H ρ Q re h => ?_⟩
  refine ht σ G H ρ _ re (h.bind.imp fun x _ h1 => fun v G1 H1 s1 r1 => ?_)
  refine hu2 σ G1 H1 ρ _ (re.step s1) ((h1.bind.step s1 fun _ z => z).imp fun y _ h2 => fun v2 G2 H2 s2 r2 => ?_)
  obtain ⟨d, e, q⟩ := h2.lft
  have r1 := r1.mono (.of s2.g)
  cases r1 with
  | dct ha hr =>
    have e : (keyOf y).bind (fun k => lookK _ k) = some d := e
    cases ek : keyOf y with
    | none => rw [ek] at e; cases e
    | some k =>
      rw [ek] at e
      have e : lookK _ k = some d := e
      obtain ⟨v3, e3, r3⟩ := (repK_look (k := k) hr).1 d e
      exact ⟨_, v3, rfl, .inl ⟨_, k, .inr ⟨_, s2.s.frz ha⟩, rep_key r2 ek, e3.symm⟩, q v3 G2 H2 (s1.trans s2) r3⟩
  | _ => cases e
theorem thru_keys {p : Addr} {o : Obj} {ws : List (Key × V)} {ds : List (D × D)} (h : G1 p = some (.frz o (.dK ws))) (r : RepK Kf G1 ws ds) : Thru Kf G1 H1 (Itk p o ws) (ds.map (·.1)) := fun G H e s _ => by
  have hf := s.frz (e _ _ h)
  refine ⟨fun i d ed => ?_, hf, by rw [repK_len r, List.length_map]; exact Nat.le_refl _⟩
  obtain ⟨k, v, e1, rfl⟩ := repK_get r ed
  refine ⟨⟨hf, (List.getElem?_eq_some_iff.mp e1).1⟩, fun x H' y => ?_⟩
  obtain ⟨eH, k', v', e2, rfl⟩ := y
  subst eH
  rw [e1] at e2
  cases e2
  exact ⟨G, .refl s, rep_kD k⟩
theorem mi_keys {tg l : Expr} {ml : Env → R D} (hl : ME X W l ml) : MI X W tg l (iKeysD ml) := by
  obtain ⟨t, pt, ht⟩ := hl.ex
  refine ⟨_, pi_keys pt, fun σ G H ρ Q re h => ?_⟩
  refine ht σ G H ρ _ re (h.bind.imp fun x _ h1 => fun v G1 H1 s1 r1 => ?_)
  cases r1 with
  | dct ha hr =>
    have h1 : OkI X.K G H Q _ := h1
    exact ⟨_, _, rfl, .inl ⟨_, s1.s.frz ha, h1 _ G1 H1 s1 (thru_keys ha hr)⟩⟩
  | _ => exact h1.elim
theorem op_eq_dnil (hu : X.A.units < cLine) : OpR X (compareOp .Eq) (fun x y H Q => ∃ a b kvs, x = .ref a ∧ y = .ref b ∧ Rd H a (.dK kvs) ∧ Rd H b (.dK []) ∧ Q (.bl kvs.isEmpty) H) := by
  intro pins s σ H x y v u Q I rx ry h
  obtain ⟨a, b, kvs, rfl, rfl, ea, eb, q⟩ := h
  obtain rfl : v = Value.ref a := rx
  obtain rfl : u = Value.ref b := ry
  obtain ⟨_, ya, va, ra, da⟩ := dk_rd I.hok ea
  obtain ⟨_, yb, vb, rb, db⟩ := dk_rd I.hok eb
  cases rb
  have hl : kvs.length = va.length := Paired.length ra
  refine PySem.W.keq_eq (knd := mixKind X.prog X.w) (r := true) ya yb da db hu (fun hz => ?_) (fin_bl I q ?_)
  · have : va = [] := List.length_eq_zero_iff.mp hz
    subst this
    exact .nil
  · cases kvs with
    | nil => cases va with
      | nil => rfl
      | cons => cases hl
    | cons => cases va with
      | nil => cases hl
      | cons => rfl
theorem mt_deqn {p2 : Pos} (hu : X.A.units < cLine) (ha : ME X W a ma) : MT X W (.Compare a [.Eq] [.Dict [] [] p2] pos) (tVal (eUn deqnD ma)) := by
  obtain ⟨t, pt, ht⟩ := ha.ex
  refine ⟨_, pt_cmpR (op_eq_dnil hu) pt pe_dnewK (nomark _), fun σ G H ρ Q re h => ?_⟩
  refine ht σ G H ρ _ re (h.bind.bind.imp fun x _ h1 => fun v G1 H1 s1 r1 => fun p hp => ?_)
  cases r1 with
  | dct ha hr =>
    rename_i o ws ds _
    have st := Step.new (o := .dK []) s1.s hp trivial
    have h1 : OkB G H Q ds.isEmpty := h1
    have e : ws.isEmpty = ds.isEmpty := by cases hr <;> rfl
    refine ⟨_, _, ws, rfl, rfl, .inr ⟨o, ?_⟩, .inl upd_same, ws.isEmpty, rfl, ?_⟩
    · rw [upd_ne (ne_of_none (s1.s.frz ha) hp)]
      exact s1.s.frz ha
    · rw [e]
      exact h1 _ _ (s1.trans st)
  | _ => exact h1.elim
/-! changing -/
theorem ms_odc {i : Nat} {x : Str} {pos' dp : Pos} (hN : X.N.Nodup) (hi : X.N[i]? = some x) (hx : Loc X.env.scope x) (hs : swapsWith (.Dict [] [] dp) (some (.Name x pos')) pos.line X.env = pure false := by rfl)
    (hf : X.fn x = true ∨ X.env.scope.names.lookup x = some .local := by first | exact .inl rfl | exact .inr rfl | assumption) : MS X W (.Assign [.Name x pos'] (.Dict [] [] dp) pos) (sOdc i) := by
  refine ⟨_, ps_set hN hi hx pe_dnewK hs hf, fun G0 H0 σ G H ρ E r h => fun p hp => ?_⟩
  have r2 := r.ownNew (x := .odc []) (u := .dK []) i hp trivial ⟨p, [], rfl, r.re.s.none hp, upd_same, .nil⟩
  exact h _ _ _ r2
theorem ms_dput {i : Nat} {o j e : Expr} {ppos : Pos} {mj me : Env → R D} (hu : X.A.units + 1 < cLine) (ho : PE X o (tVar i)) (hj : ME X W j mj) (he : ME X W e me) (hs : swapsWith e (some (.Subscript o j ppos)) pos.line X.env = pure false := by rfl) :
    MS X W (.Assign [.Subscript o j ppos] e pos) (sDPut i mj me) := by
  obtain ⟨t, pt, ht⟩ := he.ex
  obtain ⟨u, pu, hu2⟩ := hj.ex
  refine ⟨_, ps_dput hu ho pu pt hs, fun G0 H0 σ G H ρ E r h => ?_⟩
  refine ht σ G H ρ _ r.re ((PostS.lift r h).imp fun d _ h2 => fun v G1 H1 s1 rv => ?_)
  have r' := r.step s1
  cases ei : ρ[i]? with
  | none => rw [ei] at h2; exact h2.elim
  | some x =>
    rw [ei] at h2
    cases x with
    | no => exact h2.elim
    | obj _ => exact h2.elim
    | val d => exact h2.elim
    | own d => exact h2.elim
    | odc kvs =>
      obtain ⟨p, ws, e1, n1, hp1, r1⟩ := r'.re.sl i _ ei
      refine ⟨_, e1, ?_⟩
      refine hu2 σ G1 H1 ρ _ r'.re ((PostS.lift r' h2).imp fun k _ h3 => fun kv G2 H2 s2 rk => ?_)
      have r2 := r'.step s2
      cases ek : keyOf k with
      | none => rw [ek] at h3; exact h3.elim
      | some key =>
        rw [ek] at h3
        have h3 : PostS X W G0 H0 E (if kvs.length ≤ 1000000 then .next (ρ.set i (.odc (putD kvs key d))) else .bad) := h3
        by_cases hl : kvs.length ≤ 1000000
        · rw [if_pos hl] at h3
          have g2 : G2 p = none := by rw [s2.k p (by rw [hp1]; exact fun z => by cases z), n1]
          have hp2 := s2.h _ _ hp1
          have rr := repK_put (k := key) (rv.mono (.of s2.g)) (r1.mono (.of s2.g))
          have hlen : ws.length = kvs.length := by rw [repK_len r1, List.length_map]
          have r3 := r2.ownUpd (y := .odc (putD kvs key d)) (u := .dK (putK ws key v)) ei rfl e1 rfl trivial g2 ⟨p, _, rfl, g2, upd_same, rr⟩
          exact ⟨p, _, rfl, .inl ⟨ws, key, hp2, rep_key rk ek, by rw [hlen]; exact Nat.lt_of_le_of_lt hl (by decide), rfl⟩, h3 _ _ _ r3⟩
        · rw [if_neg hl] at h3
          exact h3.elim
theorem Step.frzAt {p : Addr} {o : Obj} {u u' : HO} (s : Step G0 H0 G H) (h0 : H0 p = none) (hg : G p = none) (h : H p = some u') : Step G0 H0 (upd G p (.frz o u)) (upd H p (.frz o u)) :=
  ⟨fun a q e => by
    have n : a ≠ p := fun z => by
      subst z
      have := s.g a q e
      rw [hg] at this
      cases this
    rw [upd_ne n]
    exact s.g a q e, fun a q e => by
    by_cases n : a = p
    · subst n
      rw [upd_same] at e ⊢
      exact .inl e
    · rw [upd_ne n] at e ⊢
      exact s.s a q e, fun a q e => by
    have n : a ≠ p := fun z => by rw [z, h0] at e; cases e
    rw [upd_ne n]
    exact s.h a q e, fun a ha => by
    have n : a ≠ p := fun z => by subst z; exact ha h0
    rw [upd_ne n]
    exact s.k a ha⟩
theorem Rl.lockAt {p : Addr} {ws : List (Key × V)} {i : Nat} {kvs : List (Key × D)} (r : Rl Kf G0 H0 σ G H ρ) (e : ρ[i]? = some (.odc kvs)) (eσ : σ[i]? = some (some (.ref p))) (hg : G p = none) (h : H p = some (.dK ws)) (rk : RepK Kf G ws (pairsD kvs)) (od : Obj) :
    Rl Kf G0 H0 σ (upd G p (.frz od (.dK ws))) (upd H p (.frz od (.dK ws))) (ρ.set i (.val (.dict (pairsD kvs)))) := by
  have hp0 := r.fresh i _ p e rfl eσ
  have hi : i < ρ.length := (List.getElem?_eq_some_iff.mp e).1
  have st := r.st.frzAt (o := od) (u := .dK ws) hp0 hg h
  have gx : Ext G (upd G p (.frz od (.dK ws))) := .new hg
  have ne : ∀ j, i ≠ j → ∀ z, ρ[j]? = some z → isOwn z = true → ∀ q, σ[j]? = some (some (.ref q)) → q ≠ p := fun j hj z ez oz q eq hq => by
    subst hq
    exact r.dis i j _ z q hj e ez rfl oz eσ eq
  refine ⟨st, ⟨st.s, by rw [List.length_set, r.re.len], fun j z ez => ?_⟩, fun j z q ez oz eq => ?_, fun j l z w q n ej el oj ol qj ql => ?_⟩
  · by_cases hj : i = j
    · subst hj
      rw [List.getElem?_set_self hi] at ez
      cases ez
      exact ⟨_, eσ, .dct upd_same (rk.mono (.of gx))⟩
    · rw [get_set_ne hj] at ez
      have so := r.re.sl j z ez
      cases z with
      | no => trivial
      | obj _ => trivial
      | val d =>
        obtain ⟨v, e1, r1⟩ := so
        exact ⟨v, e1, r1.mono (.of gx)⟩
      | own ds =>
        obtain ⟨q, vs, e1, n1, h1, r1⟩ := so
        exact ⟨q, vs, e1, by rw [upd_ne (ne j hj _ ez rfl q e1)]; exact n1, by rw [upd_ne (ne j hj _ ez rfl q e1)]; exact h1, r1.mono (.of gx)⟩
      | odc ds =>
        obtain ⟨q, vs, e1, n1, h1, r1⟩ := so
        exact ⟨q, vs, e1, by rw [upd_ne (ne j hj _ ez rfl q e1)]; exact n1, by rw [upd_ne (ne j hj _ ez rfl q e1)]; exact h1, r1.mono (.of gx)⟩
  · by_cases hj : i = j
    · subst hj
      rw [List.getElem?_set_self hi] at ez
      cases ez
      cases oz
    · rw [get_set_ne hj] at ez
      exact r.fresh j z q ez oz eq
  · by_cases hj : i = j
    · subst hj
      rw [List.getElem?_set_self hi] at ej
      cases ej
      cases oj
    · by_cases hl : i = l
      · subst hl
        rw [List.getElem?_set_self hi] at el
        cases el
        cases ol
      · rw [get_set_ne hj] at ej
        rw [get_set_ne hl] at el
        exact r.dis j l z w q n ej el oj ol qj ql
theorem mss_fixD {rest : List Stmt} {m : MSt} (i : Nat) (h : MSs X W rest m) : MSs X W rest (sFixedD i m) := by
  obtain ⟨t, pt, ht⟩ := h.ex
  refine ⟨_, pss_lockB pt, fun G0 H0 σ G H ρ E r h => ?_⟩
  unfold sFixedD fixD at h
  cases ei : ρ[i]? with
  | none => rw [ei] at h; exact .inl (ht G0 H0 σ G H ρ E r h)
  | some x =>
    rw [ei] at h
    cases x with
    | no => exact .inl (ht G0 H0 σ G H ρ E r h)
    | obj _ => exact .inl (ht G0 H0 σ G H ρ E r h)
    | val d => exact .inl (ht G0 H0 σ G H ρ E r h)
    | own d => exact .inl (ht G0 H0 σ G H ρ E r h)
    | odc kvs =>
      obtain ⟨p, ws, e1, n1, hp1, r1⟩ := r.re.sl i _ ei
      exact .inr ⟨p, _, hp1, trivial, fun od => ht G0 H0 σ _ _ _ E (r.lockAt ei e1 n1 hp1 r1 od) h⟩
end
end FF

namespace FF
open PySem PySem.Spec PyProof.Rows L2
/-! ### enumerate(text), zip(text, list) -/
section
variable {Kf : PySem.W.Frag} {X : Cx} {W : WX} {G H G1 H1 : Hp}
/-- pairs of numbers and signs, each new -/
def ItEs (x : Str) : It :=
  ⟨fun i _ => i < x.cps.size, fun i H v H' => ∃ T c, v = .ref T ∧ H T = none ∧ H' = upd H T (.tup [.int (i : Nat), .str ⟨#[c]⟩]) ∧ x.cps[i]? = some c, fun i _ => x.cps.size ≤ i⟩
theorem turn_enumS {P : Program} {w : World} {K : PySem.W.Frag} {elts : List Expr} {kk : Nat} {tpos : Pos} (x : Str) (t : Tok) (e it : Addr) (hei : e ≠ it) :
    Turn P w K (.Tuple elts kk tpos) (ItEs x) [e, it] e (fun i h => i ≤ x.cps.size ∧ (∃ old, IsEnum h e it (0 + (i : Int)) old) ∧ h.IsStrIter it (strIterType x) x t i) where
  mem := by simp
  obj := fun i h st b hb => by
    obtain ⟨_, ⟨old, he⟩, o, ho, hc, hd⟩ := st
    have e' : b = e ∨ b = it := by simpa using hb
    rcases e' with z | z
    · rw [z]; exact ⟨_, he, fun v q => nomatch q⟩
    · rw [z]; exact ⟨o, ho, fun v q => by rw [hd] at q; cases q⟩
  keep := fun i h h' st k => by
    obtain ⟨hle, ⟨old, he⟩, o, ho, r⟩ := st
    exact ⟨hle, ⟨old, k e (by simp) _ he⟩, o, k it (by simp) o ho, r⟩
  item := by
    intro X hP hw hK hc i pins s σ H E I hf st hg
    subst hP hw hK
    obtain ⟨_, st⟩ := st
    have Wk := WalksT.enumFrom (prog := X.prog) (w := X.w) (A := X.A) 0 (Draws.text (A := X.A.in1) (by first | exact I.ok.hd hc | simpa using I.ok.hd hc) it x t) e hei (by simpa using hei) (by simp)
    refine Wk.item i s _ _ hg st fun T vals h' tk hP hT hTup mid kk2 => ⟨_, rfl, Wk.go elts kk tpos i T { s with heap := h', toks := tk } _ _ mid fun h'' st' kk3 => ?_⟩
    obtain ⟨t', y, ⟨c, u, hcx, rfl⟩, rfl⟩ := hP
    have hTn := Wk.apart i T h' mid
    have hTup2 := hTup.at fun o q => kk3 T o hTn q
    have ei : (0 : Int) + (i : Int) = ((i : Nat) : Int) := by omega
    rw [ei] at hTup2
    have new : ObjOk X.prog X.w (upd H T (.tup [.int (i : Nat), .str ⟨#[c]⟩])) h'' T (.tup [.int (i : Nat), .str ⟨#[c]⟩]) :=
      ⟨by show 2 ≤ sizeLine; decide, [.int ((i : Nat) : Int) t', .str ⟨#[c]⟩ u], .cons ⟨_, rfl⟩ (.cons ⟨_, rfl⟩ .nil), hTup2⟩
    have I1 : Inv X pins σ (upd H T (.tup [.int (i : Nat), .str ⟨#[c]⟩])) { s with heap := h'', toks := tk } :=
      I.turnedNew (ch := [e, it]) (fun b o hb q => kk3 b o (by simpa using hb) (kk2 b o (by simpa using hb) q)) hf hT new
    refine ⟨.ref T, _, I1, rfl, ⟨T, c, rfl, I.hok.fresh hT, rfl, hcx⟩, ⟨hg, st'⟩, fun b hb => ?_⟩
    have hb' : b < s.heap.objs.size := by
      obtain ⟨⟨old, he⟩, o, ho, r⟩ := st
      have e' : b = e ∨ b = it := by simpa using hb
      rcases e' with z | z
      · rw [z]; exact Heap.lt_size he
      · rw [z]; exact Heap.lt_size ho
    rw [upd_ne (Nat.ne_of_lt (Nat.lt_of_lt_of_le hb' hT))]
    exact (hf b hb).1
  done := by
    intro X hP hw hK hc i pins s σ H E I hf st hg
    subst hP hw hK
    have hsz : x.cps.size ≤ i := hg
    obtain ⟨hle, st⟩ := st
    have ei : i = x.cps.size := Nat.le_antisymm hle hsz
    subst ei
    have Wk := WalksT.enumFrom (prog := X.prog) (w := X.w) (A := X.A) 0 (Draws.text (A := X.A.in1) (by first | exact I.ok.hd hc | simpa using I.ok.hd hc) it x t) e hei (by simpa using hei) (by simp)
    exact Wk.done s _ _ st fun h' tk kk2 => ⟨rfl, I.turnedL (t' := tk) (ch := [e, it]) (fun b o hb q => kk2 b o (by simpa using hb) q) hf⟩
  self := fun A i s Q E st h => by
    obtain ⟨_, ⟨old, he⟩, _⟩ := st
    exact wpAny_pyIter_enum he h
def iEnumS (ta : TA) : TI := fun σ H R => ta σ H fun vs H1 => ∃ x, vs = [.str x] ∧ R (ItEs x) H1
theorem pi_enumS {e : Expr} {ta : TA} {p pos tpos : Pos} {elts : List Expr} {kk : Nat} (hg : Gl X "enumerate") (hm : X.mg "enumerate" = none) (ha : PA X [e] ta) (hs : starEach [e] X.env = [(false, eval e X.env)] := by rfl) :
    PI X (.Tuple elts kk tpos) (.Call (.Name "enumerate" p) [e] [] pos) (iEnumS ta) := by
  refine ⟨fun pins s σ H R I h => ?_⟩
  refine Call_ (ld_blt I hg hm boot_enumerate (PyProof.Rows.callWith_type1 (thn (ha.run pos pins s σ H _ I h) fun us s1 ⟨vs, H1, I1, r1, q1⟩ => ?_) hs rfl))
  obtain ⟨x, ex, q⟩ := q1
  subst ex
  cases r1 with
  | cons r rr =>
    cases rr
    obtain ⟨t, rfl⟩ := r
    refine call_enumerate_str fun h' he hit hsz hk => wpAny_pyIter_enum he ?_
    have I2 : Inv X pins σ H1 { s1 with heap := h' } := I1.kept (t' := s1.toks) hk
    refine ⟨s1.heap.objs.size + 1, [s1.heap.objs.size + 1, s1.heap.objs.size], _, _, H1, rfl, I2, turn_enumS x t (s1.heap.objs.size + 1) s1.heap.objs.size (Nat.succ_ne_self _), ⟨Nat.zero_le _, ⟨.none, by simpa using he⟩, hit⟩, fun b hb => ?_, q⟩
    have e' : b = s1.heap.objs.size + 1 ∨ b = s1.heap.objs.size := by simpa using hb
    have hle : s1.heap.objs.size ≤ b := by
      rcases e' with z | z
      · rw [z]; exact Nat.le_add_right _ _
      · rw [z]; exact Nat.le_refl _
    exact I1.fpOk hle (I1.hok.fresh hle)
theorem signs_get {x : Str} {i : Nat} {d : D} (h : (signs x)[i]? = some d) : ∃ c, x.cps[i]? = some c ∧ d = .str ⟨#[c]⟩ := by
  unfold signs at h
  rw [List.getElem?_map, Array.getElem?_toList] at h
  cases ec : x.cps[i]? with
  | none => rw [ec] at h; cases h
  | some c => rw [ec] at h; cases h; exact ⟨c, rfl, rfl⟩
theorem thru_enumS (x : Str) : Thru Kf G1 H1 (ItEs x) (enumD 0 (signs x)) := fun G H e s _ => by
  refine ⟨fun i d ed => ?_, by rw [enumD_len, signs_len]; exact Nat.le_refl _⟩
  obtain ⟨y, ey, rfl⟩ := enumD_get _ _ _ _ ed
  obtain ⟨c, ec, rfl⟩ := signs_get ey
  refine ⟨(Array.getElem?_eq_some_iff.mp ec).1, fun v H' yd => ?_⟩
  obtain ⟨T, c', rfl, hT, rfl, ec'⟩ := yd
  rw [ec] at ec'
  cases ec'
  have st := Step.new (o := .tup [.int (i : Nat), .str ⟨#[c]⟩]) s hT trivial
  rw [Nat.zero_add]
  exact ⟨_, st, .tup upd_same (.cons (.int _) (.cons (.str _) .nil))⟩
def enumOfS : List D → Option (List D)
  | [.str x] => some (enumD 0 (signs x))
  | _ => none
def iEnS (ma : Env → R (List D)) : Env → R (List D) := fun ρ => (ma ρ).bind fun xs => lft (enumOfS xs)
theorem mi_enumS {e : Expr} {ma : Env → R (List D)} {p pos tpos : Pos} {elts : List Expr} {kk : Nat} (hg : Gl X "enumerate") (hm : X.mg "enumerate" = none) (ha : MA X W [e] ma) (hs : starEach [e] X.env = [(false, eval e X.env)] := by rfl) :
    MI X W (.Tuple elts kk tpos) (.Call (.Name "enumerate" p) [e] [] pos) (iEnS ma) := by
  obtain ⟨t, pt, ht⟩ := ha.ex
  refine ⟨_, pi_enumS hg hm pt hs, fun σ G H ρ Q re h => ?_⟩
  refine ht σ G H ρ _ re ((Post.bind h).imp fun xs _ h1 => fun v G1 H1 s1 r1 => ?_)
  obtain ⟨ds, e, q⟩ := h1.lft
  cases r1 with
  | nil => cases e
  | cons r1 rs =>
    cases rs with
    | cons _ _ => cases r1 <;> cases e
    | nil =>
      cases r1 with
      | str x =>
        cases e
        exact ⟨x, rfl, q _ G1 H1 s1 (thru_enumS x)⟩
      | _ => cases e
/-- pairs of signs and items, each new -/
def ItZs (K : PySem.W.Frag) (x : Str) (a : Addr) (vs : List V) : It :=
  ⟨fun i H => i < x.cps.size ∧ i < vs.length ∧ SqL K H a vs, fun i H v H' => ∃ T c y, v = .ref T ∧ H T = none ∧ H' = upd H T (.tup [.str ⟨#[c]⟩, y]) ∧ x.cps[i]? = some c ∧ vs[i]? = some y, fun i H => SqL K H a vs ∧ (x.cps.size ≤ i ∨ vs.length ≤ i)⟩
theorem turn_zipS {P : Program} {w : World} {K : PySem.W.Frag} {elts : List Expr} {kk : Nat} {tpos : Pos} (x : Str) (t : Tok) (a N : Addr) (vs : List V) (haN : a < N) :
    Turn P w K (.Tuple elts kk tpos) (ItZs K x a vs) [N + 4, N + 2, N + 3, N, N + 1] (N + 4) (fun i h => i ≤ x.cps.size ∧ i ≤ vs.length ∧ IsZip h (N + 4) (N + 2) (N + 3) .none ∧ IsTupOf2 h (N + 2) (.ref N) (.ref (N + 1)) ∧ (∃ a1 a2, IsTupOf2 h (N + 3) a1 a2) ∧ h.IsStrIter N (strIterType x) x t i ∧ h.IsListIter (N + 1) a i) where
  mem := by simp
  obj := fun i h st b hb => by
    obtain ⟨_, _, hz, hTI, ⟨y, y', hTO⟩, ⟨o1, e1, _, d1⟩, ⟨o2, e2, _, d2⟩⟩ := st
    have e' : b = N + 4 ∨ b = N + 2 ∨ b = N + 3 ∨ b = N ∨ b = N + 1 := by simpa using hb
    rcases e' with q | q | q | q | q
    · rw [q]; exact ⟨_, hz, fun v q => nomatch q⟩
    · rw [q]; exact ⟨_, hTI, fun v q => nomatch q⟩
    · rw [q]; exact ⟨_, hTO, fun v q => nomatch q⟩
    · rw [q]; exact ⟨o1, e1, fun v q => by rw [d1] at q; cases q⟩
    · rw [q]; exact ⟨o2, e2, fun v q => by rw [d2] at q; cases q⟩
  keep := fun i h h' st k => by
    obtain ⟨l1, l2, hz, hTI, ⟨y, y', hTO⟩, ⟨o1, e1, r1⟩, h2⟩ := st
    exact ⟨l1, l2, k (N + 4) (by simp) _ hz, k (N + 2) (by simp) _ hTI, ⟨y, y', k (N + 3) (by simp) _ hTO⟩, ⟨o1, k N (by simp) o1 e1, r1⟩, h2.at fun o q => k (N + 1) (by simp) o q⟩
  item := by
    intro X hP hw hK hc i pins s σ H E I hf st hg
    subst hP hw hK
    obtain ⟨l1, l2, hz, hTI, hTO, h1, h2⟩ := st
    obtain ⟨g1, g2, hq⟩ := hg
    have g1 : i < x.cps.size := g1
    have g2 : i < vs.length := g2
    obtain ⟨its, rv, p, _⟩ := I.list hq
    have hlen := rv.length
    have Wk := WalksT.zipD2 (prog := X.prog) (w := X.w) (A := X.A) (zip_sep2 (N := N) (fp1 := []) (fp2 := [a]) (fun b hb => by cases hb) (fun b hb => by rw [List.mem_singleton.mp hb]; exact haN))
      (Draws.text (A := X.A.in1) (by first | exact I.ok.hd hc | simpa using I.ok.hd hc) N x t) (Draws.list (A := X.A.in1) (by first | exact I.ok.hd hc | simpa using I.ok.hd hc) (N + 1) a (Nat.ne_of_lt (Nat.lt_succ_of_lt haN)) its.toArray)
    have hlt : i < min x.cps.size its.toArray.size := by
      have hsz : its.toArray.size = its.length := List.size_toArray
      exact Nat.lt_min.mpr ⟨g1, by omega⟩
    refine Wk.item i s _ _ hlt ⟨hz, hTI, hTO, h1, h2, p.isList⟩ fun T vals h' tk hP hT hTup mid kk2 => ⟨_, rfl, Wk.go elts kk tpos i T { s with heap := h', toks := tk } _ _ mid fun h'' st' kk3 => ?_⟩
    obtain ⟨y1, y2, ⟨c, u, hcx, rfl⟩, hy, rfl⟩ := hP
    have hTn := Wk.apart i T h' mid
    have hTup2 := hTup.at fun o q => kk3 T o hTn q
    obtain ⟨y, ey⟩ : ∃ y, vs[i]? = some y := ⟨_, List.getElem?_eq_getElem g2⟩
    obtain ⟨u2, hu2, ru2⟩ := rv.get ey
    have : u2 = y2 := by
      have hy' : its[i]? = some y2 := by simpa using hy
      rw [hu2] at hy'
      exact Option.some.inj hy'
    subst this
    have new : ObjOk X.prog X.w (upd H T (.tup [.str ⟨#[c]⟩, y])) h'' T (.tup [.str ⟨#[c]⟩, y]) :=
      ⟨by show 2 ≤ sizeLine; decide, [.str ⟨#[c]⟩ u, u2], .cons ⟨_, rfl⟩ (.cons ru2 .nil), hTup2⟩
    have I1 : Inv X pins σ (upd H T (.tup [.str ⟨#[c]⟩, y])) { s with heap := h'', toks := tk } :=
      I.turnedNew (ch := [N + 4, N + 2, N + 3, N, N + 1]) (fun b o hb q => by
        have hb' : b ∉ [N + 4, N + 3, N, N + 1] := fun z => hb (by simp only [List.mem_cons, List.not_mem_nil, or_false] at z ⊢; rcases z with z | z | z | z <;> simp [z])
        exact kk3 b o hb' (kk2 b o hb' q)) hf hT new
    obtain ⟨z', zI, zO, s1, s2, _⟩ := st'
    refine ⟨.ref T, _, I1, rfl, ⟨T, c, y, rfl, I.hok.fresh hT, rfl, hcx, ey⟩, ⟨g1, g2, z', zI, zO, s1, s2⟩, fun b hb => ?_⟩
    have hb' : b < s.heap.objs.size := by
      obtain ⟨a1, a2, hTO⟩ := hTO
      have e' : b = N + 4 ∨ b = N + 2 ∨ b = N + 3 ∨ b = N ∨ b = N + 1 := by simpa using hb
      rcases e' with q | q | q | q | q
      · rw [q]; exact Heap.lt_size hz
      · rw [q]; exact Heap.lt_size hTI
      · rw [q]; exact Heap.lt_size hTO
      · rw [q]; obtain ⟨_, e1, _⟩ := h1; exact Heap.lt_size e1
      · rw [q]; obtain ⟨_, e2, _⟩ := h2; exact Heap.lt_size e2
    rw [upd_ne (Nat.ne_of_lt (Nat.lt_of_lt_of_le hb' hT))]
    exact (hf b hb).1
  done := by
    intro X hP hw hK hc i pins s σ H E I hf st hg
    subst hP hw hK
    obtain ⟨l1, l2, hz, hTI, ⟨a1, a2, hTO⟩, h1, h2⟩ := st
    obtain ⟨hq, hend⟩ := hg
    have hend : x.cps.size ≤ i ∨ vs.length ≤ i := hend
    obtain ⟨its, rv, p, _⟩ := I.list hq
    have hlen := rv.length
    have S := zip_sep2 (N := N) (fp1 := []) (fp2 := [a]) (fun b hb => by cases hb) (fun b hb => by rw [List.mem_singleton.mp hb]; exact haN)
    have hsz : its.toArray.size = its.length := List.size_toArray
    have hle2 : i ≤ its.toArray.size := by omega
    have hend2 : i = x.cps.size ∨ i = its.toArray.size := by
      rcases hend with h | h
      · exact .inl (Nat.le_antisymm l1 h)
      · exact .inr (by omega)
    exact wpAny_pyNext_zipD2_end S (Draws.text (A := X.A.in1) (by first | exact I.ok.hd hc | simpa using I.ok.hd hc) N x t) (Draws.list (A := X.A.in1) (by first | exact I.ok.hd hc | simpa using I.ok.hd hc) (N + 1) a (Nat.ne_of_lt (Nat.lt_succ_of_lt haN)) its.toArray)
      hz hTI hTO h1 ⟨h2, p.isList⟩ l1 hle2 hend2 fun h' tk hk => ⟨rfl, I.turnedL (t' := tk) (ch := [N + 4, N + 2, N + 3, N, N + 1]) (fun b o hb q =>
        hk b o (fun z => hb (by simp [z])) (fun z => hb (by simp [z])) (fun z => hb (by simp [z])) (fun z => hb (by simp [z])) q) hf⟩
  self := fun A i s Q E st h => wpAny_pyIter_zip st.2.2.1 h
def iZipS (K : PySem.W.Frag) (ta : TA) : TI := fun σ H R => ta σ H fun vs H1 => ∃ x a ys, vs = [.str x, .ref a] ∧ SqL K H1 a ys ∧ R (ItZs K x a ys) H1
theorem pi_zipS {e e2 : Expr} {ta : TA} {p pos tpos : Pos} {elts : List Expr} {kk : Nat} (hg : Gl X "zip") (hm : X.mg "zip" = none) (ha : PA X [e, e2] ta)
    (hs : starEach [e, e2] X.env = (false, eval e X.env) :: starEach [e2] X.env := by rfl) (hpl : (backTo pos (starEach [e2] X.env)).any (·.1) = false := by rfl) :
    PI X (.Tuple elts kk tpos) (.Call (.Name "zip" p) [e, e2] [] pos) (iZipS X.K ta) := by
  refine ⟨fun pins s σ H R I h => ?_⟩
  refine Call_ (ld_blt I hg hm PyProof.Rows.boot_zip (PyProof.Rows.callWith_type1 (thn (ha.run pos pins s σ H _ I h) fun us s1 ⟨vs, H1, I1, r1, q1⟩ => ?_) hs hpl))
  obtain ⟨x, a, ys, ex, hq, q⟩ := q1
  subst ex
  cases r1 with
  | cons r rr =>
    cases rr with
    | cons r' rr =>
      cases rr
      obtain ⟨t, rfl⟩ := r
      cases r'
      obtain ⟨its, rv, p1, _⟩ := I1.list hq
      have la : a < s1.heap.objs.size := p1.lt
      refine zip_begins2 (begins_text x t) (begins_list a its.toArray) trivial p1.isList fun h' hz hTI hTO h1 h2 hsz hk => wpAny_pyIter_zip hz ?_
      have I2 : Inv X pins σ H1 { s1 with heap := h' } := I1.kept (t' := s1.toks) hk
      refine ⟨s1.heap.objs.size + 4, [s1.heap.objs.size + 4, s1.heap.objs.size + 2, s1.heap.objs.size + 3, s1.heap.objs.size, s1.heap.objs.size + 1], _, _, H1, rfl, I2, turn_zipS x t a s1.heap.objs.size ys la, ⟨Nat.zero_le _, Nat.zero_le _, hz, hTI, ⟨_, _, hTO⟩, ⟨_, h1, rfl, rfl⟩, ⟨_, h2, rfl, rfl⟩⟩, fun c hcm => ?_, q⟩
      have e' : c = s1.heap.objs.size + 4 ∨ c = s1.heap.objs.size + 2 ∨ c = s1.heap.objs.size + 3 ∨ c = s1.heap.objs.size ∨ c = s1.heap.objs.size + 1 := by simpa using hcm
      have hle : s1.heap.objs.size ≤ c := by
        rcases e' with z | z | z | z | z
        · rw [z]; exact Nat.le_add_right _ _
        · rw [z]; exact Nat.le_add_right _ _
        · rw [z]; exact Nat.le_add_right _ _
        · rw [z]; exact Nat.le_refl _
        · rw [z]; exact Nat.le_add_right _ _
      exact I1.fpOk hle (I1.hok.fresh hle)
theorem thru_zipS {K : PySem.W.Frag} {x : Str} {a : Addr} {vs : List V} {ds : List D} (h : SqL K G1 a vs) (r : RepL Kf G1 vs ds) : Thru Kf G1 H1 (ItZs K x a vs) (zipD (signs x) ds) := fun G H e s _ => by
  have hs : SqL K H a vs := s.sq ((Sub.of e).sq h)
  refine ⟨fun i d ed => ?_, hs, by rw [r.length, zipD_len, signs_len]; omega⟩
  obtain ⟨d1, d2, e1, e2, rfl⟩ := zipD_get _ _ _ _ ed
  obtain ⟨c, ec, rfl⟩ := signs_get e1
  obtain ⟨v, ev, rv⟩ := r.get e2
  refine ⟨⟨(Array.getElem?_eq_some_iff.mp ec).1, (List.getElem?_eq_some_iff.mp ev).1, hs⟩, fun v' H' yd => ?_⟩
  obtain ⟨T, c', y, rfl, hT, rfl, ec', ey⟩ := yd
  rw [ec] at ec'
  cases ec'
  rw [ev] at ey
  cases ey
  have st := Step.new (o := .tup [.str ⟨#[c]⟩, v]) s hT trivial
  exact ⟨_, st, .tup upd_same (.cons (.str _) (.cons (rv.mono (.of (e.trans st.g))) .nil))⟩
def zipOfS : List D → Option (List D)
  | [.str x, .list ds] => some (zipD (signs x) ds)
  | _ => none
def iZpS (ma : Env → R (List D)) : Env → R (List D) := fun ρ => (ma ρ).bind fun xs => lft (zipOfS xs)
theorem mi_zipS {e e2 : Expr} {ma : Env → R (List D)} {p pos tpos : Pos} {elts : List Expr} {kk : Nat} (hg : Gl X "zip") (hm : X.mg "zip" = none) (ha : MA X W [e, e2] ma)
    (hs : starEach [e, e2] X.env = (false, eval e X.env) :: starEach [e2] X.env := by rfl) (hpl : (backTo pos (starEach [e2] X.env)).any (·.1) = false := by rfl) :
    MI X W (.Tuple elts kk tpos) (.Call (.Name "zip" p) [e, e2] [] pos) (iZpS ma) := by
  obtain ⟨t, pt, ht⟩ := ha.ex
  refine ⟨_, pi_zipS hg hm pt hs hpl, fun σ G H ρ Q re h => ?_⟩
  refine ht σ G H ρ _ re ((Post.bind h).imp fun xs _ h1 => fun v G1 H1 s1 r1 => ?_)
  obtain ⟨ds, e, q⟩ := h1.lft
  cases r1 with
  | nil => cases e
  | cons r1 rs =>
    cases rs with
    | nil => cases r1 <;> cases e
    | cons r2 rs =>
      cases rs with
      | cons _ _ => cases r1 <;> cases r2 <;> cases e
      | nil =>
        cases r1 with
        | str x =>
          cases r2 with
          | lst ha hr =>
            cases e
            exact ⟨x, _, _, rfl, s1.s.sq ha, q _ G1 H1 s1 (thru_zipS ha hr)⟩
          | _ => cases e
        | _ => cases r2 <;> cases e
end
end FF

namespace FF
open PySem PySem.Spec PyProof.Rows L2
/-! ### reversed(text) -/
theorem txt_norev : typeLookup (.type "str") "__reversed__" = pure none := by
  rw [typeLookup_type, builtinLookup_eq_fast]
  kernel_rfl
theorem txt_get : typeLookup (.type "str") "__getitem__" = pure (some (.builtin "str.__getitem__")) := by
  rw [typeLookup_type, builtinLookup_eq_fast]
  kernel_rfl
/-- a reversed iterator over a text, the next place i -/
def IsRs (h : Heap) (a : Addr) (z : Str) (t : Tok) (i : Int) : Prop := ∃ o, h.get? a = some o ∧ o.cls = .type "reversed" ∧ o.data = .fields #[.str z t, rawInt i]
section
variable {prog : Program} {w : World} {A : Around} {E : Value → Shared → Prop} {s : Shared} {z : Str} {t : Tok}
theorem IsRs.ty {a : Addr} {i : Int} (x : IsRs s.heap a z t i) : s.TypeIs (.ref a) "reversed" := by
  obtain ⟨o, ho, hc, _⟩ := x
  exact ⟨o, ho, hc⟩
theorem revS_code {Q1 : Value → Shared → Prop} (hz : z.length ≤ sizeLine)
    (h : Q1 (.ref s.heap.objs.size) { s with heap := s.heap.push { cls := .type "reversed", data := .fields #[.str z t, rawInt ((z.length : Int) - 1)] }, toks := s.toks + 1 + 1 }) :
    codeAny (model prog w) A (.call (.builtin "reversed.__new__") ⟨[.type "reversed", .str z t], []⟩) (wants Q1 E) s := by
  have ty : ∀ s : Shared, s.TypeIs (.str z t) "str" := fun s => typeIs_str s z t
  have hn := line63
  refine codeAny_of_tree ?_
  show wpAny _ A.in1 (do checkBuiltinCall "reversed.__new__" ⟨[.type "reversed", .str z t], []⟩; again (.builtin "reversed.__new__" ⟨[.type "reversed", .str z t], []⟩)) _ _ s
  refine wpAny_bind (wpAny_of_eq (F.newCall_reversed_1 _) (wpAny_pure ⟨plainId_quiet F.plain_reversed_new _, codeAny_builtin F.entry_reversed_new ?_⟩))
  rw [Around.under_plainId F.plain_reversed_new _]
  unfold Builtin.«reversed.__new__»
  refine wpAny_bind (wpAny_of_eq (newClass_reversed _) ?_)
  try dsimp only
  refine wpAny_bind (wpAny_of_eq (a := ()) (by first | rfl | kernel_rfl) ?_)
  try dsimp only
  refine wpAny_bind (wpAny_of_eq (a := ()) (by first | rfl | kernel_rfl) ?_)
  try dsimp only
  refine wpAny_bind (wpAny_specialOf (ty _) txt_norev ?_)
  try dsimp only
  refine wpAny_bind ?_
  wp_delta
  refine wpAny_bind (wpAny_isInstance (T := "str") (U := "dict") (b := false) (ty _) PySem.F.sub_str_dict ?_)
  try dsimp only
  try rw [if_neg Bool.false_ne_true]
  try dsimp only
  refine wpAny_bind (wpAny_specialOf (ty _) txt_get ?_)
  try dsimp only
  try rw [if_pos (by decide +kernel)]
  refine wpAny_pure ?_
  try dsimp only
  try rw [if_neg (by decide)]
  try dsimp only
  refine wpAny_bind (len_str (by omega) ?_)
  refine wpAny_bind (wpAny_of_eq (a := some ((z.length : Nat) : Int)) rfl ?_)
  try dsimp only
  refine wpAny_bind ?_
  show wpAny _ _ (newObj (.type "reversed") (.fields #[.str z t, rawInt ((z.length : Int) - 1)])) _ _ _
  refine wpAny_newObj_type ?_
  exact wpAny_pure h
theorem revS_call {Q : Value → Shared → Prop} (hz : z.length ≤ sizeLine)
    (h : Q (.ref s.heap.objs.size) { s with heap := s.heap.push { cls := .type "reversed", data := .fields #[.str z t, rawInt ((z.length : Int) - 1)] }, toks := s.toks + 1 + 1 }) :
    wpAny (model prog w) A (call (.type "reversed") [.str z t]) Q E s := by
  refine callType_codes (Q₁ := fun ob sb => sb.TypeIs ob "reversed" ∧ Q ob sb) RT.called_rt (F.typeCall_reversed_1 _) F.entry_object_init
    (revS_code (A := A.in1) hz ⟨⟨_, Heap.get?_push_size _ rfl, rfl⟩, h⟩) fun ob sb hb => ?_
  exact ⟨hb.1, F.args_object_init_2 ob _, object_init_meets RT.called_rt.init.lookup RT.called_rt.made (by decide) prog w A.in1 _ sb ⟨hb.1, rfl, hb.2⟩⟩
theorem revS_item {it : Addr} {i c : Nat} {Q : Option Value → Shared → Prop} (hit : IsRs s.heap it z t (i : Int)) (hx : z.cps[i]? = some c) (hz : z.length ≤ sizeLine)
    (hQ : ∀ h', IsRs h' it z t ((i : Int) - 1) → Heap.SameBut it s.heap h' → Q (some (.str ⟨#[c]⟩ (s.toks + 1))) { s with heap := h', toks := s.toks + 1 + 1 }) : wpAny (model prog w) A (pyNext (.ref it)) Q E s := by
  obtain ⟨o, ho, hc, hd⟩ := id hit
  have hi : i < z.length := (Array.getElem?_eq_some_iff.mp hx).1
  have ty : ∀ s : Shared, s.TypeIs (.str z t) "str" := fun s => typeIs_str s z t
  rw [sizeLine_eq] at hz
  unfold pyNext
  refine wpAny_bind (wpAny_attempt (wpAny_callSpecial?_slot (name := Str.ofString "__next__") hit.ty RT.slot_rt_next
    (wpAny_call_entry RT.slot_rt_next hit.ty RT.entry_rt_next ?_ (RT.args_rt_next _))))
  unfold Builtin.«reversed.__next__»
  refine wpAny_bind (wpAny_of_eq (a := (Value.ref it, [])) rfl ?_)
  try dsimp only
  refine wpAny_bind (wpAny_field ho hd (x := .str z t) rfl ?_)
  try dsimp only
  refine wpAny_bind (wpAny_field ho hd (x := rawInt (i : Int)) rfl ?_)
  show wpAny _ _ (if (i : Int) < 0 then _ else _) _ _ s
  rw [if_neg (by omega)]
  try dsimp only
  refine wpAny_bind (wpAny_specialOf (ty _) txt_get ?_)
  try dsimp only
  try rw [if_neg (by decide)]
  try dsimp only
  refine wpAny_bind (wpAny_mkInt ?_)
  refine wpAny_bind (wpAny_attempt ?_)
  refine PyProof.Rows.getItem_str (s := { s with toks := s.toks + 1 }) (c := c) ?_ ?_ ?_
  · rw [decide_eq_false (by omega), decide_eq_false (by omega)]
    rfl
  · rw [seqIndex_of (by omega) (by omega), Int.toNat_natCast]
    exact hx
  try dsimp only
  refine wpAny_bind (wpAny_field (s := { s with toks := s.toks + 1 + 1 }) ho hd (x := rawInt (i : Int)) rfl ?_)
  try dsimp only
  refine wpAny_bind (wpAny_setField (s := { s with toks := s.toks + 1 + 1 }) ho hd (by simp) ?_)
  first
  | refine wpAny_pure ⟨_, rfl, wpAny_pure (hQ _ ?_ (Heap.SameBut.update ..))⟩
  | refine wpAny_bind (wpAny_pure (wpAny_pure ⟨_, rfl, wpAny_pure (hQ _ ?_ (Heap.SameBut.update ..))⟩))
  exact ⟨_, Heap.get?_update_self _ ho (Obj.isFreed_of_fields (Obj.data_mapFields hd _)), (Obj.cls_mapFields ..).trans hc, by
    rw [Obj.data_mapFields hd]
    simp⟩
theorem revS_end {it : Addr} {Q : Option Value → Shared → Prop} (hh : A.handled = none) (hit : IsRs s.heap it z t (-1))
    (hQ : ∀ h', Heap.ExtBut it s.heap h' → Q none { s with heap := h' }) : wpAny (model prog w) A (pyNext (.ref it)) Q E s := by
  obtain ⟨o, ho, hc, hd⟩ := id hit
  unfold pyNext
  refine wpAny_bind (wpAny_attempt (wpAny_callSpecial?_slot (name := Str.ofString "__next__") hit.ty RT.slot_rt_next
    (wpAny_call_entry RT.slot_rt_next hit.ty RT.entry_rt_next ?_ (RT.args_rt_next _))))
  unfold Builtin.«reversed.__next__»
  refine wpAny_bind (wpAny_of_eq (a := (Value.ref it, [])) rfl ?_)
  try dsimp only
  refine wpAny_bind (wpAny_field ho hd (x := .str z t) rfl ?_)
  try dsimp only
  refine wpAny_bind (wpAny_field ho hd (x := rawInt (-1)) rfl ?_)
  show wpAny _ _ (if (-1 : Int) < 0 then _ else _) _ _ s
  rw [if_pos (by decide)]
  try dsimp only
  refine wpAny_bind (wpAny_rule ?_)
  refine wpAny_bind ?_
  wp_delta
  refine wpAny_bind (wpAny_setField ho hd (by simp) ?_)
  have ho2 := Heap.get?_update_self (Obj.mapFields (·.setIfInBounds 1 (rawInt (-1)))) ho (Obj.isFreed_of_fields (Obj.data_mapFields hd _))
  refine wpAny_setField (s := { s with heap := s.heap.update it (Obj.mapFields (·.setIfInBounds 1 (rawInt (-1)))) }) ho2 (Obj.data_mapFields hd _) (by simp) ?_
  try dsimp only
  first
  | show wpAny _ _ (newExc (.type "StopIteration") [] >>= _) _ _ _
  | (refine wpAny_bind ?_; show wpAny _ _ (newExc (.type "StopIteration") [] >>= _) _ _ _)
  | (refine wpAny_bind ?_; wp_delta; show wpAny _ _ (newExc (.type "StopIteration") [] >>= _) _ _ _)
  refine wpAny_bind ?_
  simp only [newExc, newTuple]
  refine wpAny_bind (wpAny_newObj_type ?_ (by size_fits))
  refine wpAny_bind (m := firstArgMember _ _) (wpAny_of_eq (a := Value.none) (by first | rfl | (simp only [firstArgMember]; rfl)) ?_)
  refine wpAny_newObj_type ?_ (by size_fits)
  simp only [raiseNew]
  refine wpAny_bind (wpAny_handled ?_)
  first | rw [show A.in1.handled = none from hh] | rw [hh]
  refine wpAny_bind (wpAny_pure (wpAny_throw ?_))
  refine wpAny_bind (wpAny_isInstance (T := "StopIteration") (b := true) ⟨_, Heap.get?_push_size _ rfl, rfl⟩ isSubtype_stop ?_)
  refine wpAny_pure (hQ _ ?_)
  refine ((?_ : Heap.ExtBut it s.heap _).push _).push _
  exact fun b ob hb e => (Heap.get?_update_other _ _ (Ne.symm hb)).trans ((Heap.get?_update_other _ _ (Ne.symm hb)).trans e)
theorem revS_iter {it : Addr} {i : Int} {Q : Value → Shared → Prop} (hit : IsRs s.heap it z t i) (h : Q (.ref it) s) : wpAny (model prog w) A (pyIter (.ref it)) Q E s := by
  refine wpAny_pyIter_slot hit.ty RT.slot_rt_iter (wpAny_call_entry RT.slot_rt_iter hit.ty RT.entry_rt_iter ?_ (RT.args_rt_iter _))
  show wpAny _ _ (ret (.ref it)) _ _ s
  exact wpAny_pure ⟨_, rfl, "reversed", _, hit.ty, RT.slot_rt_next.lookup, h⟩
end
section
variable {Kf : PySem.W.Frag} {X : Cx} {W : WX} {G H G1 H1 : Hp}
def ItRs (z : Str) : It := ⟨fun i _ => i < z.length, fun i H v H' => H' = H ∧ ∃ c, z.cps[z.length - 1 - i]? = some c ∧ v = .str ⟨#[c]⟩, fun i _ => z.length ≤ i⟩
theorem turn_revS {P : Program} {w : World} {K : PySem.W.Frag} {tg : Expr} (it : Addr) (z : Str) (t : Tok) (hz : z.length ≤ sizeLine) : Turn P w K tg (ItRs z) [it] it (fun i h => i ≤ z.length ∧ IsRs h it z t ((z.length : Int) - 1 - (i : Nat))) where
  mem := by simp
  obj := fun i h st b hb => by
    obtain rfl : b = it := by simpa using hb
    obtain ⟨_, o, e, c, d⟩ := st
    exact ⟨o, e, fun v q => by rw [d] at q; cases q⟩
  keep := fun i h h' st k => by
    obtain ⟨l, o, e, r⟩ := st
    exact ⟨l, o, k it (by simp) o e, r⟩
  item := by
    intro X hP hw hK hc i pins s σ H E I hf st hg
    subst hP hw hK
    have hg : i < z.length := hg
    obtain ⟨f0, f1, f2, f3, f4, f5⟩ := hf it (by simp)
    obtain ⟨_, hit⟩ := st
    have e1 : (z.length : Int) - 1 - ((i : Nat) : Int) = ((z.length - 1 - i : Nat) : Int) := by omega
    rw [e1] at hit
    have hlt : z.length - 1 - i < z.cps.size := by show _ < z.length; omega
    obtain ⟨c, hx⟩ : ∃ c, z.cps[z.length - 1 - i]? = some c := ⟨_, Array.getElem?_eq_getElem hlt⟩
    refine revS_item hit hx hz fun h' st' sb => ?_
    have e2 : ((z.length - 1 - i : Nat) : Int) - 1 = (z.length : Int) - 1 - ((i + 1 : Nat) : Int) := by omega
    rw [e2] at st'
    have I1 : Inv X pins σ H { s with heap := h', toks := s.toks + 1 + 1 } := I.turned (t' := s.toks + 1 + 1) (fun b o hb e => (sb.2 b hb).trans e) f0 f1 f3 f4 f5
    obtain ⟨o, e, c', d⟩ := id st'
    exact ⟨_, rfl, go_of (s := { s with heap := h', toks := s.toks + 1 + 1 }) e c' d (by decide) ⟨.str ⟨#[c]⟩, H, I1, ⟨_, rfl⟩, ⟨rfl, c, hx, rfl⟩, ⟨hg, st'⟩, fun b hb => (hf b hb).1⟩⟩
  done := by
    intro X hP hw hK hc i pins s σ H E I hf st hg
    subst hP hw hK
    have hg : z.length ≤ i := hg
    obtain ⟨f0, f1, f2, f3, f4, f5⟩ := hf it (by simp)
    obtain ⟨hin, hit⟩ := st
    have e1 : (z.length : Int) - 1 - ((i : Nat) : Int) = -1 := by omega
    rw [e1] at hit
    exact revS_end (I.ok.hd hc) hit fun h' eb => ⟨rfl, I.turned (t' := s.toks) (fun b o hb e => eb b o hb e) f0 f1 f3 f4 f5⟩
  self := fun A i s Q E st h => revS_iter st.2 h
def iRevTx (te : TA) : TI := fun σ H R => te σ H fun vs H1 => ∃ z, vs = [.str z] ∧ z.length ≤ sizeLine ∧ R (ItRs z) H1
theorem pi_revTx {tg e : Expr} {te : TA} {p pos : Pos} (hg : Gl X "reversed") (hm : X.mg "reversed" = none) (ha : PA X [e] te) (hs : starEach [e] X.env = [(false, eval e X.env)] := by rfl) : PI X tg (.Call (.Name "reversed" p) [e] [] pos) (iRevTx te) := by
  refine ⟨fun pins s σ H R I h => Call_ (ld_blt I hg hm PyProof.Rows.boot_reversed (PyProof.Rows.callWith_type1 (thn (ha.run pos pins s σ H _ I h) fun us sb ⟨vs, Hb, Ib, rb, z, ez, hz, q⟩ => ?_) hs rfl))⟩
  subst ez
  cases rb with
  | cons r rr =>
    cases rr
    obtain ⟨t, rfl⟩ := r
    refine revS_call hz (revS_iter (z := z) (t := t) (i := (z.length : Int) - 1) ⟨_, Heap.get?_push_size _ rfl, rfl, rfl⟩ ?_)
    refine pi_one (tk := sb.toks + 1 + 1) Ib _ (turn_revS _ z t hz) ⟨Nat.zero_le _, ?_⟩ q
    rw [show (z.length : Int) - 1 - ((0 : Nat) : Int) = (z.length : Int) - 1 by omega]
    exact ⟨_, Heap.get?_push_size _ rfl, rfl, rfl⟩
theorem thru_revS (z : Str) : Thru Kf G1 H1 (ItRs z) (signs z).reverse := fun G H e s _ => by
  refine ⟨fun i d ed => ?_, by show z.length ≤ _; rw [List.length_reverse, signs_len]; exact Nat.le_refl _⟩
  have hl : (signs z).length = z.length := signs_len z
  have hi : i < (signs z).length := by
    have := (List.getElem?_eq_some_iff.mp ed).1
    rwa [List.length_reverse] at this
  rw [List.getElem?_reverse hi, hl] at ed
  obtain ⟨c, ec, rfl⟩ := signs_get ed
  refine ⟨by show i < z.length; omega, fun v H' yd => ?_⟩
  obtain ⟨rfl, c', ec', rfl⟩ := yd
  rw [ec] at ec'
  cases ec'
  exact ⟨G, .refl s, .str _⟩
def revOfS : List D → Option (List D)
  | [.str z] => lm z.length (signs z).reverse
  | _ => none
def iRvS (ma : Env → R (List D)) : Env → R (List D) := fun ρ => (ma ρ).bind fun xs => lft (revOfS xs)
theorem mi_revS {tg e : Expr} {ma : Env → R (List D)} {p pos : Pos} (hg : Gl X "reversed") (hm : X.mg "reversed" = none) (ha : MA X W [e] ma) (hs : starEach [e] X.env = [(false, eval e X.env)] := by rfl) : MI X W tg (.Call (.Name "reversed" p) [e] [] pos) (iRvS ma) := by
  obtain ⟨t, pt, ht⟩ := ha.ex
  refine ⟨_, pi_revTx hg hm pt hs, fun σ G H ρ Q re h => ?_⟩
  refine ht σ G H ρ _ re ((Post.bind h).imp fun xs _ h1 => fun v G1 H1 s1 r1 => ?_)
  obtain ⟨ds, e, q⟩ := h1.lft
  cases r1 with
  | nil => cases e
  | cons r1 rs =>
    cases rs with
    | cons _ _ => cases r1 <;> cases e
    | nil =>
      cases r1 with
      | str z =>
        obtain ⟨hl, rfl⟩ := lm_some (show lm z.length (signs z).reverse = some ds from e)
        exact ⟨z, rfl, Nat.le_trans hl (by decide), q _ G1 H1 s1 (thru_revS z)⟩
      | _ => cases e
end
end FF

namespace FF
open PySem L2
/-! ### the order of data, sorted -/
def flatD : D → Bool
  | .none => false
  | .tuple _ => false
  | _ => true
def tupD1 : D → Bool
  | .tuple (_ :: _) => true
  | _ => false
def shallow (d : D) : Bool := d.canLay0 && decide (d.depth ≤ 20)
/-- a < b, lists, tuples and what they hold -/
def ltG (a b : D) : Option D := if PySem.W.alike a b && shallow a && shallow b && !isNone a then some (.bool (PySem.W.dataLt a b)) else none
def leG (a b : D) : Bool := !PySem.W.dataLt b a
def okSort (ds : List D) : Bool := ds.all (fun a => ds.all fun b => PySem.W.alike a b) && ds.all shallow && (ds.all tupD1 || ds.all flatD) && decide (ds.length ≤ 1000000)
def sortedD : List D → Option D
  | [.list ds] => if okSort ds then some (.list (ds.mergeSort leG)) else none
  | _ => none
theorem alike_of {ds : List D} (h : okSort ds = true) : PySem.W.AllAlike ds := fun d hd e he => by
  unfold okSort at h
  simp only [Bool.and_eq_true, List.all_eq_true] at h
  exact h.1.1.1 d hd e he
theorem sortable_of {ds : List D} (h : okSort ds = true) : PySem.W.Sortable ds := by
  unfold okSort at h
  simp only [Bool.and_eq_true, Bool.or_eq_true, List.all_eq_true] at h
  rcases h.1.2 with h | h
  · refine .inl fun d hd => ?_
    have := h d hd
    cases d with
    | tuple xs => cases xs with
      | nil => cases this
      | cons x r => exact ⟨x, r, rfl⟩
    | _ => cases this
  · refine .inr fun d hd => ?_
    have := h d hd
    cases d with
    | tuple xs => cases this
    | none => cases this
    | _ => exact ⟨fun z => (by cases z), fun xs z => (by cases z)⟩
theorem shallow_of {ds : List D} (h : okSort ds = true) : ∀ d ∈ ds, d.canLay0 = true ∧ d.depth ≤ 20 := fun d hd => by
  unfold okSort at h
  simp only [Bool.and_eq_true, List.all_eq_true] at h
  have := h.1.1.2 d hd
  unfold shallow at this
  simpa using this
theorem sortlen_of {ds : List D} (h : okSort ds = true) : ds.length ≤ 1000000 := by
  unfold okSort at h
  simp only [Bool.and_eq_true] at h
  exact of_decide_eq_true h.2
section
variable {Kf : PySem.W.Frag} {X : Cx} {W : WX} {G H : Hp}
def rLtD (K : PySem.W.Frag) : R2 := fun x y H Q => ∃ d e, Dp K H x d ∧ Dp K H y e ∧ PySem.W.alike d e = true ∧ d ≠ .none ∧ d.depth ≤ 20 ∧ Q (.bl (PySem.W.dataLt d e)) H
theorem op_ltD (hu : X.A.units + 64 < cLine) : OpR X (compareOp .Lt) (rLtD X.K) := by
  intro pins s σ H x y v u Q I rx ry h
  obtain ⟨d, e, hd, he, ha, hn, hz, q⟩ := h
  obtain ⟨as, r1⟩ := Dp.reads I d x v hd rx
  obtain ⟨bs, r2⟩ := Dp.reads I e y u he ry
  exact PySem.W.rcLt_alike d e X.A s v u as bs r1 r2 ha hn (by omega) X.prog X.w _ _ ⟨.bl _, H, I, rfl, q⟩
theorem opm_ltG (hu : X.A.units + 64 < cLine) : OpM X (compareOp .Lt) ltG := opm_of (op_ltD hu) fun G H x y a b d Q s ra rb e q => by
  unfold ltG at e
  split at e
  · rename_i h
    simp only [Bool.and_eq_true, shallow, decide_eq_true_eq] at h
    obtain ⟨⟨⟨h1, h2⟩, h3⟩, h4⟩ := h
    cases e
    exact ⟨a, b, ra.dp s h2.1, rb.dp s h3.1, h1, fun z => by subst z; simp [isNone] at h4, h2.2, q.at s (.bl _)⟩
  · cases e
inductive PairV (P : V → D → Prop) : List V → List D → Prop
  | nil : PairV P [] []
  | cons {v : V} {vs : List V} {d : D} {ds : List D} : P v d → PairV P vs ds → PairV P (v :: vs) (d :: ds)
theorem PairV.back {P : V → D → Prop} : ∀ {us : List Value} {ds : List D}, PySem.W.EachIs (fun u d => ∃ v, RelV v u ∧ P v d) us ds → ∃ vs, Vals vs us ∧ PairV P vs ds
  | _, _, .nil => ⟨[], .nil, .nil⟩
  | _, _, .cons ⟨v, r, p⟩ t => by
    obtain ⟨vs, h1, h2⟩ := PairV.back t
    exact ⟨v :: vs, .cons r h1, .cons p h2⟩
theorem PairV.each {P : V → D → Prop} {R : Value → D → Prop} : ∀ {vs : List V} {ds : List D} {us : List Value}, PairV P vs ds → Vals vs us → (∀ v u d, RelV v u → P v d → d ∈ ds → R u d) → PySem.W.EachIs R us ds
  | _, _, _, .nil, .nil, _ => .nil
  | _, _, _, .cons p t, .cons r rs, k => .cons (k _ _ _ r p List.mem_cons_self) (t.each rs fun v u d h1 h2 h3 => k v u d h1 h2 (List.mem_cons_of_mem _ h3))
theorem PairV.len {P : V → D → Prop} : ∀ {vs : List V} {ds : List D}, PairV P vs ds → vs.length = ds.length
  | _, _, .nil => rfl
  | _, _, .cons _ t => by rw [List.length_cons, List.length_cons, t.len]
/-- sorted(xs): P is whatever is known of the items -/
def rSortD (K : PySem.W.Frag) : List V → Hp → VK → Prop := fun vs H Q => ∃ (a : Addr) (xs : List V) (ds : List D) (P : V → D → Prop), vs = [.ref a] ∧ SqL K H a xs ∧ PairV P xs ds ∧ (∀ v d, P v d → d ∈ ds → Dp K H v d) ∧ PySem.W.AllAlike ds ∧ PySem.W.Sortable ds ∧ ds.length ≤ sizeLine ∧ (∀ d ∈ ds, d.depth ≤ 20) ∧
  ∀ ys p, PairV P ys (ds.mergeSort leG) → H p = none → Q (.ref p) (upd H p (.lst ys))
theorem cr_sortedD (hu : X.A.units + 64 < cLine) : CallR X (.builtin "sorted") (rSortD X.K) := by
  intro pins s σ H vs us Q I r h
  obtain ⟨a, xs, ds, P, rfl, hs, hp, hd, hal, hso, hlen, hdep, q⟩ := h
  obtain ⟨its, rv, hl, hz⟩ := I.list hs
  rw [Vals.ref1 r]
  have e1 : PySem.W.EachIs (fun u d => ∃ v, RelV v u ∧ P v d) its ds := hp.each rv fun v u d h1 h2 _ => ⟨v, h1, h2⟩
  have e2 : PySem.W.EachIs (fun u d => ∃ as, Reads s.heap u (id d) as) its ds := hp.each rv fun v u d h1 h2 h3 => Dp.reads I d v u (hd v d h2 h3) h1
  refine PySem.W.sorted_data (enc := id) (bs := ds) hl.isList e1 e2 (by rw [List.map_id]; exact hal) (by rw [List.map_id]; exact hso) hlen (fun d hd => by have := hdep d hd; show X.A.units + 2 + d.depth < cLine; omega) fun out ho eo => ?_
  obtain ⟨ys, r1, r2⟩ := PairV.back eo
  obtain ⟨ep, he'⟩ := PyProof.Rows.sortedAll_at s.heap its out.toArray
  have hl2 : ys.length ≤ sizeLine := by rw [r1.length, ho]; exact hlen
  exact ⟨.ref _, upd H (s.heap.objs.size + 1) (.lst ys), I.laid (t' := s.toks) (fun _ _ => PyProof.Rows.sortedAll_old) (Nat.le_succ _) ⟨hl2, out, ep, r1, he'⟩, rfl, q _ _ r2 (I.hok.fresh (Nat.le_succ _))⟩
theorem RepL.pair : ∀ {vs : List V} {ds : List D}, RepL Kf G vs ds → PairV (Rep Kf G) vs ds
  | _, _, .nil => .nil
  | _, _, .cons h r => .cons h r.pair
theorem PairV.repL : ∀ {vs : List V} {ds : List D}, PairV (Rep Kf G) vs ds → RepL Kf G vs ds
  | _, _, .nil => .nil
  | _, _, .cons h r => .cons h r.repL
theorem callm_sorted (hu : X.A.units + 64 < cLine) : CallM X (.builtin "sorted") sortedD := ⟨_, cr_sortedD hu, fun G H xs as d Q s r e q => by
  cases r with
  | nil => cases e
  | cons r1 rs =>
    cases rs with
    | cons _ _ => cases r1 <;> cases e
    | nil =>
      cases r1 with
      | lst ha hr =>
        rename_i a vs ds
        have e : (if okSort ds then some (PyData.list (ds.mergeSort leG)) else none) = some d := e
        split at e
        · rename_i hk
          cases e
          have hsh := shallow_of hk
          refine ⟨_, _, ds, Rep X.K G, rfl, s.sq ha, hr.pair, fun v d h1 h2 => h1.dp s (hsh d h2).1, alike_of hk, sortable_of hk, sz_line (sortlen_of hk), fun d hd => (hsh d hd).2, fun ys p hy hp => ?_⟩
          have st := Step.new (o := .lst ys) s hp trivial
          exact q _ _ _ st (.lst (SqL.of upd_same) (hy.repL.mono (.of st.g)))
        · cases e
      | _ => cases e⟩
end
end FF

namespace FF
open PySem L2
/-! ### try: .. except FindError as e: flags of e -/
structure ExmAt (K : PySem.W.Frag) (mg : Str → Option Value) (c F : Str) : Prop where
  ex : ∃ C E : Addr, mg c = some (.ref C) ∧ mg F = some (.ref E) ∧ PySem.W.exmOne K (.ref C) (.ref E) = some true ∧ ExcC K C
structure KitO (K : PySem.W.Frag) (mg : Str → Option Value) (c T : Str) (b : Bool) : Prop where
  ex : ∃ C t : Addr, mg c = some (.ref C) ∧ mg T = some (.ref t) ∧ PySem.W.kitOne K (.ref C) (.ref t) = some b
structure KitV (K : PySem.W.Frag) (mg : Str → Option Value) (c : Str) : Prop where
  ex : mg "ValueError" = none ∧ ∃ C : Addr, mg c = some (.ref C) ∧ PySem.W.kitOne K (.ref C) (.type "ValueError") = some true
structure Caught (K : PySem.W.Frag) (mg : Str → Option Value) (c x1 x2 x3 : Str) : Prop where
  e : ExmAt K mg c "FindError"
  k1 : KitO K mg c x1 (decide (c = x1))
  k2 : KitO K mg c x2 (decide (c = x2))
  k3 : KitO K mg c x3 (decide (c = x3))
  v : KitV K mg c
section
variable {X : Cx} {W : WX}
theorem call_isP {a C : Addr} {oe : Obj} (hC : ExcC X.K C) (hz : Zc (.ref C) none oe) (hf : ∃ vs, oe.data = .fields vs) (hp : (a, oe) ∈ X.pn) : CallR X (.builtin "isinstance") (rIsE X.K C a) := by
  intro pins s σ H xs us Q I r h
  obtain ⟨c, cv, b, rfl, hcv, e, q⟩ := h
  cases r with
  | cons rx rr =>
    cases rr with
    | cons rt rr =>
      cases rr
      cases rx
      have ec := hcv _ rt
      subst ec
      obtain ⟨hget, _⟩ := I.pin (a, oe) (List.mem_append.mpr (.inl hp))
      obtain ⟨vs, hv⟩ := hf
      have J : PySem.W.InstAt s.heap a oe C none := by
        obtain ⟨oc, od, oda, osl⟩ := oe
        obtain ⟨h1, h2⟩ := hz
        dsimp only at h1 h2 hv
        subst h1 h2 hv
        exact ⟨hget, rfl, rfl, trivial⟩
      exact PySem.W.kia_one (PySem.W.handS_kitx_exc hC.hg hC.hk hC.hs hC.hd hC.ha hC.hn hC.ht hC.hm) I.kIn J e (fun z => nomatch z) fun tk => ⟨.bl b, H, I.kept (t' := tk) fun _ _ z => z, rfl, q⟩
def tIs (i : Nat) (a : Addr) (b : Bool) : TE := fun σ H Q => σ[i]? = some (some (V.ref a)) ∧ Q (.bl b) H
theorem pe_isO {a C t : Addr} {oe : Obj} {i : Nat} {b : Bool} {o : Expr} {T : Str} {p p2 pos : Pos} (hC : ExcC X.K C) (hz : Zc (.ref C) none oe) (hf : ∃ vs, oe.data = .fields vs) (hp : (a, oe) ∈ X.pn) (ho : PE X o (tVar i)) (hg : Gl X "isinstance") (hm : X.mg "isinstance" = none)
    (gT : Gl X T) (mT : X.mg T = some (.ref t)) (hk : PySem.W.kitOne X.K (.ref C) (.ref t) = some b) (hd : (T == ("__debug__" : Str)) = false)
    (hs : starEach [o, .Name T p2] X.env = (false, eval o X.env) :: starEach [.Name T p2] X.env := by rfl) (hs2 : starEach [.Name T p2] X.env = (false, eval (.Name T p2) X.env) :: starEach [] X.env := by rfl)
    (hpl : (backTo pos (starEach [.Name T p2] X.env)).any (·.1) = false := by rfl) : PE X (.Call (.Name "isinstance" p) [o, .Name T p2] [] pos) (tIs i a b) :=
  pe_imp (pe_callB (call_isP hC hz hf hp) hg hm (by decide +kernel) (pa_cons ho (pa_cons (pe_glob (v := .ref t) gT mT rfl hd) pa_nil hs2) hs) (he := hs) (hpl := hpl)) fun σ H Q ⟨e, q⟩ => ⟨_, e, .ref t, .ref t, b, rfl, fun u r => r, hk, q⟩
theorem pe_isV {a C : Addr} {oe : Obj} {i : Nat} {o : Expr} {p p2 pos : Pos} (hC : ExcC X.K C) (hz : Zc (.ref C) none oe) (hf : ∃ vs, oe.data = .fields vs) (hp : (a, oe) ∈ X.pn) (ho : PE X o (tVar i)) (hg : Gl X "isinstance") (hm : X.mg "isinstance" = none)
    (gT : Gl X "ValueError") (mT : X.mg "ValueError" = none) (hk : PySem.W.kitOne X.K (.ref C) (.type "ValueError") = some true)
    (hs : starEach [o, .Name "ValueError" p2] X.env = (false, eval o X.env) :: starEach [.Name "ValueError" p2] X.env := by rfl) (hs2 : starEach [.Name "ValueError" p2] X.env = (false, eval (.Name "ValueError" p2) X.env) :: starEach [] X.env := by rfl)
    (hpl : (backTo pos (starEach [.Name "ValueError" p2] X.env)).any (·.1) = false := by rfl) : PE X (.Call (.Name "isinstance" p) [o, .Name "ValueError" p2] [] pos) (tIs i a true) :=
  pe_imp (pe_callB (call_isP hC hz hf hp) hg hm (by decide +kernel) (pa_cons ho (pa_cons (pe_bltn (v := .ty "ValueError") gT mT (by decide +kernel) rfl) pa_nil hs2) hs) (he := hs) (hpl := hpl)) fun σ H Q ⟨e, q⟩ => ⟨_, e, .ty "ValueError", .type "ValueError", true, rfl, fun u r => r, hk, q⟩
theorem pss_imp {e : List Stmt} {t t' : TS} (h : PSs X e t) (k : ∀ D σ H, t' D σ H → t D σ H) : PSs X e t' := ⟨fun pins s σ H D I q => h.run pins s σ H D I (k D σ H q)⟩
theorem Cz.tr {k : Nat} (c : Cz X W k) {W' : WX} {pn : List (Addr × Obj)} {xe : Value → Shared → Prop} (tk : L2N.Takes (X.tr pn xe) W') (po : PassesOwn (model X.prog X.w) X.A X.env xe) : Cz (X.tr pn xe) W' k := ⟨tk, po, c.calm, c.nd, c.room⟩
/-- flags == [True, False, False], the flags in slot j -/
def flV (b1 b2 b3 : Bool) : HO := .lst [.bl b1, .bl b2, .bl b3]
def tFl (j : Nat) (b1 b2 b3 : Bool) : TE := fun σ H Q => ∃ p1, σ[j]? = some (some (V.ref p1)) ∧ H p1 = some (flV b1 b2 b3) ∧ ∀ p2, H p2 = none → Q (.bl (b1 && !b2 && !b3)) (upd H p2 (flV true false false))
theorem dp_fl {K : PySem.W.Frag} {H : Hp} {p : Addr} {b1 b2 b3 : Bool} (h : H p = some (flV b1 b2 b3)) : Dp K H (.ref p) (.list [.bool b1, .bool b2, .bool b3]) := .lst (SqL.of h) (.cons (.bl _) (.cons (.bl _) (.cons (.bl _) .nil)))
theorem fl_eqv (b1 b2 b3 : Bool) : PyData.eqv (.list [.bool b1, .bool b2, .bool b3]) (.list [.bool true, .bool false, .bool false]) = (b1 && !b2 && !b3) := by cases b1 <;> cases b2 <;> cases b3 <;> rfl
theorem pe_fl {j : Nat} {o : Expr} {b1 b2 b3 : Bool} {k1 k2 k3 : Nat} {q1 q2 q3 q4 pos : Pos} (hu : X.A.units + 64 < cLine) (ho : PE X o (tVar j)) :
    PE X (.Compare o [.Eq] [.List [.Constant (.bool true) k1 q1, .Constant (.bool false) k2 q2, .Constant (.bool false) k3 q3] q4] pos) (tFl j b1 b2 b3) :=
  pe_imp (pe_cmpR (op_eqD hu) ho (pe_lst (pa_cons pe_bl (pa_cons pe_bl (pa_cons pe_bl pa_nil)))) (nomark _)) fun σ H Q ⟨p1, e, h1, q⟩ => by
    refine ⟨_, e, by show 3 ≤ sizeLine; decide, fun p2 hp2 => ?_⟩
    have hne : p1 ≠ p2 := fun z => by rw [z, hp2] at h1; cases h1
    refine ⟨_, _, dp_fl (b1 := b1) (b2 := b2) (b3 := b3) (by rw [upd_ne hne]; exact h1), dp_fl (b1 := true) (b2 := false) (b3 := false) upd_same, by cases b1 <;> cases b2 <;> cases b3 <;> rfl, rfl, ?_⟩
    rw [fl_eqv]
    exact q p2 hp2
theorem fl_is {c x1 x2 x3 : Str} (h2 : x1 ≠ x2) (h3 : x1 ≠ x3) : (decide (c = x1) && !decide (c = x2) && !decide (c = x3)) = decide (c = x1) := by
  by_cases h : c = x1
  · subst h
    simp [h2, h3]
  · simp [h]
def sTryA (cs : List Str) (x1 : Str) (mb : MSt) : MSt := fun ρ => match mb ρ with
  | .exn c _ => if c ∈ cs then .ret (.bool (decide (c = x1))) else .bad
  | x => x
def sTryB (cs : List Str) (x1 : Str) (mb : MSt) : MSt := fun ρ => match mb ρ with
  | .exn c _ => if c ∈ cs ∧ c = x1 then .ret .none else .bad
  | x => x
variable {k i j : Nat} {n fl x1 x2 x3 : Str} {cs : List Str} {mb : MSt} {body : List Stmt} {on1 on2 on3 onV ofl : Expr} {np p1 p2 p3 p4 p5 p6 p7 p8 p9 p10 p11 p12 p13 p14 p15 p16 p17 pos pos' : Pos} {t1 t2 t3 : Nat}
/-- the body's wish -/
def tBody (X : Cx) (mb : MSt) (W' : WX) : TS := fun D σ H => ∃ G0 H0 G ρ, Rl X.K G0 H0 σ G H ρ ∧ PostS X W' G0 H0 D (mb ρ)
theorem body_of (cz : Cz X W k) (hb : ∀ (W' : WX) (pn : List (Addr × Obj)) (xe : Value → Shared → Prop), Cz (X.tr pn xe) W' k → MSs (X.tr pn xe) W' body mb) (W' : WX) (pn : List (Addr × Obj)) (xe : Value → Shared → Prop) (tk : L2N.Takes (X.tr pn xe) W') (po : PassesOwn (model X.prog X.w) X.A X.env xe) : PSs (X.tr pn xe) body (tBody X mb W') := by
  obtain ⟨t, pt, ht⟩ := (hb W' pn xe (cz.tr tk po)).ex
  exact pss_imp pt fun D σ H ⟨G0, H0, G, ρ, r, h⟩ => ht G0 H0 σ G H ρ D r h
/-- what the suite asks ahead of its last statement -/
def tSu (X : Cx) (cs : List Str) (x1 : Str) (i j : Nat) (w : Bool → V → Hp → Ends → L2.St → Prop) (a : Addr) (cls : Value) (d : Option Addr) : TS := fun D σ H => ∃ c, c ∈ cs ∧ X.mg c = some cls ∧ d = none ∧ (∃ σ' : L2.St, σ = σ'.set i (some (V.ref a))) ∧ i ≠ j ∧
  ∀ p1 p2 b1 b2 b3, H p1 = none → upd H p1 (flV b1 b2 b3) p2 = none → w (decide (c = x1)) (.ref p1) (upd (upd H p1 (flV b1 b2 b3)) p2 (flV true false false)) D (σ.set j (some (.ref p1)))
theorem suite_a (hN : X.N.Nodup) (hi : X.N[i]? = some n) (hj : X.N[j]? = some fl) (hlj : Loc X.env.scope fl) (hff : X.fn fl = true ∨ X.env.scope.names.lookup fl = some .local) (gI : Gl X "isinstance") (mI : X.mg "isinstance" = none) (g1 : Gl X x1) (g2 : Gl X x2) (g3 : Gl X x3) (gV : Gl X "ValueError")
    (d1 : (x1 == ("__debug__" : Str)) = false) (d2 : (x2 == ("__debug__" : Str)) = false) (d3 : (x3 == ("__debug__" : Str)) = false) (hu : X.A.units + 64 < cLine) (hC : ∀ c ∈ cs, Caught X.K X.mg c x1 x2 x3) (h12 : x1 ≠ x2) (h13 : x1 ≠ x3)
    {a : Addr} {oe : Obj} {cls : Value} {d : Option Addr} {pn : List (Addr × Obj)} (hz : Zc cls d oe) (hf : ∃ vs, oe.data = .fields vs)
    (v1 : PE (X.suite a ((a, oe) :: pn)) on1 (tVar i)) (v2 : PE (X.suite a ((a, oe) :: pn)) on2 (tVar i)) (v3 : PE (X.suite a ((a, oe) :: pn)) on3 (tVar i)) (vV : PE (X.suite a ((a, oe) :: pn)) onV (tVar i)) (vf : PE (X.suite a ((a, oe) :: pn)) ofl (tVar j))
    {last : Stmt} {w : Bool → V → Hp → Ends → L2.St → Prop}
    (s1 : starEach [on1, .Name x1 p2] X.env = (false, eval on1 X.env) :: starEach [.Name x1 p2] X.env := by rfl) (s2 : starEach [on2, .Name x2 p5] X.env = (false, eval on2 X.env) :: starEach [.Name x2 p5] X.env := by rfl) (s3 : starEach [on3, .Name x3 p8] X.env = (false, eval on3 X.env) :: starEach [.Name x3 p8] X.env := by rfl)
    (hsw : swapsWith (.List [.Call (.Name "isinstance" p1) [on1, .Name x1 p2] [] p3, .Call (.Name "isinstance" p4) [on2, .Name x2 p5] [] p6, .Call (.Name "isinstance" p7) [on3, .Name x3 p8] [] p9] p10) (some (.Name fl p11)) p12.line X.env = pure false := by rfl)
    (hl : ∀ (C : Addr) (b1 b2 b3 : Bool), ExcC X.K C → Zc (.ref C) none oe → PySem.W.kitOne X.K (.ref C) (.type "ValueError") = some true → X.mg "ValueError" = none → PS (X.suite a ((a, oe) :: pn)) last (fun D σ H => σ[i]? = some (some (V.ref a)) ∧ ∃ p1, σ[j]? = some (some (V.ref p1)) ∧ H p1 = some (flV b1 b2 b3) ∧ ∀ p2, H p2 = none → w (b1 && !b2 && !b3) (.ref p1) (upd H p2 (flV true false false)) D σ)) :
    PSs (X.suite a ((a, oe) :: pn)) [.Assign [.Name fl p11] (.List [.Call (.Name "isinstance" p1) [on1, .Name x1 p2] [] p3, .Call (.Name "isinstance" p4) [on2, .Name x2 p5] [] p6, .Call (.Name "isinstance" p7) [on3, .Name x3 p8] [] p9] p10) p12, last] (tSu X cs x1 i j w a cls d) := by
  refine ⟨fun pins s σ H D I h => ?_⟩
  obtain ⟨c, hc, mc, rfl, ⟨σ', hσ'⟩, hij, q⟩ := h
  have hσ : σ[i]? = some (some (V.ref a)) := by
    have hl := I.len
    have hil : i < σ.length := by
      rw [hl]
      exact (List.getElem?_eq_some_iff.mp hi).1
    rw [hσ', List.length_set] at hil
    rw [hσ', List.getElem?_set_self hil]
  have hcc := hC c hc
  obtain ⟨C, E, mC, _, _, hE⟩ := hcc.e.ex
  obtain ⟨C1, t1, m1, mt1, k1⟩ := hcc.k1.ex
  obtain ⟨C2, t2, m2, mt2, k2⟩ := hcc.k2.ex
  obtain ⟨C3, t3, m3, mt3, k3⟩ := hcc.k3.ex
  obtain ⟨mV, CV, mCV, kV⟩ := hcc.v.ex
  rw [mC] at m1 m2 m3 mCV mc
  cases m1; cases m2; cases m3; cases mCV; cases mc
  have hp : (a, oe) ∈ (X.suite a ((a, oe) :: pn)).pn := List.mem_cons_self
  have jl : j < σ.length := by
    rw [I.len]
    exact (List.getElem?_eq_some_iff.mp hj).1
  have term := pss_cons (ps_set (X := X.suite a ((a, oe) :: pn)) (pos' := p11) (pos := p12) hN hj hlj (pe_lst (pos := p10) (pa_cons (pe_isO (X := X.suite a ((a, oe) :: pn)) (p := p1) (p2 := p2) (pos := p3) hE hz hf hp v1 gI mI g1 mt1 k1 d1 s1) (pa_cons (pe_isO (X := X.suite a ((a, oe) :: pn)) (p := p4) (p2 := p5) (pos := p6) hE hz hf hp v2 gI mI g2 mt2 k2 d2 s2) (pa_cons (pe_isO (X := X.suite a ((a, oe) :: pn)) (p := p7) (p2 := p8) (pos := p9) hE hz hf hp v3 gI mI g3 mt3 k3 d3 s3) pa_nil)))) hsw hff) (pss_one (hl C (decide (c = x1)) (decide (c = x2)) (decide (c = x3)) hE hz kV mV))
  refine term.run pins s σ H D I ?_
  refine ⟨hσ, hσ, hσ, by show 3 ≤ sizeLine; decide, fun q1 hq1 => ⟨by rw [List.getElem?_set_ne (Ne.symm hij)]; exact hσ, q1, List.getElem?_set_self jl, upd_same, fun q2 hq2 => ?_⟩⟩
  rw [fl_is h12 h13]
  exact q q1 q2 _ _ _ hq1 hq2
theorem ps_imp {e : Stmt} {t t' : TS} (h : PS X e t) (k : ∀ D σ H, t' D σ H → t D σ H) : PS X e t' := ⟨fun pins s σ H D I q => h.run pins s σ H D I (k D σ H q)⟩
theorem pt_imp {e : Expr} {t t' : TT} (h : PT X e t) (k : ∀ σ H Q, t' σ H Q → t σ H Q) : PT X e t' := ⟨fun pins s σ H Q I q => h.run pins s σ H Q I (k σ H Q q)⟩
def tFlT (j : Nat) (b1 b2 b3 : Bool) : TT := fun σ H Q => ∃ p1, σ[j]? = some (some (V.ref p1)) ∧ H p1 = some (flV b1 b2 b3) ∧ ∀ p2, H p2 = none → Q (b1 && !b2 && !b3) (upd H p2 (flV true false false))
theorem pt_fl {j : Nat} {o : Expr} {b1 b2 b3 : Bool} {k1 k2 k3 : Nat} {q1 q2 q3 q4 pos : Pos} (hu : X.A.units + 64 < cLine) (ho : PE X o (tVar j)) :
    PT X (.Compare o [.Eq] [.List [.Constant (.bool true) k1 q1, .Constant (.bool false) k2 q2, .Constant (.bool false) k3 q3] q4] pos) (tFlT j b1 b2 b3) :=
  pt_imp (pt_cmpR (op_eqD hu) ho (pe_lst (pa_cons pe_bl (pa_cons pe_bl (pa_cons pe_bl pa_nil)))) (nomark _)) fun σ H Q ⟨p1, e, h1, q⟩ => by
    refine ⟨_, e, by show 3 ≤ sizeLine; decide, fun p2 hp2 => ?_⟩
    have hne : p1 ≠ p2 := fun z => by rw [z, hp2] at h1; cases h1
    refine ⟨_, _, dp_fl (b1 := b1) (b2 := b2) (b3 := b3) (by rw [upd_ne hne]; exact h1), dp_fl (b1 := true) (b2 := false) (b3 := false) upd_same, by cases b1 <;> cases b2 <;> cases b3 <;> rfl, rfl, _, rfl, ?_⟩
    rw [fl_eqv]
    exact q p2 hp2
abbrev wA : Bool → V → Hp → Ends → L2.St → Prop := fun r _ H D _ => D.rt (.bl r) H
abbrev wB : Bool → V → Hp → Ends → L2.St → Prop := fun r _ H D σ => if r = true then D.rt .non H else D.nx σ H
theorem step_two {G0 H0 G H : Hp} {p1 p2 : Addr} {u1 u2 : HO} (s : Step G0 H0 G H) (h1 : H p1 = none) (h2 : upd H p1 u1 p2 = none) : Step G0 H0 G (upd (upd H p1 u1) p2 u2) := by
  have ha := s.layH (u := u1) (s.h.none h1) (s.s.none h1) trivial
  exact ha.layH (ha.h.none h2) (ha.s.none h2) trivial
theorem try_read {E : Addr} {n1 : Nat} {ts : Addr → Value → Option Addr → TS} {D : Ends} {G0 H0 G H : Hp} {σ : L2.St} {ρ : Env} {mr : MSt} (r : Rl X.K G0 H0 σ G H ρ) (h : PostS X W G0 H0 D (mr ρ))
    (hn : ∀ c ρ', mb ρ = .exn c ρ' → ∀ σ G H C, Rl X.K G0 H0 σ G H ρ' → X.mg c = some (.ref C) → wAs X.K (.ref E) n1 ts W D (.ref C) none σ H) (hs : ∀ f, mb ρ = f → (∀ c ρ', f ≠ .exn c ρ') → mr ρ = f) : tBody X mb (wAs X.K (.ref E) n1 ts W D) D σ H := by
  refine ⟨G0, H0, G, ρ, r, ?_⟩
  cases em : mb ρ with
  | next ρ' => rw [hs _ em (fun c ρ' z => by cases z)] at h; exact h
  | ret d => rw [hs _ em (fun c ρ' z => by cases z)] at h; exact h
  | brk ρ' => rw [hs _ em (fun c ρ' z => by cases z)] at h; exact h
  | cont ρ' => rw [hs _ em (fun c ρ' z => by cases z)] at h; exact h
  | bad => rw [hs _ em (fun c ρ' z => by cases z)] at h; exact h
  | exn c ρ' => exact hn c ρ' em
theorem ms_tryA {pn1 pn2 pn3 pnV pnf : Pos} (cz : Cz X W k) (hs : X.stack = X.env :: X.outer) (hf : X.env.frame = some X.env.locals) (hi : X.N[i]? = some n) (hln : X.env.kindOf n = some .local) (hj : X.N[j]? = some fl) (hlj : Loc X.env.scope fl) (hff : X.fn fl = true ∨ X.env.scope.names.lookup fl = some .local)
    (mF : ∃ E, X.mg "FindError" = some (.ref E)) (gF : Gl X "FindError") (gI : Gl X "isinstance") (mI : X.mg "isinstance" = none) (g1 : Gl X x1) (g2 : Gl X x2) (g3 : Gl X x3) (gV : Gl X "ValueError")
    (d1 : (x1 == ("__debug__" : Str)) = false) (d2 : (x2 == ("__debug__" : Str)) = false) (d3 : (x3 == ("__debug__" : Str)) = false) (hC : ∀ c ∈ cs, Caught X.K X.mg c x1 x2 x3) (h12 : x1 ≠ x2) (h13 : x1 ≠ x3) (hij : i ≠ j)
    (hb : ∀ (W' : WX) (pn : List (Addr × Obj)) (xe : Value → Shared → Prop), Cz (X.tr pn xe) W' k → MSs (X.tr pn xe) W' body mb)
    (v1 : ∀ a pn, PE (X.suite a pn) on1 (tVar i)) (v2 : ∀ a pn, PE (X.suite a pn) on2 (tVar i)) (v3 : ∀ a pn, PE (X.suite a pn) on3 (tVar i)) (vV : ∀ a pn, PE (X.suite a pn) onV (tVar i)) (vf : ∀ a pn, PE (X.suite a pn) ofl (tVar j))
    (s1 : starEach [on1, .Name x1 p2] X.env = (false, eval on1 X.env) :: starEach [.Name x1 p2] X.env := by rfl) (s2 : starEach [on2, .Name x2 p5] X.env = (false, eval on2 X.env) :: starEach [.Name x2 p5] X.env := by rfl) (s3 : starEach [on3, .Name x3 p8] X.env = (false, eval on3 X.env) :: starEach [.Name x3 p8] X.env := by rfl)
    (sV : starEach [onV, .Name "ValueError" p14] X.env = (false, eval onV X.env) :: starEach [.Name "ValueError" p14] X.env := by rfl)
    (hsw : swapsWith (.List [.Call (.Name "isinstance" p1) [on1, .Name x1 p2] [] p3, .Call (.Name "isinstance" p4) [on2, .Name x2 p5] [] p6, .Call (.Name "isinstance" p7) [on3, .Name x3 p8] [] p9] p10) (some (.Name fl p11)) p12.line X.env = pure false := by rfl) :
    MS X W (.Try body [.ExceptHandler (some (.Name "FindError" np)) (some n) [.Assign [.Name fl p11] (.List [.Call (.Name "isinstance" p1) [on1, .Name x1 p2] [] p3, .Call (.Name "isinstance" p4) [on2, .Name x2 p5] [] p6, .Call (.Name "isinstance" p7) [on3, .Name x3 p8] [] p9] p10) p12,
      .Return (some (.BoolOp .And [.Call (.Name "isinstance" p13) [onV, .Name "ValueError" p14] [] p15, .Compare ofl [.Eq] [.List [.Constant (.bool true) t1 pn1, .Constant (.bool false) t2 pn2, .Constant (.bool false) t3 pn3] pnV] pnf] p16)) p17] pos'] [] [] pos) (sTryA cs x1 mb) := by
  obtain ⟨E, mE⟩ := mF
  have hu : X.A.units + 64 < cLine := cz.u64
  refine ⟨_, L2N.ps_try_as (ts := tSu X cs x1 i j wA) hs hf cz.nd hi hln ⟨gF, by decide, .inl mE⟩ cz.tk (body_of cz hb) (fun a oe cls d pn hz hv => suite_a cz.nd hi hj hlj hff gI mI g1 g2 g3 gV d1 d2 d3 hu hC h12 h13 hz.zc hv (v1 _ _) (v2 _ _) (v3 _ _) (vV _ _) (vf _ _) s1 s2 s3 hsw fun C b1 b2 b3 hE hz' kV mV => ?_), fun G0 H0 σ G H ρ D r h => ?_⟩
  · refine ps_imp (ps_ret (pe_and (pe_isV (X := X.suite a ((a, oe) :: pn)) hE hz' hv List.mem_cons_self (vV _ _) gI mI gV mV kV sV) (pe_one (pe_fl (X := X.suite a ((a, oe) :: pn)) (b1 := b1) (b2 := b2) (b3 := b3) hu (vf _ _))))) fun D σ H ⟨hσ, p1, e1, h1, q⟩ => ?_
    exact ⟨hσ, true, rfl, iteT ⟨p1, e1, h1, q⟩⟩
  · refine try_read r h (fun c ρ' em σ' G' H' C r' mc => ?_) fun f em hn => ?_
    · unfold sTryA at h
      rw [em] at h
      have h : PostS X W G0 H0 D (if c ∈ cs then .ret (.bool (decide (c = x1))) else .bad) := h
      by_cases hc : c ∈ cs
      · rw [if_pos hc] at h
        obtain ⟨C', E', mC', mE', ex, _⟩ := (hC c hc).e.ex
        rw [mc] at mC'
        rw [mE] at mE'
        cases mC'; cases mE'
        refine ⟨true, ex, fun _ a ha => ⟨c, hc, mc, rfl, ⟨σ', rfl⟩, hij, fun q1 q2 b1 b2 b3 hq1 hq2 => ?_⟩, fun z => nomatch z⟩
        exact h _ G' _ (step_two r'.st hq1 hq2) (.bl _)
      · rw [if_neg hc] at h
        exact h.elim
    · unfold sTryA
      rw [em]
      cases f with
      | exn c ρ' => exact absurd rfl (hn c ρ')
      | _ => rfl
theorem ms_tryB {pn1 pn2 pn3 pnV pnf pr2 pif : Pos} {t4 : Nat} (cz : Cz X W k) (hs : X.stack = X.env :: X.outer) (hf : X.env.frame = some X.env.locals) (hi : X.N[i]? = some n) (hln : X.env.kindOf n = some .local) (hj : X.N[j]? = some fl) (hlj : Loc X.env.scope fl) (hff : X.fn fl = true ∨ X.env.scope.names.lookup fl = some .local)
    (mF : ∃ E, X.mg "FindError" = some (.ref E)) (gF : Gl X "FindError") (gI : Gl X "isinstance") (mI : X.mg "isinstance" = none) (g1 : Gl X x1) (g2 : Gl X x2) (g3 : Gl X x3) (gV : Gl X "ValueError")
    (d1 : (x1 == ("__debug__" : Str)) = false) (d2 : (x2 == ("__debug__" : Str)) = false) (d3 : (x3 == ("__debug__" : Str)) = false) (hC : ∀ c ∈ cs, Caught X.K X.mg c x1 x2 x3) (h12 : x1 ≠ x2) (h13 : x1 ≠ x3) (hij : i ≠ j)
    (hb : ∀ (W' : WX) (pn : List (Addr × Obj)) (xe : Value → Shared → Prop), Cz (X.tr pn xe) W' k → MSs (X.tr pn xe) W' body mb)
    (v1 : ∀ a pn, PE (X.suite a pn) on1 (tVar i)) (v2 : ∀ a pn, PE (X.suite a pn) on2 (tVar i)) (v3 : ∀ a pn, PE (X.suite a pn) on3 (tVar i)) (vV : ∀ a pn, PE (X.suite a pn) onV (tVar i)) (vf : ∀ a pn, PE (X.suite a pn) ofl (tVar j))
    (s1 : starEach [on1, .Name x1 p2] X.env = (false, eval on1 X.env) :: starEach [.Name x1 p2] X.env := by rfl) (s2 : starEach [on2, .Name x2 p5] X.env = (false, eval on2 X.env) :: starEach [.Name x2 p5] X.env := by rfl) (s3 : starEach [on3, .Name x3 p8] X.env = (false, eval on3 X.env) :: starEach [.Name x3 p8] X.env := by rfl)
    (sV : starEach [onV, .Name "ValueError" p14] X.env = (false, eval onV X.env) :: starEach [.Name "ValueError" p14] X.env := by rfl)
    (hsw : swapsWith (.List [.Call (.Name "isinstance" p1) [on1, .Name x1 p2] [] p3, .Call (.Name "isinstance" p4) [on2, .Name x2 p5] [] p6, .Call (.Name "isinstance" p7) [on3, .Name x3 p8] [] p9] p10) (some (.Name fl p11)) p12.line X.env = pure false := by rfl) :
    MS X W (.Try body [.ExceptHandler (some (.Name "FindError" np)) (some n) [.Assign [.Name fl p11] (.List [.Call (.Name "isinstance" p1) [on1, .Name x1 p2] [] p3, .Call (.Name "isinstance" p4) [on2, .Name x2 p5] [] p6, .Call (.Name "isinstance" p7) [on3, .Name x3 p8] [] p9] p10) p12,
      .If (.BoolOp .And [.Call (.Name "isinstance" p13) [onV, .Name "ValueError" p14] [] p15, .Compare ofl [.Eq] [.List [.Constant (.bool true) t1 pn1, .Constant (.bool false) t2 pn2, .Constant (.bool false) t3 pn3] pnV] pnf] p16) [.Return (some (.Constant .none t4 pr2)) p17] [] pif] pos'] [] [] pos) (sTryB cs x1 mb) := by
  obtain ⟨E, mE⟩ := mF
  have hu : X.A.units + 64 < cLine := cz.u64
  refine ⟨_, L2N.ps_try_as (ts := tSu X cs x1 i j wB) hs hf cz.nd hi hln ⟨gF, by decide, .inl mE⟩ cz.tk (body_of cz hb) (fun a oe cls d pn hz hv => suite_a cz.nd hi hj hlj hff gI mI g1 g2 g3 gV d1 d2 d3 hu hC h12 h13 hz.zc hv (v1 _ _) (v2 _ _) (v3 _ _) (vV _ _) (vf _ _) s1 s2 s3 hsw fun C b1 b2 b3 hE hz' kV mV => ?_), fun G0 H0 σ G H ρ D r h => ?_⟩
  · refine ps_imp (ps_if (pw_and (pt_val (pe_isV (X := X.suite a ((a, oe) :: pn)) hE hz' hv List.mem_cons_self (vV _ _) gI mI gV mV kV sV)) (pw_and1 (pt_fl (X := X.suite a ((a, oe) :: pn)) (b1 := b1) (b2 := b2) (b3 := b3) hu (vf _ _)))).pt (pss_one (ps_ret pe_non)) pss_nil) fun D σ H ⟨hσ, p1, e1, h1, q⟩ => ?_
    exact ⟨hσ, true, rfl, p1, e1, h1, q⟩
  · refine try_read r h (fun c ρ' em σ' G' H' C r' mc => ?_) fun f em hn => ?_
    · unfold sTryB at h
      rw [em] at h
      have h : PostS X W G0 H0 D (if c ∈ cs ∧ c = x1 then .ret .none else .bad) := h
      by_cases hc : c ∈ cs ∧ c = x1
      · rw [if_pos hc] at h
        obtain ⟨C', E', mC', mE', ex, _⟩ := (hC c hc.1).e.ex
        rw [mc] at mC'
        rw [mE] at mE'
        cases mC'; cases mE'
        refine ⟨true, ex, fun _ a ha => ⟨c, hc.1, mc, rfl, ⟨σ', rfl⟩, hij, fun q1 q2 b1 b2 b3 hq1 hq2 => ?_⟩, fun z => nomatch z⟩
        show (if decide (c = x1) = true then D.rt .non _ else _)
        rw [if_pos (decide_eq_true hc.2)]
        exact h _ G' _ (step_two r'.st hq1 hq2) .non
      · rw [if_neg hc] at h
        exact h.elim
    · unfold sTryB
      rw [em]
      cases f with
      | exn c ρ' => exact absurd rfl (hn c ρ')
      | _ => rfl
end
section
variable {K : PySem.W.Frag} {h : Heap} {mg : Str → Option Value} {C : Prop}
theorem withMF {E : Addr} (X : K.In h) (G : h.Ns mainGlobals mg) (a : PySem.W.nsIn K mainGlobals "FindError" = some (some (.ref E))) (k : (∃ E, mg "FindError" = some (.ref E)) → C) : C := k ⟨E, PySem.W.mg_of X G a⟩
theorem withCaught {c x1 x2 x3 : Str} {A E t1 t2 t3 : Addr} (X : K.In h) (G : h.Ns mainGlobals mg) (a : PySem.W.nsIn K mainGlobals c = some (some (.ref A))) (aE : PySem.W.nsIn K mainGlobals "FindError" = some (some (.ref E)))
    (a1 : PySem.W.nsIn K mainGlobals x1 = some (some (.ref t1))) (a2 : PySem.W.nsIn K mainGlobals x2 = some (some (.ref t2))) (a3 : PySem.W.nsIn K mainGlobals x3 = some (some (.ref t3))) (aV : PySem.W.nsIn K mainGlobals "ValueError" = some none)
    (e : PySem.W.exmOne K (.ref A) (.ref E) = some true) (hc : ExcC K A) (k1 : PySem.W.kitOne K (.ref A) (.ref t1) = some (decide (c = x1))) (k2 : PySem.W.kitOne K (.ref A) (.ref t2) = some (decide (c = x2))) (k3 : PySem.W.kitOne K (.ref A) (.ref t3) = some (decide (c = x3)))
    (kV : PySem.W.kitOne K (.ref A) (.type "ValueError") = some true) (k : Caught K mg c x1 x2 x3 → C) : C :=
  k ⟨⟨A, E, PySem.W.mg_of X G a, PySem.W.mg_of X G aE, e, hc⟩, ⟨A, t1, PySem.W.mg_of X G a, PySem.W.mg_of X G a1, k1⟩, ⟨A, t2, PySem.W.mg_of X G a, PySem.W.mg_of X G a2, k2⟩, ⟨A, t3, PySem.W.mg_of X G a, PySem.W.mg_of X G a3, k3⟩, ⟨PySem.W.mg_none_of X G aV, A, PySem.W.mg_of X G a, kV⟩⟩
theorem kit_yes {c x : Str} {A : Addr} (h : c = x) : PySem.W.kitOne K (.ref A) (.ref A) = some (decide (c = x)) := by
  rw [decide_eq_true h]
  unfold PySem.W.kitOne
  rw [if_pos (beq_self_eq_true _)]
theorem kit_no {c x : Str} {A B : Addr} (h : c ≠ x) (hne : A ≠ B) (hd : PySem.W.hasDictIn K B = true) (ht : PySem.W.typeIn K (.ref B) = some (.type "type")) (hs : PySem.W.subIn K (.ref A) (.ref B) = some false) : PySem.W.kitOne K (.ref A) (.ref B) = some (decide (c = x)) := by
  rw [decide_eq_false h]
  unfold PySem.W.kitOne
  rw [if_neg (fun z => hne (Value.ref.inj (beq_iff_eq.mp z)))]
  obtain ⟨cd, hc, _⟩ := PySem.W.any_some hd
  show (if ((PySem.W.clsIn K B).isSome && PySem.W.typeIn K (.ref B) == some (.type "type")) = true then PySem.W.subIn K (.ref A) (.ref B) else none) = _
  rw [hc, ht, hs]
  rfl
theorem kit_V {A : Addr} (hs : PySem.W.subIn K (.ref A) (.type "ValueError") = some true) : PySem.W.kitOne K (.ref A) (.type "ValueError") = some true := by
  unfold PySem.W.kitOne
  rw [if_neg (fun z => by cases beq_iff_eq.mp z)]
  show (if PySem.W.kitMeta "ValueError" = true then PySem.W.subIn K (.ref A) (.type "ValueError") else none) = _
  rw [if_pos (by decide +kernel), hs]
theorem all1 {P : Str → Prop} {a : Str} (h : P a) : ∀ c ∈ [a], P c := fun c hc => by rw [List.mem_singleton.mp hc]; exact h
theorem all2 {P : Str → Prop} {a b : Str} (h : P a) (h2 : P b) : ∀ c ∈ [a, b], P c := fun c hc => by
  rcases List.mem_cons.mp hc with rfl | hc
  · exact h
  · exact all1 h2 c hc
theorem all3 {P : Str → Prop} {a b d : Str} (h : P a) (h2 : P b) (h3 : P d) : ∀ c ∈ [a, b, d], P c := fun c hc => by
  rcases List.mem_cons.mp hc with rfl | hc
  · exact h
  · exact all2 h2 h3 c hc
end
end FF

namespace FF
open PySem L2
/-! ### xs.count(d), any data -/
def lcountD : D → List D → Option D
  | .list ds, [d] => if PyData.canLayAll0 ds && PyData.plainAll ds && d.plain && shallow d then some (.int ((ds.countP fun y => PyData.eqv y d : Nat) : Int)) else none
  | _, _ => none
section
variable {X : Cx}
def rCountD (K : PySem.W.Frag) : V → List V → Hp → VK → Prop := fun x xs H Q => ∃ (a : Addr) (y : V) (d : PyData) (ds : List PyData), x = V.ref a ∧ xs = [y] ∧ Dp K H (V.ref a) (.list ds) ∧ Dp K H y d ∧ PyData.plainAll ds = true ∧ d.plain = true ∧ d.depth ≤ 20 ∧
  Q (.int ((ds.countP fun y => PyData.eqv y d : Nat) : Int)) H
theorem mt_countD (hu : X.A.units + 64 < cLine) : MtR X "list.count" (rCountD X.K) := by
  intro pins s σ H x xs v us Q I rx rxs h
  obtain ⟨a, y, d, ds, rfl, rfl, hl, hy, hp, hd, hz, q⟩ := h
  cases rx
  cases rxs with
  | cons ry rt =>
    cases rt
    obtain ⟨bs, r1⟩ := Dp.reads I d y _ hy ry
    cases hl with
    | lst hs ha =>
      obtain ⟨its, rv, pt, hlen⟩ := I.list hs
      obtain ⟨as, h4⟩ := Dp.readsAll I ds _ its ha rv
      exact SeqAt.count_list_data (vs := its.toArray) pt.isList (by simpa using h4) r1 hp hd (by omega) ⟨.int _, H, I.tok _, ⟨_, rfl⟩, q⟩
theorem mtm_lcount (hu : X.A.units + 64 < cLine) : MtMd X "list" "list.count" lcountD := ⟨_, mt_countD hu, fun G H x xs a as d Q s r rs e q => by
  cases r with
  | lst ha hr =>
    rename_i ad vs ds
    cases rs with
    | nil => cases e
    | cons r1 rs =>
      rename_i v vs' y ys
      cases rs with
      | cons _ _ => cases e
      | nil =>
        have e : (if PyData.canLayAll0 ds && PyData.plainAll ds && y.plain && shallow y then some (PyData.int ((ds.countP fun z => PyData.eqv z y : Nat) : Int)) else none) = some d := e
        split at e
        · rename_i hc
          cases e
          simp only [Bool.and_eq_true, shallow, decide_eq_true_eq] at hc
          exact ⟨ad, v, y, ds, rfl, rfl, (Rep.lst ha hr).dp s (by simpa [PyData.canLay0] using hc.1.1.1), r1.dp s hc.2.1, hc.1.1.2, hc.1.2, hc.2.2, q.at s (.int _)⟩
        · cases e
  | _ => cases rs with
    | nil => cases e
    | cons r1 rs => cases e⟩
end
end FF

namespace FF
open PySem L2
/-! ### xs[a:b] * n; xs.extend(ys) -/
def slLD : D → Option Int → Option Int → Option D
  | .list ds, lo, hi => some (.list (cutL ds lo hi))
  | _, _, _ => none
def eSlL (m : Env → R D) (lo hi : EO) : Env → R D := fun ρ => (m ρ).bind fun d => (lo ρ).bind fun l => (hi ρ).bind fun u => lft (slLD d l u)
@[simp] theorem eSlL_a {p : Env → R D} {lo hi : EO} {ρ : Env} : eSlL p lo hi ρ = (p ρ).bind fun d => (lo ρ).bind fun l => (hi ρ).bind fun u => lft (slLD d l u) := by exact rfl
@[simp] theorem slLD_l (a : List D) (lo hi : Option Int) : slLD (.list a) lo hi = some (.list (cutL a lo hi)) := by exact rfl
section
variable {Kf : PySem.W.Frag} {X : Cx} {W : WX}
theorem me_repSl {e b : Expr} {lo hi : Option Expr} {m mb : Env → R D} {ml mh : EO} {p2 spos pos : Pos} (h : ME X W e m) (hl : MO X W lo ml) (hh : MO X W hi mh) (hb : ME X W b mb) : ME X W (.BinOp (.Subscript e (.Slice lo hi none p2) spos) .Mult b pos) (eBin repD (eSlL m ml mh) mb) := by
  obtain ⟨t, pt, ht⟩ := h.ex
  obtain ⟨u, pu, hu⟩ := hl.ex
  obtain ⟨w, pw, hw⟩ := hh.ex
  obtain ⟨z, pz, hz⟩ := hb.ex
  refine ⟨_, pe_op op_rep (pe_slice sl_list pt pu pw) pz, fun σ G H ρ Q re h => ?_⟩
  refine ht σ G H ρ _ re (h.bind.bind.imp fun x _ h1 => fun v G1 H1 s1 r1 => ?_)
  refine hu σ G1 H1 ρ _ (re.step s1) ((h1.bind.step s1 fun _ z => z).imp fun l _ h2 => fun G2 H2 s2 => ?_)
  refine hw σ G2 H2 ρ _ (re.step (s1.trans s2)) ((h2.bind.step (s1.trans s2) fun _ z => z).imp fun u _ h3 => fun G3 H3 s3 => ?_)
  obtain ⟨d, e, q⟩ := h3.lft
  have s23 := s2.trans s3
  have s13 := s1.trans s23
  have r1 := r1.mono (.of s23.g)
  cases r1 with
  | lst ha hr =>
    rename_i vs1 ds1 _
    cases e
    refine ⟨_, _, rfl, s3.s.sq ha, fun p hp => ?_⟩
    have st := Step.new (o := .lst (cutV vs1 l u)) s3.s hp trivial
    have s14 := s13.trans st
    have rc := (repL_cut hr l u).mono (.of st.g)
    refine hz σ _ _ ρ _ (re.step s14) ((q.bind.step s14 fun _ z => z).imp fun y _ h5 => fun v2 G5 H5 s5 r5 => ?_)
    obtain ⟨d2, e2, q2⟩ := h5.lft
    cases r5 with
    | int n =>
      have e2 : (if decide (n < 1000000) && decide ((cutL ds1 l u).length * n.toNat ≤ 1000000) && decide (-(2 ^ 62) ≤ n) then some (PyData.list (List.replicate n.toNat (cutL ds1 l u)).flatten) else none) = some d2 := e2
      split at e2
      · rename_i hc
        cases e2
        rw [Bool.and_eq_true, Bool.and_eq_true] at hc
        have c1 := of_decide_eq_true hc.1.1
        have c2 := of_decide_eq_true hc.1.2
        have c3 := of_decide_eq_true hc.2
        refine ⟨p, n, cutV vs1 l u, rfl, rfl, s5.h _ _ upd_same, by omega, by omega, by rw [rc.length]; exact sz_line c2, fun p2 hp2 => ?_⟩
        have s6 := Step.new (o := .lst (List.replicate n.toNat (cutV vs1 l u)).flatten) s5.s hp2 trivial
        exact q2 _ _ _ ((s14.trans s5).trans s6) (.lst (SqL.of upd_same) (repL_rep (rc.mono (.of (s5.trans s6).g)) _))
      · cases e2
    | _ => cases e2
  | _ => cases e
end
end FF

namespace FF
open PySem PySem.Spec PyProof.Rows L2
/-! ### sets of numbers and texts: made of a list, sorted -/
def kOf : Value → Option Key
  | .int i _ => some (.inl i)
  | .str x _ => some (.inr x)
  | _ => none
theorem kOf_is {k : Key} {v : Value} (h : kOf v = some k) : keyIs k v = true := by
  cases v <;> first | cases h | skip
  · exact keyIs_int _ _
  · exact keyIs_str _ _
theorem is_kOf {k : Key} {v : Value} (h : keyIs k v = true) : kOf v = some k := by
  rcases keyIs_shape h with ⟨i, t, rfl, rfl⟩ | ⟨x, t, rfl, rfl⟩ <;> rfl
theorem kOf_rel {k : Key} {v : Value} (h : RelV (kV k) v) : kOf v = some k := by
  cases k with
  | inl i => obtain ⟨t, rfl⟩ := h; rfl
  | inr x => obtain ⟨t, rfl⟩ := h; rfl
theorem rel_kOf {k : Key} {v : Value} (h : kOf v = some k) : RelV (kV k) v := by
  cases v <;> first | cases h | skip
  · exact ⟨_, rfl⟩
  · exact ⟨_, rfl⟩
theorem kOf_scan {k : Key} {v : Value} (h : kOf v = some k) : v.scannable = true := by
  cases v <;> first | cases h | skip
  · rfl
  · rfl
def keyE (e : Int × Value) : Key := (kOf e.2).getD (.inl 0)
def GoodK (w : World) (e : Int × Value) : Prop := kOf e.2 = some (keyE e) ∧ e.1 = keyH w (keyE e)
/-- the set at z: its members, in some order -/
def SetL (w : World) (h : Heap) (z : Addr) (ks : List Key) : Prop :=
  ∃ ob es ep tb, h.get? z = some ob ∧ ob.ExactSet ∧ ob.data = .set es ep tb ∧ (∀ e ∈ es.toList, GoodK w e) ∧ (es.toList.map keyE).Perm ks ∧ ks.Nodup ∧
    es.size < scanBound ∧ tb.fits es.size = true ∧ Ris tb.place.toList ∧ (w.params.followText "set-order" = true ∨ tb.led = true)
def hasK (ks : List Key) (k : Key) : Bool := ks.any fun j => decide (j = k)
theorem hasK_iff {ks : List Key} {k : Key} : hasK ks k = true ↔ k ∈ ks := by
  unfold hasK
  rw [List.any_eq_true]
  constructor
  · rintro ⟨j, hj, e⟩
    rw [decide_eq_true_eq] at e
    exact e ▸ hj
  · exact fun h => ⟨k, h, decide_eq_true rfl⟩
def addL (ks : List Key) (k : Key) : List Key := if hasK ks k = true then ks else k :: ks
def setL (l : List Key) : List Key := l.foldl addL []
theorem mem_addL {ks : List Key} {k j : Key} : j ∈ addL ks k ↔ j = k ∨ j ∈ ks := by
  unfold addL
  split
  · rename_i h
    exact ⟨.inr, fun z => z.elim (fun e => e ▸ hasK_iff.mp h) id⟩
  · exact List.mem_cons
theorem addL_nodup {ks : List Key} {k : Key} (h : ks.Nodup) : (addL ks k).Nodup := by
  unfold addL
  split
  · exact h
  · rename_i z
    exact List.nodup_cons.mpr ⟨fun q => z (hasK_iff.mpr q), h⟩
theorem addL_len (ks : List Key) (k : Key) : (addL ks k).length ≤ ks.length + 1 := by
  unfold addL
  split
  · omega
  · simp
theorem foldL_mem : ∀ (l ks : List Key) (j : Key), j ∈ l.foldl addL ks ↔ j ∈ ks ∨ j ∈ l
  | [], ks, j => by simp
  | k :: l, ks, j => by
    rw [List.foldl_cons, foldL_mem l, mem_addL, List.mem_cons]
    constructor
    · rintro ((h | h) | h)
      · exact .inr (.inl h)
      · exact .inl h
      · exact .inr (.inr h)
    · rintro (h | h | h)
      · exact .inl (.inr h)
      · exact .inl (.inl h)
      · exact .inr h
theorem foldL_nodup : ∀ (l ks : List Key), ks.Nodup → (l.foldl addL ks).Nodup
  | [], ks, h => h
  | k :: l, ks, h => foldL_nodup l _ (addL_nodup h)
theorem foldL_len : ∀ (l ks : List Key), (l.foldl addL ks).length ≤ ks.length + l.length
  | [], ks => by simp
  | k :: l, ks => by
    have h1 := foldL_len l (addL ks k)
    have h2 := addL_len ks k
    rw [List.foldl_cons, List.length_cons]
    omega
theorem mem_setL {l : List Key} {j : Key} : j ∈ setL l ↔ j ∈ l := by
  unfold setL
  rw [foldL_mem]
  simp
theorem setL_nodup (l : List Key) : (setL l).Nodup := foldL_nodup l [] List.nodup_nil
theorem setL_len (l : List Key) : (setL l).length ≤ l.length := by
  have := foldL_len l []
  unfold setL
  simpa using this
section
variable {P : Program} {w : World} {h h' : Heap} {z : Addr} {ks : List Key}
theorem SetL.at (R : SetL w h z ks) (k : ∀ o, h.get? z = some o → h'.get? z = some o) : SetL w h' z ks :=
  match R with
  | ⟨ob, es, ep, tb, ho, r⟩ => ⟨ob, es, ep, tb, k ob ho, r⟩
theorem goodK_elems {l : List (Int × Value)} (g : ∀ e ∈ l, GoodK w e) : ElemsOf (mixKind P w) l := fun e he =>
  ⟨⟨keyE e, kOf_is (g e he).1, (g e he).2⟩, kOf_scan (g e he).1⟩
theorem goodK_mem {l : List (Int × Value)} (g : ∀ e ∈ l, GoodK w e) (k : Key) : k ∈ l.map keyE ↔ ∃ e ∈ l, keyIs k e.2 = true := by
  rw [List.mem_map]
  constructor
  · rintro ⟨e, he, q⟩
    exact ⟨e, he, kOf_is (by rw [(g e he).1, q])⟩
  · rintro ⟨e, he, q⟩
    have q := is_kOf q
    rw [(g e he).1] at q
    exact ⟨e, he, Option.some.inj q⟩
theorem SetL.setOf (R : SetL w h z ks) : h.SetOf (mixKind P w) z (hasK ks) ks.length := by
  obtain ⟨ob, es, ep, tb, ho, hx, hd, g, pm, nd, hb, hf, _⟩ := R
  refine ⟨ob, es, ep, tb, ho, hx, hd, goodK_elems g, fun k => ?_, hb, hf, ?_⟩
  · rw [hasK_iff, ← pm.mem_iff]
    exact goodK_mem g k
  · rw [← pm.length_eq, List.length_map, Array.length_toList]
theorem SetL.lt (R : SetL w h z ks) : z < h.objs.size := match R with
  | ⟨_, _, _, _, ho, _⟩ => Heap.lt_size ho
end
section
variable {P : Program} {w : World} {A : Around} {E : Value → Shared → Prop} {s : Shared} {z : Addr} {ks : List Key}
theorem addL_tail {g : Bool → Sem Unit} (hg : ∀ (b : Bool) (s1 : Shared) (Q' : Unit → Shared → Prop), Q' () s1 → wpAny (model P w) A (g b) Q' E s1)
    {ob : Obj} {es : Array (Int × Value)} {ep : Nat} {tb : SetTable} (ho : s.heap.get? z = some ob) (hex : ob.ExactSet) (hd : ob.data = .set es ep tb)
    {es1 : Array (Int × Value)} {t2 : SetTable} {ks' : List Key} (g1 : ∀ e ∈ es1.toList, GoodK w e) (pm1 : (es1.toList.map keyE).Perm ks') (nd1 : ks'.Nodup)
    (hb1 : es1.size < scanBound) (hf2 : t2.fits es1.size = true) (hr : Ris t2.place.toList) (hl : w.params.followText "set-order" = true ∨ t2.led = true) {wasDummy : Bool} {R : Option Bool → Shared → Prop}
    (hR : ∀ h', Heap.SameBut z s.heap h' → SetL w h' z ks' → R (some true) { s with heap := h' }) :
    wpAny (model P w) A (do
        storeSet z es1 t2
        if (!wasDummy && t2.tooFull) = true then do
            g (relayAll t2 es1 (SetTable.grown es1.size)).2.2
            storeSet z (relayAll t2 es1 (SetTable.grown es1.size)).1 (relayAll t2 es1 (SetTable.grown es1.size)).2.1
            pure (some true)
          else pure (some true)) R E s := by
  refine wpAny_bind (wpAny_storeSet_of ho hd ?_ (fits_of_scanBound hb1))
  have ho1 := store_at (es' := es1) (t' := t2) ho hd
  have sb1 := Heap.SameBut.update s.heap z (Obj.putSet es1 t2)
  split
  · have pm := relayAll_perm t2 es1 (SetTable.grown es1.size)
    have f3 := relayAll_fits t2 es1 (SetTable.grown es1.size)
    have r3 := relayAll_ris t2 es1 (SetTable.grown es1.size)
    have l3 := relayAll_led t2 es1 (SetTable.grown es1.size)
    generalize relayAll t2 es1 (SetTable.grown es1.size) = Y at pm f3 r3 l3 ⊢
    obtain ⟨es2, t3, gave⟩ := Y
    dsimp only at pm f3 r3 l3 ⊢
    have hsz : es2.size = es1.size := by rw [← Array.length_toList, pm.length_eq, Array.length_toList]
    have hb2 : es2.size < scanBound := hsz ▸ hb1
    refine wpAny_bind (hg _ _ _ ?_)
    refine wpAny_bind (wpAny_storeSet_of ho1 rfl ?_ (fits_of_scanBound hb2))
    have ho2 := store_at (es' := es2) (t' := t3) ho1 rfl
    refine wpAny_pure (hR _ (sb1.trans (Heap.SameBut.update _ z _)) ?_)
    refine ⟨_, es2, _, t3, ho2, hex, rfl, fun e he => g1 e (pm.mem_iff.mp he), (pm.map keyE).trans pm1, nd1, hb2, f3, r3, hl.imp id fun q => ?_⟩
    rw [l3]
    exact q
  · exact wpAny_pure (hR _ sb1 ⟨_, es1, _, t2, ho1, hex, rfl, g1, pm1, nd1, hb1, hf2, hr, hl⟩)
theorem addL_hashed {k : Key} {v : Value} (hv : kOf v = some k) {Q : Bool → Shared → Prop} (R : SetL w s.heap z ks) (room : ks.length + 1 < scanBound)
    (hQ : ∀ h' b, Heap.SameBut z s.heap h' → SetL w h' z (addL ks k) → Q b { s with heap := h' }) :
    wpAny (model P w) A (setAddHashed z v (keyH w k)) Q E s := by
  obtain ⟨ob, es, ep, tb, ho, hex, hd, g, pm0, nd, hb, hf, hr, hl⟩ := R
  have hkey : (mixKind P w).is k v = true := kOf_is hv
  have hsc : v.scannable = true := kOf_scan hv
  have hel : ElemsOf (mixKind P w) es.toList := goodK_elems g
  unfold setAddHashed setAddHashedIn
  refine wpAny_holding (wpAny_bind (wpAny_setState_of ho hd hf ?_))
  dsimp only
  rw [byScan_of hsc hb hel]
  simp only [↓reduceIte]
  unfold setAddByScan
  refine wpAny_bind ?_
  refine wpAny_bind (wpAny_rule ?_)
  refine wpAny_bind (wpAny_setScan_of hkey ho hd hf hel ?_)
  cases hfi : List.findIdx? (fun e => (mixKind P w).is k e.2) es.toList with
  | some j =>
    dsimp only
    obtain ⟨hj, pj, _⟩ := List.findIdx?_eq_some_iff_getElem.mp hfi
    have hk : k ∈ ks := pm0.mem_iff.mp ((goodK_mem g k).2 ⟨es.toList[j], List.getElem_mem hj, pj⟩)
    refine wpAny_pure (wpAny_pure ?_)
    refine hQ s.heap _ (Heap.SameBut.refl z s.heap) ?_
    unfold addL
    rw [if_pos (hasK_iff.mpr hk)]
    exact ⟨ob, es, ep, tb, ho, hex, hd, g, pm0, nd, hb, hf, hr, hl⟩
  | none =>
    dsimp only
    have hnk : k ∉ ks := fun q => by
      obtain ⟨e, he, q⟩ := (goodK_mem g k).1 (pm0.mem_iff.mpr q)
      have c := List.findIdx?_eq_none_iff.mp hfi e he
      have q : (mixKind P w).is k e.2 = true := q
      rw [q] at c
      cases c
    have hadd : addL ks k = k :: ks := if_neg fun q => hnk (hasK_iff.mp q)
    have hgw : ∀ (b : Bool) {s1 : Shared} {Q' : Unit → Shared → Prop}, Q' () s1 → wpAny (model P w) A (match b with | true => rule "set.scan.the-table-gave-way" | false => pure ()) Q' E s1 :=
      fun b s1 Q' q => by cases b <;> first | exact wpAny_pure q | exact wpAny_rule q
    have pm := layNew_perm tb es (keyH w k) v
    have f1 := layNew_fits tb es (keyH w k) v
    have r1 := layNew_ris tb es (keyH w k) v hr
    have l1 := layNew_led tb es (keyH w k) v
    generalize layNew tb es (keyH w k) v = Y at pm f1 r1 l1 ⊢
    obtain ⟨es1, t1, wasDummy, gave⟩ := Y
    dsimp only at pm f1 r1 l1 ⊢
    rw [Array.toList_push] at pm
    have pc : es1.toList.Perm ((keyH w k, v) :: es.toList) := pm.trans (List.perm_append_singleton _ _)
    have ek : keyE (keyH w k, v) = k := by
      unfold keyE
      rw [hv]
      rfl
    have pk : (es1.toList.map keyE).Perm (k :: es.toList.map keyE) := by
      have := pc.map keyE
      rw [List.map_cons, ek] at this
      exact this
    have g1 : ∀ e ∈ es1.toList, GoodK w e := fun e he => by
      rcases List.mem_cons.mp (pc.mem_iff.mp he) with q | q
      · rw [q]
        exact ⟨by rw [ek]; exact hv, by rw [ek]⟩
      · exact g e q
    have pm1 : (es1.toList.map keyE).Perm (addL ks k) := by
      rw [hadd]
      exact pk.trans (List.Perm.cons k pm0)
    have nd1 : (addL ks k).Nodup := addL_nodup nd
    have hsz : es1.size = ks.length + 1 := by
      rw [← Array.length_toList, ← List.length_map (f := keyE), pm1.length_eq, hadd, List.length_cons]
    have hb1 : es1.size < scanBound := by rw [hsz]; exact room
    have hled : w.params.followText "set-order" = true ∨ t1.led = true := hl.imp id fun q => l1.trans q
    have fin : ∀ h', Heap.SameBut z s.heap h' → SetL w h' z (addL ks k) → Q true { s with heap := h' } := fun h' sb r => hQ h' true sb r
    refine wpAny_bind (hgw _ ?_)
    split
    · refine wpAny_bind ?_
      rw [hashByValue_scannable 8 hsc]
      refine wpAny_pure ?_
      refine addL_tail ?_ ho hex hd g1 pm1 nd1 hb1 ?_ ?_ ?_ ?_
      · intro b s1 Q' q; cases b <;> first | exact wpAny_pure q | exact wpAny_rule q
      · first | (split <;> first | exact f1 | exact SetTable.fits_plain_off f1) | exact f1
      · first | (split <;> exact r1) | exact r1
      · first | (split <;> exact hled) | exact hled
      · intro h' sb r; dsimp only; exact wpAny_pure (fin h' sb r)
    · refine wpAny_bind (wpAny_pure ?_)
      simp only [↓reduceIte]
      refine addL_tail ?_ ho hex hd g1 pm1 nd1 hb1 f1 r1 hled ?_
      · intro b s1 Q' q; cases b <;> first | exact wpAny_pure q | exact wpAny_rule q
      · intro h' sb r; dsimp only; exact wpAny_pure (fin h' sb r)
theorem setL_loop {I : Addr} {fp wr : List Addr} {G : Array GenState → Array GenState → Prop} {n : Nat} {Pv : Nat → Value → Prop} {St : Nat → Shared → Prop} {R : Result → Shared → Prop}
    (W : WalksS P w A.in1 I fp wr G n Pv St) (z : Addr) (hz : z ∉ fp) (l : List Key) (hn : n = l.length) (hb : l.length + 1 < scanBound) (hval : ∀ i v, Pv i v → ∃ k, l[i]? = some k ∧ kOf v = some k) :
    ∀ (m i : Nat) (s : Shared), n - i = m → i ≤ n → St i s → SetL w s.heap z (setL (l.take i)) →
      (∀ s', Moved (z :: wr) G s s' → SetL w s'.heap z (setL l) → R (.ok (.ret .none)) s') →
      codeAny (model P w) A (.builtin "set.update.loop" ⟨[.ref z, .ref I], []⟩) R s := by
  have hzw : z ∉ wr := fun q => hz (W.sub _ q)
  have hsub : ∀ b ∈ wr, b ∈ z :: wr := fun b q => List.mem_cons_of_mem _ q
  intro m
  induction m with
  | zero =>
    intro i s hm hi hst hS hR
    obtain rfl : i = n := by omega
    refine codeAny_builtin F.entry_set_update_loop ?_
    rw [Around.under_plainId F.plain_set_update_loop _]
    show wpAny _ A.in1 (pyNext (.ref I) >>= _) _ _ s
    refine wpAny_bind (W.done s _ _ hst fun s' mv => ?_)
    show wpAny _ A.in1 (ret Value.none) _ _ s'
    have e : l.take i = l := List.take_of_length_le (by omega)
    rw [e] at hS
    exact wpAny_pure (hR s' (mv.mono hsub) (hS.at fun o q => mv.heap z o hzw q))
  | succ m ih =>
    intro i s hm hi hst hS hR
    have hlt : i < n := by omega
    refine codeAny_builtin F.entry_set_update_loop ?_
    rw [Around.under_plainId F.plain_set_update_loop _]
    show wpAny _ A.in1 (pyNext (.ref I) >>= _) _ _ s
    refine wpAny_bind (W.item i s _ _ hlt hst fun v s' hP hst' mv => ?_)
    obtain ⟨k, hk, hv⟩ := hval i v hP
    have hS' : SetL w s'.heap z (setL (l.take i)) := hS.at fun o q => mv.heap z o hzw q
    show wpAny _ A.in1 (holding [v] (setAdd z v) >>= _) _ _ s'
    refine wpAny_bind (wpAny_holding ?_)
    unfold setAdd
    refine wpAny_holding ?_
    refine wpAny_bind ((mixKind P w).pyHash (k := k) (kOf_is hv) ?_)
    have hlen : (setL (l.take i)).length ≤ i := Nat.le_trans (setL_len _) (by rw [List.length_take]; omega)
    refine addL_hashed (s := { s' with toks := s'.toks + 1 }) hv hS' (by omega) fun h' bb hsb hS2 => ?_
    have e2 : addL (setL (l.take i)) k = setL (l.take (i + 1)) := by
      unfold setL
      rw [List.take_add_one, hk, List.foldl_append]
      rfl
    rw [e2] at hS2
    refine wpAny_pure ⟨plainId_quiet F.plain_set_update_loop _, ih (i + 1) _ (by omega) hlt (W.frame _ s' _ _ hst' (Nat.le_succ _) fun b q o e => ?_) hS2 fun s'' mv2 hS3 => ?_⟩
    · rw [hsb.2 b (fun y : b = z => hz (y ▸ q))]; exact e
    · refine hR s'' (Moved.trans W.gtrans ((mv.mono hsub).then_heap (Nat.le_succ _) fun b o q e => ?_) mv2) hS3
      rw [hsb.2 b (fun y : b = z => q (y ▸ List.mem_cons_self))]; exact e
abbrev newSet (w : World) : Obj := { cls := .type "set", dict := none, data := .set #[] 0 (.fresh 0 0 (!w.params.followText "set-order")) }
theorem setL_new {w : World} {h : Heap} {z : Addr} (ho : h.get? z = some (newSet w)) : SetL w h z [] :=
  ⟨_, #[], 0, _, ho, ⟨rfl, rfl, rfl⟩, rfl, (fun e he => by simp at he), (by simp), List.nodup_nil, (by decide), (by rfl), List.Pairwise.nil, by
    show _ ∨ (!w.params.followText "set-order") = true
    cases w.params.followText "set-order"
    · exact .inr rfl
    · exact .inl rfl⟩
set_option maxHeartbeats 8000000 in
theorem call_setL {a : Addr} {its : Array Value} (l : List Key) {Q : Value → Shared → Prop} (hh : A.handled = none) (hl : s.heap.IsList a its) (hi : its.size = l.length) (hk : ∀ (i : Nat) v, its[i]? = some v → ∃ k, l[i]? = some k ∧ kOf v = some k) (hb : l.length + 1 < scanBound)
    (hQ : ∀ (h' : Heap) (tk : Nat), SetL w h' s.heap.objs.size (setL l) → (∀ b o, s.heap.get? b = some o → h'.get? b = some o) → Q (.ref s.heap.objs.size) { s with heap := h', toks := tk }) :
    wpAny (model P w) A (call (.type "set") [.ref a]) Q E s := by
  obtain ⟨c, tl, hmro⟩ := F.called_set.mro
  have hmade := F.called_set.made
  have hsub := F.called_set.sub
  refine wpAny_call (codeAny_of_tree ?_)
  show wpAny _ _ (callAny (.type "set") _) _ _ _
  refine wpAny_pure ⟨Code.quiet_builtin _ (by decide +kernel), codeAny_builtin F.entry_type_call ?_⟩
  rw [Around.under_plain (weight_type_call_type "set" [.ref a] []) rfl]
  have h1 := F.called_set.notType
  have h2 := F.called_set.canCreate
  have hct := F.typeCall_set_1 (.ref a)
  repeat (any_goals (first | assumption | wp_step))
  refine codeAny_mono (code_set_led1 (.ref a) (E := E) (Q₁ := fun obj s1 => obj = .ref s.heap.objs.size ∧ s1 = { s with heap := s.heap.push (newSet w) }) ⟨rfl, rfl⟩) fun r s1 hr => ?_
  cases r with
  | error e => exact hr
  | ok fl =>
    cases fl with
    | ret obj =>
      obtain ⟨rfl, rfl⟩ := hr
      have hS : (s.heap.push (newSet w)).get? s.heap.objs.size = some (newSet w) := Heap.get?_push_size _ rfl
      have hT : Shared.TypeIs { s with heap := s.heap.push (newSet w) } (.ref s.heap.objs.size) "set" := ⟨_, hS, rfl⟩
      have hli := F.called_set.init.lookup
      have hbi := F.called_set.init.bind (.ref s.heap.objs.size)
      repeat (any_goals (first | assumption | wp_step))
      refine codeAny_mono (codeAny_call_builtin (R := wants (fun r s2 => r = .none ∧ ∃ h' tk, s2 = { s with heap := h', toks := tk } ∧ SetL w h' s.heap.objs.size (setL l) ∧ (∀ b o, s.heap.get? b = some o → h'.get? b = some o)) E) F.called_set.init.plain F.entry_set_init (check_set_init_1 hT ?_)) fun r2 s2 hr2 => ?_
      · obtain ⟨ol, hol, hcl, nl, hdl⟩ := hl
        obtain ⟨ocls, odict, odata, oslots⟩ := ol
        simp only at hcl hdl
        subst hcl; subst hdl
        have hol' : (s.heap.push (newSet w)).get? a = some { cls := .type "list", dict := odict, data := .seq its nl, slots := oslots } := Heap.get?_push_of_some _ hol
        have hsls := F.sub_list_set
        have hslf := F.sub_list_frozenset
        have hne : (Value.type "list" == Value.type "dict") = false := by decide
        have hl1 : (s.heap.push (newSet w)).IsList a its := ⟨_, hol', rfl, nl, rfl⟩
        unfold Builtin.«set.__init__» noKeywords Builtin.Frozenset.updateFrom
        generalize hPI : pyIter = PI
        wp_walk
        subst hPI
        refine wpAny_pyIter_list hl1 ?_
        refine wpAny_bind (wpAny_runValue ?_)
        have haS : a < s.heap.objs.size := Heap.lt_size hol
        have hh3 : A.in1.in1.in1.handled = none := by simp [hh]
        have hz1 : (s.heap.push (newSet w)).objs.size = s.heap.objs.size + 1 := Heap.size_push ..
        have hneI : a ≠ (s.heap.push (newSet w)).objs.size := by
          rw [hz1]; exact Nat.ne_of_lt (Nat.lt_succ_of_lt haS)
        have hSf : s.heap.objs.size ∉ [(s.heap.push (newSet w)).objs.size, a] := by
          rw [hz1]; simp only [List.mem_cons, List.not_mem_nil, or_false, not_or]
          exact ⟨Nat.ne_of_lt (Nat.lt_succ_self _), Nat.ne_of_gt haS⟩
        refine setL_loop ((Walks.list hh3 _ a hneI its).toS) s.heap.objs.size hSf l hi hb hk (its.size - 0) 0 _ (by omega) (Nat.zero_le _)
          ⟨⟨_, Heap.get?_push_size _ rfl, rfl, rfl⟩, (hl1.push _)⟩ ?hS0 ?hR
        case hS0 => exact setL_new (Heap.get?_push_of_some _ hS)
        case hR =>
          intro s' mv hS'
          obtain ⟨h', g2, d', tk', os'⟩ := s'
          have eg : g2 = s.gens := mv.gens
          have ed : d' = s.drawn := mv.drawn
          have eo : os' = s.os := mv.os
          subst eg; subst ed; subst eo
          show wpAny _ _ _ _ _ _
          refine wpAny_pure ?_
          show wpAny _ _ (ret Value.none) _ _ _
          refine wpAny_pure ⟨rfl, h', tk', rfl, hS', fun b o e => ?_⟩
          have hb0 : b < s.heap.objs.size := Heap.lt_size e
          refine mv.heap b o ?_ (Heap.get?_push_of_some _ (Heap.get?_push_of_some _ e))
          rw [hz1]
          simp only [List.mem_cons, List.not_mem_nil, or_false, not_or]
          exact ⟨Nat.ne_of_lt hb0, Nat.ne_of_lt (Nat.lt_succ_of_lt hb0)⟩
      · cases r2 with
        | error e => exact hr2
        | ok fl2 =>
          cases fl2 with
          | ret r =>
            obtain ⟨rfl, h', tk, rfl, hS', hk'⟩ := hr2
            repeat (any_goals (first | assumption | wp_step))
            exact hQ _ _ hS' hk'
          | _ => exact hr2.elim
    | _ => exact hr.elim
/-! sorted(a set) -/
theorem keyD_reads {h : Heap} {k : Key} {v : Value} (hv : kOf v = some k) : Reads h v (kD k) [] := by
  cases v <;> first | cases hv | skip
  · exact .int _ _
  · exact .str _ _
theorem each_keys : ∀ {vs : List Value} {ks : List Key}, (∀ (i : Nat) v, vs[i]? = some v → ∃ k, ks[i]? = some k ∧ kOf v = some k) → vs.length = ks.length → PySem.W.EachIs (fun v k => kOf v = some k) vs ks
  | [], [], _, _ => .nil
  | [], _ :: _, _, h => by cases h
  | _ :: _, [], _, h => by cases h
  | v :: vs, k :: ks, h, hl => by
    obtain ⟨k', e1, e2⟩ := h 0 v rfl
    cases e1
    exact .cons e2 (each_keys (fun i v q => h (i + 1) v q) (Nat.succ.inj hl))
theorem each_imp {α β : Type} {R R' : α → β → Prop} (f : ∀ a b, R a b → R' a b) : ∀ {as : List α} {bs : List β}, PySem.W.EachIs R as bs → PySem.W.EachIs R' as bs
  | _, _, .nil => .nil
  | _, _, .cons h t => .cons (f _ _ h) (each_imp f t)
/-- the order of keys of one kind -/
def leK (a b : Key) : Bool := leG (kD a) (kD b)
def oneK (ks : List Key) : Bool := ks.all (fun k => match k with | .inl _ => true | _ => false) || ks.all (fun k => match k with | .inr _ => true | _ => false)
theorem sorted_setL (R : SetL w s.heap z ks) (hh : A.handled = none) (hu : A.units + 64 < cLine) (ho : oneK ks = true) {Q : Value → Shared → Prop}
    (hQ : ∀ s' p (out : List Value) (c : Nat), (∀ b o, s.heap.get? b = some o → s'.heap.get? b = some o) → s'.gens = s.gens → s'.os = s.os → s.heap.objs.size ≤ p →
      s'.heap.get? p = some (seqObj "list" out.toArray c) → (∃ ks' : List Key, ks'.Perm ks ∧ PySem.W.EachIs (fun v k => kOf v = some k) out (ks'.mergeSort leK)) → Q (.ref p) s') :
    wpAny (model P w) A (call (.builtin "sorted") [.ref z]) Q E s := by
  obtain ⟨ob, es, ep, tb, hob, hex, hd, g, pm0, nd, hb, hf, hr, hl⟩ := R
  refine Calls.call_function_entry kind_sorted plain_sorted entry_sorted (args_sorted1 _) ?_
  unfold Builtin.«sorted»
  refine wpAny_bind (m := checkCount "sorted" 1 1 _) (wpAny_pure ?_)
  refine wpAny_bind (collect_set (A := A.in1) hh ⟨ob, hob, hex.1, hd⟩ hf hb hr hl fun s1 vs k1 hz g1 o1 pm => ?_)
  have hvl : vs.length = es.size := by rw [pm.length_eq, List.length_map, Array.length_toList]
  have hvk : ∀ v ∈ vs, ∃ k, kOf v = some k := fun v hv => by
    obtain ⟨e, he, q⟩ := List.mem_map.mp (pm.mem_iff.mp hv)
    exact ⟨_, q ▸ (g e he).1⟩
  let ks1 : List Key := vs.map fun v => (kOf v).getD (.inl 0)
  have pk : ks1.Perm ks := by
    have q := pm.map fun v => (kOf v).getD (.inl 0)
    rw [List.map_map] at q
    exact q.trans pm0
  have ho1 : oneK ks1 = true := by
    unfold oneK at ho ⊢
    rw [Bool.or_eq_true, List.all_eq_true, List.all_eq_true] at ho ⊢
    exact ho.imp (fun q k hk => q k (pk.mem_iff.mp hk)) fun q k hk => q k (pk.mem_iff.mp hk)
  have ea : PySem.W.EachIs (fun v k => kOf v = some k) vs ks1 := each_keys (fun i v q => by
    obtain ⟨k, hk⟩ := hvk v (List.mem_of_getElem? q)
    refine ⟨k, ?_, hk⟩
    show (vs.map fun v => (kOf v).getD (.inl 0))[i]? = some k
    rw [List.getElem?_map, q]
    show some ((kOf v).getD (.inl 0)) = some k
    rw [hk]
    rfl) (by show _ = (vs.map _).length; rw [List.length_map])
  have hsz : vs.length ≤ sizeLine := by
    rw [hvl]
    exact fits_of_scanBound hb
  refine wpAny_bind (wpAny_newList ?_ hsz)
  have hoL : (s1.heap.push (seqObj "list" vs.toArray 0)).get? s1.heap.objs.size = some (seqObj "list" vs.toArray 0) := Heap.get?_push_size _ rfl
  have al : PySem.W.AllAlike (ks1.map kD) := fun d hd d' hd' => by
    obtain ⟨a, ha, rfl⟩ := List.mem_map.mp hd
    obtain ⟨b, hb, rfl⟩ := List.mem_map.mp hd'
    unfold oneK at ho1
    rw [Bool.or_eq_true, List.all_eq_true, List.all_eq_true] at ho1
    rcases ho1 with q | q
    · have q1 := q a ha
      have q2 := q b hb
      cases a <;> cases b <;> first | (simp at q1; done) | (simp at q2; done) | rfl
    · have q1 := q a ha
      have q2 := q b hb
      cases a <;> cases b <;> first | (simp at q1; done) | (simp at q2; done) | rfl
  have so : PySem.W.Sortable (ks1.map kD) := .inr fun d hd => by
    obtain ⟨a, _, rfl⟩ := List.mem_map.mp hd
    cases a <;> exact ⟨fun q => (by cases q), fun _ q => (by cases q)⟩
  refine wpAny_bind (wpAny_holding (PySem.W.list_sort_data (A := A.in1) (enc := kD) (bs := ks1) hoL ea (each_imp (fun v k q => ⟨[], keyD_reads q, by simp⟩) ea) al so (by show (vs.map _).length ≤ _; rw [List.length_map]; exact hsz) (fun k _ => by
    have : (kD k).depth = 0 := by cases k <;> rfl
    rw [this]
    have : A.in1.units = A.units + 1 := rfl
    rw [this]
    omega) fun out hout eo => ?_))
  obtain ⟨c, hc⟩ := sortedHeap_at (vs := vs) (out := out.toArray) hoL
  refine wpAny_pure ⟨_, rfl, hQ _ s1.heap.objs.size out c (fun b u e => ?_) g1 o1 hz hc ⟨ks1, pk, eo⟩⟩
  have q := k1 b u e
  have hlt := Heap.lt_size q
  show (sortedHeap (s1.heap.push (seqObj "list" vs.toArray 0)) s1.heap.objs.size vs out.toArray).get? b = some u
  rw [sortedHeap_old (Nat.ne_of_lt hlt) (by rw [size_push']; exact Nat.lt_succ_of_lt hlt)]
  exact Heap.get?_push_of_some _ q
end
end FF

namespace FF
open PySem PySem.Spec PyProof.Rows L2
/-! ### sorted(set(xs)) -/
def keysL (ds : List D) : Option (List Key) := match ds with
  | [] => some []
  | d :: r => (keyOf d).bind fun k => (keysL r).map fun ks => k :: ks
def sortK (l : List Key) : List Key := (setL l).mergeSort leK
def sortedSetD : D → Option D
  | .list ds => (keysL ds).bind fun l => if oneK l && decide (l.length ≤ 4000) then some (.list ((sortK l).map kD)) else none
  | _ => none
theorem leK_i (a b : Int) : leK (.inl a) (.inl b) = decide (a ≤ b) := by
  have := congrFun (congrFun (PySem.W.dataLe_int (fun i : Int => i)) a) b
  exact this
theorem leK_s (a b : Str) : leK (.inr a) (.inr b) = decide (a.cps.toList ≤ b.cps.toList) := by
  have := congrFun (congrFun (PySem.W.dataLe_str (fun i : Str => i)) a) b
  exact this
theorem oneK_cases {ks : List Key} (h : oneK ks = true) : (∃ is : List Int, ks = is.map .inl) ∨ ∃ xs : List Str, ks = xs.map .inr := by
  unfold oneK at h
  rw [Bool.or_eq_true, List.all_eq_true, List.all_eq_true] at h
  rcases h with h | h
  · refine .inl ⟨ks.map fun k => match k with | .inl i => i | .inr _ => 0, ?_⟩
    rw [List.map_map]
    have : ks = ks.map id := by simp
    conv => lhs; rw [this]
    refine List.map_congr_left fun k hk => ?_
    have := h k hk
    cases k with
    | inl i => rfl
    | inr x => simp at this
  · refine .inr ⟨ks.map fun k => match k with | .inr i => i | .inl _ => Str.empty, ?_⟩
    rw [List.map_map]
    have : ks = ks.map id := by simp
    conv => lhs; rw [this]
    refine List.map_congr_left fun k hk => ?_
    have := h k hk
    cases k with
    | inr i => rfl
    | inl x => simp at this
/-- texts in order -/
def leS (a b : Str) : Bool := decide (a.cps.toList ≤ b.cps.toList)
theorem leS_total (a b : Str) : (leS a b || leS b a) = true := by
  unfold leS
  rw [Bool.or_eq_true, decide_eq_true_eq, decide_eq_true_eq]
  exact List.le_total _ _
theorem leS_trans (a b c : Str) (h : leS a b = true) (h' : leS b c = true) : leS a c = true := by
  unfold leS at *
  rw [decide_eq_true_eq] at *
  exact List.le_trans h h'
theorem leS_anti {a b : Str} (h : leS a b = true) (h' : leS b a = true) : a = b := by
  unfold leS at *
  rw [decide_eq_true_eq] at *
  have := List.le_antisymm h h'
  rw [← S_of a, ← S_of b, this]
theorem sortK_i (is : List Int) : (is.map (Sum.inl : Int → Key)).mergeSort leK = (is.mergeSort fun a b => decide (a ≤ b)).map .inl :=
  (PySem.W.sort_maps (Sum.inl : Int → Key) fun a _ b _ => (leK_i a b).symm).symm
theorem sortK_s (is : List Str) : (is.map (Sum.inr : Str → Key)).mergeSort leK = (is.mergeSort leS).map .inr :=
  (PySem.W.sort_maps (Sum.inr : Str → Key) fun a _ b _ => (leK_s a b).symm).symm
theorem perm_inl {ks : List Key} {is : List Int} (h : ks.Perm (is.map .inl)) : ∃ js : List Int, ks = js.map .inl ∧ js.Perm is := by
  have ho : oneK ks = true := by
    unfold oneK
    rw [Bool.or_eq_true, List.all_eq_true]
    refine .inl fun k hk => ?_
    obtain ⟨i, _, rfl⟩ := List.mem_map.mp (h.mem_iff.mp hk)
    rfl
  refine ⟨ks.map fun k => match k with | .inl i => i | .inr _ => 0, ?_, ?_⟩
  · rw [List.map_map]
    have : ks = ks.map id := by simp
    conv => lhs; rw [this]
    refine List.map_congr_left fun k hk => ?_
    obtain ⟨i, _, rfl⟩ := List.mem_map.mp (h.mem_iff.mp hk)
    rfl
  · have := h.map fun k : Key => match k with | .inl i => i | .inr _ => (0 : Int)
    rw [List.map_map] at this
    have e : is.map ((fun k : Key => match k with | .inl i => i | .inr _ => (0 : Int)) ∘ Sum.inl) = is := by
      conv => rhs; rw [← List.map_id is]
      rfl
    rw [e] at this
    exact this
theorem perm_inr {ks : List Key} {is : List Str} (h : ks.Perm (is.map .inr)) : ∃ js : List Str, ks = js.map .inr ∧ js.Perm is := by
  refine ⟨ks.map fun k => match k with | .inr i => i | .inl _ => Str.empty, ?_, ?_⟩
  · rw [List.map_map]
    have : ks = ks.map id := by simp
    conv => lhs; rw [this]
    refine List.map_congr_left fun k hk => ?_
    obtain ⟨i, _, rfl⟩ := List.mem_map.mp (h.mem_iff.mp hk)
    rfl
  · have := h.map fun k : Key => match k with | .inr i => i | .inl _ => Str.empty
    rw [List.map_map] at this
    have e : is.map ((fun k : Key => match k with | .inr i => i | .inl _ => Str.empty) ∘ Sum.inr) = is := by
      conv => rhs; rw [← List.map_id is]
      rfl
    rw [e] at this
    exact this
theorem sort_uniq {ks ks' : List Key} (ho : oneK ks = true) (h : ks'.Perm ks) : ks'.mergeSort leK = ks.mergeSort leK := by
  rcases oneK_cases ho with ⟨is, rfl⟩ | ⟨xs, rfl⟩
  · obtain ⟨js, rfl, hp⟩ := perm_inl h
    rw [sortK_i, sortK_i]
    congr 1
    have tr : ∀ a b c : Int, decide (a ≤ b) = true → decide (b ≤ c) = true → decide (a ≤ c) = true := fun a b c h1 h2 => by
      rw [decide_eq_true_eq] at *
      omega
    have to : ∀ a b : Int, (decide (a ≤ b) || decide (b ≤ a)) = true := fun a b => by
      rw [Bool.or_eq_true, decide_eq_true_eq, decide_eq_true_eq]
      omega
    refine List.Perm.eq_of_pairwise (le := fun a b => decide (a ≤ b) = true) (fun a b _ _ h1 h2 => ?_) (List.pairwise_mergeSort tr to js) (List.pairwise_mergeSort tr to is) ?_
    · rw [decide_eq_true_eq] at h1 h2
      omega
    · exact ((List.mergeSort_perm js _).trans hp).trans (List.mergeSort_perm is _).symm
  · obtain ⟨js, rfl, hp⟩ := perm_inr h
    rw [sortK_s, sortK_s]
    congr 1
    refine List.Perm.eq_of_pairwise (le := fun a b => leS a b = true) (fun a b _ _ h1 h2 => leS_anti h1 h2) (List.pairwise_mergeSort leS_trans leS_total js) (List.pairwise_mergeSort leS_trans leS_total xs) ?_
    exact ((List.mergeSort_perm js _).trans hp).trans (List.mergeSort_perm xs _).symm
theorem oneK_set {l : List Key} (h : oneK l = true) : oneK (setL l) = true := by
  unfold oneK at h ⊢
  rw [Bool.or_eq_true, List.all_eq_true, List.all_eq_true] at h ⊢
  exact h.imp (fun q k hk => q k (mem_setL.mp hk)) fun q k hk => q k (mem_setL.mp hk)
section
variable {Kf : PySem.W.Frag} {X : Cx} {W : WX} {G H : Hp}
def SetLO (w : World) (a : Addr) (ks : List Key) : HO := .ext fun h => SetL w h a ks
theorem setLO_new {w : World} {P : Program} {H : Hp} {h : Heap} {a : Addr} {ks : List Key} (R : SetL w h a ks) : ObjOk P w H h a (SetLO w a ks) := by
  have ⟨o, _, _, _, ho, _⟩ := R
  exact ⟨R, ⟨o, ho⟩, fun h1 h2 p k => SetL.at p k⟩
theorem setLO_get {pins : List (Addr × Obj)} {σ : L2.St} {H : Hp} {s : Shared} {a : Addr} {ks : List Key} (I : Inv X pins σ H s) (ha : H a = some (SetLO X.w a ks)) : SetL X.w s.heap a ks := (I.hok a _ ha).1
/-- set(xs) -/
def rSetL (K : PySem.W.Frag) (w : World) : List V → Hp → VK → Prop := fun vs H Q => ∃ (a : Addr) (l : List Key), vs = [.ref a] ∧ SqL K H a (l.map kV) ∧ l.length ≤ 4000 ∧ ∀ p, H p = none → Q (.ref p) (upd H p (SetLO w p (setL l)))
theorem cr_setL (hc : X.calm = true) : CallR X (.type "set") (rSetL X.K X.w) := by
  intro pins s σ H vs us Q I r h
  obtain ⟨a, l, rfl, hs, hl, q⟩ := h
  obtain ⟨its, rv, pt, hz⟩ := I.list hs
  rw [Vals.ref1 r]
  have hlen : its.length = l.length := by
    rw [← rv.length, List.length_map]
  refine call_setL l (I.ok.hd hc) pt.isList (by simpa using hlen) (fun i v hv => ?_) (by unfold scanBound; omega) fun h' tk R k => ?_
  · have hv : its[i]? = some v := by simpa using hv
    have hi : i < l.length := by
      have := (List.getElem?_eq_some_iff.mp hv).1
      omega
    obtain ⟨u, e1, e2⟩ := rv.get (i := i) (x := kV l[i]) (by rw [List.getElem?_map, List.getElem?_eq_getElem hi]; rfl)
    rw [e1] at hv
    cases hv
    exact ⟨l[i], List.getElem?_eq_getElem hi, kOf_rel e2⟩
  · exact ⟨.ref _, upd H s.heap.objs.size (SetLO X.w s.heap.objs.size (setL l)), I.laid (t' := tk) k (Nat.le_refl _) (setLO_new R), rfl, q _ (I.hok.fresh (Nat.le_refl _))⟩
/-- sorted(a set) -/
def rSortL (w : World) : List V → Hp → VK → Prop := fun vs H Q => ∃ (a : Addr) (ks : List Key), vs = [V.ref a] ∧ H a = some (SetLO w a ks) ∧ oneK ks = true ∧
  ∀ (p : Addr), H p = none → Q (.ref p) (upd H p (.lst ((ks.mergeSort leK).map kV)))
theorem vals_keys : ∀ {vs : List Value} {ks : List Key}, PySem.W.EachIs (fun v k => kOf v = some k) vs ks → Vals (ks.map kV) vs
  | _, _, .nil => .nil
  | _, _, .cons h t => .cons (rel_kOf h) (vals_keys t)
theorem each_len {α β : Type} {R : α → β → Prop} : ∀ {as : List α} {bs : List β}, PySem.W.EachIs R as bs → as.length = bs.length
  | _, _, .nil => rfl
  | _, _, .cons _ t => by rw [List.length_cons, List.length_cons, each_len t]
theorem cr_sortL (hc : X.calm = true) (hu : X.A.units + 64 < cLine) : CallR X (.builtin "sorted") (rSortL X.w) := by
  intro pins s σ H vs us Q I r h
  obtain ⟨a, ks, rfl, ha, ho, q⟩ := h
  have R := setLO_get I ha
  rw [Vals.ref1 r]
  have hsz : ks.length < scanBound := by
    obtain ⟨_, es, _, _, _, _, _, _, pm, _, hb, _⟩ := R
    rw [← pm.length_eq, List.length_map, Array.length_toList]
    exact hb
  refine sorted_setL R (I.ok.hd hc) hu ho fun s' p out c k g o hp hg ⟨ks', pm, eo⟩ => ?_
  rw [sort_uniq ho pm] at eo
  have hlo : ((ks.mergeSort leK).map kV).length ≤ sizeLine := by
    rw [List.length_map, List.length_mergeSort]
    exact fits_of_scanBound hsz
  have hn : H p = none := I.hok.fresh hp
  have J : Inv X pins σ (upd H p (.lst ((ks.mergeSort leK).map kV))) { s with heap := s'.heap, gens := s'.gens, drawn := s'.drawn, toks := s'.toks } :=
    I.call (ch := []) (Un.laid k hp hn) (I.hok.laid k hp ⟨hlo, out, c, vals_keys eo, hg⟩) (by rw [g]; exact I.bare) (fun _ z => nomatch z)
  have e : s' = { s with heap := s'.heap, gens := s'.gens, drawn := s'.drawn, toks := s'.toks } := by
    cases s'; cases s; cases o; rfl
  rw [e]
  exact ⟨.ref p, _, J, rfl, q p hn⟩
theorem keys_rep : ∀ {vs : List V} {ds : List D} {l : List Key}, RepL Kf G vs ds → keysL ds = some l → vs = l.map kV
  | _, _, _, .nil, e => by cases e; rfl
  | _, _, _, .cons (d := d) (ds := ds) h r, e => by
    have e : ((keyOf d).bind fun k => (keysL ds).map fun ks => k :: ks) = some _ := e
    cases ek : keyOf d with
    | none => rw [ek] at e; cases e
    | some k =>
      rw [ek, Option.bind_some] at e
      cases el : keysL ds with
      | none => rw [el] at e; cases e
      | some ks =>
        rw [el] at e
        cases e
        rw [rep_key h ek, keys_rep r el]
        rfl
theorem repL_keys : ∀ (l : List Key), RepL Kf G (l.map kV) (l.map kD)
  | [] => .nil
  | k :: l => .cons (rep_kD k) (repL_keys l)
theorem boot_set' : bootBuiltins "set" = some (.type "set") := by decide +kernel
theorem boot_sorted' : bootBuiltins "sorted" = some (.builtin "sorted") := by decide +kernel
theorem me_sortSet {e : Expr} {p p2 pos pos2 : Pos} {m : Env → R D} (hc : X.calm = true) (hu : X.A.units + 64 < cLine) (hg : Gl X "sorted") (hm : X.mg "sorted" = none) (hg2 : Gl X "set") (hm2 : X.mg "set" = none) (ha : ME X W e m)
    (he : starEach [e] X.env = (false, eval e X.env) :: starEach [] X.env := by rfl) (hpl : (backTo pos2 (starEach [] X.env)).any (·.1) = false := by rfl)
    (he2 : starEach [Expr.Call (.Name "set" p2) [e] [] pos2] X.env = (false, eval (Expr.Call (.Name "set" p2) [e] [] pos2) X.env) :: starEach [] X.env := by rfl) (hpl2 : (backTo pos (starEach [] X.env)).any (·.1) = false := by rfl) :
    ME X W (.Call (.Name "sorted" p) [.Call (.Name "set" p2) [e] [] pos2] [] pos) (eUn sortedSetD m) := by
  obtain ⟨t, pt, ht⟩ := ha.ex
  refine ⟨_, pe_callB (cr_sortL hc hu) hg hm boot_sorted' (pa_cons (pe_callTy (cr_setL hc) hg2 hm2 boot_set' (pa_cons pt pa_nil he) (he := he) (hpl := hpl)) pa_nil he2) (he := he2) (hpl := hpl2), fun σ G H ρ Q re h => ?_⟩
  refine ht σ G H ρ _ re (h.bind.imp fun x _ h1 => fun v G1 H1 s1 r1 => ?_)
  obtain ⟨d, e, q⟩ := h1.lft
  cases r1 with
  | lst ha hr =>
    rename_i a vs ds _
    have e : (keysL ds).bind (fun l => if oneK l && decide (l.length ≤ 4000) then some (PyData.list ((sortK l).map kD)) else none) = some d := e
    cases el : keysL ds with
    | none => rw [el] at e; cases e
    | some l =>
      rw [el, Option.bind_some] at e
      split at e
      · rename_i hk
        cases e
        rw [Bool.and_eq_true, decide_eq_true_eq] at hk
        have hv := keys_rep hr el
        subst hv
        refine ⟨a, l, rfl, s1.s.sq ha, hk.2, fun p hp => ⟨p, setL l, rfl, upd_same, oneK_set hk.1, fun p' hp' => ?_⟩⟩
        have s2 : Step G H G1 (upd H1 p (SetLO X.w p (setL l))) := s1.trans ((Step.refl s1.s).layH hp (s1.s.none hp) trivial)
        have s3 := Step.new (o := .lst ((sortK l).map kV)) s2.s hp' trivial
        exact q _ _ _ (s2.trans s3) (.lst (SqL.of upd_same) (repL_keys _))
      · cases e
  | _ => cases e
end
/-! plain: whole numbers, texts -/
theorem keysL_i : ∀ l : List Int, keysL (l.map PyData.int) = some (l.map .inl)
  | [] => rfl
  | i :: l => by
    show (some (Sum.inl i : Key)).bind (fun k => (keysL (l.map PyData.int)).map fun ks => k :: ks) = _
    rw [keysL_i l]
    rfl
theorem keysL_s : ∀ l : List (List Nat), keysL (l.map tx) = some (l.map fun x => .inr (S x))
  | [] => rfl
  | i :: l => by
    show (some (Sum.inr (S i) : Key)).bind (fun k => (keysL (l.map tx)).map fun ks => k :: ks) = _
    rw [keysL_s l]
    rfl
theorem sortedSet_i (l : List Int) (hl : l.length ≤ 4000) : ∃ l' : List Int, sortedSetD (.list (l.map PyData.int)) = some (.list (l'.map PyData.int)) ∧ l'.Pairwise (· < ·) ∧ ∀ j, j ∈ l' ↔ j ∈ l := by
  have ho : oneK (l.map Sum.inl) = true := by
    unfold oneK
    rw [Bool.or_eq_true, List.all_eq_true]
    refine .inl fun k hk => ?_
    obtain ⟨i, _, rfl⟩ := List.mem_map.mp hk
    rfl
  have e0 : sortedSetD (.list (l.map PyData.int)) = some (.list ((sortK (l.map .inl)).map kD)) := by
    show (keysL (l.map PyData.int)).bind _ = _
    rw [keysL_i, Option.bind_some, ho, List.length_map, decide_eq_true hl]
    rfl
  obtain ⟨js, ej⟩ : ∃ js : List Int, setL (l.map .inl) = js.map .inl := by
    rcases oneK_cases (oneK_set ho) with ⟨is, h⟩ | ⟨xs, h⟩
    · exact ⟨is, h⟩
    · cases xs with
      | nil => exact ⟨[], h⟩
      | cons x xs =>
        have : (Sum.inr x : Key) ∈ setL (l.map Sum.inl) := by rw [h]; exact List.mem_cons_self
        rw [mem_setL] at this
        obtain ⟨_, _, h⟩ := List.mem_map.mp this
        cases h
  have nd : js.Nodup := by
    have := setL_nodup (l.map Sum.inl)
    rw [ej] at this
    exact List.Pairwise.of_map _ (fun a b hne e => hne (congrArg _ e)) this
  have tr : ∀ a b c : Int, decide (a ≤ b) = true → decide (b ≤ c) = true → decide (a ≤ c) = true := fun a b c h1 h2 => by
    rw [decide_eq_true_eq] at *
    omega
  have to : ∀ a b : Int, (decide (a ≤ b) || decide (b ≤ a)) = true := fun a b => by
    rw [Bool.or_eq_true, decide_eq_true_eq, decide_eq_true_eq]
    omega
  refine ⟨js.mergeSort fun a b => decide (a ≤ b), ?_, ?_, fun j => ?_⟩
  · rw [e0]
    unfold sortK
    rw [ej, sortK_i, List.map_map]
    rfl
  · have h1 := List.pairwise_mergeSort tr to js
    have h2 : (js.mergeSort fun a b => decide (a ≤ b)).Nodup := (List.mergeSort_perm js _).nodup_iff.mpr nd
    refine (List.Pairwise.and h1 h2).imp fun {a b} h => ?_
    have q := h.1
    rw [decide_eq_true_eq] at q
    have q2 : a ≠ b := h.2
    omega
  · rw [(List.mergeSort_perm js _).mem_iff]
    have h1 := mem_setL (l := l.map Sum.inl) (j := Sum.inl j)
    rw [ej] at h1
    simpa using h1
theorem sortedSet_s (l : List (List Nat)) (hl : l.length ≤ 4000) : ∃ l' : List (List Nat), sortedSetD (.list (l.map tx)) = some (.list (l'.map tx)) ∧ l'.Pairwise (· < ·) ∧ ∀ j, j ∈ l' ↔ j ∈ l := by
  have ho : oneK (l.map fun x => (Sum.inr (S x) : Key)) = true := by
    unfold oneK
    rw [Bool.or_eq_true, List.all_eq_true, List.all_eq_true]
    refine .inr fun k hk => ?_
    obtain ⟨i, _, rfl⟩ := List.mem_map.mp hk
    rfl
  have e0 : sortedSetD (.list (l.map tx)) = some (.list ((sortK (l.map fun x => .inr (S x))).map kD)) := by
    show (keysL (l.map tx)).bind _ = _
    rw [keysL_s, Option.bind_some, ho, List.length_map, decide_eq_true hl]
    rfl
  obtain ⟨js, ej⟩ : ∃ js : List Str, setL (l.map fun x => (Sum.inr (S x) : Key)) = js.map .inr := by
    rcases oneK_cases (oneK_set ho) with ⟨is, h⟩ | ⟨xs, h⟩
    · cases is with
      | nil => exact ⟨[], h⟩
      | cons x xs =>
        have : (Sum.inl x : Key) ∈ setL (l.map fun x => (Sum.inr (S x) : Key)) := by rw [h]; exact List.mem_cons_self
        rw [mem_setL] at this
        obtain ⟨_, _, h⟩ := List.mem_map.mp this
        cases h
    · exact ⟨xs, h⟩
  have nd : js.Nodup := by
    have := setL_nodup (l.map fun x => (Sum.inr (S x) : Key))
    rw [ej] at this
    exact List.Pairwise.of_map _ (fun a b hne e => hne (congrArg _ e)) this
  refine ⟨(js.mergeSort leS).map fun x => x.cps.toList, ?_, ?_, fun j => ?_⟩
  · rw [e0]
    unfold sortK
    rw [ej, sortK_s, List.map_map, List.map_map]
    congr 2
  · have h1 := List.pairwise_mergeSort leS_trans leS_total js
    have h2 : (js.mergeSort leS).Nodup := (List.mergeSort_perm js _).nodup_iff.mpr nd
    rw [List.pairwise_map]
    refine (List.Pairwise.and h1 h2).imp fun {a b} h => ?_
    have q := h.1
    unfold leS at q
    rw [decide_eq_true_eq] at q
    have q2 : a ≠ b := h.2
    refine Classical.byContradiction fun hn => q2 ?_
    have q3 : b.cps.toList ≤ a.cps.toList := List.not_lt.mp hn
    exact leS_anti (by unfold leS; rw [decide_eq_true_eq]; exact q) (by unfold leS; rw [decide_eq_true_eq]; exact q3)
  · have hm : j ∈ (js.mergeSort leS).map (fun x => x.cps.toList) ↔ S j ∈ js := by
      rw [List.mem_map]
      constructor
      · rintro ⟨x, hx, rfl⟩
        rw [S_of]
        exact (List.mergeSort_perm js _).mem_iff.mp hx
      · intro h
        exact ⟨S j, (List.mergeSort_perm js _).mem_iff.mpr h, S_toList j⟩
    rw [hm]
    have h1 := mem_setL (l := l.map fun x => (Sum.inr (S x) : Key)) (j := Sum.inr (S j))
    rw [ej] at h1
    have h2 : S j ∈ js ↔ (Sum.inr (S j) : Key) ∈ js.map .inr := by simp
    rw [h2, h1, List.mem_map]
    constructor
    · rintro ⟨x, hx, e⟩
      rw [S_inj.mp (Sum.inr.inj e)] at hx
      exact hx
    · exact fun h => ⟨j, h, rfl⟩
/-- a comprehension within a comprehension -/
theorem look_relabel {env : PySem.Env} (y : Str) : ∀ l : List (Str × NameKind),
    (∃ k, l.lookup y = some k ∧ (k = .cell ∨ k = .free)) → ∃ k, (l.map fun (n, k) => if (k == NameKind.free && env.scope.kind == .function && env.kindOf n == some .cell) then (n, NameKind.cell) else (n, k)).lookup y = some k ∧ (k = .cell ∨ k = .free)
  | [], ⟨k, h, _⟩ => by cases h
  | (n, k0) :: l, ⟨k, h, hk⟩ => by
    rw [List.map_cons]
    by_cases hn : y = n
    · subst hn
      have : k0 = k := by
        rw [List.lookup_cons, beq_self_eq_true] at h
        exact Option.some.inj h
      subst this
      dsimp only
      split
      · exact ⟨.cell, by rw [List.lookup_cons, beq_self_eq_true], .inl rfl⟩
      · exact ⟨k0, by rw [List.lookup_cons, beq_self_eq_true], hk⟩
    · have hb : (y == n) = false := beq_eq_false_iff_ne.mpr hn
      rw [List.lookup_cons, hb] at h
      obtain ⟨k', h1, h2⟩ := look_relabel (env := env) y l ⟨k, h, hk⟩
      refine ⟨k', ?_, h2⟩
      dsimp only
      split <;> (rw [List.lookup_cons, hb]; exact h1)
theorem blkC_relabel {N : List Str} {sc1 scope : Scope} {own : List (Str × Nat)} (env : PySem.Env) (h : blkC N sc1 scope own = true) : blkC N (relabel sc1 env) scope own = true := by
  unfold blkC at h ⊢
  rw [Bool.and_eq_true] at h ⊢
  refine ⟨h.1, ?_⟩
  have h2 := h.2
  rw [List.all_eq_true] at h2 ⊢
  intro y hy
  have := h2 y hy
  cases ek : y.2 with
  | free =>
    rw [ek] at this
    dsimp only at this ⊢
    have hk : ∃ k, sc1.names.lookup y.1 = some k ∧ (k = .cell ∨ k = .free) := by
      cases el : sc1.names.lookup y.1 with
      | none => rw [el] at this; cases this
      | some k =>
        rw [el] at this
        cases k <;> first | (cases this; done) | exact ⟨_, rfl, .inl rfl⟩ | exact ⟨_, rfl, .inr rfl⟩
    obtain ⟨k, e, hk⟩ := look_relabel (env := env) y.1 _ hk
    have e : (relabel sc1 env).names.lookup y.1 = some k := e
    rcases hk with rfl | rfl <;> simp only [e]
  | _ => first | rfl | (rw [ek] at this; exact this)
theorem blkOk_in {N : List Str} {X : Cx} {s : Shared} {H : Hp} {sc1 scope : Scope} {cl : List (Str × Addr)} {C : Addr} {fp : List Addr} {own : List (Str × Nat)} (h : blkC N sc1 scope own = true) :
    BlkOk N (X.blk s H sc1 (compEnvC sc1 cl C X.env) fp).env.scope scope own := blkOk_by (blkC_relabel X.env h)
end FF

namespace FF
open PySem L2
/-! ### xs.extend(..) -/
theorem lext_meets (l b : Addr) (its jts : Array Value) (n m : Nat) (sl : Array (Option Value))
    (long : ¬(!its.isEmpty && Builtin.List.listTooLong (its.size + jts.size)) = true) (small : its.size ≤ sizeLine) (both : its.size + jts.size ≤ sizeLine + 1) :
    Meets (Builtin.«list.extend» ⟨[.ref l, .ref b], []⟩)
      (fun _ R s => s.heap.get? l = some { cls := .type "list", dict := none, data := .seq its n, slots := #[] } ∧
        s.heap.get? b = some { cls := .type "list", dict := none, data := .seq jts m, slots := sl } ∧
        R (.ok (.ret Value.none)) { s with heap := s.heap.update l (Obj.mapSeq fun x => x ++ jts), toks := s.toks }) :=
  .of_wp fun prog w A R s h => by
    obtain ⟨hp, g, d, tk, os⟩ := s
    obtain ⟨hl, hb, h⟩ := h
    have f1 := AutoSeq1.idx_int; have f2 := AutoSeq1.sub_tuple_tuple; have f3 := AutoSeq1.sub_list_list
    have f4 := AutoSeq1.sub_tuple_list; have f5 := AutoSeq1.sub_list_tuple
    have hz' : (its ++ jts).size ≤ sizeLine + 1 := by rw [Array.size_append]; exact both
    wp_walk using (wpAny_updateSeq hl rfl (hz := small) (_hz' := hz')), AutoSeq1.wpAny_loadPart' hl, AutoSeq1.wpAny_loadPart' hb
    exact ⟨_, rfl, h⟩
def rExtS (K : PySem.W.Frag) : V → List V → Hp → VK → Prop := fun x vs H Q => ∃ l b xs zs, x = .ref l ∧ vs = [.ref b] ∧ H l = some (.lst xs) ∧
  SqL K H b zs ∧ xs.length + zs.length ≤ sizeLine ∧ Q .non (upd H l (.lst (xs ++ zs)))
section
variable {X : Cx} {W : WX} {Kf : PySem.W.Frag} {G H : Hp} {e : Expr} {me : Env → R D} {pos : Pos}
theorem mt_extS : MtM X "list.extend" (rExtS X.K) := by
  intro pins s σ H x vs v us Q I rx rv h
  obtain ⟨l, b, xs, zs, rfl, rfl, hH, hB, hz, q⟩ := h
  cases rx
  obtain ⟨u, rfl, ru⟩ := rv.one
  cases ru
  obtain ⟨z, its, n, r, hl, e⟩ := I.lstM hH
  obtain ⟨jts, r2, ⟨o, m, e2, hc, hd, ho⟩, hl2⟩ := I.list hB
  cases o
  cases hc
  cases hd
  cases ho
  have hj := r2.length
  have hsz : its.toArray.size + jts.toArray.size ≤ sizeLine := by
    rw [List.size_toArray, List.size_toArray]
    omega
  have hlong : ¬ (!its.toArray.isEmpty && Builtin.List.listTooLong (its.toArray.size + jts.toArray.size)) = true := fun z => by
    rw [notLongL hsz, Bool.and_false] at z
    cases z
  refine call_meets F.slot_list_extend ⟨_, e, rfl⟩ F.entry_list_extend (F.args_list_extend_2 _ _) (lext_meets l b its.toArray jts.toArray n m _ hlong (by rw [List.size_toArray]; omega) (by omega)) ⟨e, e2, ?_⟩
  refine ⟨.non, _, I.lset (its' := its ++ jts) hH e (by simp) (r.append r2) ?_, rfl, q⟩
  rw [List.length_append]
  exact hz
def sExt (i : Nat) (e : Env → R D) : MSt := fun ρ => match ρ[i]? with
  | some (.own ds) => liftS ρ (e ρ) fun d => match d with
    | .list es => if ds.length + es.length ≤ 1000000 then .next (ρ.set i (.own (ds ++ es))) else .bad
    | _ => .bad
  | _ => .bad
/-- x.extend(e) -/
theorem ms_ext {i : Nat} {o : Expr} {apos cpos : Pos} (ho : PE X o (tVar i)) (he : ME X W e me)
    (hbase : attributeBase o "extend" X.env (eval o X.env) = eval o X.env := by rfl)
    (hfew : ((backTo cpos (starEach [e] X.env)).all (fun x => !x.1) && (backToKw cpos (keywordEach [] X.env)).all (fun x => x.1.isSome)
      && decide (([e] : List Expr).length + ([] : List Keyword).length + (if ([] : List Keyword).isEmpty then 0 else 1) < 30)) = true := by rfl)
    (hline : (apos.endLine == cpos.line) = true := by rfl) (hst : starEach [e] X.env = (false, eval e X.env) :: starEach [] X.env := by rfl) (hplain : (backTo cpos (starEach [] X.env)).any (·.1) = false := by rfl)
    (hs : swapsWith (.Call (.Attribute o "extend" apos) [e] [] cpos) none pos.line X.env = pure false := by rfl) :
    MS X W (.Expr (.Call (.Attribute o "extend" apos) [e] [] cpos) pos) (sExt i me) := by
  obtain ⟨t, pt, ht⟩ := he.ex
  refine ⟨_, ps_expr (pe_bm PySem.F.plainAttrs_list PySem.F.slot_list_extend PySem.F.type_list_extend mt_extS ho (pa_cons pt pa_nil hst) hbase hfew hline hst hplain) hs, fun G0 H0 σ G H ρ E r h => ?_⟩
  unfold sExt at h
  cases ei : ρ[i]? with
  | none => rw [ei] at h; exact h.elim
  | some x =>
    rw [ei] at h
    cases x with
    | no => exact h.elim
    | obj _ => exact h.elim
    | val d => exact h.elim
    | odc d => exact h.elim
    | own ds =>
      obtain ⟨p, vs, e1, n1, h1, r1⟩ := r.re.sl i _ ei
      refine ⟨_, e1, .inl ⟨rfl, _, SqL.of h1⟩, ?_⟩
      refine ht σ G H ρ _ r.re ((PostS.lift r h).imp fun d _ h2 => fun v G1 H1 s1 rv => ?_)
      cases rv with
      | lst ha hr =>
        rename_i a ws es _
        have h2 : PostS X W G0 H0 E (if ds.length + es.length ≤ 1000000 then .next (ρ.set i (.own (ds ++ es))) else .bad) := h2
        by_cases hl : ds.length + es.length ≤ 1000000
        · rw [if_pos hl] at h2
          refine ⟨p, a, vs, ws, rfl, rfl, s1.h _ _ h1, s1.s.sq ha, by rw [r1.length, hr.length]; exact sz_line hl, ?_⟩
          have r' := r.step s1
          have hg : G1 p = none := by rw [s1.k p (by rw [h1]; exact fun z => by cases z), n1]
          exact h2 _ _ _ (r'.ownUpd ei rfl e1 (y := .own (ds ++ es)) (u := .lst (vs ++ ws)) rfl trivial hg ⟨p, _, rfl, hg, upd_same, (r1.mono (.of s1.g)).app hr⟩)
        · rw [if_neg hl] at h2
          exact h2.elim
      | _ => exact h2.elim
end
end FF

namespace FF
open PySem L2
/-! ### d.get(k, z); {"..": n}; dict(pairs); list(d); min of data -/
def eGet2 (mo mk mz : Env → R D) : Env → R D := fun ρ => (mo ρ).bind fun d => match d with
  | .dict kvs => (mk ρ).bind fun k => (mz ρ).bind fun z => lft ((keyOf k).map fun key => (lookK kvs key).getD z)
  | _ => .bad
def eGetO (i : Nat) (mk mz : Env → R D) : Env → R D := fun ρ => match ρ[i]? with
  | some (.odc kvs) => (mk ρ).bind fun k => (mz ρ).bind fun z => lft ((keyOf k).map fun key => (lookK (pairsD kvs) key).getD z)
  | _ => .bad
def pairsOf : List D → Option (List (Key × D))
  | [] => some []
  | .tuple [k, v] :: r => (keyOf k).bind fun key => (pairsOf r).map fun ps => (key, v) :: ps
  | _ => none
def mergeD (kvs more : List (Key × D)) : List (Key × D) := more.foldl (fun acc kv => putD acc kv.1 kv.2) kvs
def dictOf : D → Option D
  | .list ds => (pairsOf ds).map fun ps => .dict (pairsD (mergeD [] ps))
  | _ => none
def keysD : D → Option D
  | .dict kvs => some (.list (kvs.map (·.1)))
  | _ => none
def minG : List D → Option D
  | [.list (x :: xs)] => if ((x :: xs).all fun a => (x :: xs).all fun b => PySem.W.alike a b) && ((x :: xs).all fun a => shallow a && !isNone a) && decide (xs.length < 1000000) then some (PySem.W.minD x xs) else none
  | _ => none
section
variable {Kf : PySem.W.Frag} {X : Cx} {W : WX} {G H G1 H1 G0 H0 : Hp} {σ : L2.St} {ρ : Env} {pos apos cpos : Pos}
theorem lookGet {k : Key} {ws : List (Key × V)} {ds : List (D × D)} {z : V} {zd : D} (h : RepK Kf G ws ds) (hz : Rep Kf G z zd) : Rep Kf G ((valV ws k).getD z) ((lookK ds k).getD zd) := by
  obtain ⟨h1, h2⟩ := repK_look (k := k) h
  cases e : lookK ds k with
  | some d =>
    obtain ⟨v, e1, r⟩ := h1 d e
    rw [e1]
    exact r
  | none =>
    rw [e] at h2
    cases e2 : valV ws k with
    | some v => rw [e2] at h2; cases h2
    | none => exact hz
theorem me_get2 {o e f : Expr} {mo mk mz : Env → R D} (hu : X.A.units + 1 < cLine) (ho : ME X W o mo) (hk : ME X W e mk) (hz : ME X W f mz) (m : M2 X o "get" apos e f cpos := by exact ⟨by rfl, by rfl, by rfl, by rfl⟩) :
    ME X W (.Call (.Attribute o "get" apos) [e, f] [] cpos) (eGet2 mo mk mz) := by
  obtain ⟨t, pt, ht⟩ := ho.ex
  obtain ⟨u, pu, hu2⟩ := hk.ex
  obtain ⟨w, pw, hw⟩ := hz.ex
  refine ⟨_, pe_dget2 hu pt pu pw m, fun σ G H ρ Q re h => ?_⟩
  refine ht σ G H ρ _ re (h.bind.imp fun x _ h1 => fun v G1 H1 s1 r1 => ?_)
  cases r1 with
  | dct ha hr =>
    rename_i p od ws ds _
    have h1 : Post X W σ G H ((mk ρ).bind fun k => (mz ρ).bind fun z => FF.lft ((keyOf k).map fun key => (lookK ds key).getD z)) (OkE X.K G H Q) := h1
    refine ⟨p, rfl, .inl ⟨_, .inr ⟨_, s1.s.frz ha⟩⟩, ?_⟩
    refine hu2 σ G1 H1 ρ _ (re.step s1) ((h1.bind.step s1 fun _ z => z).imp fun y _ h2 => fun v2 G2 H2 s2 r2 => ?_)
    refine hw σ G2 H2 ρ _ (re.step (s1.trans s2)) ((h2.bind.step (s1.trans s2) fun _ z => z).imp fun z _ h3 => fun v3 G3 H3 s3 r3 => ?_)
    obtain ⟨d, e, q⟩ := h3.lft
    obtain ⟨key, ek, rfl⟩ := Option.map_eq_some_iff.mp e
    have s23 := s2.trans s3
    exact ⟨_, .inl ⟨_, key, .inr ⟨_, s23.s.frz (s23.g _ _ ha)⟩, rep_key r2 ek, rfl⟩, q _ G3 H3 (s1.trans s23) (lookGet (hr.mono (.of s23.g)) r3)⟩
  | _ => exact h1.elim
theorem me_getO {i : Nat} {o e f : Expr} {mk mz : Env → R D} (hu : X.A.units + 1 < cLine) (ho : PE X o (tVar i)) (hk : ME X W e mk) (hz : ME X W f mz) (m : M2 X o "get" apos e f cpos := by exact ⟨by rfl, by rfl, by rfl, by rfl⟩) :
    ME X W (.Call (.Attribute o "get" apos) [e, f] [] cpos) (eGetO i mk mz) := by
  obtain ⟨u, pu, hu2⟩ := hk.ex
  obtain ⟨w, pw, hw⟩ := hz.ex
  refine ⟨_, pe_dget2 hu ho pu pw m, fun σ G H ρ Q re h => ?_⟩
  unfold eGetO at h
  cases ei : ρ[i]? with
  | none => rw [ei] at h; exact h.elim
  | some x =>
    rw [ei] at h
    cases x with
    | no => exact h.elim
    | obj _ => exact h.elim
    | val d => exact h.elim
    | own d => exact h.elim
    | odc kvs =>
      obtain ⟨p, ws, e1, n1, hp1, r1⟩ := re.sl i _ ei
      have h : Post X W σ G H ((mk ρ).bind fun k => (mz ρ).bind fun z => FF.lft ((keyOf k).map fun key => (lookK (pairsD kvs) key).getD z)) (OkE X.K G H Q) := h
      refine ⟨_, e1, p, rfl, .inl ⟨_, .inl hp1⟩, ?_⟩
      refine hu2 σ G H ρ _ re (h.bind.imp fun y _ h2 => fun v2 G2 H2 s2 r2 => ?_)
      refine hw σ G2 H2 ρ _ (re.step s2) ((h2.bind.step s2 fun _ z => z).imp fun z _ h3 => fun v3 G3 H3 s3 r3 => ?_)
      obtain ⟨d, e, q⟩ := h3.lft
      obtain ⟨key, ek, rfl⟩ := Option.map_eq_some_iff.mp e
      have s23 := s2.trans s3
      exact ⟨_, .inl ⟨_, key, .inl (s23.h _ _ hp1), rep_key r2 ek, rfl⟩, q _ G3 H3 s23 (lookGet (r1.mono (.of s23.g)) r3)⟩
/-- {"..": n} -/
theorem me_d1c {x : Str} {n : Int} {j1 j2 : Nat} {p1 p2 : Pos} : ME X W (.Dict [some (.Constant (.str x) j1 p1)] [.Constant (.int n) j2 p2] pos) (eC (.dict [(.str x, .int n)])) := by
  refine ⟨_, pe_lockA (pe_disp (pps_cons pe_str pe_int pps_nil) rfl rfl (by simp) (by show 1 ≤ 15; decide)), fun σ G H ρ Q re h => fun p hp => ?_⟩
  refine ⟨upd_same, [(.inr x, .int n)], rfl, (by show 1 ≤ 15; decide), p, _, upd_same, trivial, fun od => ?_⟩
  have e : upd (upd (upd H p (.dK [])) p (.dK (mergeK [] [(.inr x, .int n)]))) p (.frz od (.dK (mergeK [] [(.inr x, .int n)]))) = upd H p (.frz od (.dK (mergeK [] [(.inr x, .int n)]))) := by
    funext a
    by_cases ha : a = p
    · subst ha; rw [upd_same, upd_same]
    · rw [upd_ne ha, upd_ne ha, upd_ne ha, upd_ne ha]
  rw [e]
  have st := Step.new (o := .frz od (.dK (mergeK [] [(.inr x, .int n)]))) re.s hp trivial
  exact h _ _ _ st (.dct upd_same (.cons (k := .inr x) (.int n) .nil))
/-- dict(pairs) -/
theorem repK_merge : ∀ {more : List (Key × D)} {ms : List (Key × V)} {ws : List (Key × V)} {kvs : List (Key × D)}, RepK Kf G ms (pairsD more) → RepK Kf G ws (pairsD kvs) → RepK Kf G (mergeK ws ms) (pairsD (mergeD kvs more)) := by
  intro more
  induction more with
  | nil =>
    intro ms ws kvs r r0
    cases r
    exact r0
  | cons p more ih =>
    intro ms ws kvs r r0
    obtain ⟨k0, d0⟩ := p
    generalize hz : pairsD ((k0, d0) :: more) = zs at r
    cases r with
    | nil => cases hz
    | cons h r =>
      rename_i k1 v1 ms d1 ds
      simp only [pairsD, List.map_cons, List.cons.injEq, Prod.mk.injEq] at hz
      obtain ⟨⟨hk, hd⟩, hz⟩ := hz
      have : k0 = k1 := by
        have := congrArg keyOf hk
        rw [keyOf_kD, keyOf_kD] at this
        exact Option.some.inj this
      subst this
      subst hz
      subst hd
      show RepK Kf G (mergeK (putK ws k0 v1) ms) (pairsD (mergeD (putD kvs k0 d0) more))
      exact ih r (repK_put h r0)
theorem pairs_rep {H : Hp} (s : Sub G H) : ∀ {ds : List D} {vs : List V} {ps : List (Key × D)}, RepL Kf G vs ds → pairsOf ds = some ps → ∃ (as : List Addr) (kvs : List (Key × V)), vs = as.map V.ref ∧ Paired (fun p kv => SqT Kf H p [kV kv.1, kv.2]) as kvs ∧ RepK Kf G kvs (pairsD ps)
  | _, _, _, .nil, e => by cases e; exact ⟨[], [], rfl, .nil, .nil⟩
  | _, _, _, .cons (d := d) h r, e => by
    cases d with
    | tuple xs =>
      match xs, h, e with
      | [k, v], .tup ha (.cons hk (.cons hv .nil)), e =>
        have e : ((keyOf k).bind fun key => (pairsOf _).map fun ps => (key, v) :: ps) = some _ := e
        obtain ⟨key, ek, e⟩ := Option.bind_eq_some_iff.mp e
        obtain ⟨ps, ep, rfl⟩ := Option.map_eq_some_iff.mp e
        obtain ⟨as, kvs, rfl, hp, hr⟩ := pairs_rep s r ep
        have := rep_key hk ek
        subst this
        exact ⟨_ :: as, (key, _) :: kvs, rfl, .cons (SqT.of (s.tup ha)) hp, .cons hv hr⟩
    | _ => cases e
theorem me_dictP {e : Expr} {p2 : Pos} {m : Env → R D} (hc : X.calm = true) (hg : Gl X "dict") (hm : X.mg "dict" = none) (ha : ME X W e m)
    (he : starEach [e] X.env = (false, eval e X.env) :: starEach [] X.env := by rfl) (hpl : (backTo pos (starEach [] X.env)).any (·.1) = false := by rfl) : ME X W (.Call (.Name "dict" p2) [e] [] pos) (eUn dictOf m) := by
  obtain ⟨t, pt, ht⟩ := ha.ex
  refine ⟨_, pe_lockA (pe_callTy (call_dictP hc) hg hm PyProof.Rows.boot_dict (pa_cons pt pa_nil he) (by decide) (by decide) he hpl), fun σ G H ρ Q re h => ?_⟩
  refine ht σ G H ρ _ re (h.bind.imp fun x _ h1 => fun v G1 H1 s1 r1 => ?_)
  obtain ⟨d, e, q⟩ := h1.lft
  cases r1 with
  | lst hl hr =>
    rename_i a vs ds _
    obtain ⟨ps, ep, rfl⟩ := Option.map_eq_some_iff.mp (show (pairsOf ds).map (fun ps => PyData.dict (pairsD (mergeD [] ps))) = some d from e)
    obtain ⟨as, kvs, rfl, hp, hk⟩ := pairs_rep s1.s hr ep
    refine ⟨a, as, kvs, rfl, s1.s.sq hl, hp, fun p hp => ⟨p, _, upd_same, trivial, fun od => ?_⟩⟩
    have e2 : upd (upd H1 p (.dK (mergeK [] kvs))) p (.frz od (.dK (mergeK [] kvs))) = upd H1 p (.frz od (.dK (mergeK [] kvs))) := by
      funext a
      by_cases ha : a = p
      · subst ha; rw [upd_same, upd_same]
      · rw [upd_ne ha, upd_ne ha, upd_ne ha]
    rw [e2]
    have st := Step.new (o := .frz od (.dK (mergeK [] kvs))) s1.s hp trivial
    exact q _ _ _ (s1.trans st) (.dct upd_same ((repK_merge hk .nil).mono (.of st.g)))
  | _ => cases e
/-- list(d) -/
theorem repK_keys : ∀ {ws : List (Key × V)} {ds : List (D × D)}, RepK Kf G ws ds → RepL Kf G (ws.map fun kv => kV kv.1) (ds.map (·.1))
  | _, _, .nil => .nil
  | _, _, .cons _ r => .cons (rep_kD _) (repK_keys r)
theorem me_listD {e : Expr} {p2 : Pos} {m : Env → R D} (hc : X.calm = true) (hg : Gl X "list") (hm : X.mg "list" = none) (ha : ME X W e m)
    (he : starEach [e] X.env = (false, eval e X.env) :: starEach [] X.env := by rfl) (hpl : (backTo pos (starEach [] X.env)).any (·.1) = false := by rfl) : ME X W (.Call (.Name "list" p2) [e] [] pos) (eUn keysD m) := by
  obtain ⟨t, pt, ht⟩ := ha.ex
  refine ⟨_, pe_callTy (call_listD hc) hg hm (by decide +kernel) (pa_cons pt pa_nil he) (by decide) (by decide) he hpl, fun σ G H ρ Q re h => ?_⟩
  refine ht σ G H ρ _ re (h.bind.imp fun x _ h1 => fun v G1 H1 s1 r1 => ?_)
  obtain ⟨d, e, q⟩ := h1.lft
  cases r1 with
  | dct hl hr =>
    rename_i p od ws ds _
    cases e
    refine ⟨p, ws, rfl, .inr ⟨od, s1.s.frz hl⟩, fun p' hp => ?_⟩
    have st := Step.new (o := .lst (ws.map fun kv => kV kv.1)) s1.s hp trivial
    exact q _ _ _ (s1.trans st) (.lst (SqL.of upd_same) ((repK_keys hr).mono (.of st.g)))
  | _ => cases e
/-! min of data -/
def rMinG (K : PySem.W.Frag) : List V → Hp → VK → Prop := fun vs H Q => ∃ (a : Addr) (zs : List V) (x : D) (xs : List D), vs = [.ref a] ∧ SqL K H a zs ∧ DpAll K H zs (x :: xs) ∧ PySem.W.AlikeAll (x :: xs) ∧ PyData.depthAll (x :: xs) ≤ 20 ∧
  ∀ (i : Nat) z, zs[i]? = some z → (x :: xs)[i]? = some (PySem.W.minD x xs) → Q z H
theorem cr_minG (hc : X.calm = true) (hu : X.A.units + 64 < cLine) : CallR X (.builtin "min") (rMinG X.K) := by
  intro pins s σ H vs us Q I r h
  obtain ⟨a, zs, x, xs, rfl, hs, hd, hal, hdep, q⟩ := h
  obtain ⟨its, rv, hl, hz⟩ := I.list hs
  rw [Vals.ref1 r]
  obtain ⟨as, ra⟩ := Dp.readsAll I (x :: xs) zs its hd rv
  refine PySem.W.min_list_data (I.ok.hd hc) hl.isList (show ReadsAll s.heap its.toArray.toList (x :: xs) as from ra) hal (by omega) fun i v h' tk bs hv rd hk => ?_
  have hv : its[i]? = some v := by simpa using hv
  have hi : i < zs.length := by
    rw [rv.length]
    exact (List.getElem?_eq_some_iff.mp hv).1
  obtain ⟨u, e1, e2⟩ := rv.get (i := i) (x := zs[i]) (List.getElem?_eq_getElem hi)
  rw [e1] at hv
  cases hv
  obtain ⟨bs2, r2, hlt, _, _⟩ := PySem.W.readsAll_at ra i v e1
  have hdet := (PyProof.Rows.reads_det (fun b o e _ => hk b o e) r2 rd).1
  refine ⟨zs[i], H, I.kept (t' := tk) hk, e2, q i zs[i] (List.getElem?_eq_getElem hi) ?_⟩
  rw [List.getElem?_eq_getElem hlt, hdet, List.getD_eq_getElem?_getD, List.getElem?_eq_getElem hlt]
  rfl
theorem depAll_le {n : Nat} : ∀ ds : List D, (∀ d ∈ ds, d.depth ≤ n) → PyData.depthAll ds ≤ n
  | [], _ => Nat.zero_le _
  | d :: ds, h => by
    have h1 := h d List.mem_cons_self
    have h2 := depAll_le ds fun x hx => h x (List.mem_cons_of_mem _ hx)
    simp only [PyData.depthAll]
    omega
theorem layAll_of : ∀ ds : List D, (∀ d ∈ ds, d.canLay0 = true) → PyData.canLayAll0 ds = true
  | [], _ => rfl
  | d :: ds, h => by
    simp only [PyData.canLayAll0, h d List.mem_cons_self, layAll_of ds fun x hx => h x (List.mem_cons_of_mem _ hx), Bool.and_self]
theorem minG_two (a b : D) (r : List D) : minG (a :: b :: r) = none := by
  cases a with
  | list ds => cases ds <;> rfl
  | _ => rfl
theorem callm_minG (hc : X.calm = true) (hu : X.A.units + 64 < cLine) : CallM X (.builtin "min") minG := ⟨_, cr_minG hc hu, fun G H xs as d Q s r e q => by
  cases r with
  | nil => cases e
  | cons r1 rs =>
    cases rs with
    | cons _ _ => rw [minG_two] at e; cases e
    | nil =>
      cases r1 with
      | lst ha hr =>
        rename_i a vs ds
        cases ds with
        | nil => cases e
        | cons x xs =>
          have e : (if ((x :: xs).all fun a => (x :: xs).all fun b => PySem.W.alike a b) && ((x :: xs).all fun a => shallow a && !isNone a) && decide (xs.length < 1000000) then some (PySem.W.minD x xs) else none) = some d := e
          split at e
          · rename_i hk
            cases e
            simp only [Bool.and_eq_true, List.all_eq_true, decide_eq_true_eq] at hk
            obtain ⟨⟨h1, h2⟩, h3⟩ := hk
            have h4 : ∀ d ∈ x :: xs, d.canLay0 = true ∧ d.depth ≤ 20 ∧ d ≠ .none := fun d hd => by
              have := h2 d hd
              unfold shallow at this
              simp only [Bool.and_eq_true, decide_eq_true_eq] at this
              exact ⟨this.1.1, this.1.2, fun z => by rw [z] at this; exact absurd this.2 (by decide)⟩
            refine ⟨a, vs, x, xs, rfl, s.sq ha, hr.dp s (layAll_of _ fun d hd => (h4 d hd).1), ⟨fun a ha b hb => h1 a ha b hb, fun d hd => (h4 d hd).2.2⟩, depAll_le _ fun d hd => (h4 d hd).2.1, fun i z ez ed => ?_⟩
            obtain ⟨v, e1, rv⟩ := hr.get ed
            rw [e1] at ez
            cases ez
            exact q.at s rv
          · cases e
      | _ => cases e⟩
/-! len(set(xs)) -/
def lenSetD : D → Option D
  | .list ds => (keysL ds).bind fun l => if l.length ≤ 4000 then some (.int ((setL l).length : Int)) else none
  | _ => none
theorem cr_lenL : CallR X (.builtin "len") (fun vs H Q => ∃ (a : Addr) (ks : List Key), vs = [.ref a] ∧ H a = some (SetLO X.w a ks) ∧ Q (.int (ks.length : Int)) H) := by
  intro pins s σ H vs us Q I r h
  obtain ⟨a, ks, rfl, ha, q⟩ := h
  obtain ⟨ob, es, ep, tb, ho, hx, hd, g, pm, nd, hb, hf, _⟩ := setLO_get I ha
  rw [Vals.ref1 r]
  have e : es.size = ks.length := by rw [← pm.length_eq, List.length_map, Array.length_toList]
  refine PySem.call_len_set ho hx hd hf (by unfold scanBound at hb; omega) ⟨.int _, H, I.kept (t' := s.toks + 1 + 1) fun _ _ z => z, ⟨_, rfl⟩, ?_⟩
  rw [e]
  exact q
theorem me_lenSet {e : Expr} {p p2 pos pos2 : Pos} {m : Env → R D} (hc : X.calm = true) (hg : Gl X "len") (hm : X.mg "len" = none) (hg2 : Gl X "set") (hm2 : X.mg "set" = none) (ha : ME X W e m)
    (he : starEach [e] X.env = (false, eval e X.env) :: starEach [] X.env := by rfl) (hpl : (backTo pos2 (starEach [] X.env)).any (·.1) = false := by rfl)
    (he2 : starEach [Expr.Call (.Name "set" p2) [e] [] pos2] X.env = (false, eval (Expr.Call (.Name "set" p2) [e] [] pos2) X.env) :: starEach [] X.env := by rfl) (hpl2 : (backTo pos (starEach [] X.env)).any (·.1) = false := by rfl) :
    ME X W (.Call (.Name "len" p) [.Call (.Name "set" p2) [e] [] pos2] [] pos) (eUn lenSetD m) := by
  obtain ⟨t, pt, ht⟩ := ha.ex
  refine ⟨_, pe_callB cr_lenL hg hm (by decide +kernel) (pa_cons (pe_callTy (cr_setL hc) hg2 hm2 boot_set' (pa_cons pt pa_nil he) (he := he) (hpl := hpl)) pa_nil he2) (he := he2) (hpl := hpl2), fun σ G H ρ Q re h => ?_⟩
  refine ht σ G H ρ _ re (h.bind.imp fun x _ h1 => fun v G1 H1 s1 r1 => ?_)
  obtain ⟨d, e, q⟩ := h1.lft
  cases r1 with
  | lst ha hr =>
    rename_i a vs ds _
    obtain ⟨l, el, e⟩ := Option.bind_eq_some_iff.mp (show (keysL ds).bind (fun l => if l.length ≤ 4000 then some (PyData.int ((setL l).length : Int)) else none) = some d from e)
    split at e
    · rename_i hk
      cases e
      have hv := keys_rep hr el
      subst hv
      refine ⟨a, l, rfl, s1.s.sq ha, hk, fun p hp => ⟨p, setL l, rfl, upd_same, ?_⟩⟩
      have s2 : Step G H G1 (upd H1 p (SetLO X.w p (setL l))) := s1.trans ((Step.refl s1.s).layH hp (s1.s.none hp) trivial)
      exact q _ _ _ s2 (.int _)
    · cases e
  | _ => cases e
end
end FF

namespace FF
open PySem L2
/-! ### max(a, b, c) -/
def max3D : List D → Option D
  | [.int a, .int b, .int c] => some (.int (max (max a b) c))
  | _ => none
theorem max3_inv {as : List D} {d : D} (e : max3D as = some d) : ∃ a b c, as = [.int a, .int b, .int c] ∧ d = .int (max (max a b) c) := by
  unfold max3D at e
  split at e
  · exact ⟨_, _, _, rfl, (Option.some.inj e).symm⟩
  · cases e
theorem callm_max3 {X : Cx} (hc : X.calm = true) : CallM X (.builtin "max") max3D := ⟨_, call_max3Nu hc, fun G H xs as d Q s r e q => by
  obtain ⟨a, b, c, rfl, rfl⟩ := max3_inv e
  cases r with
  | cons r1 r =>
    cases r with
    | cons r2 r =>
      cases r with
      | cons r3 r =>
        cases r
        cases r1
        cases r2
        cases r3
        refine ⟨_, _, _, .int (max (max a b) c), rfl, ?_, q.at s (.int _)⟩
        have h2 : nuMax2 (.int a) (.int b) = some (V.int (max a b)) := by
          show (nuLt (.int a) (.int b)).map _ = _
          show some (if decide (a < b) = true then V.int b else V.int a) = _
          by_cases h : a < b
          · rw [decide_eq_true h, if_pos rfl, Int.max_eq_right (by omega)]
          · rw [decide_eq_false h, if_neg (by decide), Int.max_eq_left (by omega)]
        have h3 : nuMax2 (.int (max a b)) (.int c) = some (V.int (max (max a b) c)) := by
          show some (if decide (max a b < c) = true then V.int c else V.int (max a b)) = _
          by_cases h : max a b < c
          · rw [decide_eq_true h, if_pos rfl, Int.max_eq_right (a := max a b) (b := c) (by omega)]
          · rw [decide_eq_false h, if_neg (by decide), Int.max_eq_left (a := max a b) (b := c) (by omega)]
        show (nuMax2 (.int a) (.int b)).bind _ = _
        rw [h2]
        exact h3⟩
@[simp] theorem max3D_i (a b c : Int) : max3D [.int a, .int b, .int c] = some (.int (max (max a b) c)) := by exact rfl
end FF

namespace FF
open PySem PySem.Spec PyProof.Rows L2 HotX
/-! ### a def that is told a handled exception: ("refused", which) -/
def boolsV (b1 b2 b3 : Bool) : List D := [.bool b1, .bool b2, .bool b3]
def whichB (b1 b2 b3 : Bool) : Nat := if b1 then 0 else if b2 then 1 else 2
def oneB (b1 b2 b3 : Bool) : Bool := (b1 && !b2 && !b3) || (!b1 && b2 && !b3) || (!b1 && !b2 && b3)
theorem flags_cnt {b1 b2 b3 : Bool} (ho : oneB b1 b2 b3 = true) : (boolsV b1 b2 b3).countP (fun y => PyData.eqv y (.bool true)) = 1 := by
  cases b1 <;> cases b2 <;> cases b3 <;> first | rfl | cases ho
theorem flags_at {b1 b2 b3 : Bool} (ho : oneB b1 b2 b3 = true) : (boolsV b1 b2 b3)[whichB b1 b2 b3]? = some (.bool true) := by
  cases b1 <;> cases b2 <;> cases b3 <;> first | rfl | cases ho
theorem flags_ahead {b1 b2 b3 : Bool} (ho : oneB b1 b2 b3 = true) {m : Nat} {z : D} (hm : m < whichB b1 b2 b3) (e : (boolsV b1 b2 b3)[m]? = some z) : PyData.eqv z (.bool true) = false := by
  cases b1 <;> cases b2 <;> cases b3 <;> first
    | (cases ho; done)
    | (exact absurd hm (Nat.not_lt_zero m))
    | (have : m = 0 := by
        have h : m < 1 := hm
        omega
       subst this
       cases e
       rfl)
    | (have : m = 0 ∨ m = 1 := by
        have h : m < 2 := hm
        omega
       rcases this with rfl | rfl <;> (cases e; rfl))
theorem flags_shp (b1 b2 b3 : Bool) : SeqAt.shaped (.list (boolsV b1 b2 b3)) = true := by cases b1 <;> cases b2 <;> cases b3 <;> rfl
theorem flags_plain (b1 b2 b3 : Bool) : PyData.plainAll (boolsV b1 b2 b3) = true := by cases b1 <;> cases b2 <;> cases b3 <;> rfl
/-- how it leaves its caller: the list of flags, the pair -/
def tRef (i j : Nat) (a : Addr) (b1 b2 b3 : Bool) : TS := fun D σ H => σ[i]? = some (some (V.ref a)) ∧ i ≠ j ∧ ∀ p1 q, H p1 = none → upd H p1 (flV b1 b2 b3) q = none →
  D.rt (.ref q) (upd (upd H p1 (flV b1 b2 b3)) q (.tup [.str "refused", .int (whichB b1 b2 b3 : Nat)]))
section
variable {Y : Cx} {W : WX} {i j : Nat} {n fl x1 x2 x3 : Str} {on1 on2 on3 onV of1 of2 er : Expr} {p1 p2 p3 p4 p5 p6 p7 p8 p9 p10 p11 p12 p13 p14 p15 q1 q2 q3 q4 q5 q6 q7 q8 q9 q10 q11 q12 ap1 cp1 ap2 cp2 : Pos} {t1 t2 t3 t4 t5 : Nat} {a C u1 u2 u3 : Addr} {oe : Obj} {b1 b2 b3 : Bool}
theorem ref_body (hN : Y.N.Nodup) (hi : Y.N[i]? = some n) (hj : Y.N[j]? = some fl) (hlj : Loc Y.env.scope fl) (hff : Y.fn fl = true ∨ Y.env.scope.names.lookup fl = some .local) (gI : Gl Y "isinstance") (mI : Y.mg "isinstance" = none)
    (g1 : Gl Y x1) (g2 : Gl Y x2) (g3 : Gl Y x3) (gV : Gl Y "ValueError") (d1 : (x1 == ("__debug__" : Str)) = false) (d2 : (x2 == ("__debug__" : Str)) = false) (d3 : (x3 == ("__debug__" : Str)) = false) (hu : Y.A.units + 65 < cLine)
    (hE : ExcC Y.K C) (hz : Zc (.ref C) none oe) (hf : ∃ vs, oe.data = .fields vs) (hp : (a, oe) ∈ Y.pn) (m1 : Y.mg x1 = some (.ref u1)) (m2 : Y.mg x2 = some (.ref u2)) (m3 : Y.mg x3 = some (.ref u3)) (mV : Y.mg "ValueError" = none)
    (k1 : PySem.W.kitOne Y.K (.ref C) (.ref u1) = some b1) (k2 : PySem.W.kitOne Y.K (.ref C) (.ref u2) = some b2) (k3 : PySem.W.kitOne Y.K (.ref C) (.ref u3) = some b3) (kV : PySem.W.kitOne Y.K (.ref C) (.type "ValueError") = some true) (ho : oneB b1 b2 b3 = true)
    (v1 : PE Y on1 (tVar i)) (v2 : PE Y on2 (tVar i)) (v3 : PE Y on3 (tVar i)) (vV : PE Y onV (tVar i)) (vf1 : PE Y of1 (tVar j)) (vf2 : PE Y of2 (tVar j)) (hr : ∃ t, PS Y (.Return (some er) q6) t)
    (s1 : starEach [on1, .Name x1 p2] Y.env = (false, eval on1 Y.env) :: starEach [.Name x1 p2] Y.env := by rfl) (s2 : starEach [on2, .Name x2 p5] Y.env = (false, eval on2 Y.env) :: starEach [.Name x2 p5] Y.env := by rfl) (s3 : starEach [on3, .Name x3 p8] Y.env = (false, eval on3 Y.env) :: starEach [.Name x3 p8] Y.env := by rfl)
    (sV : starEach [onV, .Name "ValueError" p14] Y.env = (false, eval onV Y.env) :: starEach [.Name "ValueError" p14] Y.env := by rfl)
    (hb1 : attributeBase of1 "count" Y.env (eval of1 Y.env) = eval of1 Y.env := by rfl) (hb2 : attributeBase of2 "index" Y.env (eval of2 Y.env) = eval of2 Y.env := by rfl) (hl1 : (ap1.endLine == cp1.line) = true := by rfl) (hl2 : (ap2.endLine == cp2.line) = true := by rfl)
    (hsw : swapsWith (.List [.Call (.Name "isinstance" p1) [on1, .Name x1 p2] [] p3, .Call (.Name "isinstance" p4) [on2, .Name x2 p5] [] p6, .Call (.Name "isinstance" p7) [on3, .Name x3 p8] [] p9] p10) (some (.Name fl p11)) p12.line Y.env = pure false := by rfl) :
    PSs Y [.Assign [.Name fl p11] (.List [.Call (.Name "isinstance" p1) [on1, .Name x1 p2] [] p3, .Call (.Name "isinstance" p4) [on2, .Name x2 p5] [] p6, .Call (.Name "isinstance" p7) [on3, .Name x3 p8] [] p9] p10) p12,
      .If (.BoolOp .Or [.Compare (.Call (.Attribute of1 "count" ap1) [.Constant (.bool true) t1 q1] [] cp1) [.NotEq] [.Constant (.int 1) t2 q2] q3, .UnaryOp .Not (.Call (.Name "isinstance" p13) [onV, .Name "ValueError" p14] [] p15) q4] q5) [.Return (some er) q6] [] q7,
      .Return (some (.Tuple [.Constant (.str "refused") t3 q8, .Call (.Attribute of2 "index" ap2) [.Constant (.bool true) t4 q9] [] cp2] t5 q10)) q11] (tRef i j a b1 b2 b3) := by
  obtain ⟨tr, hr⟩ := hr
  have jl : ∀ {pins s σ H}, Inv Y pins σ H s → j < σ.length := fun I => by
    rw [I.len]
    exact (List.getElem?_eq_some_iff.mp hj).1
  have cn : OpR Y (compareOp .NotEq) rNe := op_ne
  have st1 := ps_set (X := Y) (pos' := p11) (pos := p12) hN hj hlj (pe_lst (pos := p10) (pa_cons (pe_isO (X := Y) (p := p1) (p2 := p2) (pos := p3) hE hz hf hp v1 gI mI g1 m1 k1 d1 s1) (pa_cons (pe_isO (X := Y) (p := p4) (p2 := p5) (pos := p6) hE hz hf hp v2 gI mI g2 m2 k2 d2 s2) (pa_cons (pe_isO (X := Y) (p := p7) (p2 := p8) (pos := p9) hE hz hf hp v3 gI mI g3 m3 k3 d3 s3) pa_nil)))) hsw hff
  have c1 : PE Y (.Constant (.bool true) t1 q1) (tC (.bl true)) := pe_bl
  have c2 : PE Y (.Constant (.bool true) t4 q9) (tC (.bl true)) := pe_bl
  have ct := pe_bm (X := Y) (cpos := cp1) PySem.F.plainAttrs_list PySem.F.slot_list_count PySem.F.type_list_count (mt_countD (by omega)) vf1 (pa_cons c1 pa_nil) hb1 rfl hl1
  have ix := pe_bm (X := Y) (cpos := cp2) PySem.F.plainAttrs_list PySem.F.slot_list_index PySem.F.type_list_index (mt_indexD hu) vf2 (pa_cons c2 pa_nil) hb2 rfl hl2
  have st2 := ps_if (X := Y) (pos := q7) (pw_or (pos := q5) (pt_cmpR (pos := q3) cn ct (pe_int (i := 1) (j := t2) (pos := q2)) (nomark _)) (pw_or1 (pos := q5) (pt_not (pos := q4) (pt_val (pe_isV (X := Y) (p := p13) (p2 := p14) (pos := p15) hE hz hf hp vV gI mI gV mV kV sV))))).pt (pss_one hr) pss_nil
  have st3 := ps_ret (X := Y) (pos := q11) (pe_tup (x1 := t5) (pos := q10) (pa_cons (pe_str (x := "refused") (j := t3) (pos := q8)) (pa_cons ix pa_nil)))
  have term := pss_cons st1 (pss_cons st2 (pss_one st3))
  refine ⟨fun pins s σ H E0 I ⟨hσ, hij, q⟩ => term.run pins s σ H E0 I ?_⟩
  have jlt := jl I
  refine ⟨hσ, hσ, hσ, by show 3 ≤ sizeLine; decide, fun p1 hp1 => ?_⟩
  have sj : (σ.set j (some (V.ref p1)))[j]? = some (some (V.ref p1)) := List.getElem?_set_self jlt
  have si : (σ.set j (some (V.ref p1)))[i]? = some (some (V.ref a)) := by rw [List.getElem?_set_ne (Ne.symm hij)]; exact hσ
  have hd := dp_fl (K := Y.K) (H := upd H p1 (flV b1 b2 b3)) (p := p1) (b1 := b1) (b2 := b2) (b3 := b3) upd_same
  have ty : tyV Y.K "list" (V.ref p1) (upd H p1 (flV b1 b2 b3)) := .inl ⟨rfl, _, SqL.of upd_same⟩
  refine ⟨_, sj, ty, ⟨p1, .bl true, .bool true, _, rfl, rfl, hd, .bl _, flags_plain b1 b2 b3, rfl, by decide, ?_⟩⟩
  have hc := flags_cnt ho
  unfold boolsV at hc
  rw [hc]
  refine ⟨rfl, false, rfl, ?_⟩
  show (if (false : Bool) = true then _ else _)
  rw [if_neg (by decide)]
  refine ⟨si, true, rfl, ?_⟩
  show (if (!true : Bool) = true then _ else _)
  rw [if_neg (by decide)]
  refine ⟨_, sj, ty, ⟨p1, .bl true, .bool true, _, whichB b1 b2 b3, _, rfl, rfl, hd, .bl _, flags_shp b1 b2 b3, rfl, flags_at ho, rfl, fun m z hm e => flags_ahead ho hm e, ?_⟩⟩
  refine ⟨by show 2 ≤ sizeLine; decide, fun p2 hp2 => ?_⟩
  exact q p1 p2 hp1 hp2
end
/-! ### its call, where the exception is handled -/
abbrev XT := Addr × Obj
/-- what the caller wants of it -/
def wRef (mg : Str → Option Value) (cs : List Str) (x1 x2 x3 : Str) (p : XT) (H : Hp) (Q : VK) : Prop := ∃ c C, c ∈ cs ∧ mg c = some (.ref C) ∧ Zc (.ref C) none p.2 ∧
  ∀ p1 q, H p1 = none → upd H p1 (flV (decide (c = x1)) (decide (c = x2)) (decide (c = x3))) q = none → Q (.ref q) (upd (upd H p1 (flV (decide (c = x1)) (decide (c = x2)) (decide (c = x3)))) q (.tup [.str "refused", .int (whichB (decide (c = x1)) (decide (c = x2)) (decide (c = x3)) : Nat)]))
def RunRef (P : Program) (w : World) (K : PySem.W.Frag) (mg : Str → Option Value) (base : Heap) (k : Nat) (f : Addr) (fd : FuncData) (ps : List Str) (R : XT → Hp → VK → Prop) : Prop :=
  ∀ (A : Around) (outer : List PySem.Env) (s : Shared) (H : Hp) (args : Args) (Q : VK) (E : XK) (p : XT), L2H.RoomH k A → L2H.Hot1 A p → L2H.PinOk outer H s p →
    Env0 P w K mg base A outer s H → BindsTo s fd args (ps.zip [.ref p.1]) → R p H Q → codeAny (model P w) A (.call (.ref f) args) (CR (L2N.CX P w) outer P w H s Q E) s
section
variable {P : Program} {w : World} {K : PySem.W.Frag} {mg : Str → Option Value} {base : Heap}
abbrev hotX (P : Program) (w : World) (K : PySem.W.Frag) (mg : Str → Option Value) (base : Heap) (N : List Str) (qual : Str) (sc : Scope) (f : Addr) (cdv : Value) (A : Around) (outer : List PySem.Env) (s : Shared) (H : Hp) (E : XK) (p : XT) : Cx :=
  L2H.cxH (L2N.CX P w) P w K mg base N qual sc f cdv A outer s H E p
theorem runRef_of {name qual : Str} {params : Arguments} {body : List Stmt} {sc : Scope} {dV kV doc pm cdv ct oc : Value} {an od : Option Addr} {osl : Array (Option Value)} {N : List Str} {n : Str} {f : Addr} {k : Nat} {R : XT → Hp → VK → Prop}
    (lk : K.lookup f = some ⟨oc, od, .func (PySem.W.fnOf name qual params body sc dV kV doc pm an cdv ct), osl⟩) (hcd : PySem.W.codeIn K cdv qual = true) (S : FnScope N [n] sc)
    (hbody : ∀ (A : Around) (outer : List PySem.Env) (s : Shared) (H : Hp) (Q : VK) (E : XK) (p : XT), L2H.Hot1 A p → L2H.RoomH k (A.deeper (envOfC qual sc s.heap.objs.size f cdv)) → R p H Q →
      ∃ t, PSs (hotX P w K mg base N qual sc f cdv A outer s H E p) body t ∧ t ⟨fun _ H' => Q .non H', Q, fun _ _ => False, fun _ _ => False⟩ (L2.start N [.ref p.1]) H) :
    RunRef P w K mg base (k + 1) f (PySem.W.fnOf name qual params body sc dV kV doc pm an cdv ct) [n] R := by
  intro A outer s H args Q E p room hot pin env binds want
  have hk : K.In s.heap := env.mod.kin.keeps fun b o e =>
    (env.bs b o e).1
  have nl : s.heap.NoLimit := env.mod.nolimit.keeps fun b o e =>
    (env.bs b o e).1
  have kinds : ∀ y ∈ [n].zip [Value.ref p.1], sc.names.lookup y.1 = some .local ∨
      (sc.names.lookup y.1 = some .cell ∧ ((cellsFrom (s.heap.objs.size + 1) sc.names []).lookup y.1).isSome = true) := by
    intro y hy
    have hy1 : y.1 ∈ [n] := (List.of_mem_zip (a := y.1) (b := y.2) hy).1
    refine (S.par y.1 hy1).imp id fun z => ⟨z, ?_⟩
    exact PySem.W.cellsFrom_some _ _ _ (.inl z)
  refine codeAny_call_function room.depth (hk _ _ lk) rfl S.co S.gen rfl
    (PySem.W.codeRec_of hk hcd) (binds _ _ _ _ ?_)
  refine wpAny_newFunctionEnv_cells S.kind kinds fun ev hev s1 call => ?_
  subst hev
  refine ⟨nl.keeps call.toInCall.keep, ?_⟩
  refine codeAny_func ?_
  obtain ⟨t, run, ht⟩ := hbody A outer s H Q E p hot (room.deeper _) want
  have J := L2H.inv_startH (CX := L2N.CX P w) (E := E) (vs := [V.ref p.1]) S pin env rfl (.cons rfl .nil) call
  refine wpAny_mono (run.run [] s1 _ H _ J ht) ?_ fun _ _ z => z
  have out : ∀ {σ' : L2.St} {H' : Hp} {v : V} {u : Value} {s' : Shared}, Inv (hotX P w K mg base N qual sc f cdv A outer s H E p) [] σ' H' s' →
      RelV v u → Q v H' → CE outer P w H s Q u s' := fun {_ H' v _ _} J' rv z => ⟨v, H', J'.os, J'.bare, J'.base, J'.hok, rv, z⟩
  intro fl s' hs
  match fl, hs with
  | .ret u, hs =>
    obtain ⟨v, σ', H', J', rv, z⟩ := hs
    exact out J' rv z
  | .next, hs =>
    obtain ⟨σ', H', J', z⟩ := hs
    exact out (v := .non) (u := Value.none) J' rfl z
  | .brk, hs =>
    obtain ⟨_, _, _, z⟩ := hs
    exact z.elim
  | .cont, hs =>
    obtain ⟨_, _, _, z⟩ := hs
    exact z.elim
structure RefAt (P : Program) (w : World) (K : PySem.W.Frag) (mg : Str → Option Value) (base : Heap) (x n : Str) (k : Nat) (cs : List Str) (x1 x2 x3 : Str) : Prop where
  ex : ∃ f fd, RunRef P w K mg base k f fd [n] (wRef mg cs x1 x2 x3) ∧ mg x = some (.ref f) ∧ PySem.W.keepIn K (.ref f) = true ∧ Binds K fd [n] []
theorem ref_ok {x n : Str} {st : Stmt} {N : List Str} {j k : Nat} {cs : List Str} {x1 x2 x3 : Str} (F : FunAt K mg x st [n]) (S : FnScope N [n] (defScope st)) (hC : ∀ c ∈ cs, Caught K mg c x1 x2 x3) (ho : ∀ c ∈ cs, oneB (decide (c = x1)) (decide (c = x2)) (decide (c = x3)) = true) (hj : 0 ≠ j)
    (hb : ∀ (f : Addr) (cdv : Value) (A : Around) (outer : List PySem.Env) (s : Shared) (H : Hp) (E : XK) (a : Addr) (oe : Obj) (C u1 u2 u3 : Addr) (b1 b2 b3 : Bool), (hotX P w K mg base N x (defScope st) f cdv A outer s H E (a, oe)).A.units + 65 < cLine → ExcC K C → Zc (.ref C) none oe → (∃ vs, oe.data = .fields vs) →
      mg x1 = some (.ref u1) → mg x2 = some (.ref u2) → mg x3 = some (.ref u3) → mg "ValueError" = none → PySem.W.kitOne K (.ref C) (.ref u1) = some b1 → PySem.W.kitOne K (.ref C) (.ref u2) = some b2 → PySem.W.kitOne K (.ref C) (.ref u3) = some b3 → PySem.W.kitOne K (.ref C) (.type "ValueError") = some true → oneB b1 b2 b3 = true →
      PSs (hotX P w K mg base N x (defScope st) f cdv A outer s H E (a, oe)) (defBody st) (tRef 0 j a b1 b2 b3)) : RefAt P w K mg base x n (k + 1) cs x1 x2 x3 := by
  obtain ⟨f, fd, F, hm, hb'⟩ := F.ex
  have kp := F.kp
  obtain ⟨_, _, _, _, _, _, cdv, _, _, rfl, hlk, hcode⟩ := F.ex
  refine ⟨f, _, runRef_of hlk hcode S fun A outer s H Q E p hot room want => ?_, hm, kp, .all hb'⟩
  obtain ⟨a, oe⟩ := p
  obtain ⟨c, C, hc, mc, hz, q⟩ := want
  have hcc := hC c hc
  obtain ⟨C0, _, mC, _, _, hE⟩ := hcc.e.ex
  obtain ⟨C1, t1, m1, mt1, k1⟩ := hcc.k1.ex
  obtain ⟨C2, t2, m2, mt2, k2⟩ := hcc.k2.ex
  obtain ⟨C3, t3, m3, mt3, k3⟩ := hcc.k3.ex
  obtain ⟨mV, CV, mCV, kV⟩ := hcc.v.ex
  rw [mc] at m1 m2 m3 mCV mC
  cases m1; cases m2; cases m3; cases mCV; cases mC
  obtain ⟨_, vs, hd, _⟩ := hot
  refine ⟨_, hb f cdv A outer s H E a oe C t1 t2 t3 _ _ _ ?_ hE hz ⟨vs, hd⟩ mt1 mt2 mt3 mV k1 k2 k3 kV (ho c hc), ?_, hj, q⟩
  · have := room.un
    show (A.deeper _).units + 65 < cLine
    omega
  · rfl
end
/-! ### the handler that returns what the def tells -/
def tCallRef (i : Nat) (a : Addr) (R : Hp → VK → Prop) : TE := fun σ H Q => σ[i]? = some (some (V.ref a)) ∧ R H Q
theorem pe_ref {X : Cx} {x n : Str} {on : Expr} {np pos : Pos} {i k : Nat} {a : Addr} {oe : Obj} {cs : List Str} {x1 x2 x3 : Str} (F : RefAt X.prog X.w X.K X.mg X.base x n k cs x1 x2 x3) (hr : L2H.RoomH k X.A) (hot : L2H.Hot1 X.A (a, oe)) (hp : (a, oe) ∈ X.pn)
    (hg : Gl X x) (ho : PE X on (tVar i)) (hdb : (x == ("__debug__" : Str)) = false := by decide) (he : starEach [on] X.env = (false, eval on X.env) :: starEach [] X.env := by rfl) (hpl : (backTo pos (starEach [] X.env)).any (·.1) = false := by rfl) :
    PE X (.Call (.Name x np) [on] [] pos) (tCallRef i a (wRef X.mg cs x1 x2 x3 (a, oe))) := by
  obtain ⟨f, fd, run, hm, kp, hb⟩ := F.ex
  refine ⟨fun pins s σ H Q I ⟨hσ, want⟩ => wpAny_Call_Name_kw (ld_glob I hg hm ?_ hdb)⟩
  have args := (pa_cons ho pa_nil he).run pos pins s σ H (fun vs H' => vs = [V.ref a] ∧ H' = H) I ⟨_, hσ, rfl, rfl⟩
  refine PySem.W.callWith_K (h₀ := X.base) I.ok.mod.kin kp (thn args fun us s1 ⟨vs, H1, J, r, ev, eH⟩ => ⟨J.kIn, ?_⟩) he hpl
  subst ev eH
  obtain rfl : us = [Value.ref a] := by
    cases r with
    | cons r1 r2 => cases r1; cases r2; rfl
  have pin := J.pin (a, oe) (List.mem_append_left _ hp)
  have away : a ∉ frs X.stack := fun z => (List.mem_cons.mp (J.stkSub a z)).elim pin.2.2.1 pin.2.2.2.1
  have given := hb s1 [.ref a] J.kIn rfl
  rw [List.append_nil] at given
  have code := run X.A X.stack s1 H1 ⟨[.ref a], []⟩ Q (fun _ _ _ => False) (a, oe) hr hot ⟨pin.1, pin.2.1, away, pin.2.2.2.2⟩ J.env0 given want
  refine wpAny_call (codeAny_mono code fun r s' hq => ?_)
  match r, hq with
  | .error e, ⟨_, _, _, _, _, _, _, _, _, _, _, _, z⟩ => exact z.elim
  | .ok (.ret u), hq => exact J.after hq
  | .ok .next, hq => exact hq.elim
  | .ok .brk, hq => exact hq.elim
  | .ok .cont, hq => exact hq.elim
def refD (x1 x2 x3 c : Str) : D := .tuple [.str "refused", .int (whichB (decide (c = x1)) (decide (c = x2)) (decide (c = x3)) : Nat)]
def sTryR (cs : List Str) (x1 x2 x3 : Str) (mb : MSt) : MSt := fun ρ => match mb ρ with
  | .exn c _ => if c ∈ cs then .ret (refD x1 x2 x3 c) else .bad
  | x => x
def tSuR (X : Cx) (cs : List Str) (x1 x2 x3 : Str) (i : Nat) (a : Addr) (cls : Value) (d : Option Addr) : TS := fun E0 σ H => ∃ c, c ∈ cs ∧ X.mg c = some cls ∧ d = none ∧ (∃ σ' : L2.St, σ = σ'.set i (some (V.ref a))) ∧
  ∀ p1 q, H p1 = none → upd H p1 (flV (decide (c = x1)) (decide (c = x2)) (decide (c = x3))) q = none → E0.rt (.ref q) (upd (upd H p1 (flV (decide (c = x1)) (decide (c = x2)) (decide (c = x3)))) q (.tup [.str "refused", .int (whichB (decide (c = x1)) (decide (c = x2)) (decide (c = x3)) : Nat)]))
theorem ms_tryR {X : Cx} {W : WX} {k kf i : Nat} {n x fn : Str} {cs : List Str} {x1 x2 x3 : Str} {mb : MSt} {body : List Stmt} {on : Expr} {np p1 p2 p3 pos pos' : Pos} (cz : Cz X W k) (F : RefAt X.prog X.w X.K X.mg X.base x fn kf cs x1 x2 x3) (hk : kf ≤ k)
    (hs : X.stack = X.env :: X.outer) (hf : X.env.frame = some X.env.locals) (hi : X.N[i]? = some n) (hln : X.env.kindOf n = some .local) (mF : ∃ E, X.mg "FindError" = some (.ref E)) (gF : Gl X "FindError") (gx : Gl X x) (hC : ∀ c ∈ cs, Caught X.K X.mg c x1 x2 x3)
    (hb : ∀ (W' : WX) (pn : List (Addr × Obj)) (xe : Value → Shared → Prop), Cz (X.tr pn xe) W' k → MSs (X.tr pn xe) W' body mb) (v : ∀ a pn, PE (X.suite a pn) on (tVar i))
    (hdb : (x == ("__debug__" : Str)) = false := by decide) (he : starEach [on] X.env = (false, eval on X.env) :: starEach [] X.env := by rfl) (hpl : (backTo p2 (starEach [] X.env)).any (·.1) = false := by rfl) :
    MS X W (.Try body [.ExceptHandler (some (.Name "FindError" np)) (some n) [.Return (some (.Call (.Name x p1) [on] [] p2)) p3] pos'] [] [] pos) (sTryR cs x1 x2 x3 mb) := by
  obtain ⟨E, mE⟩ := mF
  have room : L2H.RoomH kf X.A := (L2H.roomH_of cz.room).mono hk
  refine ⟨_, L2N.ps_try_as (ts := tSuR X cs x1 x2 x3 i) hs hf cz.nd hi hln ⟨gF, by decide, .inl mE⟩ cz.tk (body_of cz hb) (fun a oe cls d pn hz hv => ⟨fun pins s σ H E0 I h => ?_⟩), fun G0 H0 σ G H ρ E0 r h => ?_⟩
  · obtain ⟨c, hc, mc, rfl, ⟨σ', hσ'⟩, q⟩ := h
    obtain ⟨C, _, mC, _⟩ := (hC c hc).e.ex
    rw [mc] at mC
    cases mC
    obtain ⟨vs, hd⟩ := hv
    have hil : i < σ'.length := by
      have := I.len
      rw [hσ', List.length_set] at this
      rw [this]
      exact (List.getElem?_eq_some_iff.mp hi).1
    have hσ : σ[i]? = some (some (V.ref a)) := by rw [hσ', List.getElem?_set_self hil]
    have term := pss_one (ps_ret (pos := p3) (pe_ref (X := X.suite a ((a, oe) :: pn)) (np := p1) (pos := p2) F ⟨room.dp, room.un⟩ ⟨rfl, vs, hd, hz.2.2 vs hd⟩ List.mem_cons_self gx (v a _) hdb he hpl))
    exact term.run pins s σ H E0 I ⟨hσ, c, C, hc, mc, hz.zc, q⟩
  · refine try_read r h (fun c ρ' em σ' G' H' C r' mc => ?_) fun f em hn => ?_
    · unfold sTryR at h
      rw [em] at h
      have h : PostS X W G0 H0 E0 (if c ∈ cs then .ret (refD x1 x2 x3 c) else .bad) := h
      by_cases hc : c ∈ cs
      · rw [if_pos hc] at h
        obtain ⟨C', E', mC', mE', ex, _⟩ := (hC c hc).e.ex
        rw [mc] at mC'
        rw [mE] at mE'
        cases mC'; cases mE'
        refine ⟨true, ex, fun _ a ha => ⟨c, hc, mc, rfl, ⟨σ', rfl⟩, fun q1 q2 hq1 hq2 => ?_⟩, fun z => nomatch z⟩
        have s1 := r'.st.layH (u := flV (decide (c = x1)) (decide (c = x2)) (decide (c = x3))) (r'.st.h.none hq1) (r'.st.s.none hq1) trivial
        have s2 := Step.new (o := .tup [V.str "refused", .int (whichB (decide (c = x1)) (decide (c = x2)) (decide (c = x3)) : Nat)]) s1.s hq2 trivial
        exact h _ _ _ (s1.trans s2) (.tup upd_same (.cons (.str _) (.cons (.int _) .nil)))
      · rw [if_neg hc] at h
        exact h.elim
    · unfold sTryR
      rw [em]
      cases f with
      | exn c ρ' => exact absurd rfl (hn c ρ')
      | _ => rfl
end FF

namespace FF
open PySem PySem.Spec PyProof.Rows L2
/-! ### [f, g][way](..) -/
def eSel2 (f g : List D → R D) (mw : Env → R D) (ms : Env → R (List D)) : Env → R D := fun ρ => (mw ρ).bind fun d => match d with
  | .int i => if i = 0 then (ms ρ).bind f else if i = 1 then (ms ρ).bind g else .bad
  | _ => .bad
section
variable {X : Cx} {W : WX} {j k1 k2 : Nat} {x1 x2 : Str} {ps1 ps2 : List Str} {f1 f2 : List D → R D} {p1 p2 p3 p4 pos : Pos} {ew e : Expr} {es : List Expr} {mw : Env → R D} {ms : Env → R (List D)}
def spOf (K : PySem.W.Frag) (mg : Str → Option Value) (f : List D → R D) (W : WX) (σ : L2.St) (ta : TA) (Q : VK) (H : Hp) : Prop := ta σ H fun vs H' => spM K mg f vs H' Q (L2.WE W σ)
theorem me_sel2 (F1 : DefAt X.prog X.w X.K X.mg X.base x1 ps1 k1 f1) (F2 : DefAt X.prog X.w X.K X.mg X.base x2 ps2 k2 f2) (hr : Room j X.A) (h1 : k1 ≤ j) (h2 : k2 ≤ j) (g1 : Gl X x1) (g2 : Gl X x2) (tk : L2N.Takes X W) (hw : ME X W ew mw) (ha : MA X W (e :: es) ms)
    (hp : PlainIx ew := by intro _ _; rfl) (d1 : (x1 == ("__debug__" : Str)) = false := by decide) (d2 : (x2 == ("__debug__" : Str)) = false := by decide) (he : starEach (e :: es) X.env = (false, eval e X.env) :: starEach es X.env := by rfl) (hpl : (backTo pos (starEach es X.env)).any (·.1) = false := by rfl)
    (ht : eval (.Call (.Subscript (.List [.Name x1 p1, .Name x2 p2] p3) ew p4) (e :: es) [] pos) X.env = (do callWith pos (← eval (.Subscript (.List [.Name x1 p1, .Name x2 p2] p3) ew p4) X.env) [] (backTo pos (starEach (e :: es) X.env)) (backToKw pos (keywordEach [] X.env))) := by rfl)
    (s1 : starEach [.Name x1 p1, .Name x2 p2] X.env = (false, eval (.Name x1 p1) X.env) :: starEach [.Name x2 p2] X.env := by rfl) (s2 : starEach [.Name x2 p2] X.env = (false, eval (.Name x2 p2) X.env) :: starEach [] X.env := by rfl) :
    ME X W (.Call (.Subscript (.List [.Name x1 p1, .Name x2 p2] p3) ew p4) (e :: es) [] pos) (eSel2 f1 f2 mw ms) := by
  obtain ⟨a1, fd1, F1, m1, kp1, b1⟩ := F1.ex
  obtain ⟨a2, fd2, F2, m2, kp2, b2⟩ := F2.ex
  obtain ⟨tw, pw, hw⟩ := hw.ex
  obtain ⟨ta, pa, ha⟩ := ha.ex
  have pc := pe_ix (pos := p4) ix_list (pe_lst (pos := p3) (pa_cons (pe_glob (pos := p1) (v := .ref a1) g1 m1 rfl d1) (pa_cons (pe_glob (pos := p2) (v := .ref a2) g2 m2 rfl d2) pa_nil s2) s1)) pw hp
  let T : TE := fun σ H Q => tOp (rIxL X.K) (tLst (tCons (tC (.ref a1)) (tCons (tC (.ref a2)) tNil))) tw σ H fun x H1 => (x = .ref a1 ∧ spOf X.K X.mg f1 W σ ta Q H1) ∨ (x = .ref a2 ∧ spOf X.K X.mg f2 W σ ta Q H1)
  have pt : PE X (.Call (.Subscript (.List [.Name x1 p1, .Name x2 p2] p3) ew p4) (e :: es) [] pos) T := by
    refine ⟨fun pins s σ H Q I h => Call_ (thn (pc.run pins s σ H _ I h) fun u t1 ⟨y, H1, J, ry, z⟩ => ?_) ht⟩
    rcases z with ⟨ey, q⟩ | ⟨ey, q⟩
    · subst ey
      obtain rfl : u = Value.ref a1 := ry
      exact PySem.W.callWith_K (h₀ := X.base) J.ok.mod.kin kp1 (thn (pa.run pos pins t1 σ H1 _ J q) fun us t2 ⟨vs, H2, J2, r, q2⟩ =>
        ⟨J2.kIn, run_fnS F1 (hr.mono h1) b1 (L2N.passAt tk σ) J2 r q2⟩) he hpl
    · subst ey
      obtain rfl : u = Value.ref a2 := ry
      exact PySem.W.callWith_K (h₀ := X.base) J.ok.mod.kin kp2 (thn (pa.run pos pins t1 σ H1 _ J q) fun us t2 ⟨vs, H2, J2, r, q2⟩ =>
        ⟨J2.kIn, run_fnS F2 (hr.mono h2) b2 (L2N.passAt tk σ) J2 r q2⟩) he hpl
  have tell : ∀ {fm : List D → R D} {σ : L2.St} {G H G1 H1 : Hp} {ρ : Env} {Q : VK}, Step G H G1 H1 → Re X.K σ G1 H1 ρ → Post X W σ G H ((ms ρ).bind fm) (OkE X.K G H Q) → spOf X.K X.mg fm W σ ta Q H1 := by
    intro fm σ G H G1 H1 ρ Q st re h
    refine ha σ G1 H1 ρ _ re ((h.bind.step st fun _ z => z).imp fun xs _ h3 => fun v G2 H2 s2 r2 => ?_)
    refine ⟨G2, xs, s2.s, r2, ?_⟩
    cases ef : fm xs with
    | ok d =>
      rw [ef] at h3
      exact OkE.step (st.trans s2) d h3
    | exn c =>
      rw [ef] at h3
      exact fun G' H' C s' mc => h3 G' H' C ((st.trans s2).trans s') mc
    | bad =>
      rw [ef] at h3
      exact h3
  refine ⟨T, pt, fun σ G H ρ Q re h => ?_⟩
  refine ⟨by show 2 ≤ sizeLine; decide, fun p hp => ?_⟩
  have s0 : Step G H G (upd H p (.lst [V.ref a1, V.ref a2])) := (Step.refl re.s).layH hp (re.s.none hp) trivial
  refine hw σ G _ ρ _ (re.step s0) ((h.bind.step s0 fun _ z => z).imp fun y _ h2 => fun v2 G2 H2 s2 r2 => ?_)
  have hl : SqL X.K H2 p [V.ref a1, V.ref a2] := SqL.of (s2.h _ _ upd_same)
  cases y with
  | int i =>
    cases r2
    have h2 : Post X W σ G H (if i = 0 then (ms ρ).bind f1 else if i = 1 then (ms ρ).bind f2 else .bad) (OkE X.K G H Q) := h2
    by_cases e0 : i = 0
    · subst e0
      rw [if_pos rfl] at h2
      exact ⟨p, _, 0, _, rfl, rfl, hl, rfl, .inl ⟨rfl, tell (s0.trans s2) ((re.step s0).step s2) h2⟩⟩
    · rw [if_neg e0] at h2
      by_cases e1 : i = 1
      · subst e1
        rw [if_pos rfl] at h2
        exact ⟨p, _, 1, _, rfl, rfl, hl, rfl, .inr ⟨rfl, tell (s0.trans s2) ((re.step s0).step s2) h2⟩⟩
      · rw [if_neg e1] at h2
        exact h2.elim
  | _ => exact h2.elim
end
end FF

namespace FF
open PySem PySem.Spec PyProof.Rows L2 CwR
/-! ### text.replace(y, z), written texts: behind a token that is out -/
def eRepl (y z : Str) (mo : Env → R D) : Env → R D := fun ρ => (mo ρ).bind fun d => match d with
  | .str x => if x.length + (x.length + 1) * z.length ≤ 16777216 then .ok (.str (Txt.replace x y z)) else .bad
  | _ => .bad
def PTT (X : Cx) (e : Expr) (t : TT) : Prop := ∀ (whole : Sem Value) (pins : List (Addr × Obj)) (s : Shared) (σ : L2.St) (H : Hp) (Q : Bool → Hp → Prop), 1 ≤ s.toks → Inv X pins σ H s → t σ H Q → wpAny (model X.prog X.w) X.A (isTrue e X.env whole) (TP X pins σ Q) X.xe s
structure MET (X : Cx) (W : WX) (e : Expr) (m : Env → R D) : Prop where
  ex : ∃ t, PET X e t ∧ ∀ σ G H ρ Q, Re X.K σ G H ρ → Post X W σ G H (m ρ) (OkE X.K G H Q) → t σ H Q
structure MTT (X : Cx) (W : WX) (e : Expr) (m : Env → R Bool) : Prop where
  ex : ∃ t, PTT X e t ∧ ∀ σ G H ρ Q, Re X.K σ G H ρ → Post X W σ G H (m ρ) (OkB G H Q) → t σ H Q
structure MST (X : Cx) (W : WX) (st : Stmt) (m : MSt) : Prop where
  ex : ∃ t, PST X st t ∧ ∀ G0 H0 σ G H ρ E, Rl X.K G0 H0 σ G H ρ → PostS X W G0 H0 E (m ρ) → t E σ H
structure MSsT (X : Cx) (W : WX) (st : List Stmt) (m : MSt) : Prop where
  ex : ∃ t, PSsT X st t ∧ ∀ G0 H0 σ G H ρ E, Rl X.K G0 H0 σ G H ρ → PostS X W G0 H0 E (m ρ) → t E σ H
section
variable {X : Cx} {W : WX} {o e a b : Expr} {y z : Str} {mo ma mb : Env → R D} {j k : Nat} {c0 c1 apos pos : Pos} {st : Stmt} {rest : List Stmt} {m n : MSt}
theorem repl_ok {t : TE} (ht : ∀ σ G H ρ Q, Re X.K σ G H ρ → Post X W σ G H (mo ρ) (OkE X.K G H Q) → t σ H Q) : ∀ σ G H ρ Q, Re X.K σ G H ρ → Post X W σ G H (eRepl y z mo ρ) (OkE X.K G H Q) → tReplC t y z σ H Q := fun σ G H ρ Q re h => by
  refine ht σ G H ρ _ re (h.bind.imp fun d _ h1 => fun v G1 H1 s1 r1 => ?_)
  cases d with
  | str x =>
    cases r1
    have h1 : Post X W σ G H (if x.length + (x.length + 1) * z.length ≤ 16777216 then .ok (.str (Txt.replace x y z)) else .bad) (OkE X.K G H Q) := h1
    by_cases hl : x.length + (x.length + 1) * z.length ≤ 16777216
    · rw [if_pos hl] at h1
      exact ⟨x, rfl, hl, h1 _ G1 H1 s1 (.str _)⟩
    · rw [if_neg hl] at h1
      exact h1.elim
  | _ => exact h1.elim
theorem met_repl (ho : ME X W o mo) (hyz : (y == z) = false := by decide)
    (hst : starEach [.Constant (.str y) j c0, .Constant (.str z) k c1] X.env = [(false, eval (.Constant (.str y) j c0) X.env), (false, eval (.Constant (.str z) k c1) X.env)] := by rfl)
    (hbase : attributeBase o "replace" X.env (eval o X.env) = eval o X.env := by rfl) (hline : (apos.endLine == pos.line) = true := by rfl) :
    MET X W (.Call (.Attribute o "replace" apos) [.Constant (.str y) j c0, .Constant (.str z) k c1] [] pos) (eRepl y z mo) := by
  obtain ⟨t, pt, ht⟩ := ho.ex
  exact ⟨_, pet_replC pt hyz hst hbase hline, repl_ok ht⟩
theorem met_repl2 (ho : MET X W o mo) (hyz : (y == z) = false := by decide)
    (hst : starEach [.Constant (.str y) j c0, .Constant (.str z) k c1] X.env = [(false, eval (.Constant (.str y) j c0) X.env), (false, eval (.Constant (.str z) k c1) X.env)] := by rfl)
    (hbase : attributeBase o "replace" X.env (eval o X.env) = eval o X.env := by rfl) (hline : (apos.endLine == pos.line) = true := by rfl) :
    MET X W (.Call (.Attribute o "replace" apos) [.Constant (.str y) j c0, .Constant (.str z) k c1] [] pos) (eRepl y z mo) := by
  obtain ⟨t, pt, ht⟩ := ho.ex
  exact ⟨_, pet_replT pt hyz hst hbase hline, repl_ok ht⟩
theorem mtt_cmp {op : CmpOp} {g : D → D → Option D} (ho : OpM X (compareOp op) g) (ha : MET X W a ma) (hb : ME X W b mb) (hm : behindInMarks op b = false) : MTT X W (.Compare a [op] [b] pos) (tVal (eBin g ma mb)) := by
  obtain ⟨r, hr, hs⟩ := ho
  obtain ⟨t, pt, ht⟩ := ha.ex
  obtain ⟨u, pu, hu⟩ := hb.ex
  refine ⟨tTest (tOp r t u), fun whole pins s σ H Q h1 I h => ?_, fun σ G H ρ Q re h => ?_⟩
  · refine wpAny_isTrue_Compare1 (thn (pt pins s σ H _ h1 I h) fun v s1 ⟨x, H1, I1, r1, q1⟩ => thn (pu.run pins s1 σ H1 _ I1 q1) fun w s2 ⟨y, H2, I2, r2, q2⟩ =>
      thn (hr pins s2 σ H2 x y v w _ I2 r1 r2 q2) fun c s3 ⟨z, H3, I3, r3, kk, e, q3⟩ => ?_) hm
    subst e
    cases r3
    exact wpAny_truthy_bool ⟨H3, I3, q3⟩
  · refine ht σ G H ρ _ re (h.bind.bind.imp fun x _ h1 => fun v G1 H1 s1 r1 => ?_)
    refine hu σ G1 H1 ρ _ (re.step s1) ((h1.bind.step s1 fun _ z => z).imp fun y _ h2 => fun v2 G2 H2 s2 r2 => ?_)
    obtain ⟨d, e, q⟩ := h2.lft
    refine hs G2 H2 v v2 x y d _ s2.s (r1.mono (.of s2.g)) r2 e fun v3 G3 H3 s3 r3 => ?_
    cases ek : boolOf d with
    | bad => rw [ek] at q; exact q.elim
    | exn _ => cases d <;> cases ek
    | ok k =>
      rw [ek] at q
      have ed := boolOf_ok ek
      subst ed
      exact ⟨k, rep_bool r3, q G3 H3 ((s1.trans s2).trans s3)⟩
/-- a or b, b with a text replaced -/
theorem mtt_or {ta tb : Env → R Bool} (ha : MT X W a ta) (hb : MTT X W b tb) : MTT X W (.BoolOp .Or [a, b] pos) (tOrM ta tb) := by
  obtain ⟨t, pt, ht⟩ := ha.ex
  obtain ⟨u, pu, hu⟩ := hb.ex
  refine ⟨tOr t u, fun whole pins s σ H Q h1 I h => ?_, fun σ G H ρ Q re h => ?_⟩
  · refine isTrue_or (wpAny_mono (PySem.wpAny_toks (pt.run pins s σ H _ I h)) (fun c s1 q => ?_) fun _ _ z => z.2)
    obtain ⟨hk, H1, I1, q1⟩ := q
    cases c with
    | true => exact ⟨H1, I1, q1⟩
    | false =>
      refine isTrue_or (thn (pu _ pins s1 σ H1 _ (Nat.le_trans h1 hk) I1 q1) fun c s2 ⟨H2, I2, q2⟩ => ?_)
      cases c with
      | true => exact ⟨H2, I2, q2⟩
      | false => exact isTrue_or_nil ⟨H2, I2, q2⟩
  · refine ht σ G H ρ _ re (h.bind.imp fun k _ h1 => fun G1 H1 s1 => ?_)
    cases k with
    | true => exact iteT (h1 G1 H1 s1)
    | false =>
      refine iteF ?_
      refine hu σ G1 H1 ρ _ (re.step s1) ((h1.step s1 fun _ z => z).imp fun k _ h2 => fun G2 H2 s2 => h2 G2 H2 (s1.trans s2))
theorem mst_if {c : Expr} {as bs : List Stmt} {tc : Env → R Bool} {m1 m2 : MSt} (hc : MTT X W c tc) (ha : MSs X W as m1) (hb : MSs X W bs m2) : MST X W (.If c as bs pos) (sIf tc m1 m2) := by
  obtain ⟨t, pt, ht⟩ := hc.ex
  obtain ⟨u, pu, hu⟩ := ha.ex
  obtain ⟨w, pw, hw⟩ := hb.ex
  refine ⟨tIfS t u w, fun pins s σ H E h1 I h => ?_, fun G0 H0 σ G H ρ E r h => ?_⟩
  · refine wpAny_If (thn (pt _ pins s σ H _ h1 I h) fun d s1 ⟨H1, I1, q1⟩ => ?_)
    cases d with
    | true => exact pu.run pins s1 σ H1 E I1 q1
    | false => exact pw.run pins s1 σ H1 E I1 q1
  · refine ht σ G H ρ _ r.re ((PostS.lift r h).imp fun k _ h1 => fun G1 H1 s1 => ?_)
    cases k with
    | true => exact iteT (hu G0 H0 σ G1 H1 ρ E (r.step s1) h1)
    | false => exact iteF (hw G0 H0 σ G1 H1 ρ E (r.step s1) h1)
theorem msst_of (h : MSs X W rest m) : MSsT X W rest m := by
  obtain ⟨t, pt, ht⟩ := h.ex
  exact ⟨t, PSsT.of pt, ht⟩
theorem mst_of (h : MS X W st m) : MST X W st m := by
  obtain ⟨t, pt, ht⟩ := h.ex
  exact ⟨t, PST.of pt, ht⟩
theorem msst_cons (h : MST X W st m) (hr : MSsT X W rest n) : MSsT X W (st :: rest) (sSeq m n) := by
  obtain ⟨t, pt, ht⟩ := h.ex
  obtain ⟨u, pu, hu⟩ := hr.ex
  refine ⟨_, psst_cons pt pu, fun G0 H0 σ G H ρ E r h => ?_⟩
  refine ht G0 H0 σ G H ρ _ r ?_
  unfold sSeq at h
  cases em : m ρ with
  | next ρ' =>
    rw [em] at h
    exact fun σ' G' H' r' => hu G0 H0 σ' G' H' ρ' E r' h
  | _ => rw [em] at h; exact h
/-- x = f(e, i): behind it a token is out -/
theorem mss_first {x f : Str} {ps : List Str} {fm : List D → R D} {kf kj ix : Nat} {me : Env → R D} {i : Int} {ji : Nat} {p pos2 pos' cp : Pos} (F : DefAt X.prog X.w X.K X.mg X.base f ps kf fm) (hr : Room kj X.A) (hk : kf ≤ kj) (gf : Gl X f) (tk : L2N.Takes X W) (he : ME X W e me)
    (hN : X.N.Nodup) (hi : X.N[ix]? = some x) (hx : Loc X.env.scope x) (hR : MSsT X W rest n) (hdb : (f == ("__debug__" : Str)) = false := by decide)
    (h1 : starEach [e, .Constant (.int i) ji cp] X.env = (false, eval e X.env) :: starEach [.Constant (.int i) ji cp] X.env := by rfl) (h2 : starEach [.Constant (.int i) ji cp] X.env = (false, eval (.Constant (.int i) ji cp) X.env) :: starEach [] X.env := by rfl)
    (hpl : (backTo pos2 (starEach [.Constant (.int i) ji cp] X.env)).any (·.1) = false := by rfl)
    (hsw : swapsWith (.Call (.Name f p) [e, .Constant (.int i) ji cp] [] pos2) (some (.Name x pos')) pos.line X.env = pure false := by rfl) (hff : X.fn x = true ∨ X.env.scope.names.lookup x = some .local := by first | exact .inl rfl | exact .inr rfl | assumption) :
    MSs X W (.Assign [.Name x pos'] (.Call (.Name f p) [e, .Constant (.int i) ji cp] [] pos2) pos :: rest) (sSeq (sSet ix (eFn fm (aCons me (aCons (eC (.int i)) aNil)))) n) := by
  obtain ⟨a, fd, F, hm, kp, hb⟩ := F.ex
  obtain ⟨t, pt, ht⟩ := he.ex
  obtain ⟨u, pu, hu⟩ := hR.ex
  have args : ∀ (pins : List (Addr × Obj)) (s : Shared) (σ : L2.St) (H : Hp) (Q : List V → Hp → Prop), Inv X pins σ H s → tCons t (tCons (tC (.int i)) tNil) σ H Q →
      wpAny (model X.prog X.w) X.A (spliced (backTo pos2 (starEach [e, .Constant (.int i) ji cp] X.env))) (fun us s1 => 1 ≤ s1.toks ∧ AP X pins σ Q us s1) X.xe s := by
    intro pins s σ H Q I h
    rw [h1]
    show wpAny _ _ (spliced ((false, eval e X.env) :: backTo pos2 (starEach [.Constant (.int i) ji cp] X.env))) _ _ s
    refine Calls.spliced_cons (thn (pt.run pins s σ H _ I h) fun v s1 ⟨x, H1, I1, r1, q1⟩ => ?_)
    rw [h2]
    show wpAny _ _ (spliced ((false, eval (.Constant (.int i) ji cp) X.env) :: backTo pos2 (starEach [] X.env))) _ _ s1
    refine Calls.spliced_cons (wpAny_Constant_int (Calls.spliced_nil ?_))
    exact ⟨Nat.le_add_left 1 s1.toks, [x, .int i], H1, I1.tok _, .cons r1 (.cons ⟨_, rfl⟩ .nil), q1⟩
  have call : ∀ (pins : List (Addr × Obj)) (s : Shared) (σ : L2.St) (H : Hp) (Q : VK), Inv X pins σ H s → tCallS (spM X.K X.mg fm) (WE W) (tCons t (tCons (tC (.int i)) tNil)) σ H Q →
      wpAny (model X.prog X.w) X.A (eval (.Call (.Name f p) [e, .Constant (.int i) ji cp] [] pos2) X.env) (fun v s1 => 1 ≤ s1.toks ∧ EP X pins σ Q v s1) X.xe s := by
    intro pins s σ H Q I h
    refine wpAny_Call_Name_kw (ld_glob I gf hm ?_ hdb)
    refine PySem.W.callWith_K (h₀ := X.base) I.ok.mod.kin kp (thn (args pins s σ H _ I h) fun us s1 ⟨g1, vs, H1, I1, r, q⟩ => ⟨I1.kIn, ?_⟩) h1 hpl
    exact wpAny_mono (PySem.wpAny_toks_of g1 (run_fnS F (hr.mono hk) hb (L2N.passAt tk σ) I1 r q)) (fun _ _ z => z) fun _ _ z => z.2
  refine ⟨tSeq (tAsg (tCallS (spM X.K X.mg fm) (WE W) (tCons t (tCons (tC (.int i)) tNil))) (gName ix)) u, ⟨fun pins s σ H E I h => ?_⟩, fun G0 H0 σ G H ρ E r h => ?_⟩
  · refine wpAny_execs_cons (wpAny_Assign_Name (thn (call pins s σ H _ I h) fun v s1 ⟨g1, y, H1, I1, r1, q1⟩ => ?_) hsw)
    refine wpAny_mono (PySem.wpAny_toks_of g1 (store_ok (Q := fun _ s2 => Inv X pins (σ.set ix (some y)) H1 s2) I1 hN hi hx r1 (fun _ I2 => I2) hff)) (fun _ s2 q => ?_) fun _ _ z => z.2
    exact pu pins s2 _ H1 E q.1 q.2 q1
  · have hS : PostS X W G0 H0 { E with nx := u E } (sSet ix (eFn fm (aCons me (aCons (eC (.int i)) aNil))) ρ) := by
      unfold sSeq at h
      cases em : sSet ix (eFn fm (aCons me (aCons (eC (.int i)) aNil))) ρ with
      | next ρ' =>
        rw [em] at h
        exact fun σ' G' H' r' => hu G0 H0 σ' G' H' ρ' E r' h
      | _ => rw [em] at h; exact h
    have hP : Post X W σ G H (eFn fm (aCons me (aCons (eC (.int i)) aNil)) ρ) (OkE X.K G H fun v H1 => u E (σ.set ix (some v)) H1) := (PostS.lift r hS).imp fun d _ h1 => fun v G1 H1 s1 r1 => h1 _ G1 H1 ((r.step s1).set ix r1)
    have hP : Post X W σ G H (((me ρ).bind fun d => R.ok [d, .int i]).bind fm) (OkE X.K G H fun v H1 => u E (σ.set ix (some v)) H1) := hP
    refine ht σ G H ρ _ r.re (hP.bind.bind.imp fun d _ h1 => fun v G1 H1 s1 r1 => ?_)
    have h1 : Post X W σ G H (fm [d, .int i]) (OkE X.K G H fun v H1 => u E (σ.set ix (some v)) H1) := h1
    refine ⟨G1, [d, .int i], s1.s, .cons r1 (.cons (.int i) .nil), ?_⟩
    cases ef : fm [d, .int i] with
    | ok d' =>
      rw [ef] at h1
      exact OkE.step s1 d' h1
    | exn c =>
      rw [ef] at h1
      exact fun G' H' C s2 hC => h1 G' H' C (s1.trans s2) hC
    | bad =>
      rw [ef] at h1
      exact h1.elim
end
end FF

/-! a list comprehension whose element is a call that may raise -/
namespace FF
open PySem PySem.Spec PyProof.Rows L2
/-- a call in Y let an exception out -/
def XEb (Y : Cx) (EK : XK) (u : Value) (s' : Shared) : Prop := ∃ (pins : List (Addr × Obj)) (σ : L2.St) (H : Hp) (s : Shared), Inv Y pins σ H s ∧ L2N.CX Y.prog Y.w Y.stack H s EK u s'
abbrev wx (Y : Cx) (x : Value → Shared → Prop) : Cx := { Y with xe := x }
theorem inv_wx {Y : Cx} {x : Value → Shared → Prop} {pins : List (Addr × Obj)} {σ : L2.St} {H : Hp} {s : Shared} (I : Inv Y pins σ H s) : Inv (wx Y x) pins σ H s :=
  ⟨⟨I.ok.mod, I.ok.kind, I.ok.glob, I.ok.blt, I.ok.above, I.ok.inj, I.ok.has, I.ok.cab, I.ok.hd, I.ok.frames, I.ok.stk, I.ok.exf, I.ok.bs, I.ok.bsz, I.ok.noex, I.ok.exfs, I.ok.funs, I.ok.frf⟩, I.os, I.bare, I.base, I.loc, I.cell, I.free, I.freeC, I.pin, I.hok, I.len⟩
theorem inv_xw {Y : Cx} {x : Value → Shared → Prop} {pins : List (Addr × Obj)} {σ : L2.St} {H : Hp} {s : Shared} (I : Inv (wx Y x) pins σ H s) : Inv Y pins σ H s :=
  ⟨⟨I.ok.mod, I.ok.kind, I.ok.glob, I.ok.blt, I.ok.above, I.ok.inj, I.ok.has, I.ok.cab, I.ok.hd, I.ok.frames, I.ok.stk, I.ok.exf, I.ok.bs, I.ok.bsz, I.ok.noex, I.ok.exfs, I.ok.funs, I.ok.frf⟩, I.os, I.bare, I.base, I.loc, I.cell, I.free, I.freeC, I.pin, I.hok, I.len⟩
abbrev blkE (X : Cx) (EK : XK) (s : Shared) (H : Hp) (scope : Scope) (cenv : PySem.Env) (fp : List Addr) : Cx := wx (X.blk s H scope cenv fp) (XEb (X.blk s H scope cenv fp) EK)
theorem ff_less {B B' h : Heap} (k : ∀ b, B.get? b = none → B'.get? b = none) : ∀ {l : List PySem.Env}, h.FunFrames B l → h.FunFrames B' l
  | [], _ => trivial
  | _ :: _, ⟨q, ⟨L, o, q1, q2, q3, q4⟩, r⟩ => ⟨q, ⟨L, o, q1, k L q2, q3, q4⟩, ff_less k r⟩
section
variable {X : Cx} {W : WX} {EK : XK} {pins : List (Addr × Obj)} {σ : L2.St} {H3 : Hp} {s3 : Shared} {scope : Scope} {ce : PySem.Env} {fp : List Addr}
/-- out of the block, into the def's own air -/
theorem raise_out (hst : X.stack = X.env :: X.outer) (hfr : X.env.frame = some X.env.locals) (tk : L2N.Takes X W) (hE : ∀ cls d H', EK cls d H' → W cls d σ H') (I3 : Inv X pins σ H3 s3)
    (hfp : ∀ b ∈ fp, (b ∈ X.ex ∨ X.s_0.heap.objs.size ≤ b) ∧ b ≠ X.env.locals ∧ (∀ x c, X.env.cells.lookup x = some c → c ≠ b) ∧ ∀ p ∈ X.pn ++ pins, p.1 ≠ b)
    (hC : ce.locals = s3.heap.objs.size) (hcf : ce.frame = X.env.frame) {u : Value} {s' : Shared} (xb : XEb (X.blk s3 H3 scope ce fp) EK u s') :
    notedBy (model X.prog X.w) X.A ce (CompFails (model X.prog X.w) X.A X.xe ce) u s' := by
  obtain ⟨p1, σ1, H1, s1, I1, a, B, H', cls, d, rfl, fl, hok, ub, na, os, ag, hEK⟩ := xb
  have b1 : Un (frs X.stack) fp H3 H1 s3.heap s1.heap := I1.base
  have ub : UB (frs X.stack) H1 H' s1.heap B s'.heap := ub
  have fl : HandSPX.FlyingZ B X.stack a (L2N.Zn cls d) s'.heap := fl
  have hA : X.A.frames = some (X.env :: X.outer) := by rw [I3.ok.frames, hst]
  have cL : ce.locals ≠ X.env.locals := fun z => by
    have := I3.lt
    rw [← z, hC] at this
    exact absurd this (Nat.lt_irrefl _)
  have cfs : ce.locals ∉ frs X.stack := by
    rw [hst]
    intro z
    have z : ce.locals ∈ List.filterMap (fun e : PySem.Env => e.frame) (X.env :: X.outer) := z
    rw [List.filterMap_cons, hfr] at z
    rcases List.mem_cons.mp z with (z | z)
    · exact cL z
    · exact I3.nofs (Nat.le_of_eq hC.symm) z
  obtain ⟨m1, ⟨oC, es, ep, gC, dC, rC⟩, -⟩ := I1.loc
  have gC : s1.heap.get? ce.locals = some oC := gC
  have nC : H1 ce.locals = none := I1.free
  have gBC := ub.keep _ _ gC nC cfs
  have nH' : H' ce.locals = none := ub.free _ _ gC nC
  have fl0 := fl
  rw [hst] at fl0
  show wpAny _ X.A (noteFrame (.ref a) ce) _ _ s'
  rw [noteFrame_env _ hcf]
  refine PXN.looks_onZ L2N.Zn.steady hA hfr fl0 fun h2 hH up2 => ?_
  have ns2 : h2.Ns ce.locals m1 := up2.ns ⟨oC, es, ep, fl.1 _ _ gBC, dC, rC⟩
  refine ⟨m1, ns2, fun h3 m3 ns3 same => ?_⟩
  have noC : ∀ {e : Addr} {o : Obj} {vs : Array Value}, h2.get? e = some o → o.data = .fields vs → e ≠ ce.locals := fun {e o vs} e1 e2 z => by
    obtain ⟨oL, _, _, g, dL, _⟩ := ns2
    rw [z, g] at e1
    cases e1
    rw [dL] at e2
    cases e2
  have less : ∀ b, B.get? b = none → (PySem.W.hideAll B [ce.locals]).get? b = none := fun b e => by
    cases q : (PySem.W.hideAll B [ce.locals]).get? b with
    | none => rfl
    | some o =>
      have := PySem.W.of_hideAll _ q
      rw [e] at this
      cases this
  obtain ⟨k1, k2, k3, oe, vs, T, oT, ts, ge, hz, gd, gv, nT, Te, gT, dT, t3⟩ := hH
  have ge3 : h3.get? a = some oe := (same.2 a (noC ge gd)).trans ge
  have held : HandSPX.HeldZ (PySem.W.hideAll B [ce.locals]) X.stack a (L2N.Zn cls d) X.env.locals h3 := by
    refine ⟨fun b o e => ?_, less a k2, ?_, oe, vs, T, oT, ts, ge3, hz, gd, gv, less T nT, Te, (same.2 T (noC gT dT)).trans gT, dT, t3⟩
    · have hb : b ≠ ce.locals := fun z => by
        rw [z, PySem.W.hideAll_none _ (List.mem_singleton.mpr rfl)] at e
        cases e
      exact (same.2 b hb).trans (k1 b o (PySem.W.of_hideAll _ e))
    · rw [hst]
      exact ff_less less (Heap.FunFrames.sameBut same ns3 k3)
  unfold PySem.passOn
  refine wpAny_bind (wpAny_field ge3 gd gv ?_)
  rw [if_neg (by simp), hcf, hfr]
  refine wpAny_bind (HandSPX.setFlight_onZ held fun h4 hh4 up4 => wpAny_throw (tk _ _ ?_))
  -- the state without the exception
  obtain ⟨G, y1, y2⟩ := restrict s'.heap fun b => (B.get? b).isSome || decide (b ∈ frs X.stack)
  have yB : ∀ b o, B.get? b = some o → G.get? b = some o := fun b o e => (y1 b (by rw [e]; rfl)).trans (fl.1 b o e)
  have yF : ∀ b, b ∈ frs X.stack → G.get? b = s'.heap.get? b := fun b hb => y1 b (by rw [decide_eq_true hb, Bool.or_true])
  have yG : ∀ b o, G.get? b = some o → b ∉ frs X.stack → B.get? b = some o := fun b o e hb => by
    cases q : B.get? b with
    | some o' =>
      rw [yB b o' q] at e
      exact e
    | none =>
      rw [y2 b (by rw [q, decide_eq_false hb]; rfl)] at e
      cases e
  have yS : ∀ b o, G.get? b = some o → s'.heap.get? b = some o := fun b o e => by
    by_cases hb : b ∈ frs X.stack
    · rw [← yF b hb]
      exact e
    · exact fl.1 b o (yG b o e hb)
  have un : Un (frs X.stack) fp H3 H' s3.heap G :=
    { keep := fun b o e n hb hx => yB b o (ub.keep b o (b1.keep b o e n hb hx) (b1.free b o e n hx) hb)
      slot := fun b o e n hb hx => by
        obtain ⟨sl, q⟩ := b1.slot b o e n hb hx
        obtain ⟨sl2, q2⟩ := ub.slot b _ q hb
        exact ⟨sl2, (yF b hb).trans q2⟩
      free := fun b o e n hx => by
        obtain ⟨o', q⟩ := b1.there b o e hx
        exact ub.free b o' q (b1.free b o e n hx)
      there := fun b o e hx => by
        obtain ⟨o', q⟩ := b1.there b o e hx
        by_cases hb : b ∈ frs X.stack
        · obtain ⟨sl, q2⟩ := ub.slot b o' q hb
          exact ⟨_, (yF b hb).trans q2⟩
        · obtain ⟨o'', q2⟩ := ub.there b o' q hb
          exact ⟨o'', yB b o'' q2⟩
      tups := fun b xs e => ub.tups b xs (b1.tups b xs e)
      frzs := fun b o xs e => ub.frzs b o xs (b1.frzs b o xs e)
      tbls := fun b ps e => by
        obtain ⟨m2, q⟩ := b1.tbls b ps e
        obtain ⟨m3, q3⟩ := ub.tbls b _ q
        exact ⟨m2 ++ m3, by rw [q3, Array.append_assoc]⟩ }
  have IG : Inv X pins σ H' { s3 with heap := G, gens := s'.gens, drawn := s'.drawn, toks := s'.toks } := I3.call' (ch := fp) rfl un (hok.kept yB) ag hfp
  obtain ⟨G', z1, z2⟩ := restrict G fun b => decide (b ≠ ce.locals)
  have zG : ∀ b o, G'.get? b = some o → b ≠ ce.locals ∧ G.get? b = some o := fun b o e => by
    by_cases hb : b = ce.locals
    · rw [z2 b (decide_eq_false fun w => w hb)] at e
      cases e
    · exact ⟨hb, by rw [← z1 b (decide_eq_true hb)]; exact e⟩
  obtain ⟨f0, f1, f2, f3, f4, f5⟩ := I3.fpOk (b := ce.locals) (Nat.le_of_eq hC.symm) nH'
  have I' := IG.turned (h' := G') (t' := s'.toks) (it := ce.locals) (fun b o hb e => (z1 b (decide_eq_true hb)).trans e) f0 f1 f3 f4 f5
  refine ⟨a, PySem.W.hideAll B [ce.locals], _, pins, σ, H', cls, d, rfl, I', fun b o e hb => ?_, fun b o e hn => ?_, .inr (.inr hh4), na, ?_, ag, hE _ _ _ hEK⟩
  · obtain ⟨w1, w2⟩ := zG b o e
    exact PySem.W.hideAll_get _ (yG b o w2 hb) fun w => w1 (List.mem_singleton.mp w)
  · obtain ⟨w1, w2⟩ := zG b o e
    obtain ⟨sl2, w3⟩ := up2 b o (yS b o w2) hn
    obtain ⟨sl4, w4⟩ := up4 b _ ((same.2 b w1).trans w3) hn
    exact ⟨sl4, w4⟩
  · exact os.trans I1.os
theorem lc_coreE {s : Shared} {H : Hp} {Q : VK} {elt tg iter : Expr} {ifs : List Expr} {own : List (Str × Nat)} {pos pos' : Pos} {wi : TI} {g : TG} {tt : TT} {te : TE} {use : Option (Value → Sem Unit)} {Qf : Value → Shared → Prop}
    (hst : X.stack = X.env :: X.outer) (hfr : X.env.frame = some X.env.locals) (tk : L2N.Takes X W) (hE : ∀ cls d H', EK cls d H' → W cls d σ H') (calm : X.calm = true) (nd : X.N.Nodup) (I : Inv X pins σ H s) (hi : PI X tg iter wi)
    (ok : BlkOk X.N X.env.scope scope own)
    (pg0 : ∀ (s : Shared) (H : Hp) (C : Addr) (cl : List (Str × Addr)) (fp : List Addr), PG (X.blk s H scope (compEnvC scope cl C X.env) fp) tg g)
    (pt0 : ∀ (s : Shared) (H : Hp) (C : Addr) (cl : List (Str × Addr)) (fp : List Addr), PTs (X.blk s H scope (compEnvC scope cl C X.env) fp) ifs tt)
    (pe0 : ∀ (s : Shared) (H : Hp) (C : Addr) (cl : List (Str × Addr)) (fp : List Addr), PE (blkE X EK s H scope (compEnvC scope cl C X.env) fp) elt te)
    (hs : ∀ x, foldedSetIterable iter X.env x = pure x) (h : tLc wi g tt te (own.map (·.2)) σ H Q)
    (last : ∀ D ce s' m H', Inv X pins σ H' s' → Q (.ref D) H' → s'.heap.Ns ce.locals m → FpOk X pins H' ce.locals → compEnds (model X.prog X.w) X.A X.xe use Qf (.ref D) ce (.ok .next) s') :
    wpAny (model X.prog X.w) X.A (comprehension (.ListComp elt [⟨tg, iter, ifs, 0⟩] scope pos) scope X.env pos' (newList []) false (eval iter X.env) use) Qf X.xe
      s := by
  have free : ∀ y ∈ scope.names, y.2 = .free → ∃ c, X.env.cells.lookup y.1 = some c := fun y hy e => (ok.free y hy e).elim (fun k => I.ok.has _ (.inl k)) fun k => I.ok.has _ (.inr k)
  refine comprehension_at (use := use) rfl hs (closure_ok free) ok.kind (fun y hy e => (ok.uniq y hy).trans (congrArg some e)) (thn (hi.run pins s σ H _ I h) fun xv s1 hx => thn hx fun itv s2' h2 => ?_)
  obtain ⟨it, fp, tn, J, H2', eI, I2, T, st2', f2', q⟩ := h2
  subst eI
  refine wpAny_newObj_type (newEnv_comp ?_) (Nat.zero_le _)
  generalize eD : s2'.heap.objs.size = D
  obtain ⟨W1, ⟨m0', w0'⟩, turn⟩ := q D (I2.hok.fresh (Nat.le_of_eq eD))
  generalize e3 : ({ s2' with heap := s2'.heap.push { cls := .type "list", data := .seq ([] : List Value).toArray } } : Shared) = s3'
  have h3 : s3'.heap = s2'.heap.push { cls := .type "list", data := .seq ([] : List Value).toArray } := by rw [← e3]
  have I3' : Inv X pins σ (upd H2' D (.lst [])) s3' := by
    rw [← e3]
    exact I2.laid (t' := s2'.toks) (fun b o e => Heap.get?_push_of_some _ e) (Nat.le_of_eq eD) ⟨Nat.zero_le _, [], 0, .nil, by rw [← eD]; exact Heap.get?_push_size _ rfl⟩
  have f3' : ∀ b ∈ fp, FpOk X pins (upd H2' D (.lst [])) b ∧ b < s3'.heap.objs.size := fun b hb => by
    obtain ⟨ob, e, _⟩ := T.obj _ _ st2' b hb
    have lt := Heap.lt_size e
    exact ⟨⟨by rw [upd_ne (by rw [← eD]; exact Nat.ne_of_lt lt)]; exact (f2' b hb).1, (f2' b hb).2⟩, by rw [h3, Heap.size_push]; exact Nat.lt_succ_of_lt lt⟩
  have hfp : ∀ b ∈ fp, (b ∈ X.ex ∨ X.s_0.heap.objs.size ≤ b) ∧ b ≠ X.env.locals ∧ (∀ x c, X.env.cells.lookup x = some c → c ≠ b) ∧ ∀ p ∈ X.pn ++ pins, p.1 ≠ b := fun b hb => by
    obtain ⟨⟨_, a2, _, a4, a5, a6⟩, _⟩ := f3' b hb
    exact ⟨a4, a2, a5, a6⟩
  have st3' : tn 0 s3'.heap := T.keep _ _ _ st2' fun b _ o e => (by rw [h3]; exact Heap.get?_push_of_some _ e)
  have I4' := block_start I3' ok nd f3'
  have pg := pg0 s3' (upd H2' D (.lst [])) s3'.heap.objs.size (cellsFrom (s3'.heap.objs.size + 1) scope.names (cloFrom X.env.cells scope.names [])) fp
  have pt := pt0 s3' (upd H2' D (.lst [])) s3'.heap.objs.size (cellsFrom (s3'.heap.objs.size + 1) scope.names (cloFrom X.env.cells scope.names [])) fp
  have pe := pe0 s3' (upd H2' D (.lst [])) s3'.heap.objs.size (cellsFrom (s3'.heap.objs.size + 1) scope.names (cloFrom X.env.cells scope.names [])) fp
  show codeAny _ _ (.compStart _ 0 (.ref it) (.ref D) (compEnvC scope (cellsFrom (s3'.heap.objs.size + 1) scope.names (cloFrom X.env.cells scope.names [])) s3'.heap.objs.size X.env))
    (compEnds (model X.prog X.w) X.A X.xe use Qf (.ref D) (compEnvC scope (cellsFrom (s3'.heap.objs.size + 1) scope.names (cloFrom X.env.cells scope.names [])) s3'.heap.objs.size X.env)) { s3' with heap := pushCells (s3'.heap.push { cls := .type "dict", data := .dict #[] }) scope.names }
  have nfp' : ∀ b ∈ fp, (upd H2' D (.lst [])) b = none := fun b hb => (f3' b hb).1.1
  generalize eC : compEnvC scope (cellsFrom (s3'.heap.objs.size + 1) scope.names (cloFrom X.env.cells scope.names [])) s3'.heap.objs.size X.env = ce at I4' pg pt pe ⊢
  have cL : ce.locals = s3'.heap.objs.size := by subst eC; rfl
  have cF : ce.frame = X.env.frame := by subst eC; rfl
  generalize eH : upd H2' D (.lst []) = H3' at I3' I4' pg pt pe w0' nfp' f3'
  generalize e4 : ({ s3' with heap := pushCells (s3'.heap.push { cls := .type "dict", data := .dict #[] }) scope.names } : Shared) = s4' at I4' ⊢
  have st4' : tn 0 s4'.heap := T.keep _ _ _ st3' fun b _ o e => (by rw [← e4]; exact pushCells_keeps _ _ _ _ (Heap.get?_push_of_some _ e))
  have stat : ∀ {σ' : L2.St} {H' : Hp} {s' : Shared}, Inv (X.blk s3' H3' scope ce fp) [] σ' H' s' → (∀ b ∈ fp, H' b = none) → ∀ b ∈ fp, FpOk (X.blk s3' H3' scope ce fp) [] H' b := fun {σ' H' s'} J' hn b hb =>
    ⟨hn b hb, (J'.ok.exf b hb).1, J'.ok.exfs b hb, .inl hb, fun x c e => (J'.ok.exf b hb).2 x c e, fun p hp => (nomatch (show p ∈ ([] : List (Addr × Obj)) from hp))⟩
  have errE : ∀ u s', XEb (X.blk s3' H3' scope ce fp) EK u s' → notedBy (model X.prog X.w) X.A ce (fun e s'' => compEnds (model X.prog X.w) X.A X.xe use Qf (.ref D) ce (.error e) s'') u s' := fun u s' xb => by
    cases use <;> exact raise_out hst hfr tk hE I3' hfp cL cF xb
  have loop : codeAny (model X.prog X.w) X.A (.compLoop (.ListComp elt [⟨tg, iter, ifs, 0⟩] scope pos) 0 (.ref it) (.ref D) ce) (compEnds (model X.prog X.w) X.A X.xe use Qf (.ref D) ce) s4' := by
    refine compLoop_any (fun n s' => ∃ i H', Inv (X.blk s3' H3' scope ce fp) [] (L2.wipe σ (own.map (·.2))) H' s' ∧ tn i s'.heap ∧ (∀ b ∈ fp, H' b = none) ∧ W1 i n H') ?_ m0' ⟨0, H3', I4', st4', nfp', w0'⟩
    rintro n s5' ⟨i, H5', I5', st5', n5', w5'⟩
    rcases turn i n H5' w5' with ⟨stop, qq⟩ | ⟨go, Nx', hNx', step⟩
    · refine thnF (T.done (X.blk s3' H3' scope ce fp) rfl rfl rfl calm i [] s5' _ H5' (fun _ _ => False) I5' (stat I5' n5') st5' stop) fun r s6' ⟨hr, I6'⟩ => ?_
      subst hr
      have I7' : Inv X pins σ H5' s6' := I3'.call' (ch := fp) I6'.os I6'.base I6'.hok I6'.bare hfp
      have nC : H5' ce.locals = none := I6'.free
      obtain ⟨m, hn, _⟩ := I6'.loc
      exact last D ce s6' m H5' I7' qq hn (I3'.fpOk (Nat.le_of_eq cL.symm) nC)
    · refine thnF (T.item (X.blk s3' H3' scope ce fp) rfl rfl rfl calm i [] s5' _ H5' (fun _ _ => False) I5' (stat I5' n5') st5' go) fun r s6' ⟨u, hr, h6⟩ => ?_
      subst hr
      refine thnF h6 fun _ s7' ⟨x, H7', I7', r7', y7', st7', n7'⟩ => ?_
      refine thnF (pg.run _ s7' _ H7' x u _ (I7'.pinned (stat I7' n7') (T.obj _ _ st7')) r7' (step x H7' y7')) fun _ s8' ⟨σ8, H8', I8', hw8, q8'⟩ => ?_
      refine thnF (pt.run _ s8' σ8 H8' _ I8' q8') fun b s9' ⟨H9', I9', q9'⟩ => ?_
      have done : ∀ {s' : Shared} {H' : Hp}, Inv (X.blk s3' H3' scope ce fp) ([] ++ pinsAt fp s7'.heap) σ8 H' s' → Nx' H' → ∃ m, m < n ∧ ∃ i H', Inv (X.blk s3' H3' scope ce fp) [] (L2.wipe σ (own.map (·.2))) H' s' ∧ tn i s'.heap ∧ (∀ b ∈ fp, H' b = none) ∧ W1 i m H' := fun {s' H'} J' nx' => by
        obtain ⟨m', hm, wm⟩ := hNx' H' nx'
        have there : ∀ b ∈ fp, ∀ o, s7'.heap.get? b = some o → s'.heap.get? b = some o ∧ H' b = none := fun b hb o e => by
          have z := J'.pin (b, o) (List.mem_append_right _ (List.mem_append_right _ (mem_pinsAt hb e)))
          exact ⟨z.1, z.2.1⟩
        refine ⟨m', hm, i + 1, H', (J'.unpinned (pins := [])).weak (by rw [← hw8, wipe_length]) (fun j v e => ?_), T.keep _ _ _ st7' fun b hb o e => (there b hb o e).1, fun b hb => ?_, wm⟩
        · exact (wipe_some (by rw [hw8]; exact e)).1
        · obtain ⟨ob, e, _⟩ := T.obj _ _ st7' b hb
          exact (there b hb ob e).2
      cases b with
      | false =>
        rw [if_neg (by decide)] at q9' ⊢
        exact done I9' q9'
      | true =>
        rw [if_pos rfl] at q9' ⊢
        refine wpAny_mono (pe.run _ s9' σ8 H9' _ (inv_wx I9') q9') (fun z s10' hz => ?_) errE
        obtain ⟨yv, H10', I10', r10, acc, hD10', hz10', nx'⟩ := hz
        exact app_ok (X := X.blk s3' H3' scope ce fp) (inv_xw I10') hD10' hz10' r10 fun s11' I11' => done I11' nx'
  exact codeAny_compStart_list loop (T.self X.A 0 _ _ _ st4' (loop))
/-- the same, stored to a local on one line -/
theorem ps_setLcE {i : Nat} {y : Str} {py : Pos} {elt tg iter : Expr} {ifs : List Expr} {own : List (Str × Nat)} {pos spos : Pos} {wi : TI} {g : TG} {tt : TT} {te : XK → TE}
    (hst : X.stack = X.env :: X.outer) (hfr : X.env.frame = some X.env.locals) (tk : L2N.Takes X W) (calm : X.calm = true) (nd : X.N.Nodup) (hy : X.N[i]? = some y) (hyl : X.env.scope.names.lookup y = some .local)
    (hsw : swapsWith (.ListComp elt [⟨tg, iter, ifs, 0⟩] scope pos) (some (.Name y py)) spos.line X.env = pure true)
    (hi : PI X tg iter wi) (ok : BlkOk X.N X.env.scope scope own)
    (pg0 : ∀ (s : Shared) (H : Hp) (C : Addr) (cl : List (Str × Addr)) (fp : List Addr), PG (X.blk s H scope (compEnvC scope cl C X.env) fp) tg g)
    (pt0 : ∀ (s : Shared) (H : Hp) (C : Addr) (cl : List (Str × Addr)) (fp : List Addr), PTs (X.blk s H scope (compEnvC scope cl C X.env) fp) ifs tt)
    (pe0 : ∀ (EK : XK) (s : Shared) (H : Hp) (C : Addr) (cl : List (Str × Addr)) (fp : List Addr), PE (blkE X EK s H scope (compEnvC scope cl C X.env) fp) elt (te EK)) (hs : ∀ x, foldedSetIterable iter X.env x = pure x := by intro _; rfl) :
    PS X (.Assign [.Name y py] (.ListComp elt [⟨tg, iter, ifs, 0⟩] scope pos) spos) fun D σ H => tLc wi g tt (te fun cls d H' => W cls d σ H') (own.map (·.2)) σ H fun x H1 => gName i x σ H1 D.nx := by
  refine ⟨fun pins s0 σ H Ed I h => ?_⟩
  rw [exec_Assign_Name_used _ _ _ _ hsw]; refine wpAny_bind (wpAny_standAt (wpAny_bind ?_))
  show wpAny _ X.A (do let _ ← comprehension _ scope X.env (firstIterPos [⟨tg, iter, ifs, 0⟩] pos) (newList []) false (eval iter X.env) (some (assign (.Name y py) X.env))) _ _ s0
  refine wpAny_bind (thn (lc_coreE (W := W) (EK := fun cls d H' => W cls d σ H') (Qf := fun _ s' => SP X pins Ed .next s') hst hfr tk (fun _ _ _ z => z) calm nd I hi ok pg0 pt0 (pe0 _) hs h fun L ce s' m H' I' q hn f => ?_) fun _ s' hq => wpAny_pure (wpAny_pure hq))
  show wpAny _ _ (assign _ X.env (.ref L)) _ _ _
  refine wpAny_assign_Name (store_ok2 (v := V.ref L) I' nd hy (.inl hyl) rfl (fun s2 I2 ⟨a, sb, ha⟩ => ?_) (.inr hyl))
  obtain ⟨g0, g1, g2, g3, g4, g5⟩ := f
  have neA : ce.locals ≠ a := ha.elim (fun z => by rw [z]; exact g1) fun z e => g4 y a z e.symm
  exact ⟨m, hn.sameBut sb neA, fun h3 sb3 => ⟨_, H', I2.turned (t' := s2.toks) (fun b o hb e => (sb3.2 b hb).trans e) g0 g1 g3 g4 g5, q⟩⟩
end
/-! ### mirrors -/
def compLE (g : MTg) (t : Env → R Bool) (fm : List D → R D) (ma : Env → R (List D)) (ρ0 : Env) : List D → R (List D)
  | [] => .ok []
  | d :: ds => (noX (g d ρ0)).bind fun ρ1 => (noX (t ρ1)).bind fun b => if b = true then (noX (ma ρ1)).bind fun xs => (fm xs).bind fun y => (compLE g t fm ma ρ0 ds).bind fun ys => .ok (y :: ys) else compLE g t fm ma ρ0 ds
def eLcE (mi : Env → R (List D)) (g : MTg) (t : Env → R Bool) (fm : List D → R D) (ma : Env → R (List D)) (vs : List Nat) : Env → R D := fun ρ => (mi ρ).bind fun ds => if ds.length ≤ 1000000 then (compLE g t fm ma (wipeE ρ vs) ds).bind fun ys => .ok (.list ys) else .bad
def PostC (mg : Str → Option Value) (EK : XK) (Kf : PySem.W.Frag) (G H : Hp) (Q : VK) (r : R D) : Prop := match r with
  | .ok d => OkE Kf G H Q d
  | .exn c => ∀ G' H' C, Step G H G' H' → mg c = some (.ref C) → EK (.ref C) none H'
  | .bad => False
def rdF (Kf : PySem.W.Frag) (mg : Str → Option Value) (fm : List D → R D) (ma : Env → R (List D)) (EK : XK) : TE := fun σ H Q => ∃ G ρ xs, Re Kf σ G H ρ ∧ ma ρ = .ok xs ∧ PostC mg EK Kf G H Q (fm xs)
section
variable {X : Cx} {W : WX} {σ : L2.St} {G H : Hp} {ρ : Env}
theorem pe_elem {Y : Cx} {EK : XK} {k j : Nat} {x : Str} {ps : List Str} {fm : List D → R D} {p pos : Pos} {e : Expr} {es : List Expr} {ma : Env → R (List D)} (F : DefAt Y.prog Y.w Y.K Y.mg Y.base x ps k fm) (hr : Room j Y.A) (hk : k ≤ j) (hg : Gl (wx Y (XEb Y EK)) x)
    (ha : MA (wx Y (XEb Y EK)) W0 (e :: es) ma) (hdb : (x == ("__debug__" : Str)) = false := by decide) (he : starEach (e :: es) Y.env = (false, eval e Y.env) :: starEach es Y.env := by rfl) (hpl : (backTo pos (starEach es Y.env)).any (·.1) = false := by rfl) :
    PE (wx Y (XEb Y EK)) (.Call (.Name x p) (e :: es) [] pos) (rdF Y.K Y.mg fm ma EK) := by
  obtain ⟨f, fd, F, hm, kp, hb⟩ := F.ex
  obtain ⟨t, pt, ht⟩ := ha.ex
  refine pe_imp (pe_callS (X := wx Y (XEb Y EK)) (E := fun _ => EK) F (hr.mono hk) hg hm kp hb (fun σ pins H s u s' I c => ⟨pins, σ, H, s, inv_xw I, c⟩) pt hdb he hpl) fun σ H Q ⟨G, ρ, xs, re, e1, q⟩ => ?_
  refine ht σ G H ρ _ re ?_
  rw [e1]
  intro v G1 H1 s1 r1
  refine ⟨G1, xs, s1.s, r1, ?_⟩
  cases ef : fm xs with
  | ok d =>
    rw [ef] at q
    exact OkE.step s1 d q
  | exn c =>
    rw [ef] at q
    exact fun G' H' C s2 hC => q G' H' C (s1.trans s2) hC
  | bad =>
    rw [ef] at q
    exact q.elim
theorem lc_runE {wi : TI} {mi : Env → R (List D)} {g : MTg} {mt : Env → R Bool} {fm : List D → R D} {ma : Env → R (List D)} {vs : List Nat} {Q : VK} (re : Re X.K σ G H ρ) (h : Post X W σ G H (eLcE mi g mt fm ma vs ρ) (OkE X.K G H Q))
    (hi : ∀ R', Post X W σ G H (mi ρ) (OkI X.K G H R') → wi σ H R') : tLc wi (rdC X.K g vs) (rdT X W0 mt) (rdF X.K X.mg fm ma fun cls d H' => W cls d σ H') vs σ H Q := by
  unfold tLc
  refine hi _ ((Post.bind h).imp fun ds _ h1 => fun J G1 H1 s1 thru => ?_)
  intro Dl hD
  have h1 : Post X W σ G H (if ds.length ≤ 1000000 then (compLE g mt fm ma (wipeE ρ vs) ds).bind fun ys => .ok (.list ys) else R.bad) (OkE X.K G H Q) := h1
  rcases (Decidable.em (ds.length ≤ 1000000)).symm with hl | hl
  · rw [if_neg hl] at h1
    exact h1.elim
  rw [if_pos hl] at h1
  generalize hT : compLE g mt fm ma (wipeE ρ vs) ds = tot at h1
  have nb : tot ≠ .bad := fun z => by rw [z] at h1; exact h1.elim
  have re1 := re.step s1
  refine ⟨fun i n H' => i + n = ds.length ∧ ∃ G' acc as rest, Step G1 H1 G' H' ∧ G' Dl = none ∧ H' Dl = some (.lst acc) ∧ RepL X.K G' acc as ∧ as.length ≤ i ∧ compLE g mt fm ma (wipeE ρ vs) (ds.drop i) = rest ∧ tot = rest.bind fun ys => .ok (as ++ ys),
    ⟨ds.length, Nat.zero_add _, G1, [], [], tot, (Step.refl s1.s).layH hD (s1.s.none hD) trivial, s1.s.none hD, upd_same, .nil, Nat.zero_le _, hT, by cases tot <;> rfl⟩, ?_⟩
  rintro i n H2 ⟨hn, G2, acc, as, rest, s2, g2, hd2, r2, al, e2, ef⟩
  have thru2 := thru G2 H2 s2.g s2.s trivial
  have nbr : rest ≠ .bad := fun z => nb (by rw [ef, z]; rfl)
  by_cases hlt : i < ds.length
  · refine .inr ⟨(thru2.1 i ds[i] (List.getElem?_eq_getElem hlt)).1, fun H' => (i + 1) + (n - 1) = ds.length ∧ ∃ G' acc as rest, Step G1 H1 G' H' ∧ G' Dl = none ∧ H' Dl = some (.lst acc) ∧ RepL X.K G' acc as ∧ as.length ≤ i + 1 ∧ compLE g mt fm ma (wipeE ρ vs) (ds.drop (i + 1)) = rest ∧ tot = rest.bind fun ys => .ok (as ++ ys), fun H' q => ⟨n - 1, by omega, q⟩, fun x H3 hy => ?_⟩
    obtain ⟨G3, s3, rx⟩ := (thru2.1 i ds[i] (List.getElem?_eq_getElem hlt)).2 x H3 hy
    rw [List.drop_eq_getElem_cons hlt] at e2
    unfold compLE at e2
    cases e3 : g ds[i] (wipeE ρ vs) with
    | exn c => rw [e3] at e2; exact absurd e2.symm nbr
    | bad => rw [e3] at e2; exact absurd e2.symm nbr
    | ok ρ1 =>
      rw [e3] at e2
      have s13 := s2.trans s3
      refine ⟨G3, wipeE ρ vs, ρ1, _, (re1.step s13).wipe vs, rx, e3, fun σ2 re2 hw => ⟨by rw [hw]; exact (lc_runF.wipe_idem σ vs), ?_⟩⟩
      have e2 : ((noX (mt ρ1)).bind fun b => if b = true then (noX (ma ρ1)).bind fun xs => (fm xs).bind fun y => (compLE g mt fm ma (wipeE ρ vs) (ds.drop (i + 1))).bind fun ys => .ok (y :: ys) else compLE g mt fm ma (wipeE ρ vs) (ds.drop (i + 1))) = rest := e2
      refine ⟨G3, ρ1, re2, ?_⟩
      cases e4 : mt ρ1 with
      | exn c => rw [e4] at e2; exact absurd e2.symm nbr
      | bad => rw [e4] at e2; exact absurd e2.symm nbr
      | ok b =>
        rw [e4] at e2
        intro G4 H4 s4
        have s14 := s13.trans s4
        have hD1 : ∀ {Ga Ha Gb Hb : Hp}, Step Ga Ha Gb Hb → Ha Dl ≠ none → Ga Dl = none → Gb Dl = none := fun s h g => by rw [s.k _ h, g]
        have nd2 : H2 Dl ≠ none := by rw [hd2]; exact fun z => by cases z
        have g4 : G4 Dl = none := hD1 (s3.trans s4) nd2 g2
        have hd4 : H4 Dl = some (.lst acc) := (s3.trans s4).h _ _ hd2
        cases b with
        | false =>
          refine iteF ?_
          have e2 : compLE g mt fm ma (wipeE ρ vs) (ds.drop (i + 1)) = rest := e2
          exact ⟨by omega, G4, acc, as, rest, s14, g4, hd4, r2.mono (.of (s3.trans s4).g), by omega, e2, ef⟩
        | true =>
          refine iteT ?_
          have e2 : ((noX (ma ρ1)).bind fun xs => (fm xs).bind fun y => (compLE g mt fm ma (wipeE ρ vs) (ds.drop (i + 1))).bind fun ys => R.ok (y :: ys)) = rest := e2
          cases e5 : ma ρ1 with
          | exn c => rw [e5] at e2; exact absurd e2.symm nbr
          | bad => rw [e5] at e2; exact absurd e2.symm nbr
          | ok xs =>
            rw [e5] at e2
            have e2 : ((fm xs).bind fun y => (compLE g mt fm ma (wipeE ρ vs) (ds.drop (i + 1))).bind fun ys => R.ok (y :: ys)) = rest := e2
            refine ⟨G4, ρ1, xs, re2.step s4, e5, ?_⟩
            cases e6 : fm xs with
            | bad => rw [e6] at e2; exact absurd e2.symm nbr
            | exn c =>
              rw [e6] at e2
              subst e2
              subst ef
              exact fun G' H' C sq hC => h1 G' H' C ((s1.trans s14).trans sq) hC
            | ok y =>
              rw [e6] at e2
              intro v G5 H5 s5 rv
              have s35 := (s3.trans s4).trans s5
              have g5 : G5 Dl = none := hD1 s35 nd2 g2
              have hd5 : H5 Dl = some (.lst acc) := s35.h _ _ hd2
              refine ⟨acc, hd5, by rw [r2.length]; exact Nat.lt_of_le_of_lt (show as.length ≤ 1000000 by omega) (by decide), by omega, G5, acc ++ [v], as ++ [y], _, (s14.trans s5).layH hD g5 trivial, g5, upd_same, (r2.mono (.of s35.g)).app (.one rv), by rw [List.length_append, List.length_singleton]; omega, rfl, ?_⟩
              rw [ef, ← e2]
              cases compLE g mt fm ma (wipeE ρ vs) (ds.drop (i + 1)) with
              | ok ys =>
                show R.ok (as ++ y :: ys) = R.ok ((as ++ [y]) ++ ys)
                rw [List.append_assoc]
                rfl
              | exn c => rfl
              | bad => rfl
  · have e : i = ds.length := by omega
    subst e
    rw [List.drop_length] at e2
    subst e2
    have ef : tot = .ok as := by
      rw [ef]
      show R.ok (as ++ []) = R.ok as
      rw [List.append_nil]
    subst ef
    refine .inl ⟨thru2.2, ?_⟩
    have h1 : OkE X.K G H Q (.list as) := h1
    exact okF_of h1 Dl acc G2 H2 (s1.trans s2) (s1.h.none hD) g2 hd2 r2
theorem ms_setLcE {i k j : Nat} {y x : Str} {ps : List Str} {fm : List D → R D} {py spos p cpos : Pos} {tg iter e : Expr} {es : List Expr} {ifs : List Expr} {scope : Scope} {own : List (Str × Nat)} {pos : Pos} {mi : Env → R (List D)} {g : MTg} {mt : Env → R Bool} {ma : Env → R (List D)}
    (hst : X.stack = X.env :: X.outer) (hfr : X.env.frame = some X.env.locals) (tk : L2N.Takes X W) (hc : X.calm = true) (hN : X.N.Nodup)
    (hy : X.N[i]? = some y) (hyl : X.env.scope.names.lookup y = some .local) (F : DefAt X.prog X.w X.K X.mg X.base x ps k fm) (hr : Room j X.A) (hk : k ≤ j)
    (hsw : swapsWith (.ListComp (.Call (.Name x p) (e :: es) [] cpos) [⟨tg, iter, ifs, 0⟩] scope pos) (some (.Name y py)) spos.line X.env = pure true) (hi : MI X W tg iter mi) (ok : BlkOk X.N X.env.scope scope own)
    (hg : ∀ (s : Shared) (H : Hp) (C : Addr) (cl : List (Str × Addr)) (fp : List Addr), PG (X.blk s H scope (compEnvC scope cl C X.env) fp) tg (rdC X.K g (own.map (·.2))))
    (ht : ∀ (s : Shared) (H : Hp) (C : Addr) (cl : List (Str × Addr)) (fp : List Addr), PTs (X.blk s H scope (compEnvC scope cl C X.env) fp) ifs (rdT (X.blk s H scope (compEnvC scope cl C X.env) fp) W0 mt))
    (gx : ∀ (EK : XK) (s : Shared) (H : Hp) (C : Addr) (cl : List (Str × Addr)) (fp : List Addr), Gl (blkE X EK s H scope (compEnvC scope cl C X.env) fp) x)
    (ha : ∀ (EK : XK) (s : Shared) (H : Hp) (C : Addr) (cl : List (Str × Addr)) (fp : List Addr), MA (blkE X EK s H scope (compEnvC scope cl C X.env) fp) W0 (e :: es) ma)
    (he : ∀ env, starEach (e :: es) env = (false, eval e env) :: starEach es env := by intro _; rfl) (hpl : ∀ env, (backTo cpos (starEach es env)).any (·.1) = false := by intro _; rfl)
    (hdb : (x == ("__debug__" : Str)) = false := by decide) (hs : ∀ x, foldedSetIterable iter X.env x = pure x := by intro _; rfl) :
    MS X W (.Assign [.Name y py] (.ListComp (.Call (.Name x p) (e :: es) [] cpos) [⟨tg, iter, ifs, 0⟩] scope pos) spos) (sSet i (eLcE mi g mt fm ma (own.map (·.2)))) := by
  obtain ⟨ti, pti, hti⟩ := hi.ex
  refine ⟨_, ps_setLcE (W := W) (tt := rdT X W0 mt) (te := rdF X.K X.mg fm ma) hst hfr tk hc hN hy hyl hsw pti ok hg ht (fun EK s H C cl fp => pe_elem (Y := X.blk s H scope (compEnvC scope cl C X.env) fp) F hr hk (gx EK s H C cl fp) (ha EK s H C cl fp) hdb (he _) (hpl _)) hs, fun G0 H0 σ G H ρ E r h => ?_⟩
  refine lc_runE (W := W) (ρ := ρ) r.re ((PostS.lift r h).imp fun d _ h1 => fun v G1 H1 s1 r1 => ?_) fun R' p => hti σ G H ρ R' r.re p
  exact h1 _ G1 H1 ((r.step s1).set i r1)
end
end FF

namespace Pf
open PySem L2 FF
def top (i : Nat) : Stmt := PySem.Challenge.pw_fewfind_k90_texts.main.body.getD i (.Pass ⟨0, 0, 0, 0⟩)
/-! ### mirrors -/
abbrev s_is_of : Stmt := top 11
abbrev N_is_of : List Str := ["thing", "signs", "low", "high", "sign"]
def m_is_of : MSt := sRet (eAnd (eUn (isiD "str") (eVar 0)) (eAnd (eChain leD leD (eVar 2) (eBlt lenD (aCons (eVar 0) (aNil))) (eVar 3)) (eBlt allD (aCons (eLc (iAny (eVar 0)) (gN 4) (tYesM) (eBin inD (eVar 4) (eVar 1)) [4]) (aNil)))))
def f_is_of : List D → R D := fnM 4 5 m_is_of
abbrev s_is_name : Stmt := top 12
abbrev N_is_name : List Str := ["thing"]
def m_is_name : MSt := sRet (eFn f_is_of (aCons (eVar 0) (aCons (eBin addD (eBin addD (eBin addD (eC (.str "abcdefghijklmnopqrstuvwxyz")) (eC (.str "ABCDEFGHIJKLMNOPQRSTUVWXYZ"))) (eC (.str "0123456789"))) (eC (.str "_-./"))) (aCons (eC (.int 1)) (aCons (eC (.int 24)) (aNil))))))
def f_is_name : List D → R D := fnM 1 1 m_is_name
abbrev s_written : Stmt := top 16
abbrev N_written : List Str := ["rows", "name", "count"]
def m_written : MSt := sRet (eMeth "str" joinD (eC (.str "")) (aCons (eLc (iAny (eVar 0)) (gT (gsCons (gN 1) (gsCons (gN 2) (gsNil)))) (tYesM) (eBin addD (eBin addD (eBin addD (eBlt strD (aCons (eVar 2) (aNil))) (eC (.str " "))) (eVar 1)) (eC (.str "\n"))) [1, 2]) (aNil)))
def f_written : List D → R D := fnM 1 3 m_written
abbrev s_row_in : Stmt := top 17
abbrev N_row_in : List Str := ["line", "words", "sign"]
def m_row_in : MSt := sSeq (sSet 1 (eMeth "str" splitD (eVar 0) (aCons (eC (.str " ")) (aNil)))) (sSeq (sIf (tOrM (tVal (eBin neD (eBlt lenD (aCons (eVar 1) (aNil))) (eC (.int 2)))) (tOrM (tNotM (tVal (eFn f_is_name (aCons (eBin ixD (eVar 1) (eC (.int 1))) (aNil))))) (tNotM (tVal (eChain leD leD (eC (.int 1)) (eBlt lenD (aCons (eBin ixD (eVar 1) (eC (.int 0))) (aNil))) (eC (.int 6))))))) (sRaise "NoText") (sNext)) (sSeq (sIf (tNotM (tVal (eBlt allD (aCons (eLc (iAny (eBin ixD (eVar 1) (eC (.int 0)))) (gN 2) (tYesM) (eBin inD (eVar 2) (eC (.str "0123456789"))) [2]) (aNil))))) (sRaise "NoText") (sNext)) (sRet (eTup (aCons (eBin ixD (eVar 1) (eC (.int 1))) (aCons (eBlt intD (aCons (eBin ixD (eVar 1) (eC (.int 0))) (aNil))) (aNil)))))))
def f_row_in : List D → R D := fnM 1 3 m_row_in
abbrev s_read : Stmt := top 18
abbrev N_read : List Str := ["text", "rows", "line"]
def m_read : MSt := sSeq (sSet 1 (eLcE (iAny (eSl (eMeth "str" splitD (eVar 0) (aCons (eC (.str "\n")) (aNil))) (oNone) (oSome (eUn negD (eC (.int 1)))))) (gN 2) (tYesM) f_row_in (aCons (eVar 2) (aNil)) [2])) (sSeq (sIf (tVal (eBin neD (eFn f_written (aCons (eVar 1) (aNil))) (eVar 0))) (sRaise "NoText") (sNext)) (sRet (eVar 1)))
def f_read : List D → R D := fnM 1 3 m_read
abbrev s_law_cell : Stmt := top 20
abbrev N_law_cell : List Str := ["_law_script", "_law_k"]
def m_law_cell : MSt := sSeq (sIf (tVal (eBin eqD (eVar 0) (eLst (aNil)))) (sRet (eBin mulD (eC (.int 7)) (eVar 1))) (sNext)) (sRet (eBin addD (eBin ixD (eVar 0) (eBin modD (eVar 1) (eBlt lenD (aCons (eVar 0) (aNil))))) (eBin mulD (eC (.int 6553)) (eBin fdivD (eVar 1) (eBlt lenD (aCons (eVar 0) (aNil)))))))
def f_law_cell : List D → R D := fnM 2 2 m_law_cell
abbrev s_law_drawn : Stmt := top 21
abbrev N_law_drawn : List Str := ["_law_script", "_law_k", "_law_many", "_law_cell_here"]
def m_law_drawn : MSt := sSeq (sSet 3 (eBin modD (eBin addD (eBin mulD (eBin modD (eFn f_law_cell (aCons (eVar 0) (aCons (eVar 1) (aNil)))) (eC (.int 2147483563))) (eC (.int 69069))) (eBin mulD (eC (.int 104723)) (eBin addD (eVar 1) (eC (.int 1))))) (eC (.int 2147483563)))) (sSeq (sSet 3 (eBin modD (eBin addD (eBin mulD (eVar 3) (eVar 3)) (eBin fdivD (eVar 3) (eC (.int 3)))) (eC (.int 2147483399)))) (sRet (eBin modD (eBin fdivD (eBin modD (eBin addD (eBin mulD (eVar 3) (eVar 3)) (eBin fdivD (eVar 3) (eC (.int 7)))) (eC (.int 2147483647))) (eC (.int 11))) (eVar 2))))
def f_law_drawn : List D → R D := fnM 3 4 m_law_drawn
abbrev s_law_name : Stmt := top 22
abbrev N_law_name : List Str := ["_law_script", "_law_at", "_law_found", "_law_k"]
def m_law_name : MSt := sSeq (sSet 2 (eC (.str ""))) (sSeq (sFor (iRg1 (aCons (eBin addD (eC (.int 1)) (eFn f_law_drawn (aCons (eVar 0) (aCons (eVar 1) (aCons (eC (.int 10)) (aNil)))))) (aNil))) (gN 3) (sSet 2 (eBin addD (eVar 2) (eBin ixD (eC (.str "abcabABCab1_-./xyz")) (eFn f_law_drawn (aCons (eVar 0) (aCons (eBin addD (eBin addD (eVar 1) (eC (.int 1))) (eVar 3)) (aCons (eC (.int 18)) (aNil))))))))) (sRet (eVar 2)))
def f_law_name : List D → R D := fnM 2 4 m_law_name
abbrev s_law_names : Stmt := top 24
abbrev N_law_names : List Str := ["_law_script", "_law_at", "_law_most", "_law_found", "_law_k"]
def m_law_names : MSt := sSeq (sOwnF 3 (fLc (iRg1 (aCons (eFn f_law_drawn (aCons (eVar 0) (aCons (eVar 1) (aCons (eBin addD (eVar 2) (eC (.int 1))) (aNil))))) (aNil))) (gN 4) (tYesM) (eFn f_law_name (aCons (eVar 0) (aCons (eBin addD (eBin addD (eVar 1) (eC (.int 1))) (eBin mulD (eC (.int 12)) (eVar 4))) (aNil)))) [4])) (sSeq (sIf (tAndM (tVal (eBin gtD (eLenO 3) (eC (.int 1)))) (tVal (eBin eqD (eFn f_law_drawn (aCons (eVar 0) (aCons (eBin addD (eVar 1) (eC (.int 12))) (aCons (eC (.int 5)) (aNil))))) (eC (.int 0))))) (sPut 3 (eC (.int 0)) (eIxO 3 (eUn negD (eC (.int 1))))) (sNext)) (sFixed 3 (sRet (eVar 3))))
def f_law_names : List D → R D := fnM 3 5 m_law_names
abbrev s_law_told : Stmt := top 26
abbrev N_law_told : List Str := ["_law_text", "_law_flags", "e"]
def m_law_told : MSt := sSeq (sTryB ["NoText"] "NoText" (sRet (eFn f_read (aCons (eVar 0) (aNil))))) (sRet (eC (.bool false)))
def f_law_told : List D → R D := fnM 1 3 m_law_told
abbrev s_law_read : Stmt := top 27
abbrev N_law_read : List Str := ["_law_text", "_law_letters", "_law_rows", "_law_lines", "_law_line", "_law_words", "_law_sign"]
def m_law_read : MSt := sSeq (sSet 1 (eC (.str "abcdefghijklmnopqrstuvwxyzABCDEFGHIJKLMNOPQRSTUVWXYZ0123456789_-./"))) (sSeq (sOwn 2 (aNil)) (sSeq (sSet 3 (eMeth "str" splitD (eVar 0) (aCons (eC (.str "\n")) (aNil)))) (sSeq (sFor (iAny (eSl (eVar 3) (oNone) (oSome (eUn negD (eC (.int 1)))))) (gN 4) (sSeq (sSet 5 (eMeth "str" splitD (eVar 4) (aCons (eC (.str " ")) (aNil)))) (sSeq (sIf (tOrM (tVal (eBin neD (eBlt lenD (aCons (eVar 5) (aNil))) (eC (.int 2)))) (tOrM (tVal (eBin eqD (eBin ixD (eVar 5) (eC (.int 0))) (eC (.str "")))) (tOrM (tAndM (tVal (eBin neD (eBin ixD (eVar 5) (eC (.int 0))) (eC (.str "0")))) (tVal (eBin eqD (eBin ixD (eBin ixD (eVar 5) (eC (.int 0))) (eC (.int 0))) (eC (.str "0"))))) (tVal (eBin gtD (eBlt lenD (aCons (eBin ixD (eVar 5) (eC (.int 0))) (aNil))) (eC (.int 6))))))) (sRet (eC .none)) (sNext)) (sSeq (sIf (tOrM (tVal (eBin neD (eLc (iAny (eBin ixD (eVar 5) (eC (.int 0)))) (gN 6) (tVal (eBin ninD (eVar 6) (eC (.str "0123456789")))) (eVar 6) [6]) (eLst (aNil)))) (tNotM (tVal (eChain leD leD (eC (.int 1)) (eBlt lenD (aCons (eBin ixD (eVar 5) (eC (.int 1))) (aNil))) (eC (.int 24)))))) (sRet (eC .none)) (sNext)) (sSeq (sIf (tVal (eBin neD (eLc (iAny (eBin ixD (eVar 5) (eC (.int 1)))) (gN 6) (tVal (eBin ninD (eVar 6) (eVar 1))) (eVar 6) [6]) (eLst (aNil)))) (sRet (eC .none)) (sNext)) (sApp 2 (eTup (aCons (eBin ixD (eVar 5) (eC (.int 1))) (aCons (eBlt intD (aCons (eBin ixD (eVar 5) (eC (.int 0))) (aNil))) (aNil)))))))))) (sFixed 2 (sRet (eIf (tVal (eBin eqD (eBin ixD (eVar 3) (eUn negD (eC (.int 1)))) (eC (.str "")))) (eVar 2) (eC .none)))))))
def f_law_read : List D → R D := fnM 1 7 m_law_read
abbrev s_law : Stmt := top 28
abbrev N_law : List Str := ["_law_script", "_law_names_here", "_law_rows", "_law_k", "_law_name_here", "_law_text", "_law_count", "_law_at", "_law_sign", "_law_lines", "_law_one", "_law_some", "_law_other", "_law_told_here"]
def m_law : MSt := sSeq (sSet 1 (eFn f_law_names (aCons (eVar 0) (aCons (eC (.int 0)) (aCons (eC (.int 5)) (aNil)))))) (sSeq (sSet 2 (eLc (iEn (aCons (eVar 1) (aNil))) (gT (gsCons (gN 3) (gsCons (gN 4) (gsNil)))) (tYesM) (eTup (aCons (eVar 4) (aCons (eBin ixD (eLst (aCons (eC (.int 0)) (aCons (eC (.int 7)) (aCons (eC (.int 10)) (aCons (eC (.int 999999)) (aNil)))))) (eFn f_law_drawn (aCons (eVar 0) (aCons (eBin addD (eC (.int 80)) (eVar 3)) (aCons (eC (.int 4)) (aNil)))))) (aNil)))) [3, 4])) (sSeq (sSet 5 (eFn f_written (aCons (eVar 2) (aNil)))) (sSeq (sIf (tVal (eBin neD (eVar 5) (eMeth "str" joinD (eC (.str "")) (aCons (eLc (iAny (eVar 2)) (gT (gsCons (gN 4) (gsCons (gN 6) (gsNil)))) (tYesM) (eBin addD (eBin addD (eBin addD (eBlt strD (aCons (eVar 6) (aNil))) (eC (.str " "))) (eVar 4)) (eC (.str "\n"))) [4, 6]) (aNil))))) (sRet (eC (.bool false))) (sNext)) (sSeq (sIf (tVal (eBin neD (eFn f_read (aCons (eVar 5) (aNil))) (eVar 2))) (sRet (eC (.bool false))) (sNext)) (sSeq (sSet 7 (eFn f_law_drawn (aCons (eVar 0) (aCons (eC (.int 90)) (aCons (eBin addD (eBlt lenD (aCons (eVar 5) (aNil))) (eC (.int 1))) (aNil)))))) (sSeq (sSet 8 (eBin ixD (eC (.str "0a \n-~1B")) (eFn f_law_drawn (aCons (eVar 0) (aCons (eC (.int 91)) (aCons (eC (.int 8)) (aNil))))))) (sSeq (sSet 9 (eMeth "str" splitD (eVar 5) (aCons (eC (.str "\n")) (aNil)))) (sSeq (sSet 10 (eFn f_law_drawn (aCons (eVar 0) (aCons (eC (.int 92)) (aCons (eBlt lenD (aCons (eVar 9) (aNil))) (aNil)))))) (sSeq (sSet 11 (eLst (aCons (eBin addD (eBin addD (eSl (eVar 5) (oNone) (oSome (eVar 7))) (eVar 8)) (eSl (eVar 5) (oSome (eVar 7)) (oNone))) (aCons (eBin addD (eSl (eVar 5) (oNone) (oSome (eVar 7))) (eSl (eVar 5) (oSome (eBin addD (eVar 7) (eC (.int 1)))) (oNone))) (aCons (eBin addD (eBin addD (eSl (eVar 5) (oNone) (oSome (eVar 7))) (eVar 8)) (eSl (eVar 5) (oSome (eBin addD (eVar 7) (eC (.int 1)))) (oNone))) (aNil)))))) (sSeq (sSet 11 (eBin addD (eVar 11) (eLst (aCons (eMeth "str" joinD (eC (.str "\n")) (aCons (eBin addD (eSl (eVar 9) (oNone) (oSome (eVar 10))) (eSl (eVar 9) (oSome (eBin addD (eVar 10) (eC (.int 1)))) (oNone))) (aNil))) (aCons (eMeth "str" joinD (eC (.str "\n")) (aCons (eBin addD (eSl (eVar 9) (oNone) (oSome (eBin addD (eVar 10) (eC (.int 1))))) (eSl (eVar 9) (oSome (eVar 10)) (oNone))) (aNil))) (aNil)))))) (sSeq (sFor (iAny (eBin addD (eVar 11) (eLst (aCons (eBin ixD (eLst (aCons (eC (.str "")) (aCons (eC (.str "\n")) (aCons (eC (.str "01 a\n")) (aCons (eC (.str "1 \n")) (aCons (eC (.str "1 a")) (aCons (eC (.str "1234567 a\n")) (aNil)))))))) (eBin modD (eVar 7) (eC (.int 6)))) (aNil))))) (gN 12) (sSeq (sSet 13 (eFn f_law_told (aCons (eVar 12) (aNil)))) (sIf (tOrM (tVal (eBin neD (eVar 13) (eFn f_law_read (aCons (eVar 12) (aNil))))) (tAndM (tVal (eBin nisD (eVar 13) (eC .none))) (tVal (eBin neD (eFn f_written (aCons (eVar 13) (aNil))) (eVar 12))))) (sRet (eC (.bool false))) (sNext)))) (sRet (eC (.bool true))))))))))))))
def f_law : List D → R D := fnM 1 14 m_law
/-! ### bodies of loops, parts of comprehensions, in the order of their ends -/
abbrev cg_is_of_0 : MTg := gN 4
abbrev ct_is_of_0 : FF.Env → R Bool := tYesM
abbrev ce_is_of_0 : FF.Env → R D := eBin inD (eVar 4) (eVar 1)
abbrev cg_written_0 : MTg := gT (gsCons (gN 1) (gsCons (gN 2) (gsNil)))
abbrev ct_written_0 : FF.Env → R Bool := tYesM
abbrev ce_written_0 : FF.Env → R D := eBin addD (eBin addD (eBin addD (eBlt strD (aCons (eVar 2) (aNil))) (eC (.str " "))) (eVar 1)) (eC (.str "\n"))
abbrev cg_row_in_0 : MTg := gN 2
abbrev ct_row_in_0 : FF.Env → R Bool := tYesM
abbrev ce_row_in_0 : FF.Env → R D := eBin inD (eVar 2) (eC (.str "0123456789"))
abbrev cg_read_0 : MTg := gN 2
abbrev ct_read_0 : FF.Env → R Bool := tYesM
abbrev ce_read_0 : FF.Env → R D := eFn f_row_in (aCons (eVar 2) (aNil))
abbrev cg_read_1 : MTg := gN 2
abbrev ct_read_1 : FF.Env → R Bool := tYesM
abbrev ca_read_1 : FF.Env → R (List D) := aCons (eVar 2) (aNil)
abbrev bg_law_name_0 : MTg := gN 3
abbrev b_law_name_0 : MSt := sSet 2 (eBin addD (eVar 2) (eBin ixD (eC (.str "abcabABCab1_-./xyz")) (eFn f_law_drawn (aCons (eVar 0) (aCons (eBin addD (eBin addD (eVar 1) (eC (.int 1))) (eVar 3)) (aCons (eC (.int 18)) (aNil)))))))
abbrev cg_law_names_0 : MTg := gN 4
abbrev ct_law_names_0 : FF.Env → R Bool := tYesM
abbrev ce_law_names_0 : FF.Env → R D := eFn f_law_name (aCons (eVar 0) (aCons (eBin addD (eBin addD (eVar 1) (eC (.int 1))) (eBin mulD (eC (.int 12)) (eVar 4))) (aNil)))
abbrev cg_law_read_0 : MTg := gN 6
abbrev ct_law_read_0 : FF.Env → R Bool := tVal (eBin ninD (eVar 6) (eC (.str "0123456789")))
abbrev ce_law_read_0 : FF.Env → R D := eVar 6
abbrev cg_law_read_1 : MTg := gN 6
abbrev ct_law_read_1 : FF.Env → R Bool := tVal (eBin ninD (eVar 6) (eVar 1))
abbrev ce_law_read_1 : FF.Env → R D := eVar 6
abbrev bg_law_read_2 : MTg := gN 4
abbrev b_law_read_2 : MSt := sSeq (sSet 5 (eMeth "str" splitD (eVar 4) (aCons (eC (.str " ")) (aNil)))) (sSeq (sIf (tOrM (tVal (eBin neD (eBlt lenD (aCons (eVar 5) (aNil))) (eC (.int 2)))) (tOrM (tVal (eBin eqD (eBin ixD (eVar 5) (eC (.int 0))) (eC (.str "")))) (tOrM (tAndM (tVal (eBin neD (eBin ixD (eVar 5) (eC (.int 0))) (eC (.str "0")))) (tVal (eBin eqD (eBin ixD (eBin ixD (eVar 5) (eC (.int 0))) (eC (.int 0))) (eC (.str "0"))))) (tVal (eBin gtD (eBlt lenD (aCons (eBin ixD (eVar 5) (eC (.int 0))) (aNil))) (eC (.int 6))))))) (sRet (eC .none)) (sNext)) (sSeq (sIf (tOrM (tVal (eBin neD (eLc (iAny (eBin ixD (eVar 5) (eC (.int 0)))) (gN 6) (tVal (eBin ninD (eVar 6) (eC (.str "0123456789")))) (eVar 6) [6]) (eLst (aNil)))) (tNotM (tVal (eChain leD leD (eC (.int 1)) (eBlt lenD (aCons (eBin ixD (eVar 5) (eC (.int 1))) (aNil))) (eC (.int 24)))))) (sRet (eC .none)) (sNext)) (sSeq (sIf (tVal (eBin neD (eLc (iAny (eBin ixD (eVar 5) (eC (.int 1)))) (gN 6) (tVal (eBin ninD (eVar 6) (eVar 1))) (eVar 6) [6]) (eLst (aNil)))) (sRet (eC .none)) (sNext)) (sApp 2 (eTup (aCons (eBin ixD (eVar 5) (eC (.int 1))) (aCons (eBlt intD (aCons (eBin ixD (eVar 5) (eC (.int 0))) (aNil))) (aNil))))))))
abbrev cg_law_0 : MTg := gT (gsCons (gN 3) (gsCons (gN 4) (gsNil)))
abbrev ct_law_0 : FF.Env → R Bool := tYesM
abbrev ce_law_0 : FF.Env → R D := eTup (aCons (eVar 4) (aCons (eBin ixD (eLst (aCons (eC (.int 0)) (aCons (eC (.int 7)) (aCons (eC (.int 10)) (aCons (eC (.int 999999)) (aNil)))))) (eFn f_law_drawn (aCons (eVar 0) (aCons (eBin addD (eC (.int 80)) (eVar 3)) (aCons (eC (.int 4)) (aNil)))))) (aNil)))
abbrev cg_law_1 : MTg := gT (gsCons (gN 4) (gsCons (gN 6) (gsNil)))
abbrev ct_law_1 : FF.Env → R Bool := tYesM
abbrev ce_law_1 : FF.Env → R D := eBin addD (eBin addD (eBin addD (eBlt strD (aCons (eVar 6) (aNil))) (eC (.str " "))) (eVar 4)) (eC (.str "\n"))
abbrev bg_law_2 : MTg := gN 12
abbrev b_law_2 : MSt := sSeq (sSet 13 (eFn f_law_told (aCons (eVar 12) (aNil)))) (sIf (tOrM (tVal (eBin neD (eVar 13) (eFn f_law_read (aCons (eVar 12) (aNil))))) (tAndM (tVal (eBin nisD (eVar 13) (eC .none))) (tVal (eBin neD (eFn f_written (aCons (eVar 13) (aNil))) (eVar 12))))) (sRet (eC (.bool false))) (sNext))
/-! ### facts of the text -/
structure Txt (K : PySem.W.Frag) (mg : Str → Option Value) : Prop where
  b_all : mg "all" = none
  b_enumerate : mg "enumerate" = none
  b_int : mg "int" = none
  b_isinstance : mg "isinstance" = none
  b_len : mg "len" = none
  b_range : mg "range" = none
  b_str : mg "str" = none
  c_FIGURES_names : CStr mg "FIGURES_names" "0123456789"
  c_FIGURES_writing : CStr mg "FIGURES_writing" "0123456789"
  c_GREAT : CStr mg "GREAT" "ABCDEFGHIJKLMNOPQRSTUVWXYZ"
  c_MARKS : CStr mg "MARKS" "_-./"
  c_MOST_FIGURES : CInt mg "MOST_FIGURES" 6
  c_MOST_SIGNS : CInt mg "MOST_SIGNS" 24
  c_SMALL : CStr mg "SMALL" "abcdefghijklmnopqrstuvwxyz"
  e_NoText : ExcAt K mg "NoText"
  mF : ∃ E, mg "FindError" = some (.ref E)
  h_NoText_NoText_NoLaying_NoFit : ∀ c ∈ (["NoText"] : List Str), Caught K mg c "NoText" "NoLaying" "NoFit"
section
variable {P : Program} {w : World} {K : PySem.W.Frag} {mg : Str → Option Value} {base : Heap}
theorem sc_is_of : FnScope N_is_of ["thing", "signs", "low", "high"] (defScope s_is_of) := ⟨rfl, rfl, rfl, by decide +kernel, rfl, by decide +kernel, by decide +kernel⟩
theorem ok_is_of (T : Txt K mg) (F : FunAt K mg "is_of" s_is_of ["thing", "signs", "low", "high"]) : DefAt P w K mg base "is_of" ["thing", "signs", "low", "high"] 1 f_is_of :=
  def_ok F sc_is_of fun f cdv A outer s H E c =>
    (mss_one (ms_ret (me_and (me_isi (t := "str") (T := "str") (me_var (pv 0)) rfl T.b_isinstance rfl T.b_str (by decide +kernel)) (me_and (me_chain opm_le opm_le (me_var (pv 2)) (me_blt callm_len rfl T.b_len (by decide +kernel) (ma_cons (me_var (pv 0)) ma_nil)) (me_var (pv 3))) (me_one (me_blt (callm_all c.calm) rfl T.b_all (by decide +kernel) (ma_cons (me_lc (own := [("sign", 4)]) c.calm c.nd (mi_any (me_var (pv 0))) (blkOk_by (own := [("sign", 4)]) (N := N_is_of) (sc := defScope s_is_of) (by decide +kernel)) (fun _ _ _ _ _ => (mc_name (i := 4) (c.blk _ _ _ _ _).nd rfl (by decide) (by first | exact Or.inl rfl | exact Or.inr rfl))) (fun _ _ _ _ _ => mts_nil) (fun _ _ _ _ _ => (me_cmp (opm_in (c.blk _ _ _ _ _).u65) (me_var (pv 4)) (me_var (pv 1)) (by with_unfolding_all rfl)))) ma_nil)))))))
theorem sc_is_name : FnScope N_is_name ["thing"] (defScope s_is_name) := ⟨rfl, rfl, rfl, by decide +kernel, rfl, by decide +kernel, by decide +kernel⟩
theorem ok_is_name (T : Txt K mg) (d_is_of : DefAt P w K mg base "is_of" ["thing", "signs", "low", "high"] 1 f_is_of) (F : FunAt K mg "is_name" s_is_name ["thing"]) : DefAt P w K mg base "is_name" ["thing"] 2 f_is_name :=
  def_ok F sc_is_name fun f cdv A outer s H E c =>
    (mss_one (ms_ret (me_def d_is_of c.room (by decide) rfl c.tk (ma_cons (me_var (pv 0)) (ma_cons (me_bin opm_add (me_bin opm_add (me_bin opm_add (me_cs T.c_SMALL rfl) (me_cs T.c_GREAT rfl)) (me_cs T.c_FIGURES_names rfl)) (me_cs T.c_MARKS rfl)) (ma_cons me_int (ma_cons (me_ci T.c_MOST_SIGNS rfl) ma_nil)))))))
theorem sc_written : FnScope N_written ["rows"] (defScope s_written) := ⟨rfl, rfl, rfl, by decide +kernel, rfl, by decide +kernel, by decide +kernel⟩
theorem ok_written (T : Txt K mg) (F : FunAt K mg "written" s_written ["rows"]) : DefAt P w K mg base "written" ["rows"] 1 f_written :=
  def_ok F sc_written fun f cdv A outer s H E c =>
    (mss_one (ms_ret (me_meth (by decide) PySem.F.plainAttrs_str PySem.F.slot_str_join PySem.F.type_str_join mtm_join me_str (ma_cons (me_lc (own := [("name", 1), ("count", 2)]) c.calm c.nd (mi_any (me_var (pv 0))) (blkOk_by (own := [("name", 1), ("count", 2)]) (N := N_written) (sc := defScope s_written) (by decide +kernel)) (fun _ _ _ _ _ => (mc_tup (c.blk _ _ _ _ _).calm (mcs_cons (mc_name (i := 1) (c.blk _ _ _ _ _).nd rfl (by decide) (by first | exact Or.inl rfl | exact Or.inr rfl)) (mcs_cons (mc_name (i := 2) (c.blk _ _ _ _ _).nd rfl (by decide) (by first | exact Or.inl rfl | exact Or.inr rfl)) mcs_nil)) (len_cons (len_cons len_nil)))) (fun _ _ _ _ _ => mts_nil) (fun _ _ _ _ _ => (me_bin opm_add (me_bin opm_add (me_bin opm_add (me_ty callm_str rfl T.b_str (by decide +kernel) (ma_cons (me_var (pv 2)) ma_nil)) me_str) (me_var (pv 1))) me_str))) ma_nil))))
theorem sc_row_in : FnScope N_row_in ["line"] (defScope s_row_in) := ⟨rfl, rfl, rfl, by decide +kernel, rfl, by decide +kernel, by decide +kernel⟩
theorem ok_row_in (T : Txt K mg) (d_is_name : DefAt P w K mg base "is_name" ["thing"] 2 f_is_name) (F : FunAt K mg "row_in" s_row_in ["line"]) : DefAt P w K mg base "row_in" ["line"] 3 f_row_in :=
  def_ok F sc_row_in fun f cdv A outer s H E c =>
    (mss_cons (ms_set (me_meth (by decide) PySem.F.plainAttrs_str PySem.F.slot_str_split PySem.F.type_str_split mtm_split (me_var (pv 0)) (ma_cons me_str ma_nil)) c.nd rfl (Or.inl rfl)) (mss_cons (ms_if (mt_w (mw_or (mt_cmp (opm_ne c.u64) (me_blt callm_len rfl T.b_len (by decide +kernel) (ma_cons (me_var (pv 1)) ma_nil)) me_int (nomark _)) (mw_or (mt_not (mt_val (me_def d_is_name c.room (by decide) rfl c.tk (ma_cons (me_ix (me_var (pv 1)) me_int) ma_nil)))) (mw_or1 (mt_not (mt_chain opm_le opm_le me_int (me_blt callm_len rfl T.b_len (by decide +kernel) (ma_cons (me_ix (me_var (pv 1)) me_int) ma_nil)) (me_ci T.c_MOST_FIGURES rfl))))))) (mss_one (ms_raise T.e_NoText c.calm c.tk rfl)) mss_nil) (mss_cons (ms_if (mt_not (mt_val (me_blt (callm_all c.calm) rfl T.b_all (by decide +kernel) (ma_cons (me_lc (own := [("sign", 2)]) c.calm c.nd (mi_any (me_ix (me_var (pv 1)) me_int)) (blkOk_by (own := [("sign", 2)]) (N := N_row_in) (sc := defScope s_row_in) (by decide +kernel)) (fun _ _ _ _ _ => (mc_name (i := 2) (c.blk _ _ _ _ _).nd rfl (by decide) (by first | exact Or.inl rfl | exact Or.inr rfl))) (fun _ _ _ _ _ => mts_nil) (fun _ _ _ _ _ => (me_cmp (opm_in (c.blk _ _ _ _ _).u65) (me_var (pv 2)) (me_cs T.c_FIGURES_writing rfl) (by with_unfolding_all rfl)))) ma_nil)))) (mss_one (ms_raise T.e_NoText c.calm c.tk rfl)) mss_nil) (mss_one (ms_ret (me_tup (ma_cons (me_ix (me_var (pv 1)) me_int) (ma_cons (me_ty callm_int rfl T.b_int (by decide +kernel) (ma_cons (me_ix (me_var (pv 1)) me_int) ma_nil)) ma_nil))))))))
theorem sc_read : FnScope N_read ["text"] (defScope s_read) := ⟨rfl, rfl, rfl, by decide +kernel, rfl, by decide +kernel, by decide +kernel⟩
theorem ok_read (T : Txt K mg) (d_written : DefAt P w K mg base "written" ["rows"] 1 f_written) (d_row_in : DefAt P w K mg base "row_in" ["line"] 3 f_row_in) (F : FunAt K mg "read" s_read ["text"]) : DefAt P w K mg base "read" ["text"] 4 f_read :=
  def_ok F sc_read fun f cdv A outer s H E c =>
    (mss_cons (ms_setLcE (own := [("line", 2)]) rfl rfl c.tk c.calm c.nd rfl rfl d_row_in c.room (by decide) (sw_true rfl rfl rfl (by decide +kernel)) (mi_any (me_sl (me_meth (by decide) PySem.F.plainAttrs_str PySem.F.slot_str_split PySem.F.type_str_split mtm_split (me_var (pv 0)) (ma_cons me_str ma_nil)) mo_none (mo_some (me_un unm_neg me_int)))) (blkOk_by (own := [("line", 2)]) (N := N_read) (sc := defScope s_read) (by decide +kernel)) (fun _ _ _ _ _ => (mc_name (i := 2) (c.blk _ _ _ _ _).nd rfl (by decide) (by first | exact Or.inl rfl | exact Or.inr rfl))) (fun _ _ _ _ _ => mts_nil) (fun _ _ _ _ _ _ => rfl) (fun _ _ _ _ _ _ => (ma_cons (me_var (pv 2)) ma_nil))) (mss_cons (ms_if (mt_cmp (opm_ne c.u64) (me_def d_written c.room (by decide) rfl c.tk (ma_cons (me_var (pv 1)) ma_nil)) (me_var (pv 0)) (nomark _)) (mss_one (ms_raise T.e_NoText c.calm c.tk rfl)) mss_nil) (mss_one (ms_ret (me_var (pv 1))))))
theorem sc_law_cell : FnScope N_law_cell ["_law_script", "_law_k"] (defScope s_law_cell) := ⟨rfl, rfl, rfl, by decide +kernel, rfl, by decide +kernel, by decide +kernel⟩
theorem ok_law_cell (T : Txt K mg) (F : FunAt K mg "_law_cell" s_law_cell ["_law_script", "_law_k"]) : DefAt P w K mg base "_law_cell" ["_law_script", "_law_k"] 1 f_law_cell :=
  def_ok F sc_law_cell fun f cdv A outer s H E c =>
    (mss_cons (ms_if (mt_cmp (opm_eq c.u64) (me_var (pv 0)) (me_lst ma_nil) (nomark _)) (mss_one (ms_ret (me_bin opm_mul me_int (me_var (pv 1))))) mss_nil) (mss_one (ms_ret (me_bin opm_add (me_ix (me_var (pv 0)) (me_bin opm_mod (me_var (pv 1)) (me_blt callm_len rfl T.b_len (by decide +kernel) (ma_cons (me_var (pv 0)) ma_nil)))) (me_bin opm_mul me_int (me_bin opm_fdiv (me_var (pv 1)) (me_blt callm_len rfl T.b_len (by decide +kernel) (ma_cons (me_var (pv 0)) ma_nil))))))))
theorem sc_law_drawn : FnScope N_law_drawn ["_law_script", "_law_k", "_law_many"] (defScope s_law_drawn) := ⟨rfl, rfl, rfl, by decide +kernel, rfl, by decide +kernel, by decide +kernel⟩
theorem ok_law_drawn (T : Txt K mg) (d_law_cell : DefAt P w K mg base "_law_cell" ["_law_script", "_law_k"] 1 f_law_cell) (F : FunAt K mg "_law_drawn" s_law_drawn ["_law_script", "_law_k", "_law_many"]) : DefAt P w K mg base "_law_drawn" ["_law_script", "_law_k", "_law_many"] 2 f_law_drawn :=
  def_ok F sc_law_drawn fun f cdv A outer s H E c =>
    (mss_cons (ms_set (me_bin opm_mod (me_bin opm_add (me_bin opm_mul (me_bin opm_mod (me_def d_law_cell c.room (by decide) rfl c.tk (ma_cons (me_var (pv 0)) (ma_cons (me_var (pv 1)) ma_nil))) me_int) me_int) (me_bin opm_mul me_int (me_bin opm_add (me_var (pv 1)) me_int))) me_int) c.nd rfl (Or.inl rfl)) (mss_cons (ms_set (me_bin opm_mod (me_bin opm_add (me_bin opm_mul (me_var (pv 3)) (me_var (pv 3))) (me_bin opm_fdiv (me_var (pv 3)) me_int)) me_int) c.nd rfl (Or.inl rfl)) (mss_one (ms_ret (me_bin opm_mod (me_bin opm_fdiv (me_bin opm_mod (me_bin opm_add (me_bin opm_mul (me_var (pv 3)) (me_var (pv 3))) (me_bin opm_fdiv (me_var (pv 3)) me_int)) me_int) me_int) (me_var (pv 2)))))))
theorem sc_law_name : FnScope N_law_name ["_law_script", "_law_at"] (defScope s_law_name) := ⟨rfl, rfl, rfl, by decide +kernel, rfl, by decide +kernel, by decide +kernel⟩
theorem ok_law_name (T : Txt K mg) (d_law_drawn : DefAt P w K mg base "_law_drawn" ["_law_script", "_law_k", "_law_many"] 2 f_law_drawn) (F : FunAt K mg "_law_name" s_law_name ["_law_script", "_law_at"]) : DefAt P w K mg base "_law_name" ["_law_script", "_law_at"] 3 f_law_name :=
  def_ok F sc_law_name fun f cdv A outer s H E c =>
    (mss_cons (ms_set me_str c.nd rfl (Or.inl rfl)) (mss_cons (ms_for c.po c.calm (mi_rng1 rfl T.b_range (ma_cons (me_bin opm_add me_int (me_def d_law_drawn c.room (by decide) rfl c.tk (ma_cons (me_var (pv 0)) (ma_cons (me_var (pv 1)) (ma_cons me_int ma_nil))))) ma_nil)) (mg_name (i := 3) c.nd rfl (Or.inl rfl)) (calm_N 3) (mss_one (ms_set (me_bin opm_add (me_var (pv 2)) (me_ix me_str (me_def d_law_drawn c.room (by decide) rfl c.tk (ma_cons (me_var (pv 0)) (ma_cons (me_bin opm_add (me_bin opm_add (me_var (pv 1)) me_int) (me_var (pv 3))) (ma_cons me_int ma_nil)))))) c.nd rfl (Or.inl rfl)))) (mss_one (ms_ret (me_var (pv 2))))))
theorem sc_law_names : FnScope N_law_names ["_law_script", "_law_at", "_law_most"] (defScope s_law_names) := ⟨rfl, rfl, rfl, by decide +kernel, rfl, by decide +kernel, by decide +kernel⟩
theorem ok_law_names (T : Txt K mg) (d_law_drawn : DefAt P w K mg base "_law_drawn" ["_law_script", "_law_k", "_law_many"] 2 f_law_drawn) (d_law_name : DefAt P w K mg base "_law_name" ["_law_script", "_law_at"] 3 f_law_name) (F : FunAt K mg "_law_names" s_law_names ["_law_script", "_law_at", "_law_most"]) : DefAt P w K mg base "_law_names" ["_law_script", "_law_at", "_law_most"] 4 f_law_names :=
  def_ok F sc_law_names fun f cdv A outer s H E c =>
    (mss_cons (ms_ownLc (own := [("_law_k", 4)]) c.calm c.nd rfl rfl (sw_true rfl rfl rfl (by decide +kernel)) (mi_rng1 rfl T.b_range (ma_cons (me_def d_law_drawn c.room (by decide) rfl c.tk (ma_cons (me_var (pv 0)) (ma_cons (me_var (pv 1)) (ma_cons (me_bin opm_add (me_var (pv 2)) me_int) ma_nil)))) ma_nil)) (blkOk_by (own := [("_law_k", 4)]) (N := N_law_names) (sc := defScope s_law_names) (by decide +kernel)) (fun _ _ _ _ _ => (mc_name (i := 4) (c.blk _ _ _ _ _).nd rfl (by decide) (by first | exact Or.inl rfl | exact Or.inr rfl))) (fun _ _ _ _ _ => mts_nil) (fun _ _ _ _ _ => (me_def d_law_name (c.blk _ _ _ _ _).room (by decide) rfl (c.blk _ _ _ _ _).tk (ma_cons (me_var (pv 0)) (ma_cons (me_bin opm_add (me_bin opm_add (me_var (pv 1)) me_int) (me_bin opm_mul me_int (me_var (pv 4)))) ma_nil))))) (mss_cons (ms_if (mt_w (mw_and (mt_cmp opm_gt (me_lenO (pv 3) rfl T.b_len) me_int (nomark _)) (mw_and1 (mt_cmp (opm_eq c.u64) (me_def d_law_drawn c.room (by decide) rfl c.tk (ma_cons (me_var (pv 0)) (ma_cons (me_bin opm_add (me_var (pv 1)) me_int) (ma_cons me_int ma_nil)))) me_int (nomark _))))) (mss_one (ms_put (pv 3) me_int (me_ixO (pv 3) (me_un unm_neg me_int)))) mss_nil) (mss_fix 3 (mss_one (ms_ret (me_var (pv 3)))))))
theorem sc_law_told : FnScope N_law_told ["_law_text"] (defScope s_law_told) := ⟨rfl, rfl, rfl, by decide +kernel, rfl, by decide +kernel, by decide +kernel⟩
theorem ok_law_told (T : Txt K mg) (d_read : DefAt P w K mg base "read" ["text"] 4 f_read) (F : FunAt K mg "_law_told" s_law_told ["_law_text"]) : DefAt P w K mg base "_law_told" ["_law_text"] 5 f_law_told :=
  def_ok F sc_law_told fun f cdv A outer s H E c =>
    (mss_cons (ms_tryB (cs := ["NoText"]) (x1 := "NoText") (x2 := "NoLaying") (x3 := "NoFit") (i := 2) (j := 1) c rfl rfl rfl rfl rfl (Or.inl rfl) (by first | exact .inl rfl | exact .inr rfl) T.mF rfl rfl T.b_isinstance rfl rfl rfl rfl rfl rfl rfl T.h_NoText_NoText_NoLaying_NoFit (by decide) (by decide) (by decide) (fun _ _ _ cy => (mss_one (ms_ret (me_def d_read (cy).room (by decide) rfl (cy).tk (ma_cons (me_var (pv 0)) ma_nil))))) (fun _ _ => pv 2) (fun _ _ => pv 2) (fun _ _ => pv 2) (fun _ _ => pv 2) (fun _ _ => pv 1)) (mss_one (ms_ret me_bl)))
theorem sc_law_read : FnScope N_law_read ["_law_text"] (defScope s_law_read) := ⟨rfl, rfl, rfl, by decide +kernel, rfl, by decide +kernel, by decide +kernel⟩
theorem ok_law_read (T : Txt K mg) (F : FunAt K mg "_law_read" s_law_read ["_law_text"]) : DefAt P w K mg base "_law_read" ["_law_text"] 1 f_law_read :=
  def_ok F sc_law_read fun f cdv A outer s H E c =>
    (mss_cons (ms_set me_str c.nd rfl (Or.inr rfl)) (mss_cons (ms_own ma_nil c.nd rfl (Or.inl rfl)) (mss_cons (ms_set (me_meth (by decide) PySem.F.plainAttrs_str PySem.F.slot_str_split PySem.F.type_str_split mtm_split (me_var (pv 0)) (ma_cons me_str ma_nil)) c.nd rfl (Or.inl rfl)) (mss_cons (ms_for c.po c.calm (mi_any (me_sl (me_var (pv 3)) mo_none (mo_some (me_un unm_neg me_int)))) (mg_name (i := 4) c.nd rfl (Or.inl rfl)) (calm_N 4) (mss_cons (ms_set (me_meth (by decide) PySem.F.plainAttrs_str PySem.F.slot_str_split PySem.F.type_str_split mtm_split (me_var (pv 4)) (ma_cons me_str ma_nil)) c.nd rfl (Or.inl rfl)) (mss_cons (ms_if (mt_w (mw_or (mt_cmp (opm_ne c.u64) (me_blt callm_len rfl T.b_len (by decide +kernel) (ma_cons (me_var (pv 5)) ma_nil)) me_int (nomark _)) (mw_or (mt_cmp (opm_eq c.u64) (me_ix (me_var (pv 5)) me_int) me_str (nomark _)) (mw_or (mt_w (mw_and (mt_cmp (opm_ne c.u64) (me_ix (me_var (pv 5)) me_int) me_str (nomark _)) (mw_and1 (mt_cmp (opm_eq c.u64) (me_ix (me_ix (me_var (pv 5)) me_int) me_int) me_str (nomark _))))) (mw_or1 (mt_cmp opm_gt (me_blt callm_len rfl T.b_len (by decide +kernel) (ma_cons (me_ix (me_var (pv 5)) me_int) ma_nil)) me_int (nomark _))))))) (mss_one (ms_ret me_non)) mss_nil) (mss_cons (ms_if (mt_w (mw_or (mt_cmp (opm_ne c.u64) (me_lc (own := [("_law_sign", 6)]) c.calm c.nd (mi_any (me_ix (me_var (pv 5)) me_int)) (blkOk_by (own := [("_law_sign", 6)]) (N := N_law_read) (sc := defScope s_law_read) (by decide +kernel)) (fun _ _ _ _ _ => (mc_name (i := 6) (c.blk _ _ _ _ _).nd rfl (by decide) (by first | exact Or.inl rfl | exact Or.inr rfl))) (fun _ _ _ _ _ => (mts_one (mt_cmp (opm_nin (c.blk _ _ _ _ _).u65) (me_var (pv 6)) me_str (by with_unfolding_all rfl)))) (fun _ _ _ _ _ => (me_var (pv 6)))) (me_lst ma_nil) (nomark _)) (mw_or1 (mt_not (mt_chain opm_le opm_le me_int (me_blt callm_len rfl T.b_len (by decide +kernel) (ma_cons (me_ix (me_var (pv 5)) me_int) ma_nil)) me_int))))) (mss_one (ms_ret me_non)) mss_nil) (mss_cons (ms_if (mt_cmp (opm_ne c.u64) (me_lc (own := [("_law_sign", 6)]) c.calm c.nd (mi_any (me_ix (me_var (pv 5)) me_int)) (blkOk_by (own := [("_law_sign", 6)]) (N := N_law_read) (sc := defScope s_law_read) (by decide +kernel)) (fun _ _ _ _ _ => (mc_name (i := 6) (c.blk _ _ _ _ _).nd rfl (by decide) (by first | exact Or.inl rfl | exact Or.inr rfl))) (fun _ _ _ _ _ => (mts_one (mt_cmp (opm_nin (c.blk _ _ _ _ _).u65) (me_var (pv 6)) (me_var (pv 1)) (by with_unfolding_all rfl)))) (fun _ _ _ _ _ => (me_var (pv 6)))) (me_lst ma_nil) (nomark _)) (mss_one (ms_ret me_non)) mss_nil) (mss_one (ms_app (pv 2) (me_tup (ma_cons (me_ix (me_var (pv 5)) me_int) (ma_cons (me_ty callm_int rfl T.b_int (by decide +kernel) (ma_cons (me_ix (me_var (pv 5)) me_int) ma_nil)) ma_nil)))))))))) (mss_fix 2 (mss_one (ms_ret (me_if (mt_cmp (opm_eq c.u64) (me_ix (me_var (pv 3)) (me_un unm_neg me_int)) me_str (nomark _)) (me_var (pv 2)) me_non))))))))
theorem sc_law : FnScope N_law ["_law_script"] (defScope s_law) := ⟨rfl, rfl, rfl, by decide +kernel, rfl, by decide +kernel, by decide +kernel⟩
theorem ok_law (T : Txt K mg) (d_written : DefAt P w K mg base "written" ["rows"] 1 f_written) (d_read : DefAt P w K mg base "read" ["text"] 4 f_read) (d_law_drawn : DefAt P w K mg base "_law_drawn" ["_law_script", "_law_k", "_law_many"] 2 f_law_drawn) (d_law_names : DefAt P w K mg base "_law_names" ["_law_script", "_law_at", "_law_most"] 4 f_law_names) (d_law_told : DefAt P w K mg base "_law_told" ["_law_text"] 5 f_law_told) (d_law_read : DefAt P w K mg base "_law_read" ["_law_text"] 1 f_law_read) {f : Addr} {fd : FuncData} (F : Fun K "law" "law" s_law f fd) : FnOk P w K mg base (L2N.CX P w) 6 f fd ["_law_script"] (spM K mg f_law) :=
  fn_ok F sc_law fun cdv A outer s H E c =>
    (mss_cons (ms_set (me_def d_law_names c.room (by decide) rfl c.tk (ma_cons (me_var (pv 0)) (ma_cons me_int (ma_cons me_int ma_nil)))) c.nd rfl (Or.inl rfl)) (mss_cons (ms_setLc (own := [("_law_k", 3), ("_law_name_here", 4)]) c.calm c.nd rfl rfl (sw_true rfl rfl rfl (by decide +kernel)) (mi_enum rfl T.b_enumerate (ma_cons (me_var (pv 1)) ma_nil)) (blkOk_by (own := [("_law_k", 3), ("_law_name_here", 4)]) (N := N_law) (sc := defScope s_law) (by decide +kernel)) (fun _ _ _ _ _ => (mc_tup (c.blk _ _ _ _ _).calm (mcs_cons (mc_name (i := 3) (c.blk _ _ _ _ _).nd rfl (by decide) (by first | exact Or.inl rfl | exact Or.inr rfl)) (mcs_cons (mc_name (i := 4) (c.blk _ _ _ _ _).nd rfl (by decide) (by first | exact Or.inl rfl | exact Or.inr rfl)) mcs_nil)) (len_cons (len_cons len_nil)))) (fun _ _ _ _ _ => mts_nil) (fun _ _ _ _ _ => (me_tup (ma_cons (me_var (pv 4)) (ma_cons (me_ix (me_lst (ma_cons me_int (ma_cons me_int (ma_cons me_int (ma_cons me_int ma_nil))))) (me_def d_law_drawn (c.blk _ _ _ _ _).room (by decide) rfl (c.blk _ _ _ _ _).tk (ma_cons (me_var (pv 0)) (ma_cons (me_bin opm_add me_int (me_var (pv 3))) (ma_cons me_int ma_nil))))) ma_nil))))) (mss_cons (ms_set (me_def d_written c.room (by decide) rfl c.tk (ma_cons (me_var (pv 2)) ma_nil)) c.nd rfl (Or.inl rfl)) (mss_cons (ms_if (mt_cmp (opm_ne c.u64) (me_var (pv 5)) (me_meth (by decide) PySem.F.plainAttrs_str PySem.F.slot_str_join PySem.F.type_str_join mtm_join me_str (ma_cons (me_lc (own := [("_law_name_here", 4), ("_law_count", 6)]) c.calm c.nd (mi_any (me_var (pv 2))) (blkOk_by (own := [("_law_name_here", 4), ("_law_count", 6)]) (N := N_law) (sc := defScope s_law) (by decide +kernel)) (fun _ _ _ _ _ => (mc_tup (c.blk _ _ _ _ _).calm (mcs_cons (mc_name (i := 4) (c.blk _ _ _ _ _).nd rfl (by decide) (by first | exact Or.inl rfl | exact Or.inr rfl)) (mcs_cons (mc_name (i := 6) (c.blk _ _ _ _ _).nd rfl (by decide) (by first | exact Or.inl rfl | exact Or.inr rfl)) mcs_nil)) (len_cons (len_cons len_nil)))) (fun _ _ _ _ _ => mts_nil) (fun _ _ _ _ _ => (me_bin opm_add (me_bin opm_add (me_bin opm_add (me_ty callm_str rfl T.b_str (by decide +kernel) (ma_cons (me_var (pv 6)) ma_nil)) me_str) (me_var (pv 4))) me_str))) ma_nil)) (nomark _)) (mss_one (ms_ret me_bl)) mss_nil) (mss_cons (ms_if (mt_cmp (opm_ne c.u64) (me_def d_read c.room (by decide) rfl c.tk (ma_cons (me_var (pv 5)) ma_nil)) (me_var (pv 2)) (nomark _)) (mss_one (ms_ret me_bl)) mss_nil) (mss_cons (ms_set (me_def d_law_drawn c.room (by decide) rfl c.tk (ma_cons (me_var (pv 0)) (ma_cons me_int (ma_cons (me_bin opm_add (me_blt callm_len rfl T.b_len (by decide +kernel) (ma_cons (me_var (pv 5)) ma_nil)) me_int) ma_nil)))) c.nd rfl (Or.inl rfl)) (mss_cons (ms_set (me_ix me_str (me_def d_law_drawn c.room (by decide) rfl c.tk (ma_cons (me_var (pv 0)) (ma_cons me_int (ma_cons me_int ma_nil))))) c.nd rfl (Or.inl rfl)) (mss_cons (ms_set (me_meth (by decide) PySem.F.plainAttrs_str PySem.F.slot_str_split PySem.F.type_str_split mtm_split (me_var (pv 5)) (ma_cons me_str ma_nil)) c.nd rfl (Or.inl rfl)) (mss_cons (ms_set (me_def d_law_drawn c.room (by decide) rfl c.tk (ma_cons (me_var (pv 0)) (ma_cons me_int (ma_cons (me_blt callm_len rfl T.b_len (by decide +kernel) (ma_cons (me_var (pv 9)) ma_nil)) ma_nil)))) c.nd rfl (Or.inl rfl)) (mss_cons (ms_set (me_lst (ma_cons (me_bin opm_add (me_bin opm_add (me_sl (me_var (pv 5)) mo_none (mo_some (me_var (pv 7)))) (me_var (pv 8))) (me_sl (me_var (pv 5)) (mo_some (me_var (pv 7))) mo_none)) (ma_cons (me_bin opm_add (me_sl (me_var (pv 5)) mo_none (mo_some (me_var (pv 7)))) (me_sl (me_var (pv 5)) (mo_some (me_bin opm_add (me_var (pv 7)) me_int)) mo_none)) (ma_cons (me_bin opm_add (me_bin opm_add (me_sl (me_var (pv 5)) mo_none (mo_some (me_var (pv 7)))) (me_var (pv 8))) (me_sl (me_var (pv 5)) (mo_some (me_bin opm_add (me_var (pv 7)) me_int)) mo_none)) ma_nil)))) c.nd rfl (Or.inl rfl)) (mss_cons (ms_set (me_bin opm_add (me_var (pv 11)) (me_lst (ma_cons (me_meth (by decide) PySem.F.plainAttrs_str PySem.F.slot_str_join PySem.F.type_str_join mtm_join me_str (ma_cons (me_bin opm_add (me_sl (me_var (pv 9)) mo_none (mo_some (me_var (pv 10)))) (me_sl (me_var (pv 9)) (mo_some (me_bin opm_add (me_var (pv 10)) me_int)) mo_none)) ma_nil)) (ma_cons (me_meth (by decide) PySem.F.plainAttrs_str PySem.F.slot_str_join PySem.F.type_str_join mtm_join me_str (ma_cons (me_bin opm_add (me_sl (me_var (pv 9)) mo_none (mo_some (me_bin opm_add (me_var (pv 10)) me_int))) (me_sl (me_var (pv 9)) (mo_some (me_var (pv 10))) mo_none)) ma_nil)) ma_nil)))) c.nd rfl (Or.inl rfl)) (mss_cons (ms_for c.po c.calm (mi_any (me_bin opm_add (me_var (pv 11)) (me_lst (ma_cons (me_ix (me_lst (ma_cons me_str (ma_cons me_str (ma_cons me_str (ma_cons me_str (ma_cons me_str (ma_cons me_str ma_nil))))))) (me_bin opm_mod (me_var (pv 7)) me_int)) ma_nil)))) (mg_name (i := 12) c.nd rfl (Or.inl rfl)) (calm_N 12) (mss_cons (ms_set (me_def d_law_told c.room (by decide) rfl c.tk (ma_cons (me_var (pv 12)) ma_nil)) c.nd rfl (Or.inl rfl)) (mss_one (ms_if (mt_w (mw_or (mt_cmp (opm_ne c.u64) (me_var (pv 13)) (me_def d_law_read c.room (by decide) rfl c.tk (ma_cons (me_var (pv 12)) ma_nil)) (nomark _)) (mw_or1 (mt_w (mw_and (mt_cmp opm_nis (me_var (pv 13)) me_non (nomark _)) (mw_and1 (mt_cmp (opm_ne c.u64) (me_def d_written c.room (by decide) rfl c.tk (ma_cons (me_var (pv 13)) ma_nil)) (me_var (pv 12)) (nomark _)))))))) (mss_one (ms_ret me_bl)) mss_nil)))) (mss_one (ms_ret me_bl))))))))))))))
end
end Pf

namespace Pf
open PySem L2 FF
abbrev sc (ns : List Int) : D := .list (ns.map PyData.int)
def cellN (ns : List Int) (k : Nat) : Int := if ns = [] then 7 * (k : Int) else ns.getD (k % ns.length) 0 + 6553 * ((k / ns.length : Nat) : Int)
theorem shp_sc (ns : List Int) : shp (sc ns) = true := (good_list good_int).shp (x := ns) (by decide) fun _ _ => trivial
def drawZ (ns : List Int) (k : Nat) : Int :=
  let c := (cellN ns k % 2147483563 * 69069 + 104723 * ((k : Int) + 1)) % 2147483563
  let c2 := (c * c + c / 3) % 2147483399
  (c2 * c2 + c2 / 7) % 2147483647 / 11
def drawn (ns : List Int) (k m : Nat) : Nat := (drawZ ns k % (m : Int)).toNat
theorem drawn_lt (ns : List Int) (k : Nat) {m : Nat} (h : 0 < m) : drawn ns k m < m := by
  have h1 := Int.emod_nonneg (drawZ ns k) (show (m : Int) ≠ 0 by omega)
  have h2 := Int.emod_lt_of_pos (drawZ ns k) (show (0 : Int) < m by omega)
  unfold drawn
  omega
theorem drawn_cast (ns : List Int) (k : Nat) {m : Nat} (h : 0 < m) : ((drawn ns k m : Nat) : Int) = drawZ ns k % (m : Int) := by
  have h1 := Int.emod_nonneg (drawZ ns k) (show (m : Int) ≠ 0 by omega)
  unfold drawn
  omega
def pool : List Nat := [97, 98, 99, 97, 98, 65, 66, 67, 97, 98, 49, 95, 45, 46, 47, 120, 121, 122]
theorem str_nil : (Str.ofString "") = S [] := by decide +kernel
theorem str_pool : (Str.ofString "abcabABCab1_-./xyz") = S pool := by decide +kernel
def nameTo (ns : List Int) (at_ n : Nat) : List Nat := (List.range n).map fun i => pool.getD (drawn ns (at_ + 1 + i) 18) 0
def nameN (ns : List Int) (at_ : Nat) : List Nat := nameTo ns at_ (1 + drawn ns at_ 10)
theorem nameTo_succ (ns : List Int) (at_ n : Nat) : nameTo ns at_ (n + 1) = nameTo ns at_ n ++ [pool.getD (drawn ns (at_ + 1 + n) 18) 0] := by
  unfold nameTo
  rw [List.range_succ, List.map_append]
  rfl
theorem nameTo_len (ns : List Int) (at_ n : Nat) : (nameTo ns at_ n).length = n := by
  unfold nameTo
  rw [List.length_map, List.length_range]
def PoolOk (l : List Nat) : Prop := ∀ c ∈ l, c ∈ pool
theorem nameTo_pool (ns : List Int) (at_ n : Nat) : PoolOk (nameTo ns at_ n) := by
  intro c hc
  obtain ⟨i, _, rfl⟩ := List.mem_map.mp hc
  have h : drawn ns (at_ + 1 + i) 18 < pool.length := drawn_lt ns _ (by decide)
  rw [List.getD_eq_getElem?_getD, List.getElem?_eq_getElem h]
  exact List.getElem_mem h
theorem nameN_len (ns : List Int) (at_ : Nat) : 1 ≤ (nameN ns at_).length ∧ (nameN ns at_).length ≤ 10 := by
  unfold nameN
  rw [nameTo_len]
  have := drawn_lt ns at_ (m := 10) (by decide)
  omega
theorem at_lit {α : Type} (l : List α) (d : α) {i : Nat} (h : i < l.length) : atI l (i : Int) = some (l.getD i d) := by
  rw [atI_nat', List.getElem?_eq_getElem h, List.getD_eq_getElem?_getD, List.getElem?_eq_getElem h]
  rfl
def marks : List Nat := [95, 45, 46, 47]
theorem str_marks : (Str.ofString "_-./") = S marks := by decide +kernel
theorem str_a : (Str.ofString "a") = S [97] := by decide +kernel
def letters : List Nat := [97, 98, 99, 100, 101, 102, 103, 104, 105, 106, 107, 108, 109, 110, 111, 112, 113, 114, 115, 116, 117, 118, 119, 120, 121, 122, 65, 66, 67, 68, 69, 70, 71, 72, 73, 74, 75, 76, 77, 78, 79, 80, 81, 82, 83, 84, 85, 86, 87, 88, 89, 90, 48, 49, 50, 51, 52, 53, 54, 55, 56, 57]
def qpool : List Nat := [97, 98, 65, 66, 49, 99]
theorem str_qpool : (Str.ofString "abAB1c") = S qpool := by decide +kernel
theorem low_pool : ∀ c ∈ pool, low c ∈ letters ∨ low c ∈ marks := by decide +kernel
theorem qpool_letters : ∀ c ∈ qpool, c ∈ letters := by decide +kernel
theorem letters_asc : Asc letters := by
  have h : ∀ c ∈ letters, c < 128 := by decide +kernel
  exact h
theorem pool_asc : Asc pool := by
  have h : ∀ c ∈ pool, c < 128 := by decide +kernel
  exact h
theorem PoolOk.asc {l : List Nat} (h : PoolOk l) : Asc l := fun c hc => pool_asc c (h c hc)
theorem cutL_nat {α : Type} (l : List α) (p q : Nat) : cutL l (some (p : Int)) (some (q : Int)) = (l.drop p).take (q - p) := by
  unfold cutL
  rw [HT.sIx_nat, HT.sIx_nat]
  by_cases hp : p ≤ l.length
  · rw [Nat.min_eq_left hp]
    by_cases hq : q ≤ l.length
    · rw [Nat.min_eq_left hq]
    · rw [Nat.min_eq_right (by omega), List.take_of_length_le (by rw [List.length_drop]; omega), List.take_of_length_le (by rw [List.length_drop]; omega)]
  · rw [Nat.min_eq_right (show l.length ≤ p by omega), List.drop_of_length_le (Nat.le_refl _), List.drop_of_length_le (show l.length ≤ p by omega)]
    simp
theorem cutL_to {α : Type} (l : List α) (q : Nat) : cutL l none (some (q : Int)) = l.take q := by
  unfold cutL
  rw [HT.sIx_none, HT.sIx_nat, List.drop_zero, Nat.sub_zero]
  by_cases hq : q ≤ l.length
  · rw [Nat.min_eq_left hq]
  · rw [Nat.min_eq_right (by omega), List.take_of_length_le (by omega), List.take_of_length_le (by omega)]
theorem cutL_from {α : Type} (l : List α) (p : Nat) : cutL l (some (p : Int)) none = l.drop p := by
  unfold cutL
  rw [HT.sIx_none, HT.sIx_nat, List.take_of_length_le (by rw [List.length_drop]; omega)]
  by_cases hq : p ≤ l.length
  · rw [Nat.min_eq_left hq]
  · rw [Nat.min_eq_right (by omega), List.drop_of_length_le (Nat.le_refl _), List.drop_of_length_le (by omega)]
theorem cutL_one {α : Type} (l : List α) (p : Int) (h : 0 ≤ p ∨ l = []) : cutL l (some p) (some (p + 1)) = (l[p.toNat]?).toList := by
  rcases h with h | rfl
  · obtain ⟨n, rfl⟩ := Int.eq_ofNat_of_zero_le h
    have := cutL_nat l n (n + 1)
    push_cast at this
    rw [this, Int.toNat_natCast, show n + 1 - n = 1 by omega]
    by_cases hn : n < l.length
    · rw [List.getElem?_eq_getElem hn, List.drop_eq_getElem_cons hn]
      rfl
    · rw [List.getElem?_eq_none (by omega), List.drop_of_length_le (by omega)]
      rfl
  · simp [cutL]
def qPick (nm : List Nat) (p : Int) : Nat := low ((nm[p.toNat]?).getD 97)
def qSign (ns : List Int) (at_ : Nat) (nm : List Nat) (k : Nat) (p : Int) : Nat :=
  if drawn ns (at_ + 2 + 3 * k) 5 = 0 then qpool.getD (drawn ns (at_ + 3 + 3 * k) 6) 0 else qPick nm p
def qPlace (ns : List Int) (at_ : Nat) (nm : List Nat) (k : Nat) (p : Int) : Int := min ((nm.length : Int) - 1) (p + drawn ns (at_ + 1 + 3 * k) 3)
def qTurn (ns : List Int) (at_ : Nat) (nm : List Nat) (k : Nat) (s : List Nat × Int) : List Nat × Int :=
  (if qSign ns at_ nm k (qPlace ns at_ nm k s.2) ∈ marks then s.1 else s.1 ++ [qSign ns at_ nm k (qPlace ns at_ nm k s.2)], qPlace ns at_ nm k s.2 + 1)
def qTo (ns : List Int) (at_ : Nat) (nm : List Nat) : Nat → List Nat × Int
  | 0 => ([], 0)
  | k + 1 => qTurn ns at_ nm k (qTo ns at_ nm k)
def queryN (ns : List Int) (at_ : Nat) (nm : List Nat) (most : Nat) : List Nat := (qTo ns at_ nm (drawn ns at_ (most + 1))).1
theorem qTo_place (ns : List Int) (at_ : Nat) (nm : List Nat) : ∀ k, 0 ≤ (qTo ns at_ nm k).2
  | 0 => Int.le_refl _
  | k + 1 => by
    have h := qTo_place ns at_ nm k
    show 0 ≤ qPlace ns at_ nm k (qTo ns at_ nm k).2 + 1
    unfold qPlace
    omega
theorem qPick_ok {nm : List Nat} (h : PoolOk nm) (p : Int) : qPick nm p ∈ letters ∨ qPick nm p ∈ marks := by
  unfold qPick
  cases e : nm[p.toNat]? with
  | none => exact .inl (by decide)
  | some c => exact low_pool c (h c (List.mem_of_getElem? e))
theorem qSign_ok {nm : List Nat} (h : PoolOk nm) (ns : List Int) (at_ k : Nat) (p : Int) : qSign ns at_ nm k p ∈ letters ∨ qSign ns at_ nm k p ∈ marks := by
  unfold qSign
  split
  · have : drawn ns (at_ + 3 + 3 * k) 6 < qpool.length := drawn_lt ns _ (by decide)
    rw [List.getD_eq_getElem?_getD, List.getElem?_eq_getElem this]
    exact .inl (qpool_letters _ (List.getElem_mem this))
  · exact qPick_ok h p
theorem qTo_ok (ns : List Int) (at_ : Nat) {nm : List Nat} (h : PoolOk nm) : ∀ k, (∀ c ∈ (qTo ns at_ nm k).1, c ∈ letters) ∧ (qTo ns at_ nm k).1.length ≤ k
  | 0 => ⟨fun c hc => (by cases hc), Nat.le_refl _⟩
  | k + 1 => by
    obtain ⟨h1, h2⟩ := qTo_ok ns at_ h k
    simp only [qTo, qTurn]
    split <;> rename_i hm
    · exact ⟨h1, by omega⟩
    · refine ⟨fun c hc => ?_, by simp; omega⟩
      rcases List.mem_append.mp hc with hc | hc
      · exact h1 c hc
      · rw [List.mem_singleton.mp hc]
        exact (qSign_ok h ns at_ k _).resolve_right hm
theorem queryN_ok (ns : List Int) (at_ : Nat) {nm : List Nat} (h : PoolOk nm) (most : Nat) : (∀ c ∈ queryN ns at_ nm most, c ∈ letters) ∧ (queryN ns at_ nm most).length ≤ most := by
  obtain ⟨h1, h2⟩ := qTo_ok ns at_ h (drawn ns at_ (most + 1))
  have := drawn_lt ns at_ (m := most + 1) (by omega)
  exact ⟨h1, by unfold queryN; omega⟩
theorem pick_ok {nm : List Nat} (hp : PoolOk nm) (hn : nm.length ≤ 1000) (p : Int) (h : 0 ≤ p ∨ nm = []) :
    lm nm.length (tx (cutL nm (some p) (some (p + 1)))) = some (tx (cutL nm (some p) (some (p + 1)))) ∧
    (cutL nm (some p) (some (p + 1)) = [] ∧ qPick nm p = 97 ∨ ∃ c, cutL nm (some p) (some (p + 1)) = [c] ∧ lowerD (tx [c]) [] = some (tx [qPick nm p])) := by
  refine ⟨lm_ok (by omega), ?_⟩
  rw [cutL_one _ _ h]
  unfold qPick
  cases e : nm[p.toNat]? with
  | none => exact .inl ⟨rfl, rfl⟩
  | some c => 
    refine .inr ⟨c, rfl, ?_⟩
    rw [lowerD_S (fun x hx => by rw [List.mem_singleton.mp hx]; exact hp.asc c (List.mem_of_getElem? e)), lm_ok (by simp)]
    rfl
def smallL : List Nat := [97, 98, 99, 100, 101, 102, 103, 104, 105, 106, 107, 108, 109, 110, 111, 112, 113, 114, 115, 116, 117, 118, 119, 120, 121, 122]
def greatL : List Nat := [65, 66, 67, 68, 69, 70, 71, 72, 73, 74, 75, 76, 77, 78, 79, 80, 81, 82, 83, 84, 85, 86, 87, 88, 89, 90]
theorem str_small : (Str.ofString "abcdefghijklmnopqrstuvwxyz") = S smallL := by decide +kernel
theorem str_great : (Str.ofString "ABCDEFGHIJKLMNOPQRSTUVWXYZ") = S greatL := by decide +kernel
def meetB (t s : Nat) : Bool := decide (t = s) || decide (t ∈ smallL) && decide (s = t - 32)
theorem sidxD_S {a b : List Nat} {i : Nat} (h : (Builtin.Str.occurrences (S a) (S b) 0 a.length 1).head? = some i) : sidxD (tx a) [tx b] = some (.int i) := by
  show (match Builtin.Str.occurrences (S a) (S b) 0 (S a).length 1 with
    | i :: _ => some (PyData.int ((i : Nat) : Int))
    | [] => none) = _
  rw [S_len]
  cases e : Builtin.Str.occurrences (S a) (S b) 0 a.length 1 with
  | nil => rw [e] at h; cases h
  | cons x r => rw [e] at h; cases h; rfl
theorem small_ix : ∀ t ∈ smallL, sidxD (tx smallL) [tx [t]] = some (.int (t - 97 : Nat)) ∧ atI greatL ((t - 97 : Nat) : Int) = some (t - 32) := by
  have h : ∀ t ∈ smallL, (Builtin.Str.occurrences (S smallL) (S [t]) 0 smallL.length 1).head? = some (t - 97) ∧ atI greatL ((t - 97 : Nat) : Int) = some (t - 32) := by decide +kernel
  exact fun t ht => ⟨sidxD_S (h t ht).1, (h t ht).2⟩
theorem great_ix : ∀ t ∈ greatL, sidxD (tx greatL) [tx [t]] = some (.int (t - 65 : Nat)) ∧ atI smallL ((t - 65 : Nat) : Int) = some (t + 32) := by
  have h : ∀ t ∈ greatL, (Builtin.Str.occurrences (S greatL) (S [t]) 0 greatL.length 1).head? = some (t - 65) ∧ atI smallL ((t - 65 : Nat) : Int) = some (t + 32) := by decide +kernel
  exact fun t ht => ⟨sidxD_S (h t ht).1, (h t ht).2⟩
theorem small_asc : ∀ t ∈ smallL, t - 32 < 128 := by decide +kernel
theorem great_asc : ∀ t ∈ greatL, t + 32 < 128 := by decide +kernel
theorem cps1 {t : Nat} (h : t < 128) : Cps [t] := fun x hx => by rw [List.mem_singleton.mp hx]; omega
theorem len_small : smallL.length ≤ 1000000 := by simp [smallL]
theorem len_great : greatL.length ≤ 1000000 := by simp [greatL]
theorem meet_low {t s : Nat} : (t ∈ smallL ∧ t = low s) ↔ (t ∈ smallL ∧ (t = s ∨ s = t - 32)) := by
  constructor
  · rintro ⟨h1, h2⟩
    refine ⟨h1, ?_⟩
    unfold low at h2
    split at h2 <;> omega
  · rintro ⟨h1, h2⟩
    refine ⟨h1, ?_⟩
    have h3 : ∀ t ∈ smallL, 97 ≤ t ∧ t ≤ 122 := by decide +kernel
    have := h3 t h1
    unfold low
    split <;> omega
theorem low_asc {s : Nat} (h : s < 128) : low s < 128 := by
  unfold low
  split <;> omega
abbrev nats (l : List Nat) : D := .list (l.map fun (k : Nat) => PyData.int (k : Int))
abbrev natss (l : List (List Nat)) : D := .list (l.map nats)
theorem good_nat : Good 0 (fun _ => True) (fun (k : Nat) => PyData.int (k : Int)) := ⟨fun x _ => ⟨rfl, Nat.le_refl _⟩, fun x y => by simp [PyData.eqv, BEq.beq]; omega⟩
theorem good_nats : Good 1 (fun xs : List Nat => ∀ x ∈ xs, True) nats := good_list good_nat
theorem good_natss : Good 2 (fun xs : List (List Nat) => ∀ x ∈ xs, ∀ y ∈ x, True) natss := good_list good_nats
def startOf (l : List Nat) : Nat := match l.getLast? with | some k => k + 1 | none => 0
def extB (nm : List Nat) (t : Nat) (l : List Nat) : List (List Nat) := ((List.range' (startOf l) (nm.length - startOf l)).filter fun k => meetB t (nm.getD k 0)).map fun k => l ++ [k]
def lays (nm : List Nat) (q : List Nat) : List (List Nat) := q.foldl (fun found t => found.flatMap (extB nm t)) [[]]
def wgt (n : Nat) (l : List Nat) : Nat := 2 ^ (n - startOf l)
def wgts (n : Nat) (ls : List (List Nat)) : Nat := (ls.map (wgt n)).sum
theorem wgts_len (n : Nat) : ∀ ls : List (List Nat), ls.length ≤ wgts n ls
  | [] => Nat.le_refl _
  | l :: ls => by
    have := wgts_len n ls
    have h2 : 0 < wgt n l := Nat.pow_pos (by decide)
    simp only [wgts, List.map_cons, List.sum_cons, List.length_cons] at *
    omega
theorem startOf_app (l : List Nat) (k : Nat) : startOf (l ++ [k]) = k + 1 := by simp [startOf]
theorem wgt_ext (n : Nat) (b : Nat → Bool) (l : List Nat) : ∀ m s, s + m = n → wgts n (((List.range' s m).filter b).map fun k => l ++ [k]) + 1 ≤ 2 ^ m
  | 0, s, _ => by simp [wgts]
  | m + 1, s, h => by
    have ih := wgt_ext n b l m (s + 1) (by omega)
    rw [List.range'_succ, List.filter_cons]
    have h2 : 2 ^ (m + 1) = 2 ^ m + 2 ^ m := by rw [Nat.pow_succ]; omega
    split
    · simp only [wgts, List.map_cons, List.sum_cons, wgt, startOf_app] at *
      rw [show n - (s + 1) = m by omega]
      omega
    · omega
theorem wgts_flat (n : Nat) (f : List Nat → List (List Nat)) (h : ∀ l, wgts n (f l) ≤ wgt n l) : ∀ ls, wgts n (ls.flatMap f) ≤ wgts n ls
  | [] => Nat.le_refl _
  | l :: ls => by
    have ih := wgts_flat n f h ls
    have := h l
    simp only [wgts, List.flatMap_cons, List.map_append, List.sum_append, List.map_cons, List.sum_cons] at *
    omega
theorem wgts_ext (nm : List Nat) (t : Nat) (l : List Nat) : wgts nm.length (extB nm t l) ≤ wgt nm.length l := by
  unfold extB wgt
  by_cases h : startOf l ≤ nm.length
  · have := wgt_ext nm.length (fun k => meetB t (nm.getD k 0)) l (nm.length - startOf l) (startOf l) (by omega)
    omega
  · rw [show nm.length - startOf l = 0 by omega]
    simp [wgts]
theorem wgts_lays (nm q : List Nat) : wgts nm.length (lays nm q) ≤ 2 ^ nm.length := by
  suffices h : ∀ (q : List Nat) (found : List (List Nat)), wgts nm.length (q.foldl (fun found t => found.flatMap (extB nm t)) found) ≤ wgts nm.length found by
    exact h q [[]]
  intro q
  induction q with
  | nil => intro f; exact Nat.le_refl _
  | cons t q ih => intro f; exact Nat.le_trans (ih _) (wgts_flat _ _ (wgts_ext nm t) f)
theorem lays_len (nm q : List Nat) : (lays nm q).length ≤ 2 ^ nm.length := Nat.le_trans (wgts_len _ _) (wgts_lays nm q)
theorem rangeD_seg (a b : Nat) : rangeD (a : Int) (b : Int) = (List.range' a (b - a)).map fun (k : Nat) => PyData.int (k : Int) := by
  unfold rangeD
  rw [show ((b : Int) - (a : Int)).toNat = b - a by omega, List.range'_eq_map_range, List.map_map]
  congr 1
theorem nats_shp (l : List Nat) : shp (nats l) = true := good_nats.shp (by decide) fun _ _ => trivial
theorem natss_shp (l : List (List Nat)) : shp (natss l) = true := good_natss.shp (by decide) fun _ _ _ _ => trivial
theorem last_at {l : List Nat} (h : l ≠ []) : atI (l.map fun (k : Nat) => PyData.int (k : Int)) (-1) = some (.int ((startOf l : Nat) - 1 : Int)) := by
  rw [atI_m1 _ (by simpa using h), List.getElem?_map, List.length_map]
  unfold startOf
  rw [List.getLast?_eq_getElem?]
  have hl := List.length_pos_iff.mpr h
  rw [List.getElem?_eq_getElem (by omega)]
  simp
theorem lays_snoc (nm q : List Nat) (t : Nat) : lays nm (q ++ [t]) = (lays nm q).flatMap (extB nm t) := by
  unfold lays
  rw [List.foldl_append]
  rfl
theorem lay_sum (nm q : List Nat) (t : Nat) : (lays nm (q ++ [t])).length ≤ 2 ^ nm.length := lays_len nm _
theorem lays_shape (nm : List Nat) : ∀ (q : List Nat) (found : List (List Nat)) (m : Nat), (∀ l ∈ found, l.length = m ∧ startOf l ≤ nm.length) → ∀ l ∈ q.foldl (fun found t => found.flatMap (extB nm t)) found, l.length = m + q.length ∧ startOf l ≤ nm.length
  | [], found, m, h => fun l hl => h l hl
  | t :: q, found, m, h => fun l hl => by
    have := lays_shape nm q (found.flatMap (extB nm t)) (m + 1) (fun l' hl' => by
      obtain ⟨l0, h0, h1⟩ := List.mem_flatMap.mp hl'
      obtain ⟨k, hk, rfl⟩ := List.mem_map.mp h1
      have hk := (List.mem_filter.mp hk).1
      rw [List.mem_range'_1] at hk
      rw [startOf_app, List.length_append, (h l0 h0).1]
      exact ⟨rfl, by omega⟩) l hl
    rw [List.length_cons]
    exact ⟨by omega, this.2⟩
def layB (nm : List Nat) : Nat → List Nat → List Nat → Bool
  | _, [], [] => true
  | s, t :: q, k :: l => decide (s ≤ k) && decide (k < nm.length) && meetB t (nm.getD k 0) && layB nm (k + 1) q l
  | _, _, _ => false
theorem mem_fold (nm : List Nat) (l : List Nat) : ∀ (q : List Nat) (found : List (List Nat)),
    l ∈ q.foldl (fun found t => found.flatMap (extB nm t)) found ↔ ∃ l0 ∈ found, ∃ r, l = l0 ++ r ∧ layB nm (startOf l0) q r = true
  | [], found => by
    constructor
    · intro h
      exact ⟨l, h, [], by rw [List.append_nil], rfl⟩
    · rintro ⟨l0, h, r, rfl, h2⟩
      cases r with
      | nil => rw [List.append_nil]; exact h
      | cons => cases h2
  | t :: q, found => by
    rw [List.foldl_cons, mem_fold nm l q]
    constructor
    · rintro ⟨l1, h1, r, rfl, h2⟩
      obtain ⟨l0, h0, h3⟩ := List.mem_flatMap.mp h1
      obtain ⟨k, hk, rfl⟩ := List.mem_map.mp h3
      obtain ⟨hk, hm⟩ := List.mem_filter.mp hk
      rw [List.mem_range'_1] at hk
      rw [startOf_app] at h2
      refine ⟨l0, h0, k :: r, by rw [List.append_assoc]; rfl, ?_⟩
      simp only [layB, h2, hm, decide_eq_true hk.1, decide_eq_true (show k < nm.length by omega), Bool.and_self]
    · rintro ⟨l0, h0, r, rfl, h2⟩
      cases r with
      | nil => cases h2
      | cons k r =>
        simp only [layB, Bool.and_eq_true, decide_eq_true_eq] at h2
        obtain ⟨⟨⟨h3, h4⟩, h5⟩, h6⟩ := h2
        refine ⟨l0 ++ [k], List.mem_flatMap.mpr ⟨l0, h0, List.mem_map.mpr ⟨k, List.mem_filter.mpr ⟨?_, h5⟩, rfl⟩⟩, r, by rw [List.append_assoc]; rfl, by rw [startOf_app]; exact h6⟩
        rw [List.mem_range'_1]
        omega
theorem mem_lays {nm q l : List Nat} : l ∈ lays nm q ↔ layB nm 0 q l = true := by
  unfold lays
  rw [mem_fold]
  constructor
  · rintro ⟨l0, h, r, rfl, h2⟩
    rw [List.mem_singleton.mp h] at h2 ⊢
    exact h2
  · intro h
    exact ⟨[], List.mem_singleton.mpr rfl, l, rfl, h⟩
def layDs (nm : List Nat) : Nat → List Nat → List D → Bool
  | _, [], [] => true
  | s, t :: q, .int k :: l => decide ((s : Int) ≤ k) && decide (k < (nm.length : Int)) && meetB t (nm.getD k.toNat 0) && layDs nm (k.toNat + 1) q l
  | _, _, _ => false
def layD (nm q : List Nat) : D → Bool
  | .list ds => layDs nm 0 q ds
  | _ => false
def isT (T : String) (d : D) : Bool := (kitB (tyN d) T).getD false
theorem isi_list (d : D) : isiD "list" d = some (.bool (match d with | .list _ => true | _ => false)) := by cases d <;> rfl
theorem isi_str (d : D) : isiD "str" d = some (.bool (match d with | .str _ => true | _ => false)) := by cases d <;> rfl
theorem isi_int (d : D) : isiD "int" d = some (.bool (match d with | .int _ => true | .bool _ => true | _ => false)) := by cases d <;> rfl
theorem isi_bool (d : D) : isiD "bool" d = some (.bool (match d with | .bool _ => true | _ => false)) := by cases d <;> rfl
theorem layDs_len (nm : List Nat) : ∀ (q : List Nat) (s : Nat) (ds : List D), layDs nm s q ds = true → ds.length = q.length
  | [], s, [], _ => rfl
  | [], s, _ :: _, h => by simp [layDs] at h
  | t :: q, s, [], h => by simp [layDs] at h
  | t :: q, s, d :: ds, h => by
    cases d with
    | int k =>
      simp only [layDs, Bool.and_eq_true] at h
      have := layDs_len nm q _ ds h.2
      rw [List.length_cons, List.length_cons, this]
    | _ => simp [layDs] at h
def okD (nm : List Nat) (s t : Nat) : D → Bool
  | .int k => decide ((s : Int) ≤ k) && decide (k < (nm.length : Int)) && meetB t (nm.getD k.toNat 0)
  | _ => false
def nxt : D → Nat
  | .int k => k.toNat + 1
  | _ => 0
theorem layDs_cons (nm : List Nat) (s t : Nat) (q : List Nat) (d : D) (ds : List D) : layDs nm s (t :: q) (d :: ds) = (okD nm s t d && layDs nm (nxt d) q ds) := by
  cases d <;> rfl
theorem layDs_iff (nm : List Nat) : ∀ (q : List Nat) (s : Nat) (ds : List D), layDs nm s q ds = true ↔ ∃ l : List Nat, ds = l.map (fun (k : Nat) => PyData.int (k : Int)) ∧ layB nm s q l = true
  | [], s, ds => by
    cases ds with
    | nil => exact ⟨fun _ => ⟨[], rfl, rfl⟩, fun _ => rfl⟩
    | cons d ds =>
      constructor
      · intro h; simp [layDs] at h
      · rintro ⟨l, h1, h2⟩
        cases l with
        | nil => cases h1
        | cons => simp [layB] at h2
  | t :: q, s, ds => by
    cases ds with
    | nil =>
      constructor
      · intro h; simp [layDs] at h
      · rintro ⟨l, h1, h2⟩
        cases l with
        | nil => simp [layB] at h2
        | cons => cases h1
    | cons d ds =>
      constructor
      · intro h
        rw [layDs_cons, Bool.and_eq_true] at h
        obtain ⟨h1, h2⟩ := h
        cases d with
        | int k =>
          simp only [okD, Bool.and_eq_true, decide_eq_true_eq] at h1
          obtain ⟨l, rfl, h3⟩ := (layDs_iff nm q (nxt (.int k)) ds).mp h2
          obtain ⟨n, rfl⟩ := Int.eq_ofNat_of_zero_le (show 0 ≤ k by omega)
          simp only [Int.toNat_natCast] at h1
          refine ⟨n :: l, rfl, ?_⟩
          simp only [layB, Bool.and_eq_true, decide_eq_true_eq]
          exact ⟨⟨⟨by omega, by omega⟩, h1.2⟩, h3⟩
        | _ => simp [okD] at h1
      · rintro ⟨l, h1, h2⟩
        cases l with
        | nil => cases h1
        | cons k l =>
          cases h1
          simp only [layB, Bool.and_eq_true, decide_eq_true_eq] at h2
          obtain ⟨⟨⟨h3, h4⟩, h5⟩, h6⟩ := h2
          rw [layDs_cons, Bool.and_eq_true]
          refine ⟨?_, (layDs_iff nm q _ _).mpr ⟨l, rfl, h6⟩⟩
          simp only [okD, Bool.and_eq_true, decide_eq_true_eq, Int.toNat_natCast]
          exact ⟨⟨by omega, by omega⟩, h5⟩
def isIn : D → Bool
  | .int _ => true
  | _ => false
theorem eqv_ints : ∀ (ds : List D) (l : List Nat), ds.all isIn = true → (PyData.eqvAll (l.map (fun (k : Nat) => PyData.int (k : Int))) ds = true ↔ ds = l.map (fun (k : Nat) => PyData.int (k : Int)))
  | [], [], _ => ⟨fun _ => rfl, fun _ => rfl⟩
  | [], _ :: _, _ => ⟨fun h => (by simp [PyData.eqvAll] at h), fun h => by cases h⟩
  | _ :: _, [], _ => ⟨fun h => (by simp [PyData.eqvAll] at h), fun h => by cases h⟩
  | d :: ds, k :: l, h => by
    rw [List.all_cons, Bool.and_eq_true] at h
    have ih := eqv_ints ds l h.2
    cases d with
    | int i =>
      simp only [List.map_cons, PyData.eqvAll, PyData.eqv, Bool.and_eq_true, ih, beq_iff_eq, List.cons.injEq, PyData.int.injEq]
      constructor
      · rintro ⟨a, b⟩; exact ⟨a.symm, b⟩
      · rintro ⟨a, b⟩; exact ⟨a.symm, b⟩
    | _ => simp [isIn] at h
theorem layAll_filter (p : D → Bool) : ∀ (ds : List D), PyData.canLayAll0 ds = true → PyData.canLayAll0 (ds.filter p) = true ∧ PyData.depthAll (ds.filter p) ≤ PyData.depthAll ds
  | [], _ => ⟨rfl, Nat.le_refl _⟩
  | d :: ds, h => by
    rw [PyData.canLayAll0, Bool.and_eq_true] at h
    obtain ⟨h1, h2⟩ := layAll_filter p ds h.2
    rw [List.filter_cons]
    split
    · simp only [PyData.canLayAll0, h.1, h1, Bool.and_self, PyData.depthAll]
      exact ⟨trivial, by omega⟩
    · exact ⟨h1, by simp only [PyData.depthAll]; omega⟩
theorem shp_filter (p : D → Bool) {ds : List D} (h : shp (.list ds) = true) : shp (.list (ds.filter p)) = true := by
  have h0 := shp_lay h
  have h1 : (PyData.list ds).depth ≤ 64 := by
    unfold shp SeqAt.shaped at h
    rw [Bool.and_eq_true, decide_eq_true_eq] at h
    exact h.2
  rw [PyData.canLay0] at h0
  obtain ⟨h2, h3⟩ := layAll_filter p ds h0
  simp only [PyData.depth] at h1
  exact shp_of ⟨by rw [PyData.canLay0]; exact h2, by simp only [PyData.depth]; omega⟩
def thing (d : D) : Bool := shp d && (match d with | .str x => decide (x.length ≤ 1000) | .list ds => decide (ds.length ≤ 1000) | _ => true)
def oddB (d : D) : Bool := !isIn d
theorem layDs_ints (nm q : List Nat) (s : Nat) (ds : List D) (h : layDs nm s q ds = true) : ds.all isIn = true := by
  obtain ⟨l, rfl, _⟩ := (layDs_iff nm q s ds).mp h
  simp [isIn]
def ofB (z : List Nat) (lo hi : Int) : D → Bool
  | .str x => decide (lo ≤ x.length) && decide ((x.length : Int) ≤ hi) && x.cps.toList.all fun c => decide (c ∈ z)
  | _ => false
theorem bools_map {α : Type} (b : α → Bool) : ∀ xs : List α, bools (xs.map fun x => PyData.bool (b x)) = some (xs.map b)
  | [] => rfl
  | x :: xs => by
    show (bools (xs.map fun x => PyData.bool (b x))).map _ = _
    rw [bools_map b xs]
    rfl
def figs : List Nat := [48, 49, 50, 51, 52, 53, 54, 55, 56, 57]
theorem str_figs : (Str.ofString "0123456789") = S figs := by decide +kernel
theorem str_letters : (Str.ofString "abcdefghijklmnopqrstuvwxyzABCDEFGHIJKLMNOPQRSTUVWXYZ0123456789") = S letters := by decide +kernel
theorem letters_eq : smallL ++ greatL ++ figs = letters := by decide +kernel
theorem letters_eq2 : smallL ++ (greatL ++ figs) = letters := by decide +kernel
theorem letters_eq3 : smallL ++ (greatL ++ (figs ++ marks)) = letters ++ marks := by decide +kernel
end Pf
namespace FF
open PySem L2
theorem forL_mem {g : MTg} {b : MSt} (st : Env → Prop) (xs : List D) (ρ : Env) (h0 : st ρ)
    (hs : ∀ d ∈ xs, ∀ ρ, st ρ → ∃ ρ1 ρ2, g d ρ = .ok ρ1 ∧ (b ρ1 = .next ρ2 ∨ b ρ1 = .cont ρ2) ∧ st ρ2) : ∃ ρ', forL g b xs ρ = .next ρ' ∧ st ρ' := by
  obtain ⟨ρ', h1, h2⟩ := forL_ix (g := g) (b := b) (fun _ => st) xs ρ 0 h0 fun i d ρ e q => hs d (List.mem_of_getElem? e) ρ q
  exact ⟨ρ', h1, h2⟩
theorem mulD_S {a : List Nat} {n : Nat} (h1 : a.length * n ≤ 1000000) (h2 : n < 1000000) : mulD (tx a) (.int (n : Int)) = some (tx (List.replicate n a).flatten) := by
  have e : PySem.Txt.mul (S a) n = S (List.replicate n a).flatten := by
    unfold PySem.Txt.mul
    have fl : ∀ (n : Nat) (acc : Array Nat), (List.replicate n (S a).cps).foldl (· ++ ·) acc = acc ++ (List.replicate n a).flatten.toArray := by
      intro n
      induction n with
      | zero => intro acc; simp
      | succ n ih =>
        intro acc
        rw [List.replicate_succ, List.foldl_cons, ih, List.replicate_succ, List.flatten_cons]
        show acc ++ a.toArray ++ _ = _
        simp
    split <;> rename_i h3
    · have : n = 0 := by omega
      subst this
      rfl
    · split <;> rename_i h4
      · rw [Bool.or_eq_true, beq_iff_eq, beq_iff_eq, S_len] at h4
        rcases h4 with h4 | h4
        · have : n = 1 := by omega
          subst this
          simp
        · rw [List.length_eq_zero_iff.mp h4]
          simp
      · rw [Int.toNat_natCast, fl]
        simp [S]
  unfold mulD
  simp only [S_len, Int.toNat_natCast, e, h1, decide_true, Bool.and_true]
  rw [decide_eq_true (by omega), decide_eq_true (by omega)]
  rfl
end FF
namespace Pf
open PySem L2 FF
theorem thing_tx {l : List Nat} (h : Cps l) (h2 : l.length ≤ 1000) : thing (tx l) = true := by
  unfold thing
  rw [good_tx.shp (by decide) h]
  simpa using h2
theorem lay_ints : ∀ ds : List D, ds.all isIn = true → PyData.canLayAll0 ds = true ∧ PyData.depthAll ds ≤ 0
  | [], _ => ⟨rfl, Nat.le_refl _⟩
  | d :: ds, h => by
    rw [List.all_cons, Bool.and_eq_true] at h
    obtain ⟨h1, h2⟩ := lay_ints ds h.2
    cases d with
    | int i => exact ⟨by simp [PyData.canLayAll0, PyData.canLay0, h1], by simp only [PyData.depthAll, PyData.depth]; omega⟩
    | _ => simp [isIn] at h
theorem thing_ints {ds : List D} (h : ds.all isIn = true) (h2 : ds.length ≤ 1000) : thing (.list ds) = true := by
  obtain ⟨h3, h4⟩ := lay_ints ds h
  unfold thing
  rw [shp_of ⟨by rw [PyData.canLay0]; exact h3, by simp only [PyData.depth]; omega⟩]
  simpa using h2
theorem thing_tup {ds : List D} (h : ds.all isIn = true) : thing (.tuple ds) = true := by
  obtain ⟨h3, h4⟩ := lay_ints ds h
  unfold thing
  rw [shp_of ⟨by rw [PyData.canLay0]; exact h3, by simp only [PyData.depth]; omega⟩]
  rfl
end Pf

namespace Pf
open PySem L2 FF
theorem spec_law_cell {ns : List Int} (hl : ns.length ≤ 63) (k : Nat) : f_law_cell [sc ns, .int k] = .ok (.int (cellN ns k)) := by
  have h1 := shp_sc ns
  cases hn : ns with
  | nil => 
    simp [f_law_cell, fnM, m_law_cell, sSeq_a, lim, eqD_nil, mulD_lit, cellN, show shp (PyData.list []) = true from rfl]
  | cons a r =>
    rw [← hn]
    have hne : ns ≠ [] := by rw [hn]; simp
    have hlen : 0 < ns.length := List.length_pos_iff.mpr hne
    have hlt : k % ns.length < ns.length := Nat.mod_lt _ hlen
    have e1 : modD (.int (k : Int)) (.int (ns.length : Int)) = some (.int ((k : Int) % (ns.length : Int))) := modD_i (by omega)
    have e2 : fdivD (.int (k : Int)) (.int (ns.length : Int)) = some (.int ((k : Int) / (ns.length : Int))) := fdivD_i (by omega)
    have e3 : atI (ns.map PyData.int) ((k : Int) % (ns.length : Int)) = some (.int (ns.getD (k % ns.length) 0)) := by
      rw [← Int.natCast_emod, atI_nat', List.getElem?_map, List.getElem?_eq_getElem hlt, List.getD_eq_getElem?_getD, List.getElem?_eq_getElem hlt]
      rfl
    simp [f_law_cell, fnM, m_law_cell, sSeq_a, lim, eqD_nil h1, hne, e1, e2, e3, mulD_lit, cellN, List.getD_eq_getElem?_getD]
theorem spec_law_drawn {ns : List Int} (hl : ns.length ≤ 63) (k : Nat) {m : Nat} (hm : 0 < m) : f_law_drawn [sc ns, .int k, .int m] = .ok (.int (drawn ns k m)) := by
  have h1 := spec_law_cell hl k
  have e : modD (.int (drawZ ns k)) (.int (m : Int)) = some (.int (drawn ns k m)) := by rw [modD_i (by omega), drawn_cast ns k hm]
  unfold drawZ at e
  simp [f_law_drawn, fnM, m_law_drawn, sSeq_a, h1, modD_i, fdivD_i, mulD_mod, mulD_lit, e]
theorem drawn_i {ns : List Int} (hl : ns.length ≤ 63) {z mz : Int} {k m : Nat} (hz : z = k) (hm : mz = m) (h : 0 < m) : f_law_drawn [sc ns, .int z, .int mz] = .ok (.int (drawn ns k m)) := by
  rw [hz, hm]
  exact spec_law_drawn hl k h
theorem name_turn {ns : List Int} (hl : ns.length ≤ 63) (at_ i : Nat) (h5 : i ≤ 1000) (x : Sl) : sSet 2 (eBin addD (eVar 2) (eBin ixD (eC (.str "abcabABCab1_-./xyz")) (eFn f_law_drawn (aCons (eVar 0) (aCons (eBin addD (eBin addD (eVar 1) (eC (.int 1))) (eVar 3)) (aCons (eC (.int 18)) (aNil)))))))
    [.val (sc ns), .val (.int at_), .val (tx (nameTo ns at_ i)), .val (.int i)] = .next [.val (sc ns), .val (.int at_), .val (tx (nameTo ns at_ (i + 1))), .val (.int i)] := by
  have h2 := spec_law_drawn hl (at_ + 1 + i) (m := 18) (by decide)
  have h3 := drawn_lt ns (at_ + 1 + i) (m := 18) (by decide)
  have h4 := at_lit pool 0 (show drawn ns (at_ + 1 + i) 18 < pool.length from h3)
  push_cast at h2
  rw [nameTo_succ]
  simp [str_pool, h2, h4, lm_ok, nameTo_len, show pool.length ≤ 1000000 by simp [pool], show i + 1 ≤ 1000000 by omega]
theorem name_loop {ns : List Int} (hl : ns.length ≤ 63) (at_ : Nat) : ∃ x, forL (gN 3) (sSet 2 (eBin addD (eVar 2) (eBin ixD (eC (.str "abcabABCab1_-./xyz")) (eFn f_law_drawn (aCons (eVar 0) (aCons (eBin addD (eBin addD (eVar 1) (eC (.int 1))) (eVar 3)) (aCons (eC (.int 18)) (aNil)))))))) (natsD (1 + drawn ns at_ 10))
    [.val (sc ns), .val (.int at_), .val (tx []), .no] = .next [.val (sc ns), .val (.int at_), .val (tx (nameTo ns at_ (1 + drawn ns at_ 10))), x] := by
  have h4 := drawn_lt ns at_ (m := 10) (by decide)
  obtain ⟨ρ', h2, x, rfl⟩ := forL_nats (g := gN 3) (b := sSet 2 (eBin addD (eVar 2) (eBin ixD (eC (.str "abcabABCab1_-./xyz")) (eFn f_law_drawn (aCons (eVar 0) (aCons (eBin addD (eBin addD (eVar 1) (eC (.int 1))) (eVar 3)) (aCons (eC (.int 18)) (aNil))))))))
    (fun i ρ => ∃ x, ρ = [.val (sc ns), .val (.int at_), .val (tx (nameTo ns at_ i)), x]) (1 + drawn ns at_ 10) [.val (sc ns), .val (.int at_), .val (tx []), .no] ⟨.no, rfl⟩ (by
      rintro i ρ hi ⟨x, rfl⟩
      exact ⟨_, _, rfl, .inl (name_turn hl at_ i (by omega) x), _, rfl⟩)
  exact ⟨x, h2⟩
theorem spec_law_name {ns : List Int} (hl : ns.length ≤ 63) (at_ : Nat) : f_law_name [sc ns, .int at_] = .ok (tx (nameN ns at_)) := by
  have h1 := spec_law_drawn hl at_ (m := 10) (by decide)
  have h4 := drawn_lt ns at_ (m := 10) (by decide)
  obtain ⟨x, h2⟩ := name_loop hl at_
  have h5 := rangeD_nat (1 + drawn ns at_ 10)
  push_cast at h1 h5
  simp [f_law_name, fnM, m_law_name, sSeq_a, h1, rng1_ok (n := 1 + (drawn ns at_ 10 : Int)) (by omega), h5, str_nil, h2, nameN]
end Pf

namespace FF
open PySem L2
theorem sApp_a {i : Nat} {p : Env → R D} {ρ : Env} {ds : List D} {d : D} (e : ρ[i]? = some (.own ds)) (h : p ρ = .ok d) (hl : ds.length ≤ 1000000) : sApp i p ρ = .next (ρ.set i (.own (ds ++ [d]))) := by
  unfold sApp
  rw [e]
  show liftS ρ (p ρ) _ = _
  rw [h, liftS_ok', if_pos hl]
theorem sPut_a {i n : Nat} {p j : Env → R D} {ρ : Env} {ds : List D} {d : D} {k : Int} (e : ρ[i]? = some (.own ds)) (h : p ρ = .ok d) (hj : j ρ = .ok (.int k)) (hk : k = n) (hn : n < ds.length) : sPut i j p ρ = .next (ρ.set i (.own (ds.set n d))) := by
  unfold sPut
  rw [h, liftS_ok', e]
  show liftS ρ (j ρ) _ = _
  rw [hj, liftS_ok']
  have : ixNat ds.length (.int k) = some n := by
    subst hk
    show ixN ds.length (n : Int) = some n
    unfold ixN
    rw [if_pos (by omega), if_pos (by omega)]
    simp
  rw [this]
theorem repD_l {xs : List D} {n : Nat} (h : xs.length * n ≤ 1000000) (h2 : n < 1000000) : repD (.list xs) (.int (n : Int)) = some (.list (List.replicate n xs).flatten) := by
  unfold repD
  simp only [Int.toNat_natCast, h, decide_true, Bool.and_true]
  rw [decide_eq_true (by omega), decide_eq_true (by omega)]
  rfl
theorem lrg1_n {n : Nat} (h : n ≤ 1000000) : lrg1 (.int (n : Int)) = some (.list (natsD n)) := by
  unfold lrg1 lrg small62
  simp only []
  rw [rangeD_nat, decide_eq_true (by omega), decide_eq_true (by omega), decide_eq_true (by omega), decide_eq_true (by omega), decide_eq_true (by omega)]
  rfl
end FF
namespace Pf
open PySem L2 FF
/-! ### the first laying -/
def firstL : Nat → List Nat → List Nat → Option (List Nat)
  | _, [], _ => some []
  | _, _ :: _, [] => none
  | p, t :: q, s :: n => if meetB t s then (firstL (p + 1) q n).map (p :: ·) else firstL (p + 1) (t :: q) n
theorem firstL_nil (p : Nat) (n : List Nat) : firstL p [] n = some [] := by cases n <;> rfl
theorem firstL_ix (t : Nat) (q : List Nat) : ∀ (n : List Nat) (p : Nat), firstL p (t :: q) n = if n.findIdx (meetB t) = n.length then none else (firstL (p + n.findIdx (meetB t) + 1) q (n.drop (n.findIdx (meetB t) + 1))).map ((p + n.findIdx (meetB t)) :: ·)
  | [], p => rfl
  | s :: n, p => by
    rw [List.findIdx_cons]
    cases h : meetB t s with
    | true => simp [firstL, h]
    | false =>
      have ih := firstL_ix t q n (p + 1)
      simp only [firstL, h, ih, cond_false, List.length_cons, List.drop_succ_cons, Bool.false_eq_true, if_false]
      have e : p + 1 + List.findIdx (meetB t) n = p + (List.findIdx (meetB t) n + 1) := by omega
      rw [e]
      by_cases hz : List.findIdx (meetB t) n = n.length
      · rw [if_pos hz, if_pos (by omega)]
      · rw [if_neg hz, if_neg (by omega)]
theorem firstL_len : ∀ (n q : List Nat) (p : Nat) (l : List Nat), firstL p q n = some l → l.length = q.length
  | n, [], p, l, h => by rw [firstL_nil] at h; cases h; rfl
  | [], _ :: _, p, l, h => by cases h
  | s :: n, t :: q, p, l, h => by
    rw [firstL] at h
    split at h
    · obtain ⟨l', h1, rfl⟩ := Option.map_eq_some_iff.mp h
      rw [List.length_cons, List.length_cons, firstL_len n q _ l' h1]
    · exact firstL_len n (t :: q) _ l h
/-- it is a laying -/
theorem firstL_lay (nm : List Nat) : ∀ (n q : List Nat) (p : Nat) (l : List Nat), nm.drop p = n → firstL p q n = some l → layB nm p q l = true
  | n, [], p, l, hn, h => by rw [firstL_nil] at h; cases h; rfl
  | [], _ :: _, p, l, hn, h => by cases h
  | s :: n, t :: q, p, l, hn, h => by
    have hp : p < nm.length := by
      rcases Nat.lt_or_ge p nm.length with h | h
      · exact h
      · rw [List.drop_of_length_le h] at hn; cases hn
    have hd := List.drop_eq_getElem_cons hp
    rw [hn] at hd
    cases hd
    rw [firstL] at h
    split at h
    · rename_i hm
      obtain ⟨l', h1, rfl⟩ := Option.map_eq_some_iff.mp h
      have := firstL_lay nm _ q (p + 1) l' rfl h1
      simp only [layB, this, Bool.and_true, decide_true, Bool.true_and]
      rw [List.getD_eq_getElem?_getD, List.getElem?_eq_getElem hp]
      simp [hm, hp]
    · have h3 := firstL_lay nm _ (t :: q) (p + 1) l rfl h
      cases l with
      | nil => simp [layB] at h3
      | cons k l =>
        simp only [layB, Bool.and_eq_true, decide_eq_true_eq] at h3 ⊢
        exact ⟨⟨⟨by omega, h3.1.1.2⟩, h3.1.2⟩, h3.2⟩
def fitG : List Nat → List Nat → Bool
  | [], _ => true
  | _ :: _, [] => false
  | t :: q, s :: n => if meetB t s then fitG q n else fitG (t :: q) n
theorem fitG_nil (n : List Nat) : fitG [] n = true := by cases n <;> rfl
theorem firstL_some : ∀ (n q : List Nat) (p : Nat), (firstL p q n).isSome = fitG q n
  | n, [], p => by rw [firstL_nil, fitG_nil]; rfl
  | [], _ :: _, p => rfl
  | s :: n, t :: q, p => by
    rw [firstL, fitG]
    split
    · rw [Option.isSome_map]
      exact firstL_some n q _
    · exact firstL_some n (t :: q) _
theorem fitG_both : ∀ n : List Nat, (∀ q s, fitG q n = true → fitG q (s :: n) = true) ∧ (∀ t q, fitG (t :: q) n = true → fitG q n = true) := by
  intro n
  have fin : ∀ n : List Nat, (∀ t q, fitG (t :: q) n = true → fitG q n = true) → (∀ q s, fitG q n = true → fitG q (s :: n) = true) := by
    intro n h q s hq
    cases q with
    | nil => rw [fitG_nil]
    | cons t q =>
      rw [fitG]
      split
      · exact h t q hq
      · exact hq
  induction n with
  | nil =>
    have : ∀ t q, fitG (t :: q) [] = true → fitG q [] = true := fun t q h => by cases h
    exact ⟨fin [] this, this⟩
  | cons s n ih =>
    have : ∀ t q, fitG (t :: q) (s :: n) = true → fitG q (s :: n) = true := fun t q h => by
      rw [fitG] at h
      split at h
      · exact ih.1 q s h
      · exact ih.1 q s (ih.2 t q h)
    exact ⟨fin _ this, this⟩
/-- what is made of some of the signs fits -/
theorem fitG_sub {f : Nat → Nat} {l n : List Nat} (h : l.Sublist n) (hf : ∀ c ∈ l, meetB (f c) c = true) : fitG (l.map f) n = true := by
  induction h with
  | slnil => rfl
  | cons a h ih => exact (fitG_both _).1 _ a (ih hf)
  | cons_cons a h ih =>
    rw [List.map_cons, fitG, if_pos (hf a List.mem_cons_self)]
    exact ih fun c hc => hf c (List.mem_cons_of_mem _ hc)
/-! ### how many -/
/-- of texts turned about -/
def hmR : List Nat → List Nat → Nat
  | [], _ => 1
  | _ :: _, [] => 0
  | t :: q, s :: n => hmR (t :: q) n + if meetB t s then hmR q n else 0
theorem hmR_nil (n : List Nat) : hmR [] n = 1 := by cases n <;> rfl
/-- so many layings -/
def hm (nm q : List Nat) : Nat := hmR q.reverse nm.reverse
theorem hmR_le : ∀ (n q : List Nat), hmR q n ≤ 2 ^ n.length
  | n, [] => by rw [hmR_nil]; exact Nat.one_le_two_pow
  | [], _ :: _ => by simp [hmR]
  | s :: n, t :: q => by
    have h1 := hmR_le n (t :: q)
    have h2 := hmR_le n q
    rw [hmR, List.length_cons, Nat.pow_succ]
    split <;> omega
theorem hm_le (nm q : List Nat) : hm nm q ≤ 2 ^ nm.length := by
  have := hmR_le nm.reverse q.reverse
  rwa [List.length_reverse] at this
theorem hmR_mono {f g : Nat → Nat} : ∀ (n q : List Nat), (∀ t ∈ q, ∀ s ∈ n, meetB t s = true → meetB (f t) (g s) = true) → hmR q n ≤ hmR (q.map f) (n.map g)
  | n, [], _ => by rw [hmR_nil]; simp [hmR_nil]
  | [], _ :: _, _ => by simp [hmR]
  | s :: n, t :: q, h => by
    have h1 := hmR_mono n (t :: q) fun a ha b hb => h a ha b (List.mem_cons_of_mem _ hb)
    have h2 := hmR_mono n q fun a ha b hb => h a (List.mem_cons_of_mem _ ha) b (List.mem_cons_of_mem _ hb)
    have h3 := h t List.mem_cons_self s List.mem_cons_self
    simp only [List.map_cons, hmR] at h1 ⊢
    by_cases hm : meetB t s = true
    · rw [if_pos hm, if_pos (h3 hm)]
      omega
    · rw [if_neg hm]
      omega
theorem hmR_same {f g : Nat → Nat} : ∀ (n q : List Nat), (∀ t ∈ q, ∀ s ∈ n, meetB t s = meetB (f t) (g s)) → hmR q n = hmR (q.map f) (n.map g)
  | n, [], _ => by rw [hmR_nil]; simp [hmR_nil]
  | [], _ :: _, _ => by simp [hmR]
  | s :: n, t :: q, h => by
    have h1 := hmR_same n (t :: q) fun a ha b hb => h a ha b (List.mem_cons_of_mem _ hb)
    have h2 := hmR_same n q fun a ha b hb => h a (List.mem_cons_of_mem _ ha) b (List.mem_cons_of_mem _ hb)
    have h3 := h t List.mem_cons_self s List.mem_cons_self
    simp only [List.map_cons, hmR] at h1 ⊢
    rw [h1, h2, h3]
end Pf

namespace FF
open PySem L2
theorem joinS : ∀ ls : List (List Nat), Txt.join (S []) (ls.map S) = S ls.flatten := by
  intro ls
  unfold Txt.join
  rw [StrLaws.glued_eq_join]
  induction ls with
  | nil => rfl
  | cons x r ih =>
    cases r with
    | nil => simp [Str.join]
    | cons y r =>
      rw [List.map_cons, List.map_cons] at *
      show S x ++ S [] ++ Str.join (S []) (S y :: List.map S r) = _
      rw [ih]
      simp
theorem strs_map {α : Type} (f : α → Str) : ∀ ls : List α, strs' (ls.map fun x => PyData.str (f x)) = some (ls.map f)
  | [] => rfl
  | x :: ls => by
    show (strs' (ls.map fun x => PyData.str (f x))).map _ = _
    rw [strs_map f ls]
    rfl
theorem joinD_S {ls : List (List Nat)} (h : ls.flatten.length ≤ 1000000) : joinD (tx []) [.list (ls.map tx)] = some (tx ls.flatten) := by
  show (match strs' (ls.map fun x => PyData.str (S x)) with
    | some ys => if (ys.map Str.length).sum + ys.length * (S []).length ≤ 1000000 then some (PyData.str (Txt.join (S []) ys)) else none
    | none => none) = _
  rw [strs_map]
  show (if ((ls.map S).map Str.length).sum + (ls.map S).length * (S []).length ≤ 1000000 then some (PyData.str (Txt.join (S []) (ls.map S))) else none) = _
  rw [joinS, if_pos]
  rw [S_len, List.length_nil, Nat.mul_zero, Nat.add_zero, List.map_map]
  rw [List.length_flatten] at h
  have e : (ls.map (Str.length ∘ S)).sum = (ls.map List.length).sum := by
    congr 1
  rw [e]
  exact h
theorem joinD_1 {l : List Nat} (h : l.length ≤ 1000000) : joinD (tx []) [.list (l.map fun c => tx [c])] = some (tx l) := by
  have e : (l.map fun c => [c]).flatten = l := by
    induction l with
    | nil => rfl
    | cons c l ih =>
      rw [List.map_cons, List.flatten_cons, ih (by rw [List.length_cons] at h; omega)]
      rfl
  have := joinD_S (ls := l.map fun c => [c]) (by rw [e]; exact h)
  rw [e, List.map_map] at this
  exact this
end FF

namespace Pf
open PySem L2 FF
theorem spec_is_of {z : List Nat} {lo hi : Int} {d : D} (hd : thing d = true) : f_is_of [d, tx z, .int lo, .int hi] = .ok (.bool (ofB z lo hi d)) := by
  cases d with
  | str x =>
    unfold thing at hd
    rw [Bool.and_eq_true, decide_eq_true_eq] at hd
    obtain ⟨h1, h2⟩ := hd
    have hx : PyData.str x = tx x.cps.toList := by show _ = PyData.str (S x.cps.toList); rw [S_of]
    have hlen : x.length = x.cps.toList.length := by simp [Str.length]
    have h3 := compL_map (g := gN 4) (t := tYesM) (e := eBin inD (eVar 4) (eVar 1)) (ρ0 := [.val (tx x.cps.toList), .val (tx z), .val (.int lo), .val (.int hi), .no]) (fun c => tx [c]) (fun c => .bool (decide (c ∈ z))) x.cps.toList (fun x _ => ⟨_, rfl, rfl, by simp⟩)
    rw [hlen] at h2
    simp only [hx, ofB, hlen]
    by_cases h5 : lo ≤ (x.cps.toList.length : Int)
    · by_cases h6 : (x.cps.toList.length : Int) ≤ hi
      · simp [-Array.length_toList, f_is_of, fnM, m_is_of, sSeq_a, isi_str, lm_ok, wipeE, show x.cps.toList.length ≤ 1000000 by omega, h3, h5, h6, allD, bools_map]
      · simp [-Array.length_toList, f_is_of, fnM, m_is_of, sSeq_a, isi_str, lm_ok, wipeE, show x.cps.toList.length ≤ 1000000 by omega, h5, h6]
    · simp [-Array.length_toList, f_is_of, fnM, m_is_of, sSeq_a, isi_str, lm_ok, wipeE, show x.cps.toList.length ≤ 1000000 by omega, h5]
  | _ => simp [f_is_of, fnM, m_is_of, isi_str, ofB]
end Pf

namespace Pf
open PySem L2 FF
theorem spec_is_name {d : D} (hd : thing d = true) : f_is_name [d] = .ok (.bool (ofB (letters ++ marks) 1 24 d)) := by
  have h := spec_is_of (z := letters ++ marks) (lo := 1) (hi := 24) hd
  rw [← letters_eq3] at h ⊢
  simp [f_is_name, fnM, m_is_name, str_small, str_great, str_figs, str_marks, lm_ok, show smallL.length = 26 from rfl, show greatL.length = 26 from rfl, show figs.length = 10 from rfl, show marks.length = 4 from rfl, h]
end Pf

namespace Pf
open PySem L2 FF
theorem seq_nx' {m n : MSt} {ρ ρ' : FF.Env} (h : m ρ = .next ρ') : sSeq m n ρ = n ρ' := by rw [sSeq_a, h]
structure NamesOk (L : List (List Nat)) (most : Nat) : Prop where
  len : L.length ≤ most
  pool : ∀ x ∈ L, PoolOk x
  one : ∀ x ∈ L, 1 ≤ x.length
  ten : ∀ x ∈ L, x.length ≤ 10
theorem spec_law_names {ns : List Int} (hl : ns.length ≤ 63) (at_ most : Nat) (hm : most ≤ 900) : ∃ L, f_law_names [sc ns, .int at_, .int most] = .ok (.list (L.map tx)) ∧ NamesOk L most := by
  have d0 := drawn_i hl (z := (at_ : Int)) (mz := (most : Int) + 1) (k := at_) (m := most + 1) rfl (by omega) (by omega)
  have hlt := drawn_lt ns at_ (m := most + 1) (by omega)
  generalize drawn ns at_ (most + 1) = m at *
  have c1 := compL_map (g := gN 4) (t := tYesM) (e := eFn f_law_name (aCons (eVar 0) (aCons (eBin addD (eBin addD (eVar 1) (eC (.int 1))) (eBin mulD (eC (.int 12)) (eVar 4))) (aNil)))) (ρ0 := [.val (sc ns), .val (.int at_), .val (.int most), .no, .no]) (fun (i : Nat) => PyData.int (i : Int)) (fun i => tx (nameN ns (at_ + 1 + 12 * i))) (List.range m) (fun i _ => by
    have e1 : mulD (.int 12) (.int (i : Int)) = some (.int (12 * (i : Int))) := mulD_lit (by decide)
    have e2 := spec_law_name hl (at_ + 1 + 12 * i)
    push_cast at e2
    exact ⟨_, rfl, rfl, by simp [e1, e2]⟩)
  have e2 : rng1 [.int (m : Int)] = some ((List.range m).map fun (i : Nat) => PyData.int (i : Int)) := by
    rw [rng1_ok (by omega), rangeD_nat]
    rfl
  have hall : ∀ x ∈ (List.range m).map (fun i => nameN ns (at_ + 1 + 12 * i)), PoolOk x ∧ 1 ≤ x.length ∧ x.length ≤ 10 := fun x hx => by
    obtain ⟨i, _, rfl⟩ := List.mem_map.mp hx
    have := nameN_len ns (at_ + 1 + 12 * i)
    exact ⟨nameTo_pool ns _ _, this.1, this.2⟩
  have hml : ((List.range m).map (fun i => nameN ns (at_ + 1 + 12 * i))).length = m := by rw [List.length_map, List.length_range]
  have c2 : (List.range m).map (fun i => tx (nameN ns (at_ + 1 + 12 * i))) = ((List.range m).map (fun i => nameN ns (at_ + 1 + 12 * i))).map tx := by rw [List.map_map]; rfl
  rw [c2] at c1
  generalize (List.range m).map (fun i => nameN ns (at_ + 1 + 12 * i)) = l at *
  obtain ⟨L, hL, hLok⟩ : ∃ L : List (List Nat), (sIf (tAndM (tVal (eBin gtD (eLenO 3) (eC (.int 1)))) (tVal (eBin eqD (eFn f_law_drawn (aCons (eVar 0) (aCons (eBin addD (eVar 1) (eC (.int 12))) (aCons (eC (.int 5)) (aNil))))) (eC (.int 0))))) (sPut 3 (eC (.int 0)) (eIxO 3 (eUn negD (eC (.int 1))))) (sNext)) [.val (sc ns), .val (.int at_), .val (.int most), .own (l.map tx), .no] = .next [.val (sc ns), .val (.int at_), .val (.int most), .own (L.map tx), .no] ∧ (L.length = l.length ∧ ∀ x ∈ L, x ∈ l) := by
    have hlen : eLenO 3 [.val (sc ns), .val (.int at_), .val (.int most), .own (l.map tx), .no] = .ok (.int l.length) := by
      show R.ok (PyData.int ((l.map tx).length : Nat)) = _
      rw [List.length_map]
    have d1 := drawn_i hl (z := (at_ : Int) + 12) (mz := 5) (k := at_ + 12) (m := 5) (by push_cast; rfl) rfl (by decide)
    by_cases h1 : (1 : Int) < l.length
    · by_cases h2 : drawn ns (at_ + 12) 5 = 0
      · have hne : l ≠ [] := fun z => by rw [z] at h1; simp at h1
        refine ⟨l.set 0 (l.getLast hne), ?_, by rw [List.length_set], fun x hx => ?_⟩
        · rw [h2] at d1
          have h3 : (sPut 3 (eC (.int 0)) (eIxO 3 (eUn negD (eC (.int 1))))) [.val (sc ns), .val (.int at_), .val (.int most), .own (l.map tx), .no] = .next ([.val (sc ns), .val (.int at_), .val (.int most), .own (l.map tx), .no].set 3 (.own ((l.map tx).set 0 (tx (l.getLast hne))))) := by
            refine sPut_a (k := 0) (n := 0) rfl ?_ rfl rfl (by rw [List.length_map]; omega)
            show lft (atI (l.map tx) (-1)) = _
            rw [atI_m1 _ (by simpa using hne), List.getElem?_map, List.length_map, List.getLast_eq_getElem, List.getElem?_eq_getElem (by have := List.length_pos_iff.mpr hne; omega)]
            rfl
          rw [← List.map_set] at h3
          simp only [sIf_a, tAndM_a, tVal_a, eBin_a, hlen, bind_ok', eC_a, gtD_i, lft_some', boolOf_a, liftS_ok', h1, decide_true, if_true, eFn_a, aCons_a, aNil_a, eVar_0, eVar_s, addD_i, d1, eqD_int]
          simpa using h3
        · rcases List.mem_or_eq_of_mem_set hx with h | h
          · exact h
          · rw [h]; exact List.getLast_mem hne
      · refine ⟨l, ?_, rfl, fun x hx => hx⟩
        simp [hlen, h1, d1, eqD_int, h2]
    · refine ⟨l, ?_, rfl, fun x hx => hx⟩
      simp [hlen, h1]
  refine ⟨L, ?_, ⟨by omega, fun x hx => (hall x (hLok.2 x hx)).1, fun x hx => (hall x (hLok.2 x hx)).2.1, fun x hx => (hall x (hLok.2 x hx)).2.2⟩⟩
  show (match m_law_names [.val (sc ns), .val (.int at_), .val (.int most), .no, .no] with
  | .next _ => R.ok PyData.none
  | .ret d => .ok d
  | .exn c _ => .exn c
  | _ => .bad) = _
  have hmm : m_law_names [.val (sc ns), .val (.int at_), .val (.int most), .no, .no] = .ret (.list (L.map tx)) := by
    unfold m_law_names
    rw [seq_nx' (ρ' := [.val (sc ns), .val (.int at_), .val (.int most), .own (l.map tx), .no]) (by simp [d0, e2, wipeE, c1, show m ≤ 1000000 by omega])]
    rw [seq_nx' hL]
    rfl
  rw [hmm]
end Pf

namespace Pf
open PySem L2 FF
/-! ### a text, cut at a sign -/
theorem splitD_S {a b : List Nat} (hb : b ≠ []) (hk : b.all (· < 256) = true) (hl : a.length ≤ 1000000) : splitD (tx a) [tx b] = some (.list ((TL.spl b 0 [] a).map tx)) := by
  have e : PySem.Txt.split (S a) (S b) = (TL.spl b 0 [] a).map S := SX.split_S hb hk
  show (if ((S b).length == 0) = false ∧ (S a).length ≤ 1000000 then some (PyData.list ((PySem.Txt.split (S a) (S b)).map PyData.str)) else none) = _
  rw [e, if_pos, List.map_map]
  · rfl
  · rw [S_len, S_len]
    exact ⟨by cases b with | nil => exact absurd rfl hb | cons => simp, hl⟩
def cutC (s : Nat) : List Nat → List (List Nat)
  | [] => [[]]
  | c :: l => if c = s then [] :: cutC s l else match cutC s l with
    | [] => [[c]]
    | p :: ps => (c :: p) :: ps
theorem cutC_ne (s : Nat) : ∀ l, cutC s l ≠ []
  | [] => by simp [cutC]
  | c :: l => by
    unfold cutC
    split
    · simp
    · split <;> simp
theorem cutC_app (s : Nat) : ∀ (a b : List Nat), cutC s (a ++ s :: b) = cutC s a ++ cutC s b
  | [], b => by simp [cutC]
  | c :: a, b => by
    have ih := cutC_app s a b
    rw [List.cons_append, cutC, cutC]
    by_cases h : c = s
    · rw [if_pos h, if_pos h, ih]
      rfl
    · rw [if_neg h, if_neg h, ih]
      cases e : cutC s a with
      | nil => exact absurd e (cutC_ne s a)
      | cons p ps => rfl
theorem cutC_free (s : Nat) : ∀ (a : List Nat), s ∉ a → cutC s a = [a]
  | [], _ => rfl
  | c :: a, h => by
    rw [cutC, if_neg (fun e => h (by rw [e]; exact List.mem_cons_self)), cutC_free s a fun z => h (List.mem_cons_of_mem _ z)]
theorem cut_at (s : Nat) : ∀ l : List Nat, s ∈ l → ∃ a b, l = a ++ s :: b ∧ s ∉ a
  | [], h => by cases h
  | c :: l, h => by
    by_cases e : c = s
    · exact ⟨[], l, by rw [e]; rfl, by simp⟩
    · have h2 : s ∈ l := by
        rcases List.mem_cons.mp h with h | h
        · exact absurd h.symm e
        · exact h
      obtain ⟨a, b, rfl, hn⟩ := cut_at s l h2
      exact ⟨c :: a, b, rfl, fun z => by
        rcases List.mem_cons.mp z with z | z
        · exact e z.symm
        · exact hn z⟩
theorem spl_cut (s : Nat) : ∀ (n : Nat) (l : List Nat), l.length ≤ n → TL.spl [s] 0 [] l = cutC s l
  | n, l, hn => by
    by_cases h : s ∈ l
    · obtain ⟨a, b, rfl, ha⟩ := cut_at s l h
      cases n with
      | zero => simp at hn
      | succ n =>
        have e := TL.spl_part1 (s := s) (S := []) (p := a) (rest := b) (acc := []) ha
        rw [List.nil_append] at e
        have e2 : a ++ (s :: [] ++ b) = a ++ s :: b := rfl
        rw [e2] at e
        rw [e, cutC_app, cutC_free s a ha, spl_cut s n b (by rw [List.length_append, List.length_cons] at hn; omega)]
        rfl
    · have e := TL.spl_last1 (s := s) (S := []) (p := l) (acc := []) h
      rw [e, cutC_free s l h]
      rfl
theorem cutC_mem (s : Nat) : ∀ (l p : List Nat), p ∈ cutC s l → ∀ c ∈ p, c ∈ l
  | [], p, hp, c, hc => by
    rw [cutC, List.mem_singleton] at hp
    rw [hp] at hc
    exact hc
  | x :: l, p, hp, c, hc => by
    rw [cutC] at hp
    split at hp
    · rcases List.mem_cons.mp hp with rfl | hp
      · cases hc
      · exact List.mem_cons_of_mem _ (cutC_mem s l p hp c hc)
    · split at hp
      · rw [List.mem_singleton.mp hp] at hc
        rw [List.mem_singleton.mp hc]
        exact List.mem_cons_self
      · rename_i q ps eq
        rcases List.mem_cons.mp hp with rfl | hp
        · rcases List.mem_cons.mp hc with rfl | hc
          · exact List.mem_cons_self
          · exact List.mem_cons_of_mem _ (cutC_mem s l q (by rw [eq]; exact List.mem_cons_self) c hc)
        · exact List.mem_cons_of_mem _ (cutC_mem s l p (by rw [eq]; exact List.mem_cons_of_mem _ hp) c hc)
theorem cutC_len (s : Nat) : ∀ (l : List Nat), (cutC s l).length ≤ l.length + 1
  | [] => by simp [cutC]
  | x :: l => by
    have ih := cutC_len s l
    rw [cutC]
    split
    · simp only [List.length_cons]
      omega
    · split
      · simp
      · rename_i q ps eq
        rw [eq] at ih
        simp only [List.length_cons] at ih ⊢
        omega
theorem cutC_len1 (s : Nat) : ∀ (l p : List Nat), p ∈ cutC s l → p.length ≤ l.length
  | [], p, hp => by
    rw [cutC, List.mem_singleton] at hp
    rw [hp]
    exact Nat.le_refl _
  | x :: l, p, hp => by
    rw [cutC] at hp
    rw [List.length_cons]
    split at hp
    · rcases List.mem_cons.mp hp with rfl | hp
      · exact Nat.zero_le _
      · have := cutC_len1 s l p hp; omega
    · split at hp
      · rw [List.mem_singleton.mp hp]
        simp
      · rename_i q ps eq
        rcases List.mem_cons.mp hp with rfl | hp
        · have := cutC_len1 s l q (by rw [eq]; exact List.mem_cons_self)
          rw [List.length_cons]
          omega
        · have := cutC_len1 s l p (by rw [eq]; exact List.mem_cons_of_mem _ hp); omega
theorem cutC_no (s : Nat) : ∀ (l p : List Nat), p ∈ cutC s l → s ∉ p
  | [], p, hp => by
    rw [cutC, List.mem_singleton] at hp
    rw [hp]
    simp
  | x :: l, p, hp => by
    rw [cutC] at hp
    split at hp
    · rcases List.mem_cons.mp hp with rfl | hp
      · simp
      · exact cutC_no s l p hp
    · rename_i hx
      split at hp
      · rw [List.mem_singleton.mp hp]
        simpa using fun e => hx e.symm
      · rename_i q ps eq
        rcases List.mem_cons.mp hp with rfl | hp
        · intro z
          rcases List.mem_cons.mp z with z | z
          · exact hx z.symm
          · exact cutC_no s l q (by rw [eq]; exact List.mem_cons_self) z
        · exact cutC_no s l p (by rw [eq]; exact List.mem_cons_of_mem _ hp)
theorem splitD_cut {s : Nat} (hs : s < 256) {l : List Nat} (hl : l.length ≤ 1000000) : splitD (tx l) [tx [s]] = some (.list ((cutC s l).map tx)) := by
  rw [splitD_S (by simp) (by simpa using hs) hl, spl_cut s l.length l (Nat.le_refl _)]
end Pf

namespace Pf
open PySem L2 FF
/-! ### rows of points and numbers, in order -/
abbrev Rw := Int × Nat
def rowE (r : Rw) : D := .tuple [.int r.1, .int (r.2 : Int)]
def tInts (l : List Int) : D := .tuple (l.map PyData.int)
def kl (nl : Nat → Nat) (r : Rw) : List Int := [0 - r.1, (nl r.2 : Int), (r.2 : Int)]
def kle (nl : Nat → Nat) (r s : Rw) : Bool := decide (¬ kl nl s < kl nl r)
def srt (nl : Nat → Nat) (R : List Rw) : List Rw := R.mergeSort (kle nl)
theorem leG_ints (a b : List Int) : leG (tInts a) (tInts b) = decide (¬ b < a) := by
  unfold leG tInts
  rw [PySem.W.dataLt_tuple]
  show (!PySem.W.rowLt _ _) = _
  rw [PySem.W.dataLt_ints]
  by_cases h : b < a <;> simp [h]
theorem alike_tup : ∀ (a b : List Int), PySem.W.alike (tInts a) (tInts b) = true := fun a b => by
  unfold tInts
  simp only [PySem.W.alike]
  exact PySem.W.alike_ints a b
theorem shallow_ints (a : List Int) : shallow (tInts a) = true := by
  have h1 : ∀ l : List Int, PyData.canLayAll0 (l.map PyData.int) = true ∧ PyData.depthAll (l.map PyData.int) = 0 := by
    intro l
    induction l with
    | nil => exact ⟨rfl, rfl⟩
    | cons x l ih => exact ⟨by simp [PyData.canLayAll0, PyData.canLay0, ih.1], by simp [PyData.depthAll, PyData.depth, ih.2]⟩
  have := h1 a
  unfold shallow tInts
  simp [PyData.canLay0, PyData.depth, this.1, this.2]
/-- sorted, of tuples of whole numbers -/
theorem sortedD_ints {α : Type} (f : α → List Int) (hf : ∀ x, f x ≠ []) (xs : List α) (hl : xs.length ≤ 1000000) :
    sortedD [.list (xs.map fun x => tInts (f x))] = some (.list ((xs.mergeSort fun a b => decide (¬ f b < f a)).map fun x => tInts (f x))) := by
  have hk : okSort (xs.map fun x => tInts (f x)) = true := by
    unfold okSort
    simp only [Bool.and_eq_true, Bool.or_eq_true, List.all_eq_true, List.length_map, decide_eq_true_eq]
    refine ⟨⟨⟨fun a ha b hb => ?_, fun a ha => ?_⟩, .inl fun a ha => ?_⟩, hl⟩
    · obtain ⟨x, _, rfl⟩ := List.mem_map.mp ha
      obtain ⟨y, _, rfl⟩ := List.mem_map.mp hb
      exact alike_tup _ _
    · obtain ⟨x, _, rfl⟩ := List.mem_map.mp ha
      exact shallow_ints _
    · obtain ⟨x, _, rfl⟩ := List.mem_map.mp ha
      cases hx : f x with
      | nil => exact absurd hx (hf x)
      | cons a r => rfl
  show (if okSort (xs.map fun x => tInts (f x)) then some (PyData.list ((xs.map fun x => tInts (f x)).mergeSort leG)) else none) = _
  rw [hk, if_pos rfl]
  have := PySem.W.sort_maps (fun x => tInts (f x)) (r := fun a b => decide (¬ f b < f a)) (s := leG) (l := xs) fun a _ b _ => (leG_ints _ _).symm
  rw [this]
theorem lt3 {a b c a' b' c' : Int} : ([a, b, c] : List Int) < [a', b', c'] ↔ a < a' ∨ (a = a' ∧ (b < b' ∨ (b = b' ∧ c < c'))) := by
  simp [List.cons_lt_cons_iff]
theorem kle_iff {nl : Nat → Nat} {r s : Rw} : kle nl r s = true ↔ s.1 < r.1 ∨ (r.1 = s.1 ∧ (nl r.2 < nl s.2 ∨ (nl r.2 = nl s.2 ∧ r.2 ≤ s.2))) := by
  unfold kle kl
  rw [decide_eq_true_eq, lt3]
  omega
theorem kle_trans (nl : Nat → Nat) (a b c : Rw) (h : kle nl a b = true) (h' : kle nl b c = true) : kle nl a c = true := by
  rw [kle_iff] at *
  omega
theorem kle_total (nl : Nat → Nat) (a b : Rw) : (kle nl a b || kle nl b a) = true := by
  rw [Bool.or_eq_true, kle_iff, kle_iff]
  omega
theorem kle_anti {nl : Nat → Nat} {a b : Rw} (h : kle nl a b = true) (h' : kle nl b a = true) : a = b := by
  rw [kle_iff] at *
  exact Prod.ext (by omega) (by omega)
theorem srt_perm (nl : Nat → Nat) (R : List Rw) : (srt nl R).Perm R := List.mergeSort_perm R _
theorem srt_len (nl : Nat → Nat) (R : List Rw) : (srt nl R).length = R.length := (srt_perm nl R).length_eq
theorem srt_sorted (nl : Nat → Nat) (R : List Rw) : (srt nl R).Pairwise fun a b => kle nl a b = true := List.pairwise_mergeSort (kle_trans nl) (kle_total nl) R
theorem srt_uniq {nl : Nat → Nat} {R T : List Rw} (hp : T.Perm R) (hs : T.Pairwise fun a b => kle nl a b = true) : srt nl R = T :=
  List.Perm.eq_of_pairwise (le := fun a b => kle nl a b = true) (fun a b _ _ h h' => kle_anti h h') (srt_sorted nl R) hs ((srt_perm nl R).trans hp.symm)
theorem srt_srt (nl : Nat → Nat) (R T : List Rw) : srt nl (srt nl R ++ T) = srt nl (R ++ T) :=
  srt_uniq ((srt_perm nl _).trans (List.Perm.append_right T (srt_perm nl R).symm)) (srt_sorted nl _)
theorem srt_congr {nl nl' : Nat → Nat} {R : List Rw} (h : ∀ r ∈ R, nl r.2 = nl' r.2) : srt nl R = srt nl' R := by
  refine PySem.W.sort_congr fun a ha b hb => ?_
  unfold kle kl
  rw [h a ha, h b hb]
/-- what is far below does not come to the first ones -/
theorem srt_take {nl : Nat → Nat} {P Q : List Rw} {m : Nat} {v : Int} (hm : 0 < m) (hl : m ≤ P.length) (hv : ((srt nl P).map (·.1))[m - 1]? = some v) (hq : ∀ r ∈ Q, r.1 < v) : (srt nl (P ++ Q)).take m = (srt nl P).take m := by
  have hA := srt_sorted nl P
  have hAl := srt_len nl P
  have hAp := srt_perm nl P
  generalize srt nl P = A at *
  have hT : srt nl (P ++ Q) = A.take m ++ srt nl (A.drop m ++ Q) := by
    refine srt_uniq ?_ ?_
    · have h1 : (A.take m ++ srt nl (A.drop m ++ Q)).Perm (A.take m ++ (A.drop m ++ Q)) := List.Perm.append_left _ (srt_perm nl _)
      rw [← List.append_assoc, List.take_append_drop] at h1
      exact h1.trans (List.Perm.append_right Q hAp)
    · rw [List.pairwise_append]
      refine ⟨hA.sublist (List.take_sublist ..), srt_sorted nl _, fun a ha b hb => ?_⟩
      have hb := (srt_perm nl (A.drop m ++ Q)).mem_iff.mp hb
      rcases List.mem_append.mp hb with hb | hb
      · have := hA
        rw [← List.take_append_drop m A, List.pairwise_append] at this
        exact this.2.2 a ha b hb
      · have hb := hq b hb
        have hav : v ≤ a.1 := by
          obtain ⟨i, hi, rfl⟩ := List.getElem_of_mem ha
          rw [List.length_take] at hi
          rw [List.getElem_take]
          rw [List.getElem?_map] at hv
          have hm1 : m - 1 < A.length := by omega
          rw [List.getElem?_eq_getElem hm1] at hv
          have hv : A[m - 1].1 = v := by simpa using hv
          rcases Nat.lt_or_ge i (m - 1) with h | h
          · have := (List.pairwise_iff_getElem.mp hA) i (m - 1) (by omega) hm1 h
            rw [kle_iff] at this
            omega
          · have : i = m - 1 := by omega
            subst this
            omega
        rw [kle_iff]
        exact .inl (by omega)
  rw [hT, List.take_left' (by rw [List.length_take]; omega)]
theorem lt2 {a b a' b' : Int} : ([a, b] : List Int) < [a', b'] ↔ a < a' ∨ (a = a' ∧ b < b') := by
  simp [List.cons_lt_cons_iff]
end Pf

namespace Pf
open PySem L2 FF
/-! ### whole numbers in order; ties -/
def srtN (l : List Nat) : List Nat := l.mergeSort fun a b => decide (a ≤ b)
theorem leN_trans (a b c : Nat) (h : decide (a ≤ b) = true) (h' : decide (b ≤ c) = true) : decide (a ≤ c) = true := by
  rw [decide_eq_true_eq] at *
  omega
theorem leN_total (a b : Nat) : (decide (a ≤ b) || decide (b ≤ a)) = true := by
  rw [Bool.or_eq_true, decide_eq_true_eq, decide_eq_true_eq]
  omega
theorem srtN_perm (l : List Nat) : (srtN l).Perm l := List.mergeSort_perm l _
theorem srtN_sorted (l : List Nat) : (srtN l).Pairwise (· ≤ ·) := (List.pairwise_mergeSort leN_trans leN_total l).imp fun {a b} h => by
  rw [decide_eq_true_eq] at h
  exact h
theorem srtN_uniq {l t : List Nat} (hp : t.Perm l) (hs : t.Pairwise (· ≤ ·)) : srtN l = t :=
  List.Perm.eq_of_pairwise (le := (· ≤ ·)) (fun a b _ _ h h' => Nat.le_antisymm h h') (srtN_sorted l) hs ((srtN_perm l).trans hp.symm)
theorem srtN_srtN (l t : List Nat) : srtN (srtN l ++ t) = srtN (l ++ t) :=
  (srtN_uniq ((srtN_perm (l ++ t)).trans (List.Perm.append_right t (srtN_perm l).symm)) (srtN_sorted _))
theorem srtN_len (l : List Nat) : (srtN l).length = l.length := (srtN_perm l).length_eq
theorem srtN_one (x : Nat) : srtN [x] = [x] := srtN_uniq (.refl _) (by simp)
abbrev Grp := Int × List Nat
def grpE (g : Grp) : D := .tuple [.int g.1, nats g.2]
def tieStep (G : List Grp) (r : Rw) : List Grp := match G.getLast? with
  | some g => if g.1 = r.1 then G.dropLast ++ [(r.1, srtN (g.2 ++ [r.2]))] else G ++ [(r.1, [r.2])]
  | none => [(r.1, [r.2])]
def tiesR (R : List Rw) : List Grp := R.foldl tieStep []
/-- the numbers with so many points -/
def withP (P : List Rw) (c : Int) : List Nat := (P.filter fun r => decide (r.1 = c)).map (·.2)
structure TiesOk (P : List Rw) (G : List Grp) : Prop where
  fall : (G.map (·.1)).Pairwise (· > ·)
  mem : ∀ c, c ∈ G.map (·.1) ↔ c ∈ P.map (·.1)
  nums : ∀ g ∈ G, g.2 = srtN (withP P g.1)
theorem withP_snoc (P : List Rw) (r : Rw) (c : Int) : withP (P ++ [r]) c = withP P c ++ if r.1 = c then [r.2] else [] := by
  unfold withP
  rw [List.filter_append, List.map_append]
  congr 1
  by_cases h : r.1 = c <;> simp [h]
theorem withP_none {P : List Rw} {c : Int} (h : c ∉ P.map (·.1)) : withP P c = [] := by
  unfold withP
  rw [List.map_eq_nil_iff, List.filter_eq_nil_iff]
  intro r hr hc
  rw [decide_eq_true_eq] at hc
  exact h (List.mem_map.mpr ⟨r, hr, hc⟩)
theorem tiesOk_step {P : List Rw} {G : List Grp} {r : Rw} (h : TiesOk P G) (hr : ∀ x ∈ P, r.1 ≤ x.1) : TiesOk (P ++ [r]) (tieStep G r) := by
  have new : ∀ G : List Grp, TiesOk P G → (∀ g ∈ G, g.1 ≠ r.1) → TiesOk (P ++ [r]) (G ++ [(r.1, [r.2])]) := by
    intro G h hne
    have hnm : r.1 ∉ P.map (·.1) := fun z => by
      obtain ⟨g, hg, e⟩ := List.mem_map.mp ((h.mem r.1).mpr z)
      exact hne g hg e
    refine ⟨?_, fun c => ?_, fun g hg => ?_⟩
    · rw [List.map_append, List.pairwise_append]
      refine ⟨h.fall, by simp, fun a ha b hb => ?_⟩
      obtain rfl : b = r.1 := by simpa using hb
      obtain ⟨x, hx, e⟩ := List.mem_map.mp ((h.mem a).mp ha)
      have h1 := hr x hx
      have h2 : a ≠ r.1 := by
        obtain ⟨g, hg, e'⟩ := List.mem_map.mp ha
        rw [← e']
        exact hne g hg
      show r.1 < a
      omega
    · rw [List.map_append, List.map_append, List.mem_append, List.mem_append, h.mem]
      simp
    · rcases List.mem_append.mp hg with hg | hg
      · rw [withP_snoc, if_neg (fun e => hne g hg e.symm), List.append_nil]
        exact h.nums g hg
      · obtain rfl := List.mem_singleton.mp hg
        rw [withP_snoc, withP_none hnm]
        simp [srtN_one]
  unfold tieStep
  cases eg : G.getLast? with
  | none =>
    have : G = [] := List.getLast?_eq_none_iff.mp eg
    subst this
    exact new [] h (fun g hg => by cases hg)
  | some g =>
    obtain ⟨G', rfl⟩ : ∃ G', G = G' ++ [g] := List.getLast?_eq_some_iff.mp eg
    have hf := h.fall
    rw [List.map_append, List.pairwise_append] at hf
    dsimp only
    by_cases hc : g.1 = r.1
    · rw [if_pos hc, List.dropLast_concat]
      refine ⟨?_, fun c => ?_, fun x hx => ?_⟩
      · rw [List.map_append, List.pairwise_append]
        refine ⟨hf.1, by simp, fun a ha b hb => hf.2.2 a ha b ?_⟩
        simp at hb ⊢
        rw [hb, hc]
      · have h1 := h.mem c
        rw [List.map_append, List.mem_append] at h1 ⊢
        rw [List.map_append, List.mem_append, ← h1]
        simp only [List.map_cons, List.map_nil, List.mem_cons, List.not_mem_nil, or_false, hc]
        constructor
        · rintro (z | z)
          · exact .inl (.inl z)
          · exact .inl (.inr z)
        · rintro ((z | z) | z)
          · exact .inl z
          · exact .inr z
          · exact .inr z
      · rcases List.mem_append.mp hx with hx | hx
        · have hne : r.1 ≠ x.1 := fun e => by
            have := hf.2.2 x.1 (List.mem_map.mpr ⟨x, hx, rfl⟩) g.1 (by simp)
            rw [hc, e] at this
            exact Int.lt_irrefl _ this
          rw [withP_snoc, if_neg hne, List.append_nil]
          exact h.nums x (List.mem_append_left _ hx)
        · obtain rfl := List.mem_singleton.mp hx
          have := h.nums g (by simp)
          show srtN (g.2 ++ [r.2]) = _
          rw [withP_snoc, if_pos rfl, this, hc, srtN_srtN]
    · rw [if_neg hc]
      refine new _ h fun x hx => ?_
      rcases List.mem_append.mp hx with hx | hx
      · intro e
        have h1 := hf.2.2 x.1 (List.mem_map.mpr ⟨x, hx, rfl⟩) g.1 (by simp)
        obtain ⟨y, hy, e2⟩ := List.mem_map.mp ((h.mem g.1).mp (List.mem_map.mpr ⟨g, by simp, rfl⟩))
        have h2 := hr y hy
        rw [e] at h1
        have : g.1 < r.1 := h1
        omega
      · rw [List.mem_singleton.mp hx]
        exact hc
theorem tiesOk_nil : TiesOk [] [] := ⟨by simp, by simp, by simp⟩
theorem tiesOk_all : ∀ (T P : List Rw) (G : List Grp), TiesOk P G → (P ++ T).Pairwise (fun a b => b.1 ≤ a.1) → TiesOk (P ++ T) (T.foldl tieStep G)
  | [], P, G, h, _ => by simpa using h
  | r :: T, P, G, h, hp => by
    have e : P ++ r :: T = (P ++ [r]) ++ T := by simp
    rw [e] at hp ⊢
    refine tiesOk_all T (P ++ [r]) _ (tiesOk_step h fun x hx => ?_) hp
    have := (List.pairwise_append.mp hp).1
    exact (List.pairwise_append.mp this).2.2 x hx r (by simp)
theorem srt_falls (nl : Nat → Nat) (R : List Rw) : (srt nl R).Pairwise fun a b => b.1 ≤ a.1 := (srt_sorted nl R).imp fun {a b} h => by
  rw [kle_iff] at h
  omega
theorem tiesR_ok {R : List Rw} (h : R.Pairwise fun a b => b.1 ≤ a.1) : TiesOk R (tiesR R) := by
  have := tiesOk_all R [] [] tiesOk_nil (by simpa using h)
  simpa [tiesR] using this
theorem tiesOk_len {P : List Rw} {G : List Grp} (h : TiesOk P G) : G.length ≤ P.length ∧ ∀ g ∈ G, g.2.length ≤ P.length := by
  refine ⟨?_, fun g hg => ?_⟩
  · have hnd : (G.map (·.1)).Nodup := h.fall.imp fun {a b} z => by
      intro e
      rw [e] at z
      exact Int.lt_irrefl _ z
    have := List.Nodup.length_le_of_subset hnd (l₂ := P.map (·.1)) fun c hc => (h.mem c).mp hc
    simpa using this
  · rw [h.nums g hg, srtN_len]
    unfold withP
    rw [List.length_map]
    exact List.length_filter_le _ _
theorem desc_uniq {a b : List Int} (ha : a.Pairwise (· > ·)) (hb : b.Pairwise (· > ·)) (h : ∀ c, c ∈ a ↔ c ∈ b) : a = b := by
  have na : a.Nodup := ha.imp fun {x y} z e => by rw [e] at z; exact Int.lt_irrefl _ z
  have nb : b.Nodup := hb.imp fun {x y} z e => by rw [e] at z; exact Int.lt_irrefl _ z
  have hp : a.Perm b := (List.perm_ext_iff_of_nodup na nb).mpr h
  exact List.Perm.eq_of_pairwise (le := (· > ·)) (fun x y _ _ z z' => by have z : y < x := z; have z' : x < y := z'; omega) ha hb hp
/-- groups by their counts -/
theorem ties_eq {P : List Rw} {G : List Grp} (h : TiesOk P G) {C : List Int} (hC : C.Pairwise (· > ·)) (hm : ∀ c, c ∈ C ↔ c ∈ P.map (·.1)) : G = C.map fun c => (c, srtN (withP P c)) := by
  have e : C = G.map (·.1) := desc_uniq hC h.fall fun c => by rw [hm, h.mem]
  rw [e, List.map_map]
  conv => lhs; rw [← List.map_id G]
  refine List.map_congr_left fun g hg => ?_
  exact Prod.ext rfl (h.nums g hg)
end Pf

namespace FF
open PySem L2
/-! ### encoded data: ==, in, index, sorted -/
theorem Good.up {α : Type} [DecidableEq α] {n m : Nat} {P : α → Prop} {f : α → D} (g : Good n P f) (h : n ≤ m) : Good m P f := ⟨fun x hx => ⟨(g.lay x hx).1, Nat.le_trans (g.lay x hx).2 h⟩, g.eqv⟩
theorem Good.imp {α : Type} [DecidableEq α] {n : Nat} {P Q : α → Prop} {f : α → D} (g : Good n P f) (h : ∀ x, Q x → P x) : Good n Q f := ⟨fun x hx => g.lay x (h x hx), g.eqv⟩
theorem inB_l (d : D) (ds : List D) : inB d (.list ds) = if shp d && shp (.list ds) then some (ds.any fun z => PyData.eqv z d) else none := by cases d <;> rfl
theorem Good.anyE {α : Type} [DecidableEq α] {n : Nat} {P : α → Prop} {f : α → D} (g : Good n P f) (x : α) : ∀ xs : List α, ((xs.map f).any fun z => PyData.eqv z (f x)) = decide (x ∈ xs)
  | [] => by simp
  | y :: xs => by
    rw [List.map_cons, List.any_cons, g.eqv, g.anyE x xs]
    by_cases h : y = x
    · subst h; simp
    · have h2 : ¬ x = y := fun e => h e.symm
      simp [h, h2]
theorem Good.inE {α : Type} [DecidableEq α] {n : Nat} {P : α → Prop} {f : α → D} (g : Good n P f) (hn : n ≤ 60) {x : α} {xs : List α} (hx : P x) (hxs : ∀ y ∈ xs, P y) : inB (f x) (.list (xs.map f)) = some (decide (x ∈ xs)) := by
  rw [inB_l, g.shp (by omega) hx, (good_list g).shp (x := xs) (by omega) hxs, g.anyE]
  rfl
theorem Good.inD {α : Type} [DecidableEq α] {n : Nat} {P : α → Prop} {f : α → D} (g : Good n P f) (hn : n ≤ 60) {x : α} {xs : List α} (hx : P x) (hxs : ∀ y ∈ xs, P y) : inD (f x) (.list (xs.map f)) = some (.bool (decide (x ∈ xs))) := by
  unfold FF.inD
  rw [g.inE hn hx hxs]
  rfl
theorem Good.ninD {α : Type} [DecidableEq α] {n : Nat} {P : α → Prop} {f : α → D} (g : Good n P f) (hn : n ≤ 60) {x : α} {xs : List α} (hx : P x) (hxs : ∀ y ∈ xs, P y) : ninD (f x) (.list (xs.map f)) = some (.bool (!decide (x ∈ xs))) := by
  unfold FF.ninD
  rw [g.inE hn hx hxs]
  rfl
theorem Good.idxE {α : Type} [DecidableEq α] {n : Nat} {P : α → Prop} {f : α → D} (g : Good n P f) (x : α) (xs : List α) : ((xs.map f).findIdx? fun z => PyData.eqv z (f x)) = xs.findIdx? fun y => decide (y = x) := by
  rw [List.findIdx?_map]
  congr 1
  funext y
  exact g.eqv y x
theorem Good.lidx {α : Type} [DecidableEq α] {n : Nat} {P : α → Prop} {f : α → D} (g : Good n P f) (hn : n ≤ 60) {x : α} {xs : List α} (hx : P x) (hxs : ∀ y ∈ xs, P y) : lidxD (.list (xs.map f)) [f x] = (xs.findIdx? fun y => decide (y = x)).map fun j => .int ((j : Nat) : Int) := by
  show (if FF.shp (.list (xs.map f)) && FF.shp (f x) then ((xs.map f).findIdx? fun z => PyData.eqv z (f x)).map fun j => PyData.int ((j : Nat) : Int) else none) = _
  rw [g.shp (by omega) hx, (good_list g).shp (x := xs) (by omega) hxs, g.idxE]
  rfl
theorem neD_self {d : D} (h : shp d = true) : neD d d = some (.bool false) := by
  unfold neD
  rw [h, SeqAt.eqv_refl d (shp_lay h)]
  rfl
theorem eqD_self {d : D} (h : shp d = true) : eqD d d = some (.bool true) := by
  unfold eqD
  rw [h, SeqAt.eqv_refl d (shp_lay h)]
  rfl
theorem neD_if {d e : D} (h : d = e) (hs : shp e = true) : neD d e = some (.bool false) := by rw [h]; exact neD_self hs
theorem sortedD_flat {α : Type} (f : α → D) (r : α → α → Bool) (xs : List α) (hl : xs.length ≤ 1000000) (hf : ∀ x ∈ xs, flatD (f x) = true) (ha : ∀ x ∈ xs, ∀ y ∈ xs, PySem.W.alike (f x) (f y) = true) (hsh : ∀ x ∈ xs, shallow (f x) = true)
    (hr : ∀ x ∈ xs, ∀ y ∈ xs, leG (f x) (f y) = r x y) : sortedD [.list (xs.map f)] = some (.list ((xs.mergeSort r).map f)) := by
  have hk : okSort (xs.map f) = true := by
    unfold okSort
    simp only [Bool.and_eq_true, Bool.or_eq_true, List.all_eq_true, List.length_map, decide_eq_true_eq]
    refine ⟨⟨⟨fun a ha' b hb => ?_, fun a ha' => ?_⟩, .inr fun a ha' => ?_⟩, hl⟩
    · obtain ⟨x, hx, rfl⟩ := List.mem_map.mp ha'
      obtain ⟨y, hy, rfl⟩ := List.mem_map.mp hb
      exact ha x hx y hy
    · obtain ⟨x, hx, rfl⟩ := List.mem_map.mp ha'
      exact hsh x hx
    · obtain ⟨x, hx, rfl⟩ := List.mem_map.mp ha'
      exact hf x hx
  show (if okSort (xs.map f) then some (PyData.list ((xs.map f).mergeSort leG)) else none) = _
  rw [hk, if_pos rfl]
  have := PySem.W.sort_maps f (r := r) (s := leG) (l := xs) fun a ha b hb => (hr a ha b hb).symm
  rw [this]
theorem fnM_ret {n N : Nat} {m : MSt} {ds : List D} {d : D} (hl : ds.length = n) (h : m (ds.map Sl.val ++ List.replicate (N - n) Sl.no) = .ret d) : fnM n N m ds = .ok d := by
  unfold fnM
  rw [if_pos hl, h]
theorem leG_i (a b : Int) : leG (.int a) (.int b) = decide (a ≤ b) := congrFun (congrFun (PySem.W.dataLe_int (fun i : Int => i)) a) b
end FF
namespace Pf
open PySem L2 FF
theorem sortedD_nats (l : List Nat) (hl : l.length ≤ 1000000) : sortedD [nats l] = some (nats (srtN l)) :=
  sortedD_flat (fun (k : Nat) => PyData.int (k : Int)) (fun a b => decide (a ≤ b)) l hl (fun _ _ => rfl) (fun _ _ _ _ => rfl) (fun _ _ => rfl) fun x _ y _ => by
    rw [leG_i]
    by_cases h : x ≤ y
    · rw [decide_eq_true h, decide_eq_true (by omega)]
    · rw [decide_eq_false h, decide_eq_false (by omega)]
theorem rowE_good' : Good 1 (fun _ : Rw => True) rowE := (good_pair good_int good_nat).imp fun _ _ => ⟨trivial, trivial⟩
theorem rows_good : Good 2 (fun _ : List Rw => True) (fun R => PyData.list (R.map rowE)) := (good_list rowE_good').imp fun _ _ _ _ => trivial
theorem rows_shp (R : List Rw) : shp (.list (R.map rowE)) = true := rows_good.shp (x := R) (by decide) trivial
theorem grpE_good : Good 2 (fun _ : Grp => True) grpE := (good_pair (good_int.up (Nat.zero_le 1)) good_nats).imp fun _ _ => ⟨trivial, fun _ _ => trivial⟩
theorem grps_good : Good 3 (fun _ : List Grp => True) (fun R => PyData.list (R.map grpE)) := (good_list grpE_good).imp fun _ _ _ _ => trivial
theorem grps_shp (R : List Grp) : shp (.list (R.map grpE)) = true := grps_good.shp (x := R) (by decide) trivial
theorem ints_shp (l : List Int) : shp (.list (l.map PyData.int)) = true := (good_list good_int).shp (x := l) (by decide) fun _ _ => trivial
theorem good_nat' : Good 0 (fun _ : Nat => True) (fun (k : Nat) => PyData.int (k : Int)) := good_nat
end Pf

namespace Pf
open PySem L2 FF
/-! ### written, read -/
abbrev WRow := List Nat × Nat
def rowD' (r : WRow) : D := .tuple [tx r.1, .int (r.2 : Int)]
def wl (r : WRow) : List Nat := TL.numL r.2 ++ ([32] ++ r.1)
def wr (R : List WRow) : List Nat := (R.map fun r => wl r ++ [10]).flatten
structure RowOk (r : WRow) : Prop where
  sg : ∀ c ∈ r.1, c ∈ letters ++ marks
  lo : 1 ≤ r.1.length
  hi : r.1.length ≤ 24
  num : r.2 < 10 ^ 6
theorem sg_free : ∀ c ∈ letters ++ marks, c ≠ 32 ∧ c ≠ 10 ∧ c < 128 := by decide +kernel
theorem numL_asc (n : Nat) : Asc (TL.numL n) := fun c hc => by
  have := TL.numL_digits n c hc
  omega
theorem wl_len {r : WRow} (h : RowOk r) : (wl r).length ≤ 31 := by
  have := TL.numL_len (n := r.2) (k := 6) (by decide) h.num
  have := h.hi
  simp [wl]
  omega
theorem wr_len {R : List WRow} (h : ∀ r ∈ R, RowOk r) : (wr R).length ≤ 32 * R.length := by
  induction R with
  | nil => simp [wr]
  | cons r R ih =>
    have h1 := wl_len (h r List.mem_cons_self)
    have h2 := ih fun x hx => h x (List.mem_cons_of_mem _ hx)
    unfold wr at h2 ⊢
    rw [List.map_cons, List.flatten_cons, List.length_append, List.length_append, List.length_cons, List.length_cons, List.length_nil]
    omega
theorem wr_app (R T : List WRow) : wr (R ++ T) = wr R ++ wr T := by simp [wr]
theorem wl_asc {r : WRow} (h : RowOk r) : Asc (wl r) := fun c hc => by
  rcases List.mem_append.mp hc with hc | hc
  · exact numL_asc _ c hc
  · rcases List.mem_append.mp hc with hc | hc
    · rw [List.mem_singleton.mp hc]; decide
    · exact (sg_free c (h.sg c hc)).2.2
theorem wr_asc {R : List WRow} (h : ∀ r ∈ R, RowOk r) : Asc (wr R) := fun c hc => by
  obtain ⟨l, hl, hc⟩ := List.mem_flatten.mp hc
  obtain ⟨r, hr, rfl⟩ := List.mem_map.mp hl
  rcases List.mem_append.mp hc with hc | hc
  · exact wl_asc (h r hr) c hc
  · rw [List.mem_singleton.mp hc]; decide
theorem wl_line {r : WRow} (h : RowOk r) : 10 ∉ wl r := fun hc => by
  rcases List.mem_append.mp hc with hc | hc
  · exact TL.numL_free (n := r.2) (s := 10) (by decide) hc
  · rcases List.mem_append.mp hc with hc | hc
    · simp at hc
    · exact (sg_free 10 (h.sg 10 hc)).2.1 rfl
theorem wr_split {R : List WRow} (h : ∀ r ∈ R, RowOk r) : TL.spl [10] 0 [] (wr R) = R.map wl ++ [[]] := by
  induction R with
  | nil => rfl
  | cons r R ih =>
    have e : wr (r :: R) = wl r ++ ([10] ++ wr R) := by simp [wr]
    rw [e, TL.spl_part1 (s := 10) (S := []) (wl_line (h r List.mem_cons_self)), ih fun x hx => h x (List.mem_cons_of_mem _ hx)]
    simp
theorem strD_n {n : Nat} (h : n < 10 ^ 6) : strD [.int (n : Int)] = some (tx (TL.numL n)) := by
  show (if (n : Int).natAbs.log2 < 1920 then some (PyData.str (Str.ofString (toString (n : Int)))) else none) = _
  rw [if_pos]
  · exact congrArg (fun z => some (PyData.str z)) (SX.num_S n)
  · rw [Int.natAbs_natCast]
    by_cases hz : n = 0
    · subst hz; decide
    · rw [Nat.log2_lt hz]
      exact Nat.lt_of_lt_of_le h (Nat.pow_le_pow_right (n := 2) (by decide) (show 20 ≤ 1920 by decide) |> Nat.le_trans (by decide))
theorem intD_n {n : Nat} (h : n < 10 ^ 6) : intD [tx (TL.numL n)] = some (.int (n : Int)) := by
  have hl := TL.numL_len (n := n) (k := 6) (by decide) h
  show (if (S (TL.numL n)).length ≤ 640 then (PySem.intText? (S (TL.numL n))).map fun n => PyData.int n else none) = _
  have e : PySem.intText? (S (TL.numL n)) = some ((n : Nat) : Int) := by
    have := TL.int_num (n := n) (by omega)
    rw [SX.num_S] at this
    exact this
  rw [S_len, if_pos (by omega), e]
  rfl
theorem str_sp : (Str.ofString " ") = S [32] := by decide +kernel
theorem str_lf : (Str.ofString "\n") = S [10] := by decide +kernel
theorem spec_written {R : List WRow} (h : ∀ r ∈ R, RowOk r) (hl : R.length ≤ 900) : f_written [.list (R.map rowD')] = .ok (tx (wr R)) := by
  have c1 := compL_map (g := gT (gsCons (gN 1) (gsCons (gN 2) (gsNil)))) (t := tYesM) (e := (eBin addD (eBin addD (eBin addD (eBlt strD (aCons (eVar 2) (aNil))) (eC (.str " "))) (eVar 1)) (eC (.str "\n")))) (ρ0 := [.val (.list (R.map rowD')), .no, .no]) rowD' (fun r => tx (wl r ++ [10])) R (fun r hr => by
    have hr := h r hr
    have e1 := strD_n hr.num
    have e2 := TL.numL_len (n := r.2) (k := 6) (by decide) hr.num
    have e3 := hr.hi
    refine ⟨_, rfl, rfl, ?_⟩
    simp [e1, str_sp, str_lf, lm_ok, show (TL.numL r.2).length + 1 ≤ 1000000 by omega, show (TL.numL r.2).length + 1 + r.1.length ≤ 1000000 by omega, show (TL.numL r.2).length + (r.1.length + 1) ≤ 1000000 by omega, show (TL.numL r.2).length + 1 + r.1.length + 1 ≤ 1000000 by omega, show (TL.numL r.2).length + (r.1.length + 1) + 1 ≤ 1000000 by omega, wl])
  have c2 : R.map (fun r => tx (wl r ++ [10])) = (R.map fun r => wl r ++ [10]).map tx := by rw [List.map_map]; rfl
  rw [c2] at c1
  have c3 := joinD_S (ls := R.map fun r => wl r ++ [10]) (by have := wr_len h; unfold wr at this; omega)
  rw [List.map_map] at c3
  simp [f_written, fnM, m_written, str_nil, wipeE, c1, show R.length ≤ 1000000 by omega, c3, wr]
theorem digs {n : Nat} : ∀ c ∈ TL.numL n, c ∈ figs := fun c hc => by
  have h := TL.numL_digits n c hc
  have : ∀ c, 48 ≤ c → c ≤ 57 → c ∈ figs := by
    intro c h1 h2
    have : c = 48 ∨ c = 49 ∨ c = 50 ∨ c = 51 ∨ c = 52 ∨ c = 53 ∨ c = 54 ∨ c = 55 ∨ c = 56 ∨ c = 57 := by omega
    simp [figs]
    omega
  exact this c h.1 h.2
end Pf

namespace Pf
open PySem L2 FF
/-! ### what any text of rows is read as, by the program and by the law -/
def okN (w : List Nat) : Bool := decide (1 ≤ w.length) && decide (w.length ≤ 6) && w.all fun c => decide (c ∈ figs)
def valN (w : List Nat) : Nat := NumText.digitsVal w
def okM (w : List Nat) : Bool := decide (1 ≤ w.length) && decide (w.length ≤ 24) && w.all fun c => decide (c ∈ letters ++ marks)
def okC (w : List Nat) : Bool := decide (w = [48]) || !decide (w.headD 0 = 48)
theorem figs_rng : ∀ c ∈ figs, 48 ≤ c ∧ c ≤ 57 := by decide +kernel
structure OkN (w : List Nat) : Prop where
  lo : 1 ≤ w.length
  hi : w.length ≤ 6
  fg : ∀ c ∈ w, c ∈ figs
theorem okN_iff {w : List Nat} : okN w = true ↔ OkN w := by
  unfold okN
  simp only [Bool.and_eq_true, decide_eq_true_eq, List.all_eq_true]
  exact ⟨fun h => ⟨h.1.1, h.1.2, h.2⟩, fun h => ⟨⟨h.lo, h.hi⟩, h.fg⟩⟩
structure OkM (w : List Nat) : Prop where
  lo : 1 ≤ w.length
  hi : w.length ≤ 24
  sg : ∀ c ∈ w, c ∈ letters ++ marks
theorem okM_iff {w : List Nat} : okM w = true ↔ OkM w := by
  unfold okM
  simp only [Bool.and_eq_true, decide_eq_true_eq, List.all_eq_true]
  exact ⟨fun h => ⟨h.1.1, h.1.2, h.2⟩, fun h => ⟨⟨h.lo, h.hi⟩, h.sg⟩⟩
theorem OkN.dig {w : List Nat} (h : OkN w) : NumText.AllDigits w := fun c hc => figs_rng c (h.fg c hc)
theorem val_lt : ∀ (k : Nat) (w : List Nat), w.length = k → (∀ c ∈ w, c ≤ 57) → valN w < 10 ^ k
  | 0, w, hl, _ => by
    rw [List.length_eq_zero_iff] at hl
    subst hl
    decide
  | k + 1, w, hl, h => by
    have hne : w ≠ [] := fun z => by rw [z] at hl; cases hl
    obtain ⟨a, b, e⟩ : ∃ a b, w = a ++ [b] := ⟨_, _, (List.dropLast_concat_getLast hne).symm⟩
    subst e
    have ih := val_lt k a (by rw [List.length_append, List.length_singleton] at hl; omega) fun c hc => h c (List.mem_append_left _ hc)
    have hb := h b (List.mem_append_right _ List.mem_cons_self)
    unfold valN at ih ⊢
    rw [NumText.digitsVal_snoc, Nat.pow_succ]
    omega
theorem OkN.lt {w : List Nat} (h : OkN w) : valN w < 10 ^ 6 :=
  Nat.lt_of_lt_of_le (val_lt w.length w rfl fun c hc => (h.dig c hc).2) (Nat.pow_le_pow_right (by decide) h.hi)
theorem okC_back {w : List Nat} (h : OkN w) (hc : okC w = true) : TL.numL (valN w) = w := by
  obtain ⟨n, hn⟩ : ∃ n, w.length = n + 1 := ⟨w.length - 1, by have := h.lo; omega⟩
  have e := NumText.toDigits_digitsVal n w hn h.dig (by
    cases w with
    | nil => cases hn
    | cons c r =>
      unfold okC at hc
      rw [Bool.or_eq_true, decide_eq_true_eq, Bool.not_eq_true', decide_eq_false_iff_not] at hc
      rcases hc with hc | hc
      · cases hc
        exact .inl (by simpa using hn.symm)
      · have := (h.dig c List.mem_cons_self).1
        have hc : c ≠ 48 := hc
        exact .inr ⟨c, r, rfl, by omega⟩)
  unfold TL.numL valN
  rw [e, List.map_map]
  rw [List.map_congr_left (g := id) fun c hc => by
    have := (h.dig c hc).2
    show (Char.ofNat c).toNat = c
    have hv : c.isValidChar := .inl (by omega)
    rw [Char.ofNat, dif_pos hv]
    rfl, List.map_id]
theorem numL_head : ∀ (n m : Nat), m ≤ n → 0 < m → (TL.numL m).headD 0 ≠ 48
  | n, m, hn, hm => by
    by_cases h : m < 10
    · rw [TL.numL_lt h]
      show 48 + m ≠ 48
      omega
    · rw [TL.numL_step (by omega)]
      have hq : m / 10 ≤ m - 1 := by omega
      cases n with
      | zero => omega
      | succ n =>
        have ih := numL_head n (m / 10) (by omega) (by omega)
        have hne := TL.numL_ne (m / 10)
        cases e : TL.numL (m / 10) with
        | nil => exact absurd e hne
        | cons c r => rw [e] at ih; exact ih
theorem numL_canon (n : Nat) : okC (TL.numL n) = true := by
  unfold okC
  rcases Nat.eq_zero_or_pos n with h | h
  · subst h
    decide +kernel
  · rw [decide_eq_false (numL_head n n (Nat.le_refl _) h), Bool.not_false, Bool.or_true]
def lineW (p : List Nat → Bool) (l : List Nat) : Option WRow := match cutC 32 l with
  | [a, b] => if okN a = true ∧ okM b = true ∧ p a = true then some (b, valN a) else none
  | _ => none
def lineR : List Nat → Option WRow := lineW fun _ => true
def lineL : List Nat → Option WRow := lineW okC
def glue (s : Nat) : List (List Nat) → List Nat
  | [] => []
  | [p] => p
  | p :: q :: ps => p ++ s :: glue s (q :: ps)
theorem glue_cons (s : Nat) (p : List Nat) {ps : List (List Nat)} (h : ps ≠ []) : glue s (p :: ps) = p ++ s :: glue s ps := by
  cases ps with
  | nil => exact absurd rfl h
  | cons q ps => rfl
theorem glue_cut (s : Nat) : ∀ l, glue s (cutC s l) = l
  | [] => rfl
  | c :: l => by
    have ih := glue_cut s l
    rw [cutC]
    by_cases h : c = s
    · rw [if_pos h, glue_cons s [] (cutC_ne s l), ih, h]
      rfl
    · rw [if_neg h]
      cases e : cutC s l with
      | nil => exact absurd e (cutC_ne s l)
      | cons p ps =>
        rw [e] at ih
        show glue s ((c :: p) :: ps) = c :: l
        rw [← ih]
        cases ps with
        | nil => rfl
        | cons q ps => rfl
theorem glue_wr : ∀ R : List WRow, glue 10 (R.map wl ++ [[]]) = wr R
  | [] => rfl
  | r :: R => by
    rw [List.map_cons, List.cons_append, glue_cons _ _ (by simp), glue_wr R]
    show wl r ++ 10 :: wr R = (wl r ++ [10]) ++ wr R
    rw [List.append_assoc]
    rfl
theorem wr_cut {R : List WRow} (h : ∀ r ∈ R, RowOk r) : cutC 10 (wr R) = R.map wl ++ [[]] := by
  rw [← spl_cut 10 _ _ (Nat.le_refl _), wr_split h]
theorem lineW_ok {p : List Nat → Bool} {l : List Nat} {r : WRow} (h : lineW p l = some r) : RowOk r ∧ ∃ a, cutC 32 l = [a, r.1] ∧ OkN a ∧ p a = true ∧ r.2 = valN a := by
  unfold lineW at h
  split at h
  · rename_i a b e
    split at h
    · rename_i hc
      cases h
      have h1 := okN_iff.mp hc.1
      have h2 := okM_iff.mp hc.2.1
      exact ⟨⟨h2.sg, h2.lo, h2.hi, h1.lt⟩, a, e, h1, hc.2.2, rfl⟩
    · cases h
  · cases h
theorem wl_cut {r : WRow} (h : RowOk r) : cutC 32 (wl r) = [TL.numL r.2, r.1] := by
  have e : wl r = TL.numL r.2 ++ 32 :: r.1 := rfl
  rw [e, cutC_app, cutC_free _ _ (TL.numL_free (by decide)), cutC_free _ _ (fun hm => (sg_free 32 (h.sg 32 hm)).1 rfl)]
  rfl
theorem lineL_wl {l : List Nat} {r : WRow} (h : lineL l = some r) : RowOk r ∧ lineR l = some r ∧ wl r = l := by
  obtain ⟨h1, a, h2, h3, h4, h5⟩ := lineW_ok h
  refine ⟨h1, ?_, ?_⟩
  · unfold lineL lineW at h
    unfold lineR lineW
    rw [h2] at h ⊢
    have h : (if okN a = true ∧ okM r.1 = true ∧ okC a = true then some (r.1, valN a) else none) = some r := h
    show (if okN a = true ∧ okM r.1 = true ∧ true = true then some (r.1, valN a) else none) = some r
    split at h
    · rename_i hc
      rw [if_pos ⟨hc.1, hc.2.1, rfl⟩]
      exact h
    · cases h
  · have e := glue_cut 32 l
    rw [h2] at e
    rw [← e]
    show TL.numL r.2 ++ ([32] ++ r.1) = a ++ 32 :: r.1
    rw [h5, okC_back h3 h4]
    rfl
theorem lineR_wl {r : WRow} (h : RowOk r) : lineL (wl r) = some r := by
  unfold lineL lineW
  rw [wl_cut h]
  show (if okN (TL.numL r.2) = true ∧ okM r.1 = true ∧ okC (TL.numL r.2) = true then some (r.1, valN (TL.numL r.2)) else none) = some r
  rw [if_pos ⟨okN_iff.mpr ⟨by
      have := TL.numL_ne r.2
      rcases Nat.eq_zero_or_pos (TL.numL r.2).length with hz | hz
      · exact absurd (List.length_eq_zero_iff.mp hz) this
      · exact hz, TL.numL_len (by decide) h.num, digs⟩, okM_iff.mpr ⟨h.lo, h.hi, h.sg⟩, numL_canon _⟩]
  unfold valN
  rw [TL.numL_val]
def allO (f : List Nat → Option WRow) : List (List Nat) → Option (List WRow)
  | [] => some []
  | l :: ls => (f l).bind fun r => (allO f ls).bind fun R => some (r :: R)
theorem allO_some {f : List Nat → Option WRow} : ∀ {ls : List (List Nat)} {R : List WRow}, allO f ls = some R → R.length = ls.length ∧ ∀ r ∈ R, ∃ l ∈ ls, f l = some r
  | [], R, h => by cases h; exact ⟨rfl, fun r hr => by cases hr⟩
  | l :: ls, R, h => by
    unfold allO at h
    cases e : f l with
    | none => (rw [e] at h; cases h)
    | some r =>
      rw [e] at h
      cases e2 : allO f ls with
      | none => rw [e2] at h; cases h
      | some R' =>
        rw [e2] at h
        cases h
        obtain ⟨h1, h2⟩ := allO_some e2
        refine ⟨by rw [List.length_cons, List.length_cons, h1], fun x hx => ?_⟩
        rcases List.mem_cons.mp hx with hx | hx
        · exact ⟨l, List.mem_cons_self, by rw [hx, e]⟩
        · obtain ⟨l', hl, he⟩ := h2 x hx
          exact ⟨l', List.mem_cons_of_mem _ hl, he⟩
theorem allO_L : ∀ {ls : List (List Nat)} {R : List WRow}, allO lineL ls = some R → allO lineR ls = some R ∧ R.map wl = ls ∧ ∀ r ∈ R, RowOk r
  | [], R, h => by cases h; exact ⟨rfl, rfl, fun r hr => by cases hr⟩
  | l :: ls, R, h => by
    unfold allO at h
    cases e : lineL l with
    | none => (rw [e] at h; cases h)
    | some r =>
      rw [e] at h
      cases e2 : allO lineL ls with
      | none => rw [e2] at h; cases h
      | some R' =>
        rw [e2] at h
        cases h
        obtain ⟨h1, h2, h3⟩ := allO_L e2
        obtain ⟨k1, k2, k3⟩ := lineL_wl e
        refine ⟨?_, by rw [List.map_cons, k3, h2], fun x hx => ?_⟩
        · unfold allO
          rw [k2, h1]
          rfl
        · rcases List.mem_cons.mp hx with hx | hx
          · rw [hx]; exact k1
          · exact h3 x hx
theorem allO_wl : ∀ {R : List WRow}, (∀ r ∈ R, RowOk r) → allO lineL (R.map wl) = some R
  | [], _ => rfl
  | r :: R, h => by
    rw [List.map_cons]
    unfold allO
    rw [lineR_wl (h r List.mem_cons_self), allO_wl fun x hx => h x (List.mem_cons_of_mem _ hx)]
    rfl
def rdP (t : List Nat) : Option (List WRow) := (allO lineR (cutC 10 t).dropLast).bind fun R => if wr R = t then some R else none
def rdL (t : List Nat) : Option (List WRow) := (allO lineL (cutC 10 t).dropLast).bind fun R => if (cutC 10 t).getLast (cutC_ne 10 t) = [] then some R else none
theorem rdP_ok {t : List Nat} {R : List WRow} (h : rdP t = some R) : (∀ r ∈ R, RowOk r) ∧ wr R = t ∧ R.length ≤ t.length := by
  unfold rdP at h
  cases e : allO lineR (cutC 10 t).dropLast with
  | none => rw [e] at h; cases h
  | some R' =>
    rw [e] at h
    have h : (if wr R' = t then some R' else none) = some R := h
    split at h
    · rename_i hw
      cases h
      obtain ⟨h1, h2⟩ := allO_some e
      refine ⟨fun r hr => ?_, hw, ?_⟩
      · obtain ⟨l, _, hl⟩ := h2 r hr
        exact (lineW_ok hl).1
      · rw [h1, List.length_dropLast]
        have := cutC_len 10 t
        omega
    · cases h
theorem rdP_wr {R : List WRow} (h : ∀ r ∈ R, RowOk r) : rdP (wr R) = some R := by
  unfold rdP
  rw [wr_cut h, List.dropLast_concat, (allO_L (allO_wl h)).1]
  show (if wr R = wr R then some R else none) = some R
  rw [if_pos rfl]
theorem rdL_wr {R : List WRow} (h : ∀ r ∈ R, RowOk r) : rdL (wr R) = some R := by
  have e : ∀ z (hz : z ≠ []), z = R.map wl ++ [[]] → ((allO lineL z.dropLast).bind fun R' => if z.getLast hz = [] then some R' else none) = some R := fun z hz e2 => by
    subst e2
    rw [List.dropLast_concat, allO_wl h]
    show (if (R.map wl ++ [[]]).getLast hz = [] then some R else none) = some R
    rw [if_pos (by simp)]
  exact e _ _ (wr_cut h)
theorem rd_eq (t : List Nat) : rdL t = rdP t := by
  cases hP : rdP t with
  | some R =>
    obtain ⟨h1, h2, h3⟩ := rdP_ok hP
    rw [← h2]
    exact rdL_wr h1
  | none =>
    cases hL : rdL t with
    | none => rfl
    | some R =>
      exfalso
      unfold rdL at hL
      cases e : allO lineL (cutC 10 t).dropLast with
      | none => rw [e] at hL; cases hL
      | some R' =>
        rw [e] at hL
        have hL : (if (cutC 10 t).getLast (cutC_ne 10 t) = [] then some R' else none) = some R := hL
        split at hL
        · rename_i hz
          obtain ⟨k1, k2, k3⟩ := allO_L e
          have e2 : cutC 10 t = R'.map wl ++ [[]] := by
            rw [k2]
            have := List.dropLast_concat_getLast (cutC_ne 10 t)
            rw [hz] at this
            exact this.symm
          have e3 : t = wr R' := by
            rw [← glue_wr, ← e2, glue_cut]
          rw [e3, rdP_wr k3] at hP
          cases hP
        · cases hL
theorem glue_len (s : Nat) {m : Nat} : ∀ {ls : List (List Nat)}, (∀ l ∈ ls, l.length ≤ m) → (glue s ls).length ≤ (m + 1) * ls.length
  | [], _ => Nat.zero_le _
  | [p], h => by
    have := h p List.mem_cons_self
    show p.length ≤ (m + 1) * 1
    omega
  | p :: q :: ps, h => by
    have h1 := h p List.mem_cons_self
    have ih := glue_len s (ls := q :: ps) fun l hl => h l (List.mem_cons_of_mem _ hl)
    show (p ++ s :: glue s (q :: ps)).length ≤ (m + 1) * ((q :: ps).length + 1)
    rw [List.length_append, List.length_cons, Nat.mul_add]
    omega
theorem glue_asc {s : Nat} (hs : s < 128) : ∀ {ls : List (List Nat)}, (∀ l ∈ ls, Asc l) → Asc (glue s ls)
  | [], _ => fun c hc => by cases hc
  | [p], h => h p List.mem_cons_self
  | p :: q :: ps, h => fun c hc => by
    have ih := glue_asc hs (ls := q :: ps) fun l hl => h l (List.mem_cons_of_mem _ hl)
    have hc : c ∈ p ++ s :: glue s (q :: ps) := hc
    rcases List.mem_append.mp hc with hc | hc
    · exact h p List.mem_cons_self c hc
    · rcases List.mem_cons.mp hc with hc | hc
      · rw [hc]; exact hs
      · exact ih c hc
theorem joinG (s : Nat) : ∀ ls : List (List Nat), Txt.join (S [s]) (ls.map S) = S (glue s ls) := by
  intro ls
  unfold Txt.join
  rw [StrLaws.glued_eq_join]
  induction ls with
  | nil => rfl
  | cons x r ih =>
    cases r with
    | nil => simp [Str.join, glue]
    | cons y r =>
      rw [List.map_cons, List.map_cons] at *
      show S x ++ S [s] ++ Str.join (S [s]) (S y :: List.map S r) = _
      rw [ih]
      simp [glue]
theorem joinD_G {s : Nat} {ls : List (List Nat)} (h : (ls.map List.length).sum + ls.length ≤ 1000000) : joinD (tx [s]) [.list (ls.map tx)] = some (tx (glue s ls)) := by
  show (match strs' (ls.map fun x => PyData.str (S x)) with
    | some ys => if (ys.map Str.length).sum + ys.length * (S [s]).length ≤ 1000000 then some (PyData.str (Txt.join (S [s]) ys)) else none
    | none => none) = _
  rw [strs_map]
  show (if ((ls.map S).map Str.length).sum + (ls.map S).length * (S [s]).length ≤ 1000000 then some (PyData.str (Txt.join (S [s]) (ls.map S))) else none) = _
  rw [joinG, if_pos]
  rw [S_len, List.length_singleton, Nat.mul_one, List.map_map, List.length_map]
  have e : (ls.map (Str.length ∘ S)).sum = (ls.map List.length).sum := by
    congr 1
  rw [e]
  exact h
end Pf

namespace Pf
open PySem L2 FF
theorem cut_len2 {l : List Nat} (h : ∀ a b, cutC 32 l ≠ [a, b]) : (cutC 32 l).length ≠ 2 := fun e => by
  cases e1 : cutC 32 l with
  | nil => rw [e1] at e; cases e
  | cons a r =>
    cases r with
    | nil => rw [e1] at e; cases e
    | cons b r =>
      cases r with
      | nil => exact h a b e1
      | cons c r => rw [e1] at e; simp at e
theorem lineW_not {p : List Nat → Bool} {l : List Nat} (h : ∀ a b, cutC 32 l ≠ [a, b]) : lineW p l = none := by
  unfold lineW
  split
  · rename_i a b e
    exact absurd e (h a b)
  · rfl
theorem is_name_any {b : List Nat} (hb : Asc b) (hl : b.length ≤ 900) : f_is_name [tx b] = .ok (.bool (okM b)) := by
  rw [spec_is_name (thing_tx hb.cps (by omega))]
  have : ofB (letters ++ marks) 1 24 (tx b) = okM b := by
    show (decide ((1 : Int) ≤ (S b).length) && decide (((S b).length : Int) ≤ 24) && (S b).cps.toList.all fun c => decide (c ∈ letters ++ marks)) = _
    rw [S_len, S_toList]
    unfold okM
    congr 2
    · exact decide_eq_decide.mpr ⟨fun h => by omega, fun h => by omega⟩
    · exact decide_eq_decide.mpr ⟨fun h => by omega, fun h => by omega⟩
  rw [this]
theorem intD_any {w : List Nat} (h : OkN w) : intD [tx w] = some (.int ((valN w : Nat) : Int)) := by
  show (if (S w).length ≤ 640 then (PySem.intText? (S w)).map fun n => PyData.int n else none) = _
  have hd : w.all (fun c => decide (48 ≤ c) && decide (c ≤ 57)) = true := List.all_eq_true.mpr fun c hc => by
    have := h.dig c hc
    rw [decide_eq_true this.1, decide_eq_true this.2]
    rfl
  have h1 := h.lo
  have h6 := h.hi
  have e : PySem.intText? (S w) = some ((NumText.digitsVal w : Nat) : Int) := SX.int_S hd (fun z => by rw [z] at h1; exact absurd h1 (by decide)) (by omega)
  rw [S_len, if_pos (by omega), e]
  rfl
theorem spec_row_any {l : List Nat} (hl : Asc l) (hll : l.length ≤ 900) : f_row_in [tx l] = match lineR l with
    | some r => .ok (rowD' r)
    | none => .exn "NoText" := by
  have sp : splitD (tx l) [tx [32]] = some (.list ((cutC 32 l).map tx)) := splitD_cut (by decide) (by omega)
  have cl := cutC_len 32 l
  by_cases hab : ∃ a b, cutC 32 l = [a, b]
  · obtain ⟨a, b, e⟩ := hab
    have ha : Asc a := fun c hc => hl c (cutC_mem 32 l a (by rw [e]; exact List.mem_cons_self) c hc)
    have hb : Asc b := fun c hc => hl c (cutC_mem 32 l b (by rw [e]; exact List.mem_cons_of_mem _ List.mem_cons_self) c hc)
    have hal := cutC_len1 32 l a (by rw [e]; exact List.mem_cons_self)
    have hbl := cutC_len1 32 l b (by rw [e]; exact List.mem_cons_of_mem _ List.mem_cons_self)
    have el : lineR l = if okN a = true ∧ okM b = true then some (b, valN a) else none := by
      unfold lineR lineW
      rw [e]
      show (if okN a = true ∧ okM b = true ∧ true = true then _ else _) = _
      simp only [and_true]
    rw [e] at sp
    have sp : splitD (tx l) [tx [32]] = some (.list [tx a, tx b]) := sp
    have a1 : atI [tx a, tx b] 1 = some (tx b) := rfl
    have a0 : atI [tx a, tx b] 0 = some (tx a) := rfl
    have nm := is_name_any hb (by omega)
    have c1 := compL_map (g := gN 2) (t := tYesM) (e := (eBin inD (eVar 2) (eC (.str "0123456789")))) (ρ0 := [.val (tx l), .val (.list [tx a, tx b]), .no]) (fun c => tx [c]) (fun c => .bool (decide (c ∈ figs))) a (fun c _ => ⟨_, rfl, rfl, by simp [str_figs]⟩)
    have c2 : allD [.list (a.map fun c => PyData.bool (decide (c ∈ figs)))] = some (.bool (a.all fun c => decide (c ∈ figs))) := by
      show (bools (a.map fun c => PyData.bool (decide (c ∈ figs)))).map (fun bs => PyData.bool (bs.all id)) = _
      rw [bools_map, Option.map_some, List.all_map]
      rfl
    rw [el]
    by_cases hM : okM b = true
    · rw [hM] at nm
      by_cases h1 : 1 ≤ a.length
      · by_cases h6 : a.length ≤ 6
        · have hle1 : ((1 : Int) ≤ a.length) := by omega
          have hle6 : ((a.length : Int) ≤ 6) := by omega
          cases hf : a.all fun c => decide (c ∈ figs) with
          | true =>
            have ok : okN a = true := by
              unfold okN
              rw [hf, decide_eq_true h1, decide_eq_true h6]
              rfl
            have e5 := intD_any (okN_iff.mp ok)
            rw [hf] at c2
            rw [if_pos ⟨ok, hM⟩]
            simp [f_row_in, fnM, m_row_in, sSeq_a, str_sp, sp, neD_int, a1, a0, nm, lm_ok, show a.length ≤ 1000000 by omega, hle1, hle6, wipeE, c1, c2, e5, lim, rowD']
          | false =>
            have no : ¬ okN a = true := by
              unfold okN
              rw [hf, Bool.and_false]
              decide
            rw [hf] at c2
            rw [if_neg (fun z => no z.1)]
            simp [f_row_in, fnM, m_row_in, sSeq_a, str_sp, sp, neD_int, a1, a0, nm, lm_ok, show a.length ≤ 1000000 by omega, hle1, hle6, wipeE, c1, c2, lim]
            rfl
        · have hle1 : ((1 : Int) ≤ a.length) := by omega
          have hle6 : ¬ ((a.length : Int) ≤ 6) := by omega
          have no : ¬ okN a = true := by
            unfold okN
            rw [decide_eq_false h6, Bool.and_false, Bool.false_and]
            decide
          rw [if_neg (fun z => no z.1)]
          simp [f_row_in, fnM, m_row_in, sSeq_a, str_sp, sp, neD_int, a1, a0, nm, lm_ok, show a.length ≤ 1000000 by omega, hle1, hle6, lim]
          rfl
      · have hle1 : ¬ ((1 : Int) ≤ a.length) := by omega
        have no : ¬ okN a = true := by
          unfold okN
          rw [decide_eq_false h1, Bool.false_and, Bool.false_and]
          decide
        rw [if_neg (fun z => no z.1)]
        simp [f_row_in, fnM, m_row_in, sSeq_a, str_sp, sp, neD_int, a1, a0, nm, lm_ok, show a.length ≤ 1000000 by omega, hle1, lim]
        rfl
    · rw [Bool.not_eq_true] at hM
      rw [hM] at nm
      rw [if_neg (fun z => by rw [hM] at z; exact absurd z.2 (by decide))]
      simp [f_row_in, fnM, m_row_in, sSeq_a, str_sp, sp, neD_int, a1, nm, lm_ok, lim]
      rfl
  · have hab : ∀ a b, cutC 32 l ≠ [a, b] := fun a b e => hab ⟨a, b, e⟩
    have h2 := cut_len2 hab
    have : lineR l = none := lineW_not hab
    rw [this]
    have n1 : neD (.int (((cutC 32 l).length : Nat) : Int)) (.int 2) = some (.bool true) := by
      rw [neD_int]
      congr 2
      rw [Bool.not_eq_true', decide_eq_false_iff_not]
      omega
    simp [f_row_in, fnM, m_row_in, sSeq_a, str_sp, sp, n1, lm_ok, lim]
    rfl
end Pf

namespace Pf
open PySem L2 FF
def toldD : Option (List WRow) → D
  | some R => .list (R.map rowD')
  | none => .none
theorem compLE_rows (ρ0 : FF.Env) (h2 : ρ0.length = 3) : ∀ ls : List (List Nat), (∀ l ∈ ls, Asc l ∧ l.length ≤ 900) →
    compLE (gN 2) tYesM f_row_in (aCons (eVar 2) aNil) ρ0 (ls.map tx) = match allO lineR ls with
      | some R => .ok (R.map rowD')
      | none => .exn "NoText"
  | [], _ => rfl
  | l :: ls, h => by
    have ih := compLE_rows ρ0 h2 ls fun x hx => h x (List.mem_cons_of_mem _ hx)
    obtain ⟨ha, hl⟩ := h l List.mem_cons_self
    have sp := spec_row_any ha hl
    obtain ⟨a, b, c, rfl⟩ : ∃ a b c, ρ0 = [a, b, c] := by
      match ρ0, h2 with
      | [a, b, c], _ => exact ⟨a, b, c, rfl⟩
    have e : compLE (gN 2) tYesM f_row_in (aCons (eVar 2) aNil) [a, b, c] (tx l :: ls.map tx) = (f_row_in [tx l]).bind fun y => (compLE (gN 2) tYesM f_row_in (aCons (eVar 2) aNil) [a, b, c] (ls.map tx)).bind fun ys => .ok (y :: ys) := rfl
    have e2 : allO lineR (l :: ls) = (lineR l).bind fun r => (allO lineR ls).bind fun R => some (r :: R) := rfl
    rw [List.map_cons, e, sp, ih, e2]
    cases lineR l with
    | none => rfl
    | some r => cases allO lineR ls <;> rfl
theorem cut_last (ls : List (List Nat)) (h : ls ≠ []) : cutL (ls.map tx) none (some (-1)) = ls.dropLast.map tx := by
  obtain ⟨a, b, e⟩ : ∃ a b, ls = a ++ [b] := ⟨_, _, (List.dropLast_concat_getLast h).symm⟩
  rw [e, List.map_append, List.dropLast_concat]
  unfold cutL
  rw [HT.sIx_none, List.drop_zero, Nat.sub_zero]
  have e : HT.sIx (a.map tx ++ [b].map tx).length (a.map tx ++ [b].map tx).length (some (-1)) = (a.map tx).length := by
    unfold HT.sIx
    rw [List.length_append, List.length_map, List.length_map, List.length_singleton]
    simp only [show (-1 : Int) < 0 by decide, if_true]
    omega
  rw [e, List.take_left' rfl]
theorem spec_read_any {t : List Nat} (ht : Asc t) (htl : t.length ≤ 800) : f_read [tx t] = match rdP t with
    | some R => .ok (.list (R.map rowD'))
    | none => .exn "NoText" := by
  have sl : splitD (tx t) [tx [10]] = some (.list ((cutC 10 t).map tx)) := splitD_cut (by decide) (by omega)
  have cl := cutC_len 10 t
  have cu := cut_last (cutC 10 t) (cutC_ne 10 t)
  have dl : (cutC 10 t).dropLast.length ≤ 800 := by rw [List.length_dropLast]; omega
  have hls : ∀ l ∈ (cutC 10 t).dropLast, Asc l ∧ l.length ≤ 900 := fun l hl => ⟨fun c hc => ht c (cutC_mem 10 t l (List.dropLast_subset _ hl) c hc), by have := cutC_len1 10 t l (List.dropLast_subset _ hl); omega⟩
  have cr := compLE_rows [.val (tx t), .no, .no] rfl _ hls
  have neg1 : negD (.int 1) = some (.int (-1)) := rfl
  have lc : eLcE (iAny (eSl (eMeth "str" splitD (eVar 0) (aCons (eC (.str "\n")) (aNil))) (oNone) (oSome (eUn negD (eC (.int 1)))))) (gN 2) (tYesM) f_row_in (aCons (eVar 2) (aNil)) [2] [.val (tx t), .no, .no] = (match allO lineR (cutC 10 t).dropLast with
      | some R => FF.R.ok (R.map rowD')
      | none => FF.R.exn "NoText").bind fun ys => .ok (.list ys) := by
    rw [← cr]
    unfold eLcE
    simp [str_lf, sl, neg1, cu, wipeE, show (cutC 10 t).length - 1 ≤ 1000000 by omega, show (cutC 10 t).dropLast.length ≤ 1000000 by omega]
  show (match m_read [.val (tx t), .no, .no] with
  | .next _ => FF.R.ok PyData.none
  | .ret d => .ok d
  | .exn c _ => .exn c
  | _ => .bad) = _
  unfold m_read rdP
  rw [sSeq_a, sSet_a, lc]
  cases e : allO lineR (cutC 10 t).dropLast with
  | none => rfl
  | some R =>
    obtain ⟨k1, k2⟩ := allO_some e
    have hR : ∀ r ∈ R, RowOk r := fun r hr => by
      obtain ⟨l, _, hl⟩ := k2 r hr
      exact (lineW_ok hl).1
    have w := spec_written hR (by omega)
    have ne := neD_tx (wr_asc hR).cps ht.cps
    show _ = (match (if wr R = t then some R else none) with
      | some R => FF.R.ok (PyData.list (R.map rowD'))
      | none => FF.R.exn "NoText")
    by_cases hx : wr R = t
    · rw [if_pos hx]
      rw [decide_eq_true hx] at ne
      simp [w, ne, sSeq_a]
    · rw [if_neg hx]
      rw [decide_eq_false hx] at ne
      simp [w, ne, sSeq_a]
      rfl
theorem spec_law_told {t : List Nat} (ht : Asc t) (htl : t.length ≤ 800) : f_law_told [tx t] = .ok (toldD (rdP t)) := by
  have rd := spec_read_any ht htl
  show (match m_law_told [.val (tx t), .no, .no] with
  | .next _ => FF.R.ok PyData.none
  | .ret d => .ok d
  | .exn c _ => .exn c
  | _ => .bad) = _
  unfold m_law_told
  cases e : rdP t with
  | some R =>
    rw [e] at rd
    simp [sSeq_a, sTryB, rd, toldD]
  | none =>
    rw [e] at rd
    simp [sSeq_a, sTryB, rd, toldD]
end Pf

namespace Pf
open PySem L2 FF
theorem str_lm : (Str.ofString "abcdefghijklmnopqrstuvwxyzABCDEFGHIJKLMNOPQRSTUVWXYZ0123456789_-./") = S (letters ++ marks) := by decide +kernel
theorem str_0 : (Str.ofString "0") = S [48] := by decide +kernel
theorem odd_nil {z w : List Nat} (hw : Asc w) (hl : w.length ≤ 900) : neD (.list ((w.filter fun c => !decide (c ∈ z)).map fun c => tx [c])) (.list []) = some (.bool (!(w.all fun c => decide (c ∈ z)))) := by
  have h1 : ∀ c ∈ (w.filter fun c => !decide (c ∈ z)).map (fun c => [c]), Cps c := fun x hx => by
    obtain ⟨c, hc, rfl⟩ := List.mem_map.mp hx
    exact cps1 (hw c (List.mem_filter.mp hc).1)
  have h2 := (good_list good_tx).neD (x := (w.filter fun c => !decide (c ∈ z)).map fun c => [c]) (y := []) (by decide) h1 (fun c hc => by cases hc)
  rw [List.map_map] at h2
  refine h2.trans ?_
  have e : decide (((w.filter fun c => !decide (c ∈ z)).map fun c => [c]) = []) = (w.all fun c => decide (c ∈ z)) := by
    rw [Bool.eq_iff_iff, decide_eq_true_eq, List.map_eq_nil_iff, List.filter_eq_nil_iff, List.all_eq_true]
    exact ⟨fun h c hc => by
      have := h c hc
      cases e : decide (c ∈ z) with
      | true => rfl
      | false => rw [e] at this; exact absurd rfl this, fun h c hc => by rw [h c hc]; decide⟩
  rw [e]
section
variable {t l z : List Nat} {R : List WRow} {x3 x5 : Sl}
theorem lread_turn (hz : z = letters ++ marks) (hl : Asc l) (hll : l.length ≤ 900) (hR : R.length ≤ 900) : ∃ y5, b_law_read_2 [.val (tx t), .val (tx (z)), .own (R.map rowD'), x3, .val (tx l), x5, .no] = match lineL l with
    | some r => .next [.val (tx t), .val (tx (z)), .own ((R ++ [r]).map rowD'), x3, .val (tx l), y5, .no]
    | none => .ret .none := by
  have sp : splitD (tx l) [tx [32]] = some (.list ((cutC 32 l).map tx)) := splitD_cut (by decide) (by omega)
  have cl := cutC_len 32 l
  refine ⟨.val (.list ((cutC 32 l).map tx)), ?_⟩
  by_cases hab : ∃ a b, cutC 32 l = [a, b]
  · obtain ⟨a, b, e⟩ := hab
    have ha : Asc a := fun c hc => hl c (cutC_mem 32 l a (by rw [e]; exact List.mem_cons_self) c hc)
    have hb : Asc b := fun c hc => hl c (cutC_mem 32 l b (by rw [e]; exact List.mem_cons_of_mem _ List.mem_cons_self) c hc)
    have hal := cutC_len1 32 l a (by rw [e]; exact List.mem_cons_self)
    have hbl := cutC_len1 32 l b (by rw [e]; exact List.mem_cons_of_mem _ List.mem_cons_self)
    have el : lineL l = if okN a = true ∧ okM b = true ∧ okC a = true then some (b, valN a) else none := by
      unfold lineL lineW
      rw [e]
    rw [e] at sp ⊢
    have sp : splitD (tx l) [tx [32]] = some (.list [tx a, tx b]) := sp
    show _ = match lineL l with
    | some r => Fl.next [.val (tx t), .val (tx (z)), .own ((R ++ [r]).map rowD'), x3, .val (tx l), .val (.list [tx a, tx b]), .no]
    | none => .ret .none
    have a1 : atI [tx a, tx b] 1 = some (tx b) := rfl
    have a0 : atI [tx a, tx b] 0 = some (tx a) := rfl
    have q1 := eqD_tx (a := a) (b := []) ha.cps (fun c hc => by cases hc)
    have q2 := neD_tx (a := a) (b := [48]) ha.cps (cps1 (by decide))
    have c1 := compL_filterMap (g := gN 6) (t := tVal (eBin ninD (eVar 6) (eC (.str "0123456789")))) (e := eVar 6) (ρ0 := [.val (tx t), .val (tx (z)), .own (R.map rowD'), x3, .val (tx l), .val (.list [tx a, tx b]), .no]) (fun c => tx [c]) (fun c => !decide (c ∈ figs)) (fun c => tx [c]) a (fun c _ => ⟨_, rfl, by simp [str_figs], fun _ => rfl⟩)
    have c2 := compL_filterMap (g := gN 6) (t := tVal (eBin ninD (eVar 6) (eVar 1))) (e := eVar 6) (ρ0 := [.val (tx t), .val (tx (z)), .own (R.map rowD'), x3, .val (tx l), .val (.list [tx a, tx b]), .no]) (fun c => tx [c]) (fun c => !decide (c ∈ z)) (fun c => tx [c]) b (fun c _ => ⟨_, rfl, by
      have := ninD_S c (z)
      show (lft (ninD (tx [c]) (tx (z)))).bind boolOf = _
      rw [this]
      rfl, fun _ => rfl⟩)
    have o1 := odd_nil (z := figs) ha (by omega)
    have o2 := odd_nil (z := z) hb (by omega)
    have lens : a.length ≤ 1000000 ∧ b.length ≤ 1000000 := ⟨by omega, by omega⟩
    rw [el]
    unfold b_law_read_2
    refine (seq_nx' (ρ' := [.val (tx t), .val (tx (z)), .own (R.map rowD'), x3, .val (tx l), .val (.list [tx a, tx b]), .no]) (by simp [str_sp, sp])).trans ?_
    cases a with
    | nil =>
      rw [if_neg (fun h => by cases h.1)]
      rw [decide_eq_true rfl] at q1
      simp [sSeq_a, neD_int, str_nil, lm_ok, a0, q1, lim]
    | cons c r =>
      have ec : atI (c :: r) 0 = some c := at_lit (c :: r) 0 (i := 0) (by simp)
      have q3 := eqD_tx (a := [c]) (b := [48]) (cps1 (ha c List.mem_cons_self)) (cps1 (by decide))
      have hh : decide ([c] = [48]) = decide (c = 48) := decide_eq_decide.mpr ⟨fun h => by cases h; rfl, fun h => by rw [h]⟩
      rw [hh] at q3
      rw [decide_eq_false (show ¬ (c :: r = []) by simp)] at q1
      have hl1 : (c :: r).length ≤ 1000000 := lens.1
      have ix0 := ixD_S (c :: r) 0
      rw [if_pos hl1, ec] at ix0
      have ix0 : ixD (tx (c :: r)) (.int 0) = some (tx [c]) := ix0
      have ln : lenD [tx (c :: r)] = some (.int (((c :: r).length : Nat) : Int)) := by simp [lenD, lm_ok hl1, -List.length_cons]
      generalize hA : c :: r = A at *
      cases hc0 : decide (A = [48]) || !decide (c = 48) with
      | false =>
        have hno : okC A = false := by
          unfold okC
          rw [← hA] at hc0 ⊢
          exact hc0
        rw [if_neg (fun h => by rw [hno] at h; exact absurd h.2.2 (by decide))]
        obtain ⟨g1, g2⟩ := Bool.or_eq_false_iff.mp hc0
        have g2 : decide (c = 48) = true := by simpa using g2
        rw [g1] at q2
        rw [g2] at q3
        simp [sSeq_a, neD_int, str_nil, str_0, lm_ok, a0, q1, q2, q3, ix0, ln, lim]
      | true =>
        have hyes : okC A = true := by
          unfold okC
          rw [← hA] at hc0 ⊢
          exact hc0
        have stp : (decide (A = [48]) = true) ∨ (decide (A = [48]) = false ∧ decide (c = 48) = false) := by
          cases h : decide (A = [48]) with
          | true => exact .inl rfl
          | false =>
            rw [h, Bool.false_or, Bool.not_eq_true'] at hc0
            exact .inr ⟨rfl, hc0⟩
        have hA1 : 1 ≤ A.length := by rw [← hA, List.length_cons]; omega
        by_cases h6 : A.length ≤ 6
        · have hg6 : ¬ ((6 : Int) < (A.length : Int)) := by omega
          refine (seq_nx' (ρ' := [.val (tx t), .val (tx (z)), .own (R.map rowD'), x3, .val (tx l), .val (.list [tx A, tx b]), .no]) (by
            rcases stp with h | ⟨h, h'⟩
            · rw [h] at q2
              simp [neD_int, str_nil, str_0, lm_ok, a0, q1, q2, q3, ix0, ln, lim, hg6]
            · rw [h] at q2
              rw [h'] at q3
              simp [neD_int, str_nil, str_0, lm_ok, a0, q1, q2, q3, ix0, ln, lim, hg6])).trans ?_
          cases hf : A.all fun c => decide (c ∈ figs) with
          | false =>
            have no : ¬ okN A = true := by
              unfold okN
              rw [hf, Bool.and_false]
              decide
            rw [if_neg (fun h => no h.1)]
            rw [hf] at o1
            simp [sSeq_a, a0, wipeE, lens.1, c1, o1, lim]
          | true =>
            have ok : okN A = true := by
              unfold okN
              rw [hf, decide_eq_true hA1, decide_eq_true h6]
              rfl
            rw [hf] at o1
            by_cases hb1 : 1 ≤ b.length
            · by_cases hb2 : b.length ≤ 24
              · have hbi1 : ((1 : Int) ≤ b.length) := by omega
                have hbi2 : ((b.length : Int) ≤ 24) := by omega
                refine (seq_nx' (ρ' := [.val (tx t), .val (tx (z)), .own (R.map rowD'), x3, .val (tx l), .val (.list [tx A, tx b]), .no]) (by
                  simp [a0, a1, wipeE, lens.1, lens.2, c1, o1, lim, lm_ok, hbi1, hbi2])).trans ?_
                cases hs : b.all fun c => decide (c ∈ z) with
                | false =>
                  have no : ¬ okM b = true := by
                    unfold okM
                    rw [← hz, hs, Bool.and_false]
                    decide
                  rw [if_neg (fun h => no h.2.1)]
                  rw [hs] at o2
                  simp [sSeq_a, a1, wipeE, lens.2, c2, o2, lim]
                | true =>
                  have okm : okM b = true := by
                    unfold okM
                    rw [← hz, hs, decide_eq_true hb1, decide_eq_true hb2]
                    rfl
                  rw [if_pos ⟨ok, okm, hyes⟩]
                  rw [hs] at o2
                  have e5 := intD_any (okN_iff.mp ok)
                  refine (seq_nx' (ρ' := [.val (tx t), .val (tx (z)), .own (R.map rowD'), x3, .val (tx l), .val (.list [tx A, tx b]), .no]) (by
                    simp [a1, wipeE, lens.2, c2, o2, lim])).trans ?_
                  refine (sApp_a (d := rowD' (b, valN A)) rfl ?_ (by rw [List.length_map]; omega)).trans ?_
                  · simp [a0, a1, e5, lim, rowD']
                  · simp
              · have hbi1 : ((1 : Int) ≤ b.length) := by omega
                have hbi2 : ¬ ((b.length : Int) ≤ 24) := by omega
                have no : ¬ okM b = true := by
                  unfold okM
                  rw [decide_eq_false hb2, Bool.and_false, Bool.false_and]
                  decide
                rw [if_neg (fun h => no h.2.1)]
                simp [sSeq_a, a0, a1, wipeE, lens.1, lens.2, c1, o1, lim, lm_ok, hbi1, hbi2]
            · have hbi1 : ¬ ((1 : Int) ≤ b.length) := by omega
              have no : ¬ okM b = true := by
                unfold okM
                rw [decide_eq_false hb1, Bool.false_and, Bool.false_and]
                decide
              rw [if_neg (fun h => no h.2.1)]
              simp [sSeq_a, a0, a1, wipeE, lens.1, lens.2, c1, o1, lim, lm_ok, hbi1]
        · have hg6 : ((6 : Int) < (A.length : Int)) := by omega
          have no : ¬ okN A = true := by
            unfold okN
            rw [decide_eq_false h6, Bool.and_false, Bool.false_and]
            decide
          rw [if_neg (fun h => no h.1)]
          rcases stp with h | ⟨h, h'⟩
          · rw [h] at q2
            simp [sSeq_a, neD_int, str_nil, str_0, lm_ok, a0, q1, q2, q3, ix0, ln, lim, hg6]
          · rw [h] at q2
            rw [h'] at q3
            simp [sSeq_a, neD_int, str_nil, str_0, lm_ok, a0, q1, q2, q3, ix0, ln, lim, hg6]
  · have hab : ∀ a b, cutC 32 l ≠ [a, b] := fun a b e => hab ⟨a, b, e⟩
    have h2 := cut_len2 hab
    have : lineL l = none := lineW_not hab
    rw [this]
    have n1 : neD (.int (((cutC 32 l).length : Nat) : Int)) (.int 2) = some (.bool true) := by
      rw [neD_int]
      congr 2
      rw [Bool.not_eq_true', decide_eq_false_iff_not]
      omega
    simp [b_law_read_2, sSeq_a, str_sp, sp, n1, lm_ok, lim]
end
end Pf

namespace Pf
open PySem L2 FF
theorem lread_loop {t z : List Nat} {x3 : Sl} (hz : z = letters ++ marks) : ∀ (ls : List (List Nat)) (R : List WRow) (x4 x5 : Sl), (∀ l ∈ ls, Asc l ∧ l.length ≤ 900) → R.length + ls.length ≤ 900 →
    ∃ y4 y5, forL (gN 4) b_law_read_2 (ls.map tx) [.val (tx t), .val (tx z), .own (R.map rowD'), x3, x4, x5, .no] = match allO lineL ls with
      | some T => .next [.val (tx t), .val (tx z), .own ((R ++ T).map rowD'), x3, y4, y5, .no]
      | none => .ret .none
  | [], R, x4, x5, _, _ => ⟨x4, x5, by
    show Fl.next _ = Fl.next _
    rw [List.append_nil]⟩
  | l :: ls, R, x4, x5, h, hR => by
    rw [List.length_cons] at hR
    obtain ⟨ha, hl⟩ := h l List.mem_cons_self
    obtain ⟨y5, e⟩ := lread_turn (t := t) (l := l) (R := R) (x3 := x3) (x5 := x5) hz ha hl (by omega)
    have e2 : allO lineL (l :: ls) = (lineL l).bind fun r => (allO lineL ls).bind fun R => some (r :: R) := rfl
    have e3 : forL (gN 4) b_law_read_2 ((l :: ls).map tx) [.val (tx t), .val (tx z), .own (R.map rowD'), x3, x4, x5, .no] = (match b_law_read_2 [.val (tx t), .val (tx z), .own (R.map rowD'), x3, .val (tx l), x5, .no] with
      | .next ρ2 => forL (gN 4) b_law_read_2 (ls.map tx) ρ2
      | .cont ρ2 => forL (gN 4) b_law_read_2 (ls.map tx) ρ2
      | .brk ρ2 => .next ρ2
      | x => x) := rfl
    rw [e2, e3, e]
    cases el : lineL l with
    | none => exact ⟨.no, .no, rfl⟩
    | some r =>
      obtain ⟨y4', y5', ih⟩ := lread_loop (t := t) (x3 := x3) hz ls (R ++ [r]) (.val (tx l)) y5 (fun x hx => h x (List.mem_cons_of_mem _ hx)) (by rw [List.length_append, List.length_singleton]; omega)
      refine ⟨y4', y5', ?_⟩
      refine Eq.trans ih ?_
      cases allO lineL ls with
      | none => rfl
      | some T =>
        show Fl.next _ = Fl.next _
        rw [List.append_assoc]
        rfl
theorem atI_lst {α : Type} (l : List α) (x : α) : atI (l ++ [x]) (-1) = some x := by
  rw [atI_m1 _ (by simp), List.length_append, List.length_singleton, Nat.add_sub_cancel, List.getElem?_append_right (Nat.le_refl _), Nat.sub_self]
  rfl
theorem spec_law_read {t : List Nat} (ht : Asc t) (htl : t.length ≤ 800) : f_law_read [tx t] = .ok (toldD (rdL t)) := by
  have sl : splitD (tx t) [tx [10]] = some (.list ((cutC 10 t).map tx)) := splitD_cut (by decide) (by omega)
  have cl := cutC_len 10 t
  have cu := cut_last (cutC 10 t) (cutC_ne 10 t)
  have dl : (cutC 10 t).dropLast.length ≤ 800 := by rw [List.length_dropLast]; omega
  have hls : ∀ l ∈ (cutC 10 t).dropLast, Asc l ∧ l.length ≤ 900 := fun l hl => ⟨fun c hc => ht c (cutC_mem 10 t l (List.dropLast_subset _ hl) c hc), by have := cutC_len1 10 t l (List.dropLast_subset _ hl); omega⟩
  obtain ⟨y4, y5, lp⟩ := lread_loop (t := t) (x3 := .val (.list ((cutC 10 t).map tx))) rfl (cutC 10 t).dropLast [] .no .no hls (by rw [List.length_nil]; omega)
  have neg1 : negD (.int 1) = some (.int (-1)) := rfl
  have lastD : atI ((cutC 10 t).map tx) (-1) = some (tx ((cutC 10 t).getLast (cutC_ne 10 t))) := by
    have e := (List.dropLast_concat_getLast (cutC_ne 10 t)).symm
    have e2 : (cutC 10 t).map tx = (cutC 10 t).dropLast.map tx ++ [tx ((cutC 10 t).getLast (cutC_ne 10 t))] := by
      have := congrArg (List.map tx) e
      rw [List.map_append] at this
      exact this
    rw [e2, atI_lst]
  have la : Asc ((cutC 10 t).getLast (cutC_ne 10 t)) := fun c hc => ht c (cutC_mem 10 t _ (List.getLast_mem _) c hc)
  have q := eqD_tx (b := []) la.cps (fun c hc => by cases hc)
  unfold rdL
  refine fnM_ret rfl ?_
  show m_law_read [.val (tx t), .no, .no, .no, .no, .no, .no] = _
  unfold m_law_read
  rw [sSeq_a]
  have s1 : sSet 1 (eC (.str "abcdefghijklmnopqrstuvwxyzABCDEFGHIJKLMNOPQRSTUVWXYZ0123456789_-./")) [.val (tx t), .no, .no, .no, .no, .no, .no] = .next [.val (tx t), .val (tx (letters ++ marks)), .no, .no, .no, .no, .no] := by
    show Fl.next [_, Sl.val (.str _), _, _, _, _, _] = _
    rw [show (Str.ofString "abcdefghijklmnopqrstuvwxyzABCDEFGHIJKLMNOPQRSTUVWXYZ0123456789_-./") = _ from str_lm]
  rw [s1]
  generalize hz : letters ++ marks = z at lp
  refine (seq_nx' (ρ' := [.val (tx t), .val (tx z), .own [], .no, .no, .no, .no]) (by simp)).trans ?_
  refine (seq_nx' (ρ' := [.val (tx t), .val (tx z), .own [], .val (.list ((cutC 10 t).map tx)), .no, .no, .no]) (by simp [str_lf, sl])).trans ?_
  have fr : sFor (iAny (eSl (eVar 3) (oNone) (oSome (eUn negD (eC (.int 1)))))) (gN 4) b_law_read_2 [.val (tx t), .val (tx z), .own [], .val (.list ((cutC 10 t).map tx)), .no, .no, .no] = forL (gN 4) b_law_read_2 ((cutC 10 t).dropLast.map tx) [.val (tx t), .val (tx z), .own [], .val (.list ((cutC 10 t).map tx)), .no, .no, .no] := by
    simp [neg1, cu]
  change forL (gN 4) b_law_read_2 ((cutC 10 t).dropLast.map tx) [.val (tx t), .val (tx z), .own [], .val (.list ((cutC 10 t).map tx)), .no, .no, .no] = _ at lp
  unfold b_law_read_2 at fr lp
  rw [sSeq_a, fr, lp]
  cases allO lineL (cutC 10 t).dropLast with
  | none => rfl
  | some R =>
    show _ = Fl.ret (toldD (if (cutC 10 t).getLast (cutC_ne 10 t) = [] then some R else none))
    by_cases hx : (cutC 10 t).getLast (cutC_ne 10 t) = []
    · rw [if_pos hx]
      rw [decide_eq_true hx] at q
      simp [fixE, neg1, lastD, str_nil, q, toldD]
    · rw [if_neg hx]
      rw [decide_eq_false hx] at q
      simp [fixE, neg1, lastD, str_nil, q, toldD]
end Pf

namespace Pf
open PySem L2 FF
theorem enumD_rangeC {α : Type} (enc : α → D) (d : α) (xs : List α) : enumD 0 (xs.map enc) = (List.range xs.length).map fun i : Nat => PyData.tuple [.int (i : Int), enc (xs.getD i d)] := by
  refine List.ext_getElem? fun i => ?_
  by_cases h : i < xs.length
  · have h2 : i < (enumD 0 (xs.map enc)).length := by rw [enumD_len, List.length_map]; exact h
    obtain ⟨x, e1, e2⟩ := enumD_get (xs.map enc) 0 i _ (List.getElem?_eq_getElem h2)
    rw [List.getElem?_eq_getElem h2, e2]
    rw [List.getElem?_map, List.getElem?_eq_getElem h] at e1
    cases e1
    have e3 : xs.getD i d = xs[i] := by rw [List.getD_eq_getElem?_getD, List.getElem?_eq_getElem h]; rfl
    rw [List.getElem?_map, List.getElem?_range h, Nat.zero_add, Option.map_some, e3]
  · rw [List.getElem?_eq_none (by rw [enumD_len, List.length_map]; omega), List.getElem?_eq_none (by rw [List.length_map, List.length_range]; omega)]
theorem enum_namesC (L : List (List Nat)) : enumD 0 (L.map tx) = (List.range L.length).map fun i : Nat => PyData.tuple [.int (i : Int), tx (L.getD i [])] := enumD_rangeC tx [] L
/-! ### counts of signs, in plain lists -/
abbrev Cs := List (Nat × Nat)
def keysC (cs : Cs) : List Nat := cs.map (·.1)
def getC (cs : Cs) (n : Nat) : Nat := ((cs.find? fun x => decide (x.1 = n)).map (·.2)).getD 0
def putC (cs : Cs) (n c : Nat) : Cs := if (cs.any fun x => decide (x.1 = n)) = true then cs.map (fun x => if x.1 = n then (x.1, c) else x) else cs ++ [(n, c)]
def addC (cs : Cs) (n c : Nat) : Cs := putC cs n (getC cs n + c)
def foldC (l : Cs) (cs : Cs) : Cs := l.foldl (fun acc x => addC acc x.1 x.2) cs
/-- the sum of the counts of the keys that are made m -/
def totC (f : Nat → Nat) (cs : Cs) (m : Nat) : Nat := (cs.map fun x => if f x.1 = m then x.2 else 0).sum
theorem any_keys {cs : Cs} {n : Nat} : (cs.any fun x => decide (x.1 = n)) = true ↔ n ∈ keysC cs := by
  unfold keysC
  rw [List.any_eq_true, List.mem_map]
  constructor
  · rintro ⟨x, hx, h⟩
    exact ⟨x, hx, of_decide_eq_true h⟩
  · rintro ⟨x, hx, h⟩
    exact ⟨x, hx, decide_eq_true h⟩
theorem getC_nil (n : Nat) : getC [] n = 0 := rfl
theorem getC_cons (x : Nat × Nat) (cs : Cs) (n : Nat) : getC (x :: cs) n = if x.1 = n then x.2 else getC cs n := by
  unfold getC
  rw [List.find?_cons]
  by_cases h : x.1 = n
  · rw [decide_eq_true h, if_pos h]
    rfl
  · rw [decide_eq_false h, if_neg h]
theorem getC_no : ∀ {cs : Cs} {n : Nat}, n ∉ keysC cs → getC cs n = 0
  | [], _, _ => rfl
  | x :: cs, n, h => by
    have h : n ∉ x.1 :: keysC cs := h
    rw [List.mem_cons, not_or] at h
    rw [getC_cons, if_neg fun z => h.1 z.symm, getC_no h.2]
theorem getC_at : ∀ {cs : Cs}, (keysC cs).Nodup → ∀ x ∈ cs, getC cs x.1 = x.2
  | [], _, x, hx => by cases hx
  | y :: cs, h, x, hx => by
    have h : (y.1 :: keysC cs).Nodup := h
    rw [List.nodup_cons] at h
    rw [getC_cons]
    rcases List.mem_cons.mp hx with rfl | hx
    · rw [if_pos rfl]
    · rw [if_neg fun z => h.1 (by rw [z]; exact List.mem_map_of_mem hx), getC_at h.2 x hx]
theorem map_put_no : ∀ {cs : Cs} {n c : Nat}, n ∉ keysC cs → cs.map (fun x => if x.1 = n then (x.1, c) else x) = cs
  | [], _, _, _ => rfl
  | x :: cs, n, c, h => by
    have h : n ∉ x.1 :: keysC cs := h
    rw [List.mem_cons, not_or] at h
    rw [List.map_cons, if_neg fun z => h.1 z.symm, map_put_no h.2]
theorem keys_map (cs : Cs) (n c : Nat) : keysC (cs.map (fun x => if x.1 = n then (x.1, c) else x)) = keysC cs := by
  unfold keysC
  rw [List.map_map]
  refine List.map_congr_left fun x _ => ?_
  show (if x.1 = n then (x.1, c) else x).1 = x.1
  split <;> rfl
theorem keys_put (cs : Cs) (n c : Nat) : keysC (putC cs n c) = if n ∈ keysC cs then keysC cs else keysC cs ++ [n] := by
  unfold putC
  by_cases h : n ∈ keysC cs
  · rw [if_pos (any_keys.mpr h), if_pos h, keys_map]
  · rw [if_neg fun z => h (any_keys.mp z), if_neg h]
    unfold keysC
    rw [List.map_append]
    rfl
theorem mem_put {cs : Cs} {n c m : Nat} : m ∈ keysC (putC cs n c) ↔ m ∈ keysC cs ∨ m = n := by
  rw [keys_put]
  split
  · rename_i h
    exact ⟨.inl, fun z => z.elim id fun z => by rw [z]; exact h⟩
  · rw [List.mem_append, List.mem_singleton]
theorem nodup_put {cs : Cs} {n c : Nat} (h : (keysC cs).Nodup) : (keysC (putC cs n c)).Nodup := by
  rw [keys_put]
  split
  · exact h
  · rename_i hn
    rw [List.nodup_append]
    exact ⟨h, by simp, fun a ha b hb => fun z => hn (by rw [← List.mem_singleton.mp hb, ← z]; exact ha)⟩
theorem getC_map : ∀ (cs : Cs) (n c m : Nat), n ∈ keysC cs → getC (cs.map (fun x => if x.1 = n then (x.1, c) else x)) m = if m = n then c else getC cs m
  | x :: cs, n, c, m, h => by
    have h : n ∈ x.1 :: keysC cs := h
    rw [List.map_cons, getC_cons, getC_cons]
    by_cases hx : x.1 = n
    · rw [if_pos hx]
      show (if x.1 = m then c else _) = _
      by_cases hm : m = n
      · rw [if_pos (by rw [hx, hm]), if_pos hm]
      · rw [if_neg fun z => hm (by rw [← z, hx]), if_neg hm, if_neg fun z => hm (by rw [← z, hx])]
        by_cases hk : n ∈ keysC cs
        · rw [getC_map cs n c m hk, if_neg hm]
        · rw [map_put_no hk]
    · rw [if_neg hx]
      have hk : n ∈ keysC cs := (List.mem_cons.mp h).resolve_left fun z => hx z.symm
      by_cases hm : x.1 = m
      · rw [if_pos hm, if_pos hm, if_neg fun z => hx (by rw [hm, z])]
      · rw [if_neg hm, if_neg hm, getC_map cs n c m hk]
theorem getC_app : ∀ (cs : Cs) (n c m : Nat), n ∉ keysC cs → getC (cs ++ [(n, c)]) m = if m = n then c else getC cs m
  | [], n, c, m, _ => by
    rw [List.nil_append, getC_cons]
    by_cases h : m = n
    · rw [if_pos h.symm, if_pos h]
    · rw [if_neg fun z => h z.symm, if_neg h]
  | x :: cs, n, c, m, h => by
    have h : n ∉ x.1 :: keysC cs := h
    rw [List.mem_cons, not_or] at h
    rw [List.cons_append, getC_cons, getC_cons, getC_app cs n c m h.2]
    by_cases hm : x.1 = m
    · rw [if_pos hm, if_pos hm, if_neg fun z => h.1 (by rw [hm, z])]
    · rw [if_neg hm, if_neg hm]
theorem getC_put (cs : Cs) (n c m : Nat) : getC (putC cs n c) m = if m = n then c else getC cs m := by
  unfold putC
  by_cases h : n ∈ keysC cs
  · rw [if_pos (any_keys.mpr h), getC_map cs n c m h]
  · rw [if_neg fun z => h (any_keys.mp z), getC_app cs n c m h]
theorem getC_add (cs : Cs) (n c m : Nat) : getC (addC cs n c) m = getC cs m + if n = m then c else 0 := by
  unfold addC
  rw [getC_put]
  by_cases h : m = n
  · rw [if_pos h, if_pos h.symm, h]
  · rw [if_neg h, if_neg fun z => h z.symm, Nat.add_zero]
theorem foldC_cons (x : Nat × Nat) (l cs : Cs) : foldC (x :: l) cs = foldC l (addC cs x.1 x.2) := rfl
theorem getC_fold : ∀ (l cs : Cs) (m : Nat), getC (foldC l cs) m = getC cs m + totC id l m
  | [], cs, m => rfl
  | x :: l, cs, m => by
    rw [foldC_cons, getC_fold l, getC_add, Nat.add_assoc]
    rfl
theorem memC_fold : ∀ (l cs : Cs) (m : Nat), m ∈ keysC (foldC l cs) ↔ m ∈ keysC cs ∨ m ∈ keysC l
  | [], cs, m => by simp [foldC, keysC]
  | x :: l, cs, m => by
    rw [foldC_cons, memC_fold l]
    unfold addC
    rw [mem_put]
    show _ ↔ _ ∨ m ∈ x.1 :: keysC l
    rw [List.mem_cons, or_assoc]
theorem nodup_fold : ∀ (l cs : Cs), (keysC cs).Nodup → (keysC (foldC l cs)).Nodup
  | [], _, h => h
  | x :: l, cs, h => nodup_fold l _ (nodup_put h)
theorem tot_no {f : Nat → Nat} : ∀ {cs : Cs} {n c m : Nat}, n ∉ keysC cs → totC f (cs ++ [(n, c)]) m = totC f cs m + if f n = m then c else 0
  | cs, n, c, m, _ => by
    unfold totC
    rw [List.map_append, List.sum_append]
    simp
theorem tot_map {f : Nat → Nat} : ∀ {cs : Cs} {n c m : Nat}, (keysC cs).Nodup → n ∈ keysC cs → totC f (cs.map (fun x => if x.1 = n then (x.1, getC cs n + c) else x)) m = totC f cs m + if f n = m then c else 0
  | x :: cs, n, c, m, h, hn => by
    have h : (x.1 :: keysC cs).Nodup := h
    rw [List.nodup_cons] at h
    have hn : n ∈ x.1 :: keysC cs := hn
    rw [List.map_cons]
    by_cases hx : x.1 = n
    · have hk : n ∉ keysC cs := by rw [← hx]; exact h.1
      rw [if_pos hx, map_put_no hk, getC_cons, if_pos hx]
      show (if f x.1 = m then x.2 + c else 0) + totC f cs m = ((if f x.1 = m then x.2 else 0) + totC f cs m) + _
      rw [hx]
      split <;> omega
    · have hk : n ∈ keysC cs := (List.mem_cons.mp hn).resolve_left fun z => hx z.symm
      rw [if_neg hx, getC_cons, if_neg hx]
      show (if f x.1 = m then x.2 else 0) + totC f (cs.map _) m = ((if f x.1 = m then x.2 else 0) + totC f cs m) + _
      rw [tot_map h.2 hk]
      omega
theorem tot_add {f : Nat → Nat} {cs : Cs} (n c m : Nat) (h : (keysC cs).Nodup) : totC f (addC cs n c) m = totC f cs m + if f n = m then c else 0 := by
  unfold addC putC
  by_cases hk : n ∈ keysC cs
  · rw [if_pos (any_keys.mpr hk), tot_map h hk]
  · rw [if_neg fun z => hk (any_keys.mp z), tot_no hk, getC_no hk, Nat.zero_add]
theorem tot_fold {f : Nat → Nat} : ∀ (l cs : Cs) (m : Nat), (keysC cs).Nodup → totC f (foldC l cs) m = totC f cs m + totC f l m
  | [], cs, m, _ => rfl
  | x :: l, cs, m, h => by
    rw [foldC_cons, tot_fold l (addC cs x.1 x.2) m (nodup_put h), tot_add x.1 x.2 m h, Nat.add_assoc]
    rfl
theorem len_put (cs : Cs) (n c : Nat) : (putC cs n c).length ≤ cs.length + 1 := by
  unfold putC
  split
  · rw [List.length_map]; omega
  · rw [List.length_append]; exact Nat.le_refl _
theorem len_fold : ∀ (l cs : Cs), (foldC l cs).length ≤ cs.length + l.length
  | [], cs => Nat.le_refl _
  | x :: l, cs => by
    have := len_fold l (addC cs x.1 x.2)
    have h2 := len_put cs x.1 (getC cs x.1 + x.2)
    rw [foldC_cons, List.length_cons]
    unfold addC at this ⊢
    omega
/-! signs of a text -/
def onesC (t : List Nat) : Cs := t.map fun s => (s, 1)
def cntC (t : List Nat) : Cs := foldC (onesC t) []
def lowC (cs : Cs) : Cs := cs.map fun x => (low x.1, x.2)
def smlC (cs : Cs) : Cs := foldC (lowC cs) []
theorem keys_ones (t : List Nat) : keysC (onesC t) = t := by
  unfold keysC onesC
  rw [List.map_map]
  exact List.map_id _
theorem tot_ones (f : Nat → Nat) : ∀ (t : List Nat) (m : Nat), totC f (onesC t) m = (t.map f).count m
  | [], m => rfl
  | s :: t, m => by
    show (if f s = m then 1 else 0) + totC f (onesC t) m = (f s :: t.map f).count m
    rw [tot_ones f t m, List.count_cons]
    by_cases h : f s = m
    · rw [if_pos h, if_pos (by rw [h]; simp)]
      omega
    · rw [if_neg h, if_neg (by simpa using h)]
      omega
theorem cnt_nodup (t : List Nat) : (keysC (cntC t)).Nodup := nodup_fold _ _ List.nodup_nil
theorem cnt_mem {t : List Nat} {m : Nat} : m ∈ keysC (cntC t) ↔ m ∈ t := by
  unfold cntC
  rw [memC_fold, keys_ones]
  exact ⟨fun h => h.resolve_left (by simp [keysC]), .inr⟩
theorem cnt_get (t : List Nat) (m : Nat) : getC (cntC t) m = t.count m := by
  unfold cntC
  rw [getC_fold, tot_ones, List.map_id, getC_nil, Nat.zero_add]
theorem cnt_len (t : List Nat) : (cntC t).length ≤ t.length := by
  have := len_fold (onesC t) []
  have e : (onesC t).length = t.length := List.length_map _
  rw [e, List.length_nil, Nat.zero_add] at this
  exact this
theorem sml_mem {t : List Nat} {m : Nat} : m ∈ keysC (smlC (cntC t)) ↔ m ∈ t.map low := by
  unfold smlC
  rw [memC_fold]
  have e : keysC (lowC (cntC t)) = (keysC (cntC t)).map low := by
    unfold keysC lowC
    rw [List.map_map, List.map_map]
    rfl
  rw [e, List.mem_map, List.mem_map]
  constructor
  · rintro (h | ⟨a, h, e⟩)
    · cases h
    · exact ⟨a, cnt_mem.mp h, e⟩
  · rintro ⟨a, h, e⟩
    exact .inr ⟨a, cnt_mem.mpr h, e⟩
theorem sml_get (t : List Nat) (m : Nat) : getC (smlC (cntC t)) m = (t.map low).count m := by
  unfold smlC
  rw [getC_fold]
  have e : totC id (lowC (cntC t)) m = totC low (cntC t) m := by
    unfold totC lowC
    rw [List.map_map]
    rfl
  rw [e]
  unfold cntC
  rw [tot_fold _ [] _ List.nodup_nil, tot_ones]
  show 0 + (0 + _) = _
  omega
theorem sml_len (t : List Nat) : (smlC (cntC t)).length ≤ t.length := by
  have := len_fold (lowC (cntC t)) []
  have e : (lowC (cntC t)).length = (cntC t).length := List.length_map _
  have h2 := cnt_len t
  rw [e, List.length_nil, Nat.zero_add] at this
  exact Nat.le_trans this h2
/-! enough signs -/
def enS (q t : List Nat) (s : Nat) : Bool := !(decide (t.count s < q.count s) && decide (s ∈ greatL)) && !decide ((t.map low).count (low s) < (q.map low).count (low s))
def enB (q t : List Nat) : Bool := q.all (enS q t)
theorem enS_iff {q t : List Nat} {s : Nat} : enS q t s = true ↔ (s ∈ greatL → q.count s ≤ t.count s) ∧ (q.map low).count (low s) ≤ (t.map low).count (low s) := by
  unfold enS
  rw [Bool.and_eq_true, Bool.not_eq_true', Bool.not_eq_true', Bool.and_eq_false_iff, decide_eq_false_iff_not, decide_eq_false_iff_not, decide_eq_false_iff_not]
  constructor
  · rintro ⟨h1, h2⟩
    exact ⟨fun hs => h1.elim (fun z => by omega) fun z => absurd hs z, by omega⟩
  · rintro ⟨h1, h2⟩
    refine ⟨?_, by omega⟩
    by_cases hs : s ∈ greatL
    · have := h1 hs
      exact .inl (by omega)
    · exact .inr hs
theorem enB_iff {q t : List Nat} : enB q t = true ↔ ∀ s ∈ q, (s ∈ greatL → q.count s ≤ t.count s) ∧ (q.map low).count (low s) ≤ (t.map low).count (low s) := by
  unfold enB
  rw [List.all_eq_true]
  exact ⟨fun h s hs => enS_iff.mp (h s hs), fun h s hs => enS_iff.mpr (h s hs)⟩
theorem enB_nil (t : List Nat) : enB [] t = true := rfl
theorem enB_perm {q q' : List Nat} (h : q.Perm q') (t : List Nat) : enB q t = enB q' t := by
  rw [Bool.eq_iff_iff, enB_iff, enB_iff]
  constructor
  · intro k s hs
    have := k s (h.mem_iff.mpr hs)
    rwa [h.count_eq, (h.map low).count_eq] at this
  · intro k s hs
    have := k s (h.mem_iff.mp hs)
    rwa [← h.count_eq, ← (h.map low).count_eq] at this
theorem enB_less {q q' : List Nat} (t : List Nat) (h : enB (q ++ q') t = true) : enB q t = true := by
  rw [enB_iff] at h ⊢
  intro s hs
  have := h s (List.mem_append_left _ hs)
  rw [List.count_append, List.map_append, List.count_append] at this
  exact ⟨fun z => by have := this.1 z; omega, by omega⟩
theorem meet_lows {t s : Nat} (h : meetB t s = true) : low t = low s := by
  unfold meetB at h
  rw [Bool.or_eq_true, Bool.and_eq_true, decide_eq_true_eq, decide_eq_true_eq, decide_eq_true_eq] at h
  rcases h with h | ⟨h1, h2⟩
  · rw [h]
  · have h3 := (meet_low (t := t) (s := s)).mpr ⟨h1, .inr h2⟩
    have h4 : ∀ t ∈ smallL, low t = t := by decide +kernel
    rw [h4 t h1]
    exact h3.2
theorem great_meet {t s : Nat} (ht : t ∈ greatL) (h : meetB t s = true) : t = s := by
  unfold meetB at h
  rw [Bool.or_eq_true, Bool.and_eq_true, decide_eq_true_eq, decide_eq_true_eq, decide_eq_true_eq] at h
  have h4 : ∀ t ∈ greatL, t ∉ smallL := by decide +kernel
  exact h.resolve_right fun z => h4 t ht z.1
theorem fit_counts (m : Nat) : ∀ (n q : List Nat), fitG q n = true → (m ∈ greatL → q.count m ≤ n.count m) ∧ (q.map low).count m ≤ (n.map low).count m
  | n, [], _ => ⟨fun _ => by simp, by simp⟩
  | [], _ :: _, h => by cases h
  | s :: n, t :: q, h => by
    rw [fitG] at h
    split at h
    · rename_i hm
      have ih := fit_counts m n q h
      refine ⟨fun hg => ?_, ?_⟩
      · rw [List.count_cons, List.count_cons]
        have := ih.1 hg
        by_cases ht : t = m
        · have : t = s := great_meet (by rw [ht]; exact hg) hm
          subst this
          omega
        · have : (t == m) = false := by simpa using ht
          rw [this]
          simp
          omega
      · rw [List.map_cons, List.map_cons, List.count_cons, List.count_cons, meet_lows hm]
        have := ih.2
        omega
    · have ih := fit_counts m n (t :: q) h
      refine ⟨fun hg => ?_, ?_⟩
      · rw [List.count_cons (l := n)]
        have := ih.1 hg
        omega
      · rw [List.map_cons (l := n), List.count_cons (l := n.map low)]
        have := ih.2
        omega
theorem fit_en {q n : List Nat} (h : fitG q n = true) : enB q n = true := enB_iff.mpr fun s _ => ⟨(fit_counts s n q h).1, (fit_counts (low s) n q h).2⟩
/-! those left -/
def leftN (L : List (List Nat)) (q : List Nat) : List Nat := (List.range L.length).filter fun i => enB q (L.getD i [])
theorem leftN_mem {L : List (List Nat)} {q : List Nat} {i : Nat} : i ∈ leftN L q ↔ i < L.length ∧ enB q (L.getD i []) = true := by
  unfold leftN
  rw [List.mem_filter, List.mem_range]
theorem leftN_lt (L : List (List Nat)) (q : List Nat) : (leftN L q).Pairwise (· < ·) := List.pairwise_lt_range.sublist List.filter_sublist
theorem leftN_len (L : List (List Nat)) (q : List Nat) : (leftN L q).length ≤ L.length := by
  have := List.length_filter_le (fun i => enB q (L.getD i [])) (List.range L.length)
  rwa [List.length_range] at this
theorem leftN_nil (L : List (List Nat)) : leftN L [] = List.range L.length := List.filter_eq_self.mpr fun i _ => enB_nil _
theorem leftN_perm (L : List (List Nat)) {q q' : List Nat} (h : q.Perm q') : leftN L q = leftN L q' := by
  unfold leftN
  congr 1
  funext i
  exact enB_perm h _
/-! all signs -/
def sgOf (L : List (List Nat)) : Cs := L.flatMap fun nm => onesC (keysC (cntC nm))
def sgC (L : List (List Nat)) : Cs := foldC (sgOf L) []
def sgN (L : List (List Nat)) : List Nat := srtN (keysC (sgC L))
theorem foldC_app (a b cs : Cs) : foldC (a ++ b) cs = foldC b (foldC a cs) := List.foldl_append ..
theorem sg_nodup (L : List (List Nat)) : (keysC (sgC L)).Nodup := nodup_fold _ _ List.nodup_nil
theorem sg_mem {L : List (List Nat)} {m : Nat} : m ∈ keysC (sgC L) ↔ ∃ nm ∈ L, m ∈ nm := by
  unfold sgC
  rw [memC_fold]
  have e : m ∈ keysC (sgOf L) ↔ ∃ nm ∈ L, m ∈ nm := by
    unfold keysC sgOf
    rw [List.map_flatMap, List.mem_flatMap]
    constructor
    · rintro ⟨nm, h1, h2⟩
      exact ⟨nm, h1, cnt_mem.mp (by rw [← keys_ones (keysC (cntC nm))]; exact h2)⟩
    · rintro ⟨nm, h1, h2⟩
      refine ⟨nm, h1, ?_⟩
      show m ∈ keysC (onesC (keysC (cntC nm)))
      rw [keys_ones]
      exact cnt_mem.mpr h2
  rw [e]
  exact ⟨fun h => h.resolve_left (by simp [keysC]), .inr⟩
theorem count_one : ∀ {l : List Nat} {m : Nat}, l.Nodup → m ∈ l → l.count m = 1
  | a :: l, m, h, hm => by
    rw [List.nodup_cons] at h
    rw [List.count_cons]
    rcases List.mem_cons.mp hm with rfl | hm
    · rw [List.count_eq_zero.mpr h.1, if_pos (by simp)]
    · rw [count_one h.2 hm, if_neg (by simp; exact fun z => h.1 (z ▸ hm))]
theorem sg_get (L : List (List Nat)) (m : Nat) : getC (sgC L) m = (L.filter fun nm => decide (m ∈ nm)).length := by
  unfold sgC
  rw [getC_fold, getC_nil, Nat.zero_add]
  induction L with
  | nil => rfl
  | cons nm L ih =>
    have e : totC id (sgOf (nm :: L)) m = totC id (onesC (keysC (cntC nm))) m + totC id (sgOf L) m := by
      unfold totC sgOf
      rw [List.flatMap_cons, List.map_append, List.sum_append]
    rw [e, ih, tot_ones, List.map_id, List.filter_cons]
    have c : (keysC (cntC nm)).count m = if m ∈ nm then 1 else 0 := by
      by_cases h : m ∈ nm
      · rw [if_pos h]
        exact count_one (cnt_nodup nm) (cnt_mem.mpr h)
      · rw [if_neg h]
        exact List.count_eq_zero.mpr fun z => h (cnt_mem.mp z)
    rw [c]
    by_cases h : m ∈ nm
    · rw [if_pos h, if_pos (decide_eq_true h), List.length_cons]
      omega
    · rw [if_neg h, if_neg (by simpa using h)]
      omega
theorem sg_len (L : List (List Nat)) : (sgC L).length ≤ (L.map List.length).sum := by
  have := len_fold (sgOf L) []
  refine Nat.le_trans this ?_
  rw [List.length_nil, Nat.zero_add]
  unfold sgOf
  rw [List.length_flatMap]
  induction L with
  | nil => exact Nat.le_refl _
  | cons nm L ih =>
    have := cnt_len nm
    have e : (onesC (keysC (cntC nm))).length = (cntC nm).length := by unfold onesC keysC; rw [List.length_map, List.length_map]
    have hl : foldC (sgOf L) [] = sgC L := rfl
    rw [List.map_cons, List.map_cons, List.sum_cons, List.sum_cons, e]
    have := ih (len_fold (sgOf L) [])
    omega
end Pf

namespace Pf
open PySem L2 FF
theorem wrows_good : Good 1 (fun r : WRow => Cps r.1 ∧ True) rowD' := good_pair good_tx good_nat
theorem wrows_shp {R : List WRow} (h : ∀ r ∈ R, RowOk r) : shp (.list (R.map rowD')) = true :=
  (good_list wrows_good).shp (x := R) (by decide) fun r hr => ⟨(show Asc r.1 from fun c hc => (sg_free c ((h r hr).sg c hc)).2.2).cps, trivial⟩
theorem told_shp {t : List Nat} : shp (toldD (rdP t)) = true := by
  cases e : rdP t with
  | none => rfl
  | some R => exact wrows_shp (rdP_ok e).1
def cnt (k : Nat) : Nat := [0, 7, 10, 999999].getD k 0
theorem cnt_at : ∀ k : Nat, k < 4 → atI [PyData.int 0, .int 7, .int 10, .int 999999] (k : Int) = some (.int ((cnt k : Nat) : Int))
  | 0, _ => rfl
  | 1, _ => rfl
  | 2, _ => rfl
  | 3, _ => rfl
  | k + 4, h => by omega
theorem cnt_lt : ∀ k : Nat, k < 4 → cnt k < 10 ^ 6 := by decide
theorem pool_sg : ∀ c ∈ pool, c ∈ letters ++ marks := by decide +kernel
def rows0 (ns : List Int) (L : List (List Nat)) : List WRow := (List.range L.length).map fun i => (L.getD i [], cnt (drawn ns (80 + i) 4))
theorem rows0_ok {ns : List Int} {L : List (List Nat)} {m : Nat} (h : NamesOk L m) : ∀ r ∈ rows0 ns L, RowOk r := fun r hr => by
  obtain ⟨i, hi, rfl⟩ := List.mem_map.mp hr
  have hi := List.mem_range.mp hi
  have hm : L.getD i [] ∈ L := by
    rw [List.getD_eq_getElem?_getD, List.getElem?_eq_getElem hi]
    exact List.getElem_mem hi
  exact ⟨fun c hc => pool_sg c (h.pool _ hm c hc), h.one _ hm, by have := h.ten _ hm; show (L.getD i []).length ≤ 24; omega, cnt_lt _ (drawn_lt ns _ (by decide))⟩
def spoils : List Nat := [48, 97, 32, 10, 45, 126, 49, 66]
theorem str_spoils : (Str.ofString "0a \n-~1B") = S spoils := by decide +kernel
theorem spoils_asc : Asc spoils := (by decide : ∀ c ∈ spoils, c < 128)
def others : List (List Nat) := [[], [10], [48, 49, 32, 97, 10], [49, 32, 10], [49, 32, 97], [49, 50, 51, 52, 53, 54, 55, 32, 97, 10]]
theorem others_ok : ∀ l ∈ others, (∀ c ∈ l, c < 128) ∧ l.length ≤ 800 := by decide
theorem others_str : [PyData.str (Str.ofString ""), .str (Str.ofString "\n"), .str (Str.ofString "01 a\n"), .str (Str.ofString "1 \n"), .str (Str.ofString "1 a"), .str (Str.ofString "1234567 a\n")] = others.map tx := by
  have e : [Str.ofString "", Str.ofString "\n", Str.ofString "01 a\n", Str.ofString "1 \n", Str.ofString "1 a", Str.ofString "1234567 a\n"] = others.map S := by decide +kernel
  have := congrArg (List.map PyData.str) e
  rw [List.map_map] at this
  exact this
section
variable {t : List Nat}
theorem body_turn (ht : Asc t) (htl : t.length ≤ 800) (a0 a1 a2 a3 a4 a5 a6 a7 a8 a9 a10 a11 a13 : Sl) : ∃ y13, b_law_2 [a0, a1, a2, a3, a4, a5, a6, a7, a8, a9, a10, a11, .val (tx t), a13] = .next [a0, a1, a2, a3, a4, a5, a6, a7, a8, a9, a10, a11, .val (tx t), y13] := by
  have h1 := spec_law_told ht htl
  have h2 := spec_law_read ht htl
  rw [rd_eq] at h2
  have n1 := neD_self (told_shp (t := t))
  refine ⟨.val (toldD (rdP t)), ?_⟩
  cases e : rdP t with
  | none =>
    rw [e] at h1 h2 n1
    have n2 : isNone (toldD none) = true := rfl
    simp [sSeq_a, h1, h2, n1, n2]
  | some R =>
    rw [e] at h1 h2 n1
    obtain ⟨k1, k2, k3⟩ := rdP_ok e
    have w := spec_written k1 (by omega)
    rw [k2] at w
    have w : f_written [toldD (some R)] = .ok (tx t) := w
    have n2 : isNone (toldD (some R)) = false := rfl
    have n3 := neD_tx (a := t) (b := t) ht.cps ht.cps
    rw [decide_eq_true rfl] at n3
    simp [sSeq_a, h1, h2, n1, n2, w, n3]
theorem loop_all {ts : List (List Nat)} (h : ∀ t ∈ ts, Asc t ∧ t.length ≤ 800) (a0 a1 a2 a3 a4 a5 a6 a7 a8 a9 a10 a11 a12 a13 : Sl) : ∃ ρ', forL (gN 12) b_law_2 (ts.map tx) [a0, a1, a2, a3, a4, a5, a6, a7, a8, a9, a10, a11, a12, a13] = .next ρ' := by
  obtain ⟨ρ', h1, _⟩ := forL_mem (g := gN 12) (b := b_law_2) (fun ρ => ∃ a12 a13, ρ = [a0, a1, a2, a3, a4, a5, a6, a7, a8, a9, a10, a11, a12, a13]) (ts.map tx) _ ⟨a12, a13, rfl⟩ (by
    rintro d hd ρ ⟨a12, a13, rfl⟩
    obtain ⟨t, ht, rfl⟩ := List.mem_map.mp hd
    obtain ⟨y13, e⟩ := body_turn (h t ht).1 (h t ht).2 a0 a1 a2 a3 a4 a5 a6 a7 a8 a9 a10 a11 a13
    exact ⟨_, _, rfl, .inl e, _, _, rfl⟩)
  exact ⟨ρ', h1⟩
end
theorem asc_app {a b : List Nat} (ha : Asc a) (hb : Asc b) : Asc (a ++ b) := fun c hc => (List.mem_append.mp hc).elim (ha c) (hb c)
theorem math (ns : List Int) (hl : ns.length ≤ 63) : f_law [.list (ns.map PyData.int)] = .ok (.bool true) := by
  obtain ⟨L, h1, h2⟩ := spec_law_names hl 0 5 (by decide)
  have h2l := h2.len
  obtain ⟨R, hR⟩ : ∃ R, R = rows0 ns L := ⟨_, rfl⟩
  have hRk : ∀ r ∈ R, RowOk r := by rw [hR]; exact rows0_ok h2
  have hRl : R.length ≤ 5 := by
    rw [hR]
    unfold rows0
    rw [List.length_map, List.length_range]
    exact h2l
  change f_law_names [sc ns, .int 0, .int 5] = _ at h1
  have c1 := compL_map (g := gT (gsCons (gN 3) (gsCons (gN 4) (gsNil)))) (t := tYesM) (e := eTup (aCons (eVar 4) (aCons (eBin ixD (eLst (aCons (eC (.int 0)) (aCons (eC (.int 7)) (aCons (eC (.int 10)) (aCons (eC (.int 999999)) (aNil)))))) (eFn f_law_drawn (aCons (eVar 0) (aCons (eBin addD (eC (.int 80)) (eVar 3)) (aCons (eC (.int 4)) (aNil)))))) (aNil)))) (ρ0 := [.val (sc ns), .val (.list (L.map tx)), .no, .no, .no, .no, .no, .no, .no, .no, .no, .no, .no, .no]) (fun i : Nat => PyData.tuple [.int (i : Int), tx (L.getD i [])]) (fun i => rowD' (L.getD i [], cnt (drawn ns (80 + i) 4))) (List.range L.length) (fun i hi => by
    have d1 := drawn_i hl (z := 80 + (i : Int)) (mz := 4) (k := 80 + i) (m := 4) (by push_cast; rfl) rfl (by decide)
    have d2 := cnt_at _ (drawn_lt ns (80 + i) (m := 4) (by decide))
    exact ⟨_, rfl, rfl, by simp [d1, d2, lim, rowD']⟩)
  have c1' : (List.range L.length).map (fun i => rowD' (L.getD i [], cnt (drawn ns (80 + i) 4))) = R.map rowD' := by
    rw [hR]
    unfold rows0
    rw [List.map_map]
    rfl
  rw [c1', ← enum_namesC] at c1
  have w := spec_written hRk (by omega)
  have wl_ := wr_len hRk
  have wa := wr_asc hRk
  have rd := spec_read_any wa (by omega)
  rw [rdP_wr hRk] at rd
  have rd : f_read [tx (wr R)] = .ok (.list (R.map rowD')) := rd
  have nR := neD_self (wrows_shp hRk)
  obtain ⟨T, hT⟩ : ∃ T, T = wr R := ⟨_, rfl⟩
  have c2 := compL_map (g := gT (gsCons (gN 4) (gsCons (gN 6) (gsNil)))) (t := tYesM) (e := (eBin addD (eBin addD (eBin addD (eBlt strD (aCons (eVar 6) (aNil))) (eC (.str " "))) (eVar 4)) (eC (.str "\n")))) (ρ0 := [.val (sc ns), .val (.list (L.map tx)), .val (.list (R.map rowD')), .no, .no, .val (tx T), .no, .no, .no, .no, .no, .no, .no, .no]) rowD' (fun r => tx (wl r ++ [10])) R (fun r hr => by
    have hr := hRk r hr
    have e1 := strD_n hr.num
    have e2 := TL.numL_len (n := r.2) (k := 6) (by decide) hr.num
    have e3 := hr.hi
    refine ⟨_, rfl, rfl, ?_⟩
    simp [e1, str_sp, str_lf, lm_ok, show (TL.numL r.2).length + 1 ≤ 1000000 by omega, show (TL.numL r.2).length + 1 + r.1.length ≤ 1000000 by omega, show (TL.numL r.2).length + (r.1.length + 1) ≤ 1000000 by omega, show (TL.numL r.2).length + 1 + r.1.length + 1 ≤ 1000000 by omega, show (TL.numL r.2).length + (r.1.length + 1) + 1 ≤ 1000000 by omega, wl])
  have c2' : R.map (fun r => tx (wl r ++ [10])) = (R.map fun r => wl r ++ [10]).map tx := by rw [List.map_map]; rfl
  rw [c2'] at c2
  have c3 := joinD_S (ls := R.map fun r => wl r ++ [10]) (by have := wl_; unfold wr at this; omega)
  have c3 : joinD (tx []) [.list ((R.map fun r => wl r ++ [10]).map tx)] = some (tx T) := by rw [hT]; exact c3
  have cut := wr_cut hRk
  obtain ⟨ls, hls⟩ : ∃ ls, ls = cutC 10 (wr R) := ⟨_, rfl⟩
  have lsl : ls.length ≤ 6 := by rw [hls, cut, List.length_append, List.length_map, List.length_singleton]; omega
  have lso : ∀ l ∈ ls, Asc l ∧ l.length ≤ 31 := fun l h => by
    rw [hls, cut] at h
    rcases List.mem_append.mp h with h | h
    · obtain ⟨r, hr, rfl⟩ := List.mem_map.mp h
      exact ⟨wl_asc (hRk r hr), wl_len (hRk r hr)⟩
    · rw [List.mem_singleton.mp h]
      exact ⟨fun c hc => (by cases hc), Nat.zero_le _⟩
  have lsp : 0 < ls.length := by rw [hls]; exact List.length_pos_iff.mpr (cutC_ne 10 _)
  have sp : splitD (tx T) [tx [10]] = some (.list (ls.map tx)) := by rw [hls, hT]; exact splitD_cut (by decide) (by omega)
  rw [← hT] at w rd wa wl_
  have hTl : T.length ≤ 160 := by omega
  have nT := neD_tx (a := T) (b := T) wa.cps wa.cps
  rw [decide_eq_true rfl] at nT
  have d90 := drawn_i hl (z := 90) (mz := (T.length : Int) + 1) (k := 90) (m := T.length + 1) rfl (by push_cast; rfl) (by omega)
  have p90 := drawn_lt ns 90 (m := T.length + 1) (by omega)
  have d91 := drawn_i hl (z := 91) (mz := 8) (k := 91) (m := 8) rfl rfl (by decide)
  have p91 := drawn_lt ns 91 (m := 8) (by decide)
  have d92 := drawn_i hl (z := 92) (mz := (ls.length : Int)) (k := 92) (m := ls.length) rfl rfl lsp
  have p92 := drawn_lt ns 92 (m := ls.length) lsp
  generalize drawn ns 90 (T.length + 1) = p at *
  generalize drawn ns 91 8 = k at *
  generalize drawn ns 92 ls.length = o at *
  have hk := at_lit spoils 0 (i := k) p91
  have hc : spoils.getD k 0 ∈ spoils := by
    rw [List.getD_eq_getElem?_getD, List.getElem?_eq_getElem (show k < spoils.length from p91)]
    exact List.getElem_mem _
  generalize spoils.getD k 0 = c at *
  have hca : Asc [c] := fun x hx => by rw [List.mem_singleton.mp hx]; exact spoils_asc c hc
  have atk : Asc (T.take p) := fun x hx => wa x (List.mem_of_mem_take hx)
  have adr : ∀ j, Asc (T.drop j) := fun j x hx => wa x (List.mem_of_mem_drop hx)
  have ltk : (T.take p).length ≤ 160 := by rw [List.length_take]; omega
  have ldr : ∀ j, (T.drop j).length ≤ 160 := fun j => by rw [List.length_drop]; omega
  obtain ⟨t1, ht1⟩ : ∃ t, t = T.take p ++ [c] ++ T.drop p := ⟨_, rfl⟩
  obtain ⟨t2, ht2⟩ : ∃ t, t = T.take p ++ T.drop (p + 1) := ⟨_, rfl⟩
  obtain ⟨t3, ht3⟩ : ∃ t, t = T.take p ++ [c] ++ T.drop (p + 1) := ⟨_, rfl⟩
  obtain ⟨t4, ht4⟩ : ∃ t, t = glue 10 (ls.take o ++ ls.drop (o + 1)) := ⟨_, rfl⟩
  obtain ⟨t5, ht5⟩ : ∃ t, t = glue 10 (ls.take (o + 1) ++ ls.drop o) := ⟨_, rfl⟩
  obtain ⟨t6, ht6⟩ : ∃ t, t = others.getD (p % 6) [] := ⟨_, rfl⟩
  have m6 : p % 6 < 6 := Nat.mod_lt _ (by decide)
  have h6 : t6 ∈ others := by
    rw [ht6, List.getD_eq_getElem?_getD, List.getElem?_eq_getElem (show p % 6 < others.length from m6)]
    exact List.getElem_mem _
  have sub4 : ∀ l ∈ ls.take o ++ ls.drop (o + 1), l ∈ ls := fun l h => (List.mem_append.mp h).elim List.mem_of_mem_take List.mem_of_mem_drop
  have sub5 : ∀ l ∈ ls.take (o + 1) ++ ls.drop o, l ∈ ls := fun l h => (List.mem_append.mp h).elim List.mem_of_mem_take List.mem_of_mem_drop
  have len4 : (ls.take o ++ ls.drop (o + 1)).length ≤ 12 := by rw [List.length_append, List.length_take, List.length_drop]; omega
  have len5 : (ls.take (o + 1) ++ ls.drop o).length ≤ 12 := by rw [List.length_append, List.length_take, List.length_drop]; omega
  have sum_le : ∀ zs : List (List Nat), (∀ l ∈ zs, l ∈ ls) → (zs.map List.length).sum ≤ 31 * zs.length := by
    intro zs
    induction zs with
    | nil => intro _; exact Nat.zero_le _
    | cons z zs ih =>
      intro h
      have h1 := ih fun l hl => h l (List.mem_cons_of_mem _ hl)
      have h2 := (lso z (h z List.mem_cons_self)).2
      rw [List.map_cons, List.sum_cons, List.length_cons]
      omega
  have j4 := joinD_G (s := 10) (ls := ls.take o ++ ls.drop (o + 1)) (by have := sum_le _ sub4; omega)
  have j5 := joinD_G (s := 10) (ls := ls.take (o + 1) ++ ls.drop o) (by have := sum_le _ sub5; omega)
  rw [← ht4, List.map_append, List.map_take, List.map_drop] at j4
  rw [← ht5, List.map_append, List.map_take, List.map_drop] at j5
  have hall : ∀ t ∈ [t1, t2, t3, t4, t5, t6], Asc t ∧ t.length ≤ 800 := by
    intro t ht
    simp only [List.mem_cons, List.not_mem_nil, or_false] at ht
    rcases ht with rfl | rfl | rfl | rfl | rfl | rfl
    · rw [ht1]
      refine ⟨asc_app (asc_app atk hca) (adr p), ?_⟩
      have := ldr p
      rw [List.length_append, List.length_append, List.length_singleton]
      omega
    · rw [ht2]
      refine ⟨asc_app atk (adr _), ?_⟩
      have := ldr (p + 1)
      rw [List.length_append]
      omega
    · rw [ht3]
      refine ⟨asc_app (asc_app atk hca) (adr _), ?_⟩
      have := ldr (p + 1)
      rw [List.length_append, List.length_append, List.length_singleton]
      omega
    · rw [ht4]
      refine ⟨glue_asc (by decide) fun l hl => (lso l (sub4 l hl)).1, ?_⟩
      have := glue_len 10 (m := 31) (ls := ls.take o ++ ls.drop (o + 1)) fun l hl => (lso l (sub4 l hl)).2
      omega
    · rw [ht5]
      refine ⟨glue_asc (by decide) fun l hl => (lso l (sub5 l hl)).1, ?_⟩
      have := glue_len 10 (m := 31) (ls := ls.take (o + 1) ++ ls.drop o) fun l hl => (lso l (sub5 l hl)).2
      omega
    · exact others_ok t h6
  obtain ⟨ρ', lp⟩ := loop_all hall (.val (sc ns)) (.val (.list (L.map tx))) (.val (.list (R.map rowD'))) .no .no (.val (tx T)) .no (.val (.int (p : Int))) (.val (tx [c])) (.val (.list (ls.map tx))) (.val (.int (o : Int))) (.val (.list [tx t1, tx t2, tx t3, tx t4, tx t5])) .no .no
  have sl1 : slD (tx T) none (some (p : Int)) = some (tx (T.take p)) := by rw [slD_S, lm_ok (by omega), cutL_to]
  have sl2 : slD (tx T) (some (p : Int)) none = some (tx (T.drop p)) := by rw [slD_S, lm_ok (by omega), cutL_from]
  have sl3 : slD (tx T) (some ((p : Int) + 1)) none = some (tx (T.drop (p + 1))) := by
    rw [slD_S, lm_ok (by omega)]
    exact congrArg (fun z => some (tx z)) (cutL_from T (p + 1))
  have ad1 : addD (tx (T.take p)) (tx [c]) = some (tx (T.take p ++ [c])) := by rw [addD_S, lm_ok (by rw [List.length_singleton]; omega)]
  have ad2 : addD (tx (T.take p ++ [c])) (tx (T.drop p)) = some (tx t1) := by
    have := ldr p
    rw [addD_S, lm_ok (by rw [List.length_append, List.length_singleton]; omega), ht1]
  have ad3 : addD (tx (T.take p)) (tx (T.drop (p + 1))) = some (tx t2) := by
    have := ldr (p + 1)
    rw [addD_S, lm_ok (by omega), ht2]
  have ad4 : addD (tx (T.take p ++ [c])) (tx (T.drop (p + 1))) = some (tx t3) := by
    have := ldr (p + 1)
    rw [addD_S, lm_ok (by rw [List.length_append, List.length_singleton]; omega), ht3]
  have sm1 : slD (.list (ls.map tx)) none (some (o : Int)) = some (.list ((ls.map tx).take o)) := by rw [slD_l, cutL_to]
  have sm2 : slD (.list (ls.map tx)) (some (o : Int)) none = some (.list ((ls.map tx).drop o)) := by rw [slD_l, cutL_from]
  have sm3 : slD (.list (ls.map tx)) none (some ((o : Int) + 1)) = some (.list ((ls.map tx).take (o + 1))) := by
    rw [slD_l]
    exact congrArg (fun z => some (PyData.list z)) (cutL_to (ls.map tx) (o + 1))
  have sm4 : slD (.list (ls.map tx)) (some ((o : Int) + 1)) none = some (.list ((ls.map tx).drop (o + 1))) := by
    rw [slD_l]
    exact congrArg (fun z => some (PyData.list z)) (cutL_from (ls.map tx) (o + 1))
  have al1 : addD (.list ((ls.map tx).take o)) (.list ((ls.map tx).drop (o + 1))) = some (.list ((ls.map tx).take o ++ (ls.map tx).drop (o + 1))) := by
    rw [addD_l, lm_ok (by rw [List.length_take, List.length_drop, List.length_map]; omega)]
  have al2 : addD (.list ((ls.map tx).take (o + 1))) (.list ((ls.map tx).drop o)) = some (.list ((ls.map tx).take (o + 1) ++ (ls.map tx).drop o)) := by
    rw [addD_l, lm_ok (by rw [List.length_take, List.length_drop, List.length_map]; omega)]
  have mod6 : modD (.int (p : Int)) (.int 6) = some (.int (((p % 6 : Nat)) : Int)) := by
    rw [modD_i (by decide)]
    exact congrArg (fun z => some (PyData.int z)) (Int.natCast_emod p 6).symm
  have at6 : atI (others.map tx) ((p % 6 : Nat) : Int) = some (tx t6) := by
    rw [at_lit (others.map tx) (tx []) (i := p % 6) (by rw [List.length_map]; exact m6), ht6]
    rw [List.getD_eq_getElem?_getD, List.getD_eq_getElem?_getD, List.getElem?_map]
    cases others[p % 6]? <;> rfl
  refine fnM_ret rfl ?_
  show m_law [.val (sc ns), .no, .no, .no, .no, .no, .no, .no, .no, .no, .no, .no, .no, .no] = _
  unfold m_law
  refine (seq_nx' (ρ' := [.val (sc ns), .val (.list (L.map tx)), .no, .no, .no, .no, .no, .no, .no, .no, .no, .no, .no, .no]) (by simp [h1])).trans ?_
  refine (seq_nx' (ρ' := [.val (sc ns), .val (.list (L.map tx)), .val (.list (R.map rowD')), .no, .no, .no, .no, .no, .no, .no, .no, .no, .no, .no]) (by simp [wipeE, enumD_len, show L.length ≤ 1000000 by omega, c1])).trans ?_
  refine (seq_nx' (ρ' := [.val (sc ns), .val (.list (L.map tx)), .val (.list (R.map rowD')), .no, .no, .val (tx T), .no, .no, .no, .no, .no, .no, .no, .no]) (by simp [w])).trans ?_
  refine (seq_nx' (ρ' := [.val (sc ns), .val (.list (L.map tx)), .val (.list (R.map rowD')), .no, .no, .val (tx T), .no, .no, .no, .no, .no, .no, .no, .no]) (by
    simp only [sIf_a, tVal_a, eBin_a, eMeth_a, eC_a, aCons_a, aNil_a, eLc_a, iAny_a, str_nil]
    simp [wipeE, show R.length ≤ 1000000 by omega, c2, -List.map_map]
    rw [c3]
    simp [nT])).trans ?_
  refine (seq_nx' (ρ' := [.val (sc ns), .val (.list (L.map tx)), .val (.list (R.map rowD')), .no, .no, .val (tx T), .no, .no, .no, .no, .no, .no, .no, .no]) (by
    simp [rd, nR])).trans ?_
  refine (seq_nx' (ρ' := [.val (sc ns), .val (.list (L.map tx)), .val (.list (R.map rowD')), .no, .no, .val (tx T), .no, .val (.int (p : Int)), .no, .no, .no, .no, .no, .no]) (by
    simp [lm_ok, show T.length ≤ 1000000 by omega, d90])).trans ?_
  refine (seq_nx' (ρ' := [.val (sc ns), .val (.list (L.map tx)), .val (.list (R.map rowD')), .no, .no, .val (tx T), .no, .val (.int (p : Int)), .val (tx [c]), .no, .no, .no, .no, .no]) (by
    simp [d91, str_spoils, show spoils.length ≤ 1000000 by decide, hk])).trans ?_
  refine (seq_nx' (ρ' := [.val (sc ns), .val (.list (L.map tx)), .val (.list (R.map rowD')), .no, .no, .val (tx T), .no, .val (.int (p : Int)), .val (tx [c]), .val (.list (ls.map tx)), .no, .no, .no, .no]) (by
    simp [str_lf, sp])).trans ?_
  refine (seq_nx' (ρ' := [.val (sc ns), .val (.list (L.map tx)), .val (.list (R.map rowD')), .no, .no, .val (tx T), .no, .val (.int (p : Int)), .val (tx [c]), .val (.list (ls.map tx)), .val (.int (o : Int)), .no, .no, .no]) (by
    simp [d92, show ls.length ≤ 1000000 by omega])).trans ?_
  refine (seq_nx' (ρ' := [.val (sc ns), .val (.list (L.map tx)), .val (.list (R.map rowD')), .no, .no, .val (tx T), .no, .val (.int (p : Int)), .val (tx [c]), .val (.list (ls.map tx)), .val (.int (o : Int)), .val (.list [tx t1, tx t2, tx t3]), .no, .no]) (by
    simp [sl1, sl2, sl3, ad1, ad2, ad3, ad4, lim, -slD_S, -addD_S])).trans ?_
  refine (seq_nx' (ρ' := [.val (sc ns), .val (.list (L.map tx)), .val (.list (R.map rowD')), .no, .no, .val (tx T), .no, .val (.int (p : Int)), .val (tx [c]), .val (.list (ls.map tx)), .val (.int (o : Int)), .val (.list [tx t1, tx t2, tx t3, tx t4, tx t5]), .no, .no]) (by
    simp [str_lf, sm1, sm2, sm3, sm4, al1, al2, j4, j5, lim, -slD_l, -addD_l, -List.map_take, -List.map_drop]
    simp [lm_ok])).trans ?_
  have fin : ∀ ρ0 : FF.Env, ρ0 = [.val (sc ns), .val (.list (L.map tx)), .val (.list (R.map rowD')), .no, .no, .val (tx T), .no, .val (.int (p : Int)), .val (tx [c]), .val (.list (ls.map tx)), .val (.int (o : Int)), .val (.list [tx t1, tx t2, tx t3, tx t4, tx t5]), .no, .no] → sFor (iAny (eBin addD (eVar 11) (eLst (aCons (eBin ixD (eLst (aCons (eC (.str "")) (aCons (eC (.str "\n")) (aCons (eC (.str "01 a\n")) (aCons (eC (.str "1 \n")) (aCons (eC (.str "1 a")) (aCons (eC (.str "1234567 a\n")) (aNil)))))))) (eBin modD (eVar 7) (eC (.int 6)))) (aNil))))) (gN 12) b_law_2 ρ0 = forL (gN 12) b_law_2 ([t1, t2, t3, t4, t5, t6].map tx) ρ0 := by
    rintro ρ0 rfl
    have e : ∀ ρ0 : FF.Env, eLst (aCons (eC (.str "")) (aCons (eC (.str "\n")) (aCons (eC (.str "01 a\n")) (aCons (eC (.str "1 \n")) (aCons (eC (.str "1 a")) (aCons (eC (.str "1234567 a\n")) (aNil))))))) ρ0 = .ok (.list (others.map tx)) := fun ρ0 => by
      rw [← others_str]
      rfl
    have e2 : ∀ x : D, eBin ixD (fun _ => .ok x) (eBin modD (eVar 7) (eC (.int 6))) = fun ρ => (eBin modD (eVar 7) (eC (.int 6)) ρ).bind fun y => lft (ixD x y) := fun x => rfl
    rw [show (eLst (aCons (eC (.str "")) (aCons (eC (.str "\n")) (aCons (eC (.str "01 a\n")) (aCons (eC (.str "1 \n")) (aCons (eC (.str "1 a")) (aCons (eC (.str "1234567 a\n")) (aNil)))))))) = fun _ => .ok (.list (others.map tx)) from funext e, e2]
    have mod6 : modD (.int (p : Int)) (.int 6) = some (.int ((p : Int) % 6)) := modD_i (by decide)
    have at6 : atI (others.map tx) ((p : Int) % 6) = some (tx t6) := by rw [← at6]; rfl
    simp [mod6, at6, lim, lm_ok]
  unfold b_law_2 at fin lp
  rw [sSeq_a, fin _ rfl, lp]
  rfl
end Pf

open PySem PySem.W PyProof.Rows in
set_option maxRecDepth 100000 in
set_option maxHeartbeats 0 in
theorem PySem.Challenge.cw_fewfind_k90_texts_holds : PySem.Challenge.rw_fewfind_k90_texts.Holds := by
  w_on; o_law; k_head; (case hw => w_witness2)
  k_fill
  refine FF.law_end (l := PySem.Challenge.rw_fewfind_k90_texts) (k := 6) (st := Pf.s_law) (fm := Pf.f_law) (x := "_law_script") rfl rfl ⟨rfl, by decide, by decide⟩ (fun w h Y => PySem.W.kIn_of Y) ?F Pf.math
  case F =>
    intro w mg h KX G
    refine' FF.withNone (x := "all") KX G ?a fun z_all => ?r9
    case a => k_is
    refine' FF.withNone (x := "enumerate") KX G ?a fun z_enumerate => ?r11
    case a => k_is
    refine' FF.withNone (x := "int") KX G ?a fun z_int => ?r13
    case a => k_is
    refine' FF.withNone (x := "isinstance") KX G ?a fun z_isinstance => ?r15
    case a => k_is
    refine' FF.withNone (x := "len") KX G ?a fun z_len => ?r17
    case a => k_is
    refine' FF.withNone (x := "range") KX G ?a fun z_range => ?r19
    case a => k_is
    refine' FF.withNone (x := "str") KX G ?a fun z_str => ?r21
    case a => k_is
    refine' FF.withStr (x := "FIGURES_names") KX G ?a fun c_FIGURES_names => ?r23
    case a => k_is
    refine' FF.withStr (x := "FIGURES_writing") KX G ?a fun c_FIGURES_writing => ?r25
    case a => k_is
    refine' FF.withStr (x := "GREAT") KX G ?a fun c_GREAT => ?r27
    case a => k_is
    refine' FF.withStr (x := "MARKS") KX G ?a fun c_MARKS => ?r29
    case a => k_is
    refine' FF.withInt (x := "MOST_FIGURES") KX G ?a fun c_MOST_FIGURES => ?r31
    case a => k_is
    refine' FF.withInt (x := "MOST_SIGNS") KX G ?a fun c_MOST_SIGNS => ?r33
    case a => k_is
    refine' FF.withStr (x := "SMALL") KX G ?a fun c_SMALL => ?r35
    case a => k_is
    refine' FF.withExc (x := "NoText") KX G ?a1 ?a2 ?a3 ?a4 ?a5 fun e_NoText => ?r37
    case a1 => k_is
    case a2 => exact ⟨_, _, _, _, PySem.F.excBase_ValueError, by k_exc⟩
    case a3 => k_is
    case a4 => k_is
    case a5 => k_is
    refine' FF.withMF KX G ?a fun mF => ?r43
    case a => k_is
    refine' FF.withCaught (c := "NoText") (x1 := "NoText") (x2 := "NoLaying") (x3 := "NoFit") KX G ?a ?aE ?a1 ?a2 ?a3 ?aV ?e ?xc ?k1 ?k2 ?k3 ?kV fun c_NoText => ?r45
    case a => k_is
    case aE => k_is
    case a1 => k_is
    case a2 => k_is
    case a3 => k_is
    case aV => k_is
    case e => exact PySem.W.exm_ref (by k_is) (by k_is) (by k_is) (by k_is)
    case xc => exact ⟨by k_is, by k_is, by k_is, by k_is, by k_is, by k_is, by k_is, by k_is⟩
    case k1 => exact FF.kit_yes rfl
    case k2 => exact FF.kit_no (by decide) (by decide) (by k_is) (by k_is) (by k_is)
    case k3 => exact FF.kit_no (by decide) (by decide) (by k_is) (by k_is) (by k_is)
    case kV => exact FF.kit_V (by k_is)
    have h_NoText_NoText_NoLaying_NoFit : ∀ c ∈ (["NoText"] : List PySem.Str), FF.Caught _ mg c "NoText" "NoLaying" "NoFit" := FF.all1 c_NoText
    refine' FF.withFun (x := "is_of") (st := Pf.s_is_of) (ps := ["thing", "signs", "low", "high"]) KX G ?a ?l ?c ?k (fun _ _ _ _ _ _ us hl => match us, hl with | [_, _, _, _], _ => rfl) fun F_is_of => ?r59
    case a => k_is
    case l => k_is
    case c => k_is
    case k => k_is
    refine' FF.withFun (x := "is_name") (st := Pf.s_is_name) (ps := ["thing"]) KX G ?a ?l ?c ?k (fun _ _ _ _ _ _ us hl => match us, hl with | [_], _ => rfl) fun F_is_name => ?r64
    case a => k_is
    case l => k_is
    case c => k_is
    case k => k_is
    refine' FF.withFun (x := "written") (st := Pf.s_written) (ps := ["rows"]) KX G ?a ?l ?c ?k (fun _ _ _ _ _ _ us hl => match us, hl with | [_], _ => rfl) fun F_written => ?r69
    case a => k_is
    case l => k_is
    case c => k_is
    case k => k_is
    refine' FF.withFun (x := "row_in") (st := Pf.s_row_in) (ps := ["line"]) KX G ?a ?l ?c ?k (fun _ _ _ _ _ _ us hl => match us, hl with | [_], _ => rfl) fun F_row_in => ?r74
    case a => k_is
    case l => k_is
    case c => k_is
    case k => k_is
    refine' FF.withFun (x := "read") (st := Pf.s_read) (ps := ["text"]) KX G ?a ?l ?c ?k (fun _ _ _ _ _ _ us hl => match us, hl with | [_], _ => rfl) fun F_read => ?r79
    case a => k_is
    case l => k_is
    case c => k_is
    case k => k_is
    refine' FF.withFun (x := "_law_cell") (st := Pf.s_law_cell) (ps := ["_law_script", "_law_k"]) KX G ?a ?l ?c ?k (fun _ _ _ _ _ _ us hl => match us, hl with | [_, _], _ => rfl) fun F_law_cell => ?r84
    case a => k_is
    case l => k_is
    case c => k_is
    case k => k_is
    refine' FF.withFun (x := "_law_drawn") (st := Pf.s_law_drawn) (ps := ["_law_script", "_law_k", "_law_many"]) KX G ?a ?l ?c ?k (fun _ _ _ _ _ _ us hl => match us, hl with | [_, _, _], _ => rfl) fun F_law_drawn => ?r89
    case a => k_is
    case l => k_is
    case c => k_is
    case k => k_is
    refine' FF.withFun (x := "_law_name") (st := Pf.s_law_name) (ps := ["_law_script", "_law_at"]) KX G ?a ?l ?c ?k (fun _ _ _ _ _ _ us hl => match us, hl with | [_, _], _ => rfl) fun F_law_name => ?r94
    case a => k_is
    case l => k_is
    case c => k_is
    case k => k_is
    refine' FF.withFun (x := "_law_names") (st := Pf.s_law_names) (ps := ["_law_script", "_law_at", "_law_most"]) KX G ?a ?l ?c ?k (fun _ _ _ _ _ _ us hl => match us, hl with | [_, _, _], _ => rfl) fun F_law_names => ?r99
    case a => k_is
    case l => k_is
    case c => k_is
    case k => k_is
    refine' FF.withFun (x := "_law_told") (st := Pf.s_law_told) (ps := ["_law_text"]) KX G ?a ?l ?c ?k (fun _ _ _ _ _ _ us hl => match us, hl with | [_], _ => rfl) fun F_law_told => ?r104
    case a => k_is
    case l => k_is
    case c => k_is
    case k => k_is
    refine' FF.withFun (x := "_law_read") (st := Pf.s_law_read) (ps := ["_law_text"]) KX G ?a ?l ?c ?k (fun _ _ _ _ _ _ us hl => match us, hl with | [_], _ => rfl) fun F_law_read => ?r109
    case a => k_is
    case l => k_is
    case c => k_is
    case k => k_is
    refine' FF.withFun (x := "law") (st := Pf.s_law) (ps := ["_law_script"]) KX G ?a ?l ?c ?k (fun _ _ _ _ _ _ us hl => match us, hl with | [_], _ => rfl) fun F_law => ?r114
    case a => k_is
    case l => k_is
    case c => k_is
    case k => k_is
    refine FF.withT (T := Pf.Txt) KX G ⟨z_all, z_enumerate, z_int, z_isinstance, z_len, z_range, z_str, c_FIGURES_names, c_FIGURES_writing, c_GREAT, c_MARKS, c_MOST_FIGURES, c_MOST_SIGNS, c_SMALL, e_NoText, mF, h_NoText_NoText_NoLaying_NoFit⟩ fun T => ?_
    refine ⟨F_law, fun f fd Fl base kb gb => ?_⟩
    have d_is_of := Pf.ok_is_of (base := base) (w := w) (P := PySem.Challenge.rw_fewfind_k90_texts.prog) T  F_is_of
    have d_is_name := Pf.ok_is_name (base := base) (w := w) (P := PySem.Challenge.rw_fewfind_k90_texts.prog) T d_is_of F_is_name
    have d_written := Pf.ok_written (base := base) (w := w) (P := PySem.Challenge.rw_fewfind_k90_texts.prog) T  F_written
    have d_row_in := Pf.ok_row_in (base := base) (w := w) (P := PySem.Challenge.rw_fewfind_k90_texts.prog) T d_is_name F_row_in
    have d_read := Pf.ok_read (base := base) (w := w) (P := PySem.Challenge.rw_fewfind_k90_texts.prog) T d_written d_row_in F_read
    have d_law_cell := Pf.ok_law_cell (base := base) (w := w) (P := PySem.Challenge.rw_fewfind_k90_texts.prog) T  F_law_cell
    have d_law_drawn := Pf.ok_law_drawn (base := base) (w := w) (P := PySem.Challenge.rw_fewfind_k90_texts.prog) T d_law_cell F_law_drawn
    have d_law_name := Pf.ok_law_name (base := base) (w := w) (P := PySem.Challenge.rw_fewfind_k90_texts.prog) T d_law_drawn F_law_name
    have d_law_names := Pf.ok_law_names (base := base) (w := w) (P := PySem.Challenge.rw_fewfind_k90_texts.prog) T d_law_drawn d_law_name F_law_names
    have d_law_told := Pf.ok_law_told (base := base) (w := w) (P := PySem.Challenge.rw_fewfind_k90_texts.prog) T d_read F_law_told
    have d_law_read := Pf.ok_law_read (base := base) (w := w) (P := PySem.Challenge.rw_fewfind_k90_texts.prog) T  F_law_read
    exact Pf.ok_law T d_written d_read d_law_drawn d_law_names d_law_told d_law_read Fl

