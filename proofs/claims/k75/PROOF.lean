import PyProof.Rows.All
import Wide.All
import OpenK.AllK
import Wide.FinOn
import HandS.ForMost
import HandS.Exc
import HandS.TryOnly
import HandS.ExcOwn
import HandS.WordsExc
import HandS.Lambda
import HandS.Gcd
import HandS.RaiseMore
import HandS.Wide
import HandS.IsInst
import HandS.CallSlots
import HandS.Defaults
import HandS.Style
import HandS.Zip
import KE.KExcSuper
import HandS.ExcInit
import HandS.Nested
import KE.KExcIs
import HandS.Iter
import KE.GoesZip
import KE.GoesMore
import KE.KDflt
import HandS.ExcValue
import HandS.ExcField
import HandS.Head0
import HandS.Head1
import HandS.Head2
import HandS.HeadEnd
import HandS.HeadHook1
import HandS.HeadHook2
import HandS.HeadHook3
import HandS.HeadHook4
import HandS.HeadWalk
import HandS.Head3
import PySem.Challenge.RW_sevensights_k75_signs_of_surds
set_option Elab.async false
set_option linter.all false
set_option maxRecDepth 100000
section
set_option maxHeartbeats 4000000
/-! DL: a data-level semantics over the hand layer. Part 1: data, the store, the relation to the abstract heap. -/
namespace DL
open PySem PySem.Spec PyProof.Rows L2

/-- data as trees; ob n: the n-th mutable object of the store; gl x: what the module's name x stands for -/
inductive D where
  | non | bl (b : Bool) | int (i : Int) | str (x : Str) | ty (n : String) | gl (x : Str)
  | tup (ds : List D) | lst (ds : List D) | dic (ks : List Key) (ds : List D) | dit (ks : List (List Key)) (ds : List D)
  | ins (c : Str) (fs : List Str) (ds : List D) | exc (c : Str) (fs : List Str) (ds : List D)
  | ob (n : Nat) | scr (is : List Int) | ask
/-- a mutable object -/
inductive SO where
  | lst (ds : List D) | dic (ks : List Key) (ds : List D) | ins (c : Str) (fs : List Str) (ds : List D) | dead
/-- an exception: its class, its fields -/
structure Exn where
  c : Str
  fs : List Str
  ds : List D
/-- the frame's slots, the store, the store's length at the def's entry -/
structure S where
  sl : List (Option D)
  st : List SO
  b : Nat
inductive Out (α : Type) where
  | ok (a : α) (s : S)
  | er (x : Exn) (s : S)
  | no
def Out.bind {α β : Type} : Out α → (α → S → Out β) → Out β
  | .ok a s, f => f a s
  | .er x s, _ => .er x s
  | .no, _ => .no

/-- what the relation leans on: the written part, where the classes and defs stand, the tables of code objects -/
structure Bg where
  K : PySem.W.Frag
  cA : Str → Addr
  T : List (Addr × Str)
  ask : Option Addr := none
/-- the ghost: what is frozen, where the store's objects stand -/
structure Wd where
  Fz : Hp
  ρ : List Addr
structure Wd.le (G G' : Wd) : Prop where
  mono : ∀ a o, G.Fz a = some o → G'.Fz a = some o
  pre : ∃ t, G'.ρ = G.ρ ++ t
theorem Wd.le.refl (G : Wd) : G.le G := ⟨fun _ _ h => h, [], by simp⟩
theorem Wd.le.trans {G1 G2 G3 : Wd} (a : G1.le G2) (b : G2.le G3) : G1.le G3 :=
  ⟨fun x o h => b.mono x o (a.mono x o h), by obtain ⟨t, e⟩ := a.pre; obtain ⟨u, e'⟩ := b.pre; exact ⟨t ++ u, by rw [e', e, List.append_assoc]⟩⟩
theorem Wd.le.at {G G' : Wd} (l : G.le G') {n : Nat} {a : Addr} (h : G.ρ[n]? = some a) : G'.ρ[n]? = some a := by
  obtain ⟨t, e⟩ := l.pre
  rw [e, List.getElem?_append_left (List.getElem?_eq_some_iff.mp h).1]
  exact h

/-- an exception object at a, held: its class's address, its own dict's -/
def ExH (C dd a : Addr) : HO := .ext fun h => ∃ (oe : Obj) (vs : Array Value), h.get? a = some oe ∧ oe.cls = .ref C ∧ oe.dict = some dd ∧ oe.data = .fields vs
mutual
inductive Has (B : Bg) (G : Wd) : D → V → Prop
  | non : Has B G .non .non
  | bl (b : Bool) : Has B G (.bl b) (.bl b)
  | int (i : Int) : Has B G (.int i) (.int i)
  | str (x : Str) : Has B G (.str x) (.str x)
  | ty (n : String) : Has B G (.ty n) (.ty n)
  | gl (x : Str) : Has B G (.gl x) (.ref (B.cA x))
  | tup {ds : List D} {a : Addr} {vs : List V} (h : SqT B.K G.Fz a vs) (l : HasL B G ds vs) : Has B G (.tup ds) (.ref a)
  | lst {ds : List D} {a : Addr} {vs : List V} (h : G.Fz a = some (.lst vs)) (l : HasL B G ds vs) : Has B G (.lst ds) (.ref a)
  | scr {is : List Int} {a : Addr} (h : SqL B.K G.Fz a (is.map V.int)) : Has B G (.scr is) (.ref a)
  | dic {ks : List Key} {ds : List D} {a : Addr} {kvs : List (Key × V)} (h : G.Fz a = some (.dK kvs)) (e : kvs.map (·.1) = ks) (l : HasL B G ds (kvs.map (·.2))) : Has B G (.dic ks ds) (.ref a)
  | dit {ks : List (List Key)} {ds : List D} {a : Addr} {kvs : List (List Key × V)} (h : G.Fz a = some (.dT kvs)) (e : kvs.map (·.1) = ks) (l : HasL B G ds (kvs.map (·.2))) : Has B G (.dit ks ds) (.ref a)
  | ins {c : Str} {fs : List Str} {ds : List D} {a dx : Addr} {fvs : List (Str × V)} (h : G.Fz a = some (.ins (B.cA c) dx fvs)) (e : fvs.map (·.1) = fs) (l : HasL B G ds (fvs.map (·.2))) : Has B G (.ins c fs ds) (.ref a)
  | exc {c : Str} {fs : List Str} {ds : List D} {a dd : Addr} {fvs : List (Str × V)} (h : G.Fz a = some (ExH (B.cA c) dd a)) (hd : G.Fz dd = some (.xd fvs)) (e : fvs.map (·.1) = fs) (l : HasL B G ds (fvs.map (·.2))) : Has B G (.exc c fs ds) (.ref a)
  | ob {n : Nat} {a : Addr} (h : G.ρ[n]? = some a) : Has B G (.ob n) (.ref a)
  | ask {a : Addr} (h : B.ask = some a) : Has B G .ask (.ref a)
inductive HasL (B : Bg) (G : Wd) : List D → List V → Prop
  | nil : HasL B G [] []
  | cons {d : D} {ds : List D} {v : V} {vs : List V} (h : Has B G d v) (l : HasL B G ds vs) : HasL B G (d :: ds) (v :: vs)
end

theorem Rd.mono {H H' : Hp} (k : ∀ a o, H a = some o → H' a = some o) {a : Addr} {u : HO} (h : Rd H a u) : Rd H' a u := by
  rcases h with h | ⟨o, h⟩
  · exact .inl (k _ _ h)
  · exact .inr ⟨o, k _ _ h⟩
theorem SqL.mono {K : PySem.W.Frag} {H H' : Hp} (k : ∀ a o, H a = some o → H' a = some o) {a : Addr} {xs : List V} (h : SqL K H a xs) : SqL K H' a xs := h.imp (Rd.mono k) id
theorem SqT.mono {K : PySem.W.Frag} {H H' : Hp} (k : ∀ a o, H a = some o → H' a = some o) {a : Addr} {xs : List V} (h : SqT K H a xs) : SqT K H' a xs := h.imp (Rd.mono k) id

section
variable {B : Bg} {G G' : Wd}
mutual
theorem Has.mono (l : G.le G') : ∀ {d : D} {v : V}, Has B G d v → Has B G' d v
  | _, _, .non => .non
  | _, _, .bl b => .bl b
  | _, _, .int i => .int i
  | _, _, .str x => .str x
  | _, _, .ty n => .ty n
  | _, _, .gl x => .gl x
  | _, _, .tup h r => .tup (SqT.mono l.mono h) (HasL.mono l r)
  | _, _, .lst h r => .lst (l.mono _ _ h) (HasL.mono l r)
  | _, _, .scr h => .scr (SqL.mono l.mono h)
  | _, _, .dic h e r => .dic (l.mono _ _ h) e (HasL.mono l r)
  | _, _, .dit h e r => .dit (l.mono _ _ h) e (HasL.mono l r)
  | _, _, .ins h e r => .ins (l.mono _ _ h) e (HasL.mono l r)
  | _, _, .exc h hd e r => .exc (l.mono _ _ h) (l.mono _ _ hd) e (HasL.mono l r)
  | _, _, .ob h => .ob (l.at h)
  | _, _, .ask h => .ask h
theorem HasL.mono (l : G.le G') : ∀ {ds : List D} {vs : List V}, HasL B G ds vs → HasL B G' ds vs
  | _, _, .nil => .nil
  | _, _, .cons h r => .cons (Has.mono l h) (HasL.mono l r)
end
theorem HasL.length : ∀ {ds : List D} {vs : List V}, HasL B G ds vs → ds.length = vs.length
  | _, _, .nil => rfl
  | _, _, .cons _ r => congrArg (· + 1) (HasL.length r)
theorem HasL.append : ∀ {ds es : List D} {vs ws : List V}, HasL B G ds vs → HasL B G es ws → HasL B G (ds ++ es) (vs ++ ws)
  | _, _, _, _, .nil, s => s
  | _, _, _, _, .cons h r, s => .cons h (HasL.append r s)
theorem HasL.get : ∀ {ds : List D} {vs : List V} {i : Nat} {v : V}, HasL B G ds vs → vs[i]? = some v → ∃ d, ds[i]? = some d ∧ Has B G d v
  | _, _, _, _, .nil, e => by simp at e
  | _, _, 0, _, .cons h _, e => by simp at e; subst e; exact ⟨_, rfl, h⟩
  | _, _, i + 1, v, .cons _ r, e => by
    obtain ⟨d, h1, h2⟩ := HasL.get (i := i) (v := v) r (by simpa using e)
    exact ⟨d, by simpa using h1, h2⟩
theorem HasL.getD : ∀ {ds : List D} {vs : List V} {i : Nat} {d : D}, HasL B G ds vs → ds[i]? = some d → ∃ v, vs[i]? = some v ∧ Has B G d v
  | _, _, _, _, .nil, e => by simp at e
  | _, _, 0, _, .cons h _, e => by simp at e; subst e; exact ⟨_, rfl, h⟩
  | _, _, i + 1, d, .cons _ r, e => by
    obtain ⟨v, h1, h2⟩ := HasL.getD (i := i) (d := d) r (by simpa using e)
    exact ⟨v, by simpa using h1, h2⟩
theorem HasL.set {d : D} {v : V} (h : Has B G d v) : ∀ {ds : List D} {vs : List V} (i : Nat), HasL B G ds vs → HasL B G (ds.set i d) (vs.set i v)
  | _, _, _, .nil => .nil
  | _, _, 0, .cons _ r => .cons h r
  | _, _, i + 1, .cons q r => .cons q (HasL.set h i r)
theorem HasL.take : ∀ {ds : List D} {vs : List V} (n : Nat), HasL B G ds vs → HasL B G (ds.take n) (vs.take n)
  | _, _, 0, _ => by simp; exact .nil
  | _, _, _ + 1, .nil => by simp; exact .nil
  | _, _, n + 1, .cons h r => by simp; exact .cons h (HasL.take n r)
theorem HasL.drop : ∀ {ds : List D} {vs : List V} (n : Nat), HasL B G ds vs → HasL B G (ds.drop n) (vs.drop n)
  | _, _, 0, r => by simpa using r
  | _, _, _ + 1, .nil => by simp; exact .nil
  | _, _, n + 1, .cons _ r => by simp; exact HasL.drop n r
theorem HasL.reverse : ∀ {ds : List D} {vs : List V}, HasL B G ds vs → HasL B G ds.reverse vs.reverse
  | _, _, .nil => .nil
  | _, _, .cons h r => by simp only [List.reverse_cons]; exact HasL.append (HasL.reverse r) (.cons h .nil)
theorem HasL.ints : ∀ {is : List Int} {vs : List V}, HasL B G (is.map D.int) vs → vs = is.map V.int
  | [], _, .nil => rfl
  | _ :: _, _, .cons (.int _) r => by simp only [List.map_cons]; rw [HasL.ints r]
theorem HasL.ofInts : ∀ (is : List Int), HasL B G (is.map D.int) (is.map V.int)
  | [] => .nil
  | i :: is => .cons (.int i) (HasL.ofInts is)
end

/-- an object of the store stands at a -/
def SOok (B : Bg) (G : Wd) (H : Hp) (a : Addr) : SO → Prop
  | .lst ds => ∃ vs, H a = some (.lst vs) ∧ HasL B G ds vs
  | .dic ks ds => ∃ kvs, H a = some (.dK kvs) ∧ kvs.map (·.1) = ks ∧ HasL B G ds (kvs.map (·.2))
  | .ins c fs ds => ∃ dx fvs, H a = some (.ins (B.cA c) dx fvs) ∧ fvs.map (·.1) = fs ∧ HasL B G ds (fvs.map (·.2))
  | .dead => ∃ o, H a = some o ∧ ∀ φ, o ≠ .ext φ
theorem SOok.there {B : Bg} {G : Wd} {H : Hp} {a : Addr} : ∀ {o : SO}, SOok B G H a o → ∃ u, H a = some u
  | .lst _, ⟨_, h, _⟩ => ⟨_, h⟩
  | .dic _ _, ⟨_, h, _⟩ => ⟨_, h⟩
  | .ins _ _ _, ⟨_, _, h, _⟩ => ⟨_, h⟩
  | .dead, ⟨o, h, _⟩ => ⟨o, h⟩
theorem SOok.mono {B : Bg} {G G' : Wd} {H H' : Hp} {a : Addr} (l : G.le G') (e : ∀ u, H a = some u → H' a = some u) : ∀ {o : SO}, SOok B G H a o → SOok B G' H' a o
  | .lst _, ⟨vs, h, r⟩ => ⟨vs, e _ h, r.mono l⟩
  | .dic _ _, ⟨kvs, h, q, r⟩ => ⟨kvs, e _ h, q, r.mono l⟩
  | .ins _ _ _, ⟨dx, fvs, h, q, r⟩ => ⟨dx, fvs, e _ h, q, r.mono l⟩
  | .dead, ⟨o, h, n⟩ => ⟨o, e _ h, n⟩

/-- the tables' addresses -/
def Bg.ta (B : Bg) : List Addr := B.T.map (·.1)
/-- the store and the frozen part stand in H -/
structure RelF (B : Bg) (G : Wd) (st : List SO) (H : Hp) : Prop where
  le : ∀ a o, G.Fz a = some o → H a = some o
  len : G.ρ.length = st.length
  so : ∀ (n : Nat) (a : Addr) (o : SO), G.ρ[n]? = some a → st[n]? = some o → SOok B G H a o
  nd : G.ρ.Nodup
  ap : ∀ (n : Nat) (a : Addr) (o : SO), G.ρ[n]? = some a → st[n]? = some o → o ≠ .dead → G.Fz a = none
  tb : LamX.Tabs B.T H
  tF : ∀ a ∈ B.ta, G.Fz a = none ∧ a ∉ G.ρ ∧ ∃ o, H a = some o
/-- from (G, H) to (G', H'): what happens in a call -/
structure Ext (B : Bg) (G : Wd) (H : Hp) (G' : Wd) (H' : Hp) : Prop where
  le : G.le G'
  newF : ∀ a, G'.Fz a ≠ none → G.Fz a ≠ none ∨ H a = none ∨ a ∈ G.ρ
  newR : ∀ a ∈ G'.ρ, a ∈ G.ρ ∨ H a = none
  keep : ∀ b o, H b = some o → b ∉ G.ρ → b ∉ B.ta → H' b = some o
  there : ∀ b, H b ≠ none → H' b ≠ none
theorem Ext.refl {B : Bg} (G : Wd) (H : Hp) : Ext B G H G H := ⟨.refl G, fun _ h => .inl h, fun _ h => .inl h, fun _ _ h _ _ => h, fun _ h => h⟩
theorem Ext.trans {B : Bg} {G1 G2 G3 : Wd} {H1 H2 H3 : Hp} (a : Ext B G1 H1 G2 H2) (b : Ext B G2 H2 G3 H3) : Ext B G1 H1 G3 H3 := by
  have back : ∀ x, H2 x = none → H1 x = none := fun x h => Classical.byContradiction fun n => a.there x n h
  refine ⟨a.le.trans b.le, fun x h => ?_, fun x h => ?_, fun x o h n t => ?_, fun x h => b.there x (a.there x h)⟩
  · rcases b.newF x h with h | h | h
    · exact a.newF x h
    · exact .inr (.inl (back x h))
    · exact .inr ((a.newR x h).symm)
  · rcases b.newR x h with h | h
    · exact a.newR x h
    · exact .inr (back x h)
  · refine b.keep x o (a.keep x o h n t) (fun hm => ?_) t
    rcases a.newR x hm with hm | hm
    · exact n hm
    · rw [h] at hm; cases hm

theorem Ext.back {B : Bg} {G G' : Wd} {H H' : Hp} (e : Ext B G H G' H') {a : Addr} (h : H' a = none) : H a = none := Classical.byContradiction fun n => e.there a n h
/-- what a derivation's reading leans on: the background, the tables' fact, the entry, what is wanted of exceptions -/
structure Cj where
  B : Bg
  G0 : Wd
  H0 : Hp
  W : WX
/-- the state of a body -/
structure Rel (j : Cj) (G : Wd) (s : S) (σ : L2.St) (H : Hp) : Prop where
  f : RelF j.B G s.st H
  e : Ext j.B j.G0 j.H0 G H
  b : s.b = j.G0.ρ.length
  ln : s.sl.length = σ.length
  sl : ∀ (i : Nat) (d : D), s.sl[i]? = some (some d) → ∃ v : V, σ[i]? = some (some v) ∧ Has j.B G d v

/-- the exception's class and fields -/
def ExnOk (B : Bg) (G : Wd) (H : Hp) (x : Exn) (dd : Addr) : Prop := ∃ fvs, H dd = some (.xd fvs) ∧ G.Fz dd = none ∧ dd ∉ G.ρ ∧ dd ∉ B.ta ∧ fvs.map (·.1) = x.fs ∧ HasL B G x.ds (fvs.map (·.2))

def outG {α β : Type} (j : Cj) (R : Wd → α → β → Prop) (σ : L2.St) (G : Wd) (H : Hp) : Out α → (β → Hp → Prop) → Prop
  | .ok a s', Q => ∀ G' H' y, Rel j G' s' σ H' → Ext j.B G H G' H' → R G' a y → Q y H'
  | .er x s', _ => ∀ G' H' dd, Rel j G' s' σ H' → Ext j.B G H G' H' → ExnOk j.B G' H' x dd → H dd = none → j.W (.ref (j.B.cA x.c)) (some dd) σ H'
  | .no, _ => False
def toG {α β : Type} (j : Cj) (R : Wd → α → β → Prop) (den : S → Out α) : L2.St → Hp → (β → Hp → Prop) → Prop := fun σ H Q => ∃ G s, Rel j G s σ H ∧ outG j R σ G H (den s) Q
section
variable {α β γ δ : Type} {j : Cj} {R : Wd → α → β → Prop} {R' : Wd → γ → δ → Prop} {σ : L2.St} {G G1 : Wd} {H H1 : Hp}
theorem outG.mono {o : Out α} {Q : β → Hp → Prop} (h : outG j R σ G H o Q) (l : Ext j.B G H G1 H1) : outG j R σ G1 H1 o Q := by
  cases o with
  | ok a s => exact fun G' H' y r k q => h G' H' y r (l.trans k) q
  | er x s => exact fun G' H' dd r k q n => h G' H' dd r (l.trans k) q (l.back n)
  | no => exact h
theorem outG.imp {o : Out α} {Q Q' : β → Hp → Prop} (h : outG j R σ G H o Q) (k : ∀ y H, Q y H → Q' y H) : outG j R σ G H o Q' := by
  cases o with
  | ok a s => exact fun G' H' y r l q => k y H' (h G' H' y r l q)
  | er x s => exact h
  | no => exact h
theorem outG.bind {o : Out α} {f : α → S → Out γ} {Q : δ → Hp → Prop} (h : outG j R' σ G H (o.bind f) Q) :
    outG j R σ G H o fun x H1 => ∃ G1 s1 a, Rel j G1 s1 σ H1 ∧ Ext j.B G H G1 H1 ∧ R G1 a x ∧ outG j R' σ G1 H1 (f a s1) Q := by
  cases o with
  | ok a s => exact fun G' H' y r l q => ⟨G', s, a, r, l, q, outG.mono h l⟩
  | er x s => exact h
  | no => exact h
end

/-- readings of the four sorts -/
abbrev DenE := S → Out D
abbrev DenT := S → Out Bool
abbrev DenA := S → Out (List D)
abbrev eqB (_ : Wd) (a b : Bool) : Prop := b = a
def toTE (j : Cj) (den : DenE) : TE := toG j (Has j.B) den
def toTT (j : Cj) (den : DenT) : TT := toG j eqB den
def toTA (j : Cj) (den : DenA) : TA := toG j (HasL j.B) den
def DE (X : Cx) (j : Cj) (e : Expr) (den : DenE) : Prop := PE X e (toTE j den)
def DT (X : Cx) (j : Cj) (e : Expr) (den : DenT) : Prop := PT X e (toTT j den)
def DW (X : Cx) (j : Cj) (e : Expr) (den : DenT) : Prop := PW X e (toTT j den)
def DA (X : Cx) (j : Cj) (es : List Expr) (den : DenA) : Prop := PA X es (toTA j den)
/-- statements -/
inductive Fl where
  | nx | rt (d : D) | bk | ct
abbrev DenS := S → Out Fl
def outS (j : Cj) (σ : L2.St) (G : Wd) (H : Hp) (D : Ends) : Out Fl → Prop
  | .ok .nx s' => ∀ G' σ' H', Rel j G' s' σ' H' → Ext j.B G H G' H' → D.nx σ' H'
  | .ok (.rt d) s' => ∀ G' σ' H' v, Rel j G' s' σ' H' → Ext j.B G H G' H' → Has j.B G' d v → D.rt v H'
  | .ok .bk s' => ∀ G' σ' H', Rel j G' s' σ' H' → Ext j.B G H G' H' → D.bk σ' H'
  | .ok .ct s' => ∀ G' σ' H', Rel j G' s' σ' H' → Ext j.B G H G' H' → D.ct σ' H'
  | .er x s' => ∀ G' σ' H' dd, Rel j G' s' σ' H' → Ext j.B G H G' H' → ExnOk j.B G' H' x dd → H dd = none → j.W (.ref (j.B.cA x.c)) (some dd) σ' H'
  | .no => False
def toTS (j : Cj) (den : DenS) : TS := fun D σ H => ∃ G s, Rel j G s σ H ∧ outS j σ G H D (den s)
def DS (X : Cx) (j : Cj) (st : Stmt) (den : DenS) : Prop := PS X st (toTS j den)
def DSs (X : Cx) (j : Cj) (sts : List Stmt) (den : DenS) : Prop := PSs X sts (toTS j den)
end DL
end

section
set_option maxHeartbeats 4000000
/-! DL part 2: the state's steps. -/
namespace DL
open PySem PySem.Spec PyProof.Rows L2

theorem PE.imp {X : Cx} {e : Expr} {t t' : TE} (h : PE X e t) (k : ∀ σ H Q, t' σ H Q → t σ H Q) : PE X e t' := ⟨fun pins s σ H Q I q => h.run pins s σ H Q I (k σ H Q q)⟩
theorem PT.imp {X : Cx} {e : Expr} {t t' : TT} (h : PT X e t) (k : ∀ σ H Q, t' σ H Q → t σ H Q) : PT X e t' := ⟨fun pins s σ H Q I q => h.run pins s σ H Q I (k σ H Q q)⟩
theorem PW.imp {X : Cx} {e : Expr} {t t' : TT} (h : PW X e t) (k : ∀ σ H Q, t' σ H Q → t σ H Q) : PW X e t' := ⟨fun wh pins s σ H Q I q => h.run wh pins s σ H Q I (k σ H Q q)⟩
theorem PA.imp {X : Cx} {es : List Expr} {t t' : TA} (h : PA X es t) (k : ∀ σ H Q, t' σ H Q → t σ H Q) : PA X es t' := ⟨fun pos pins s σ H Q I q => h.run pos pins s σ H Q I (k σ H Q q)⟩
theorem PS.imp {X : Cx} {st : Stmt} {t t' : TS} (h : PS X st t) (k : ∀ D σ H, t' D σ H → t D σ H) : PS X st t' := ⟨fun pins s σ H D I q => h.run pins s σ H D I (k D σ H q)⟩
theorem PSs.imp {X : Cx} {st : List Stmt} {t t' : TS} (h : PSs X st t) (k : ∀ D σ H, t' D σ H → t D σ H) : PSs X st t' := ⟨fun pins s σ H D I q => h.run pins s σ H D I (k D σ H q)⟩

theorem tabs_keep {T : List (Addr × Str)} {H H' : Hp} (t : LamX.Tabs T H) (k : ∀ b o, H b = some o → ((∃ ps, o = .tbl ps) ∨ ∃ φ, o = .ext φ) → H' b = some o) : LamX.Tabs T H' := fun p hp => by
  obtain ⟨ps, h1, h2, h3⟩ := t p hp
  refine ⟨ps, k _ _ h1 (.inl ⟨_, rfl⟩), h2, fun pos cv hc => ?_⟩
  obtain ⟨c, e1, e2⟩ := h3 pos cv hc
  exact ⟨c, e1, k _ _ e2 (.inr ⟨_, rfl⟩)⟩

section
variable {j : Cj} {G : Wd} {s : S} {σ : L2.St} {H : Hp}
theorem SOok.kind {B : Bg} {G : Wd} {H : Hp} {a : Addr} : ∀ {o : SO}, o ≠ .dead → SOok B G H a o → ∃ u, H a = some u ∧ (∀ ps, u ≠ .tbl ps) ∧ ∀ φ, u ≠ .ext φ
  | .lst _, _, ⟨_, h, _⟩ => ⟨_, h, (fun _ z => nomatch z), fun _ z => nomatch z⟩
  | .dic _ _, _, ⟨_, h, _⟩ => ⟨_, h, (fun _ z => nomatch z), fun _ z => nomatch z⟩
  | .ins _ _ _, _, ⟨_, _, h, _⟩ => ⟨_, h, (fun _ z => nomatch z), fun _ z => nomatch z⟩
  | .dead, n, _ => absurd rfl n
/-- every store object's address is tracked -/
theorem RelF.tracked {B : Bg} {st : List SO} (f : RelF B G st H) {a : Addr} (h : a ∈ G.ρ) : ∃ u, H a = some u := by
  obtain ⟨n, hn, e⟩ := List.getElem_of_mem h
  have h1 : G.ρ[n]? = some a := by rw [List.getElem?_eq_getElem hn, e]
  have h2 : st[n]? = some (st[n]'(by rw [← f.len]; exact hn)) := List.getElem?_eq_getElem _
  exact (f.so n a _ h1 h2).there
theorem RelF.fresh {B : Bg} {st : List SO} (f : RelF B G st H) {p : Addr} (h : H p = none) : G.Fz p = none ∧ p ∉ G.ρ ∧ p ∉ B.ta := by
  refine ⟨?_, fun m => ?_, fun m => ?_⟩
  · cases e : G.Fz p with
    | none => rfl
    | some o => rw [f.le p o e] at h; cases h
  · obtain ⟨u, e⟩ := f.tracked m
    rw [e] at h; cases h
  · obtain ⟨_, _, o, e⟩ := f.tF p m
    rw [e] at h; cases h
/-- something new is laid at p, and not told of -/
theorem RelF.laid {B : Bg} {st : List SO} (f : RelF B G st H) {p : Addr} (h : H p = none) (o : HO) : RelF B G st (upd H p o) := by
  obtain ⟨n1, n2, n3⟩ := f.fresh h
  have k : ∀ b u, H b = some u → upd H p o b = some u := fun b u e => by rw [upd_ne (ne_of_none e h)]; exact e
  exact ⟨fun a u e => k a u (f.le a u e), f.len, fun n a u e1 e2 => (f.so n a u e1 e2).mono (.refl G) (k a), f.nd, f.ap, tabs_keep f.tb fun b u e _ => k b u e,
    fun a m => by obtain ⟨h1, h2, u, e⟩ := f.tF a m; exact ⟨h1, h2, u, k a u e⟩⟩
theorem Ext.laid {B : Bg} {p : Addr} (h : H p = none) (o : HO) : Ext B G H G (upd H p o) :=
  ⟨.refl G, fun _ z => .inl z, fun _ z => .inl z, fun b u e _ _ => by rw [upd_ne (ne_of_none e h)]; exact e, fun b z => by
    by_cases e : b = p
    · rw [e, upd_same]; simp
    · rw [upd_ne e]; exact z⟩
theorem Rel.laid (r : Rel j G s σ H) {p : Addr} (h : H p = none) (o : HO) : Rel j G s σ (upd H p o) :=
  ⟨r.f.laid h o, r.e.trans (Ext.laid h o), r.b, r.ln, r.sl⟩
/-- more is frozen: what stands at a -/
abbrev Wd.fz (G : Wd) (a : Addr) (o : HO) : Wd := ⟨upd G.Fz a o, G.ρ⟩
theorem Wd.le.fz {p : Addr} {o : HO} (h : G.Fz p = none ∨ G.Fz p = some o) : G.le (G.fz p o) := ⟨fun a u e => by
  show upd G.Fz p o a = some u
  by_cases ea : a = p
  · subst ea
    rcases h with h | h
    · rw [h] at e; cases e
    · rw [upd_same, ← h]; exact e
  · rw [upd_ne ea]; exact e, [], by simp⟩
theorem RelF.fz {B : Bg} {st : List SO} (f : RelF B G st H) {p : Addr} {o : HO} (h : H p = some o) (n1 : G.Fz p = none) (n2 : p ∉ G.ρ) (n3 : p ∉ B.ta) : RelF B (G.fz p o) st H := by
  have l : G.le (G.fz p o) := .fz (.inl n1)
  refine ⟨fun a u e => ?_, f.len, fun n a u e1 e2 => (f.so n a u e1 e2).mono l fun _ z => z, f.nd, fun n a u e1 e2 e3 => ?_, f.tb, fun a m => ?_⟩
  · have e' : upd G.Fz p o a = some u := e
    by_cases ea : a = p
    · subst ea; rw [upd_same] at e'; rw [h, e']
    · rw [upd_ne ea] at e'; exact f.le a u e'
  · show upd G.Fz p o a = none
    have na : a ≠ p := fun z => n2 (z ▸ List.mem_of_getElem? e1)
    rw [upd_ne na]; exact f.ap n a u e1 e2 e3
  · obtain ⟨h1, h2, w⟩ := f.tF a m
    have na : a ≠ p := fun z => n3 (z ▸ m)
    exact ⟨by show upd G.Fz p o a = none; rw [upd_ne na]; exact h1, h2, w⟩
/-- frozen: what was not there at the entry -/
theorem Rel.fz (r : Rel j G s σ H) {p : Addr} {o : HO} (h : H p = some o) (n0 : j.H0 p = none) (n1 : G.Fz p = none) (n2 : p ∉ G.ρ) (n3 : p ∉ j.B.ta) : Rel j (G.fz p o) s σ H := by
  have l : G.le (G.fz p o) := .fz (.inl n1)
  refine ⟨r.f.fz h n1 n2 n3, ⟨r.e.le.trans l, fun a z => ?_, r.e.newR, r.e.keep, r.e.there⟩, r.b, r.ln, fun i d e => ?_⟩
  · by_cases ea : a = p
    · rw [ea]; exact .inr (.inl n0)
    · exact r.e.newF a (by have z' : upd G.Fz p o a ≠ none := z; rw [upd_ne ea] at z'; exact z')
  · obtain ⟨v, e1, e2⟩ := r.sl i d e
    exact ⟨v, e1, e2.mono l⟩
theorem Rel.back (r : Rel j G s σ H) {p : Addr} (h : H p = none) : j.H0 p = none := Classical.byContradiction fun n => r.e.there p n h
/-- new and frozen -/
theorem Ext.fz {B : Bg} {H' : Hp} (e : Ext B G H G H') {p : Addr} {o : HO} (h : H p = none ∨ p ∈ G.ρ) (n1 : G.Fz p = none) : Ext B G H (G.fz p o) H' :=
  ⟨.fz (.inl n1), fun a z => by
    by_cases ea : a = p
    · rw [ea]; exact .inr h
    · exact .inl (by have z' : upd G.Fz p o a ≠ none := z; rw [upd_ne ea] at z'; exact z'), e.newR, e.keep, e.there⟩
theorem Rel.new (r : Rel j G s σ H) {p : Addr} (h : H p = none) (o : HO) : Rel j (G.fz p o) s σ (upd H p o) ∧ Ext j.B G H (G.fz p o) (upd H p o) := by
  obtain ⟨n1, n2, n3⟩ := r.f.fresh h
  exact ⟨(r.laid h o).fz upd_same (r.back h) n1 n2 n3, (Ext.laid h o).fz (.inl h) n1⟩
/-- a new object of the store, at p -/
theorem Rel.push (r : Rel j G s σ H) {p : Addr} {o : SO} {u : HO} (h : H p = some u) (ok : SOok j.B G H p o) (n0 : j.H0 p = none) (n1 : G.Fz p = none) (n2 : p ∉ G.ρ) (n3 : p ∉ j.B.ta) :
    Rel j ⟨G.Fz, G.ρ ++ [p]⟩ { s with st := s.st ++ [o] } σ H ∧ G.le ⟨G.Fz, G.ρ ++ [p]⟩ := by
  have l : G.le ⟨G.Fz, G.ρ ++ [p]⟩ := ⟨fun _ _ z => z, [p], rfl⟩
  have hl := r.f.len
  refine ⟨⟨⟨r.f.le, by simp [hl], fun n a q e1 e2 => ?_, ?_, fun n a q e1 e2 e3 => ?_, r.f.tb, fun a m => ?_⟩, ⟨r.e.le.trans l, r.e.newF, fun a m => ?_, r.e.keep, r.e.there⟩, r.b, r.ln, fun i d e => ?_⟩, l⟩
  · by_cases hn : n < G.ρ.length
    · rw [List.getElem?_append_left hn] at e1
      rw [List.getElem?_append_left (by rw [← hl]; exact hn)] at e2
      exact (r.f.so n a q e1 e2).mono l fun _ z => z
    · rw [List.getElem?_append_right (by omega)] at e1 e2
      rw [← hl] at e2
      have hz : n - G.ρ.length = 0 := by
        cases e : n - G.ρ.length with
        | zero => rfl
        | succ k => rw [e] at e1; simp at e1
      rw [hz] at e1 e2
      simp at e1 e2
      subst e1 e2
      exact ok.mono l fun _ z => z
  · rw [List.nodup_append]
    exact ⟨r.f.nd, by simp, fun a ha b hb => by simp at hb; subst hb; exact fun z => n2 (z ▸ ha)⟩
  · by_cases hn : n < G.ρ.length
    · rw [List.getElem?_append_left hn] at e1
      rw [List.getElem?_append_left (by rw [← hl]; exact hn)] at e2
      exact r.f.ap n a q e1 e2 e3
    · rw [List.getElem?_append_right (by omega)] at e1
      have hz : n - G.ρ.length = 0 := by
        cases e : n - G.ρ.length with
        | zero => rfl
        | succ k => rw [e] at e1; simp at e1
      rw [hz] at e1
      simp at e1
      subst e1
      exact n1
  · obtain ⟨h1, h2, w⟩ := r.f.tF a m
    refine ⟨h1, fun z => ?_, w⟩
    rcases List.mem_append.mp z with z | z
    · exact h2 z
    · simp at z; subst z; exact n3 m
  · rcases List.mem_append.mp m with m | m
    · exact r.e.newR a m
    · simp at m; subst m; exact .inr n0
  · obtain ⟨v, e1, e2⟩ := r.sl i d e
    exact ⟨v, e1, e2.mono l⟩
/-- the n-th object of the store becomes o, its address's content u -/
theorem Rel.updO (r : Rel j G s σ H) {n : Nat} {p : Addr} {o q : SO} {u : HO} (h : G.ρ[n]? = some p) (hq : s.st[n]? = some q) (nd : q ≠ .dead) (ok : SOok j.B G (L2.upd H p u) p o) :
    Rel j G { s with st := s.st.set n o } σ (L2.upd H p u) ∧ Ext j.B G H G (L2.upd H p u) := by
  have hp : p ∈ G.ρ := List.mem_of_getElem? h
  have hl := r.f.len
  obtain ⟨w, hw, nt, ne⟩ := SOok.kind nd (r.f.so n p q h hq)
  have nFz : G.Fz p = none := r.f.ap n p q h hq nd
  have kp : ∀ b x, b ≠ p → H b = some x → L2.upd H p u b = some x := fun b x hb e => by rw [upd_ne hb]; exact e
  refine ⟨?_, ⟨.refl G, fun _ z => .inl z, fun _ z => .inl z, fun b x e nb _ => kp b x (fun z => nb (z ▸ hp)) e, fun b z => by
    by_cases hb : b = p
    · rw [hb, upd_same]; simp
    · rw [upd_ne hb]; exact z⟩⟩
  refine ⟨⟨fun a x e => kp a x (fun z => by rw [z, nFz] at e; cases e) (r.f.le a x e), by simp [hl], fun m a y e1 e2 => ?_, r.f.nd, fun m a y e1 e2 e3 => ?_, ?_, fun a m => ?_⟩, ⟨r.e.le, r.e.newF, r.e.newR, fun b x e nb nt' => ?_, fun b z => ?_⟩, r.b, r.ln, r.sl⟩
  · by_cases hm : m = n
    · subst hm
      rw [h] at e1; cases e1
      rw [List.getElem?_set_self (List.getElem?_eq_some_iff.mp hq).1] at e2
      cases e2
      exact ok
    · rw [List.getElem?_set_ne (Ne.symm hm)] at e2
      refine (r.f.so m a y e1 e2).mono (.refl G) fun x e => kp a x (fun z => ?_) e
      subst z
      exact hm ((List.getElem?_inj (List.getElem?_eq_some_iff.mp e1).1 r.f.nd).mp (e1.trans h.symm))
  · by_cases hm : m = n
    · subst hm
      rw [h] at e1; cases e1
      exact nFz
    · rw [List.getElem?_set_ne (Ne.symm hm)] at e2
      exact r.f.ap m a y e1 e2 e3
  · refine tabs_keep r.f.tb fun b x e k => kp b x (fun z => ?_) e
    subst z
    rw [hw] at e
    cases e
    rcases k with ⟨ps, k⟩ | ⟨φ, k⟩
    · exact nt ps k
    · exact ne φ k
  · obtain ⟨h1, h2, x, e⟩ := r.f.tF a m
    exact ⟨h1, h2, x, kp a x (fun z => h2 (z ▸ hp)) e⟩
  · refine kp b x (fun z => ?_) (r.e.keep b x e nb nt')
    subst z
    rcases r.e.newR b hp with k | k
    · exact nb k
    · rw [k] at e; cases e
  · by_cases hb : b = p
    · rw [hb, upd_same]; simp
    · rw [upd_ne hb]; exact r.e.there b z
/-- behind a call -/
theorem Rel.call {G' : Wd} {st' : List SO} {H' : Hp} (r : Rel j G s σ H) (f : RelF j.B G' st' H') (e : Ext j.B G H G' H') : Rel j G' { s with st := st' } σ H' :=
  ⟨f, r.e.trans e, r.b, r.ln, fun i d h => by obtain ⟨v, e1, e2⟩ := r.sl i d h; exact ⟨v, e1, e2.mono e.le⟩⟩
/-- a slot is set -/
theorem Rel.set (r : Rel j G s σ H) {d : D} {v : V} (h : Has j.B G d v) (i : Nat) (hi : i < s.sl.length) : Rel j G { s with sl := s.sl.set i (some d) } (σ.set i (some v)) H :=
  ⟨r.f, r.e, r.b, by simp [r.ln], fun k d' e => by
    by_cases hk : k = i
    · subst hk
      have e' : (s.sl.set k (some d))[k]? = some (some d') := e
      rw [List.getElem?_set_self hi] at e'
      cases e'
      exact ⟨v, by rw [List.getElem?_set_self (by rw [← r.ln]; exact hi)], h⟩
    · have e' : (s.sl.set i (some d))[k]? = some (some d') := e
      rw [List.getElem?_set_ne (Ne.symm hk)] at e'
      obtain ⟨v', e1, e2⟩ := r.sl k d' e'
      exact ⟨v', by rw [List.getElem?_set_ne (Ne.symm hk)]; exact e1, e2⟩⟩
/-- slots forgotten -/
theorem Rel.forget (r : Rel j G s σ H) {sl : List (Option D)} {σ' : L2.St} (hl : sl.length = σ'.length) (h : ∀ (i : Nat) (d : D), sl[i]? = some (some d) → s.sl[i]? = some (some d) ∧ σ'[i]? = σ[i]?) : Rel j G { s with sl := sl } σ' H :=
  ⟨r.f, r.e, r.b, hl, fun i d e => by
    obtain ⟨e1, e2⟩ := h i d e
    obtain ⟨v, e3, e4⟩ := r.sl i d e1
    exact ⟨v, by rw [e2]; exact e3, e4⟩⟩
end

/-! ### lists and tuples as data -/
def getL (st : List SO) : D → Option (List D)
  | .lst ds => some ds
  | .ob n => (match st[n]? with
    | some (.lst ds) => some ds
    | _ => none)
  | _ => none
def getT : D → Option (List D)
  | .tup ds => some ds
  | _ => none
def getS (st : List SO) (d : D) : Option (List D) := match getL st d with
  | some ds => some ds
  | none => getT d
section
variable {j : Cj} {G : Wd} {s : S} {σ : L2.St} {H : Hp}
theorem Rel.getL (r : Rel j G s σ H) {d : D} {v : V} {ds : List D} (h : Has j.B G d v) (e : getL s.st d = some ds) : ∃ a vs, v = .ref a ∧ H a = some (.lst vs) ∧ HasL j.B G ds vs := by
  cases h with
  | lst h l =>
    have e' : some _ = some ds := e
    cases e'
    exact ⟨_, _, rfl, r.f.le _ _ h, l⟩
  | @ob n a h =>
    have e' : (match s.st[n]? with
      | some (.lst ds) => some ds
      | _ => none) = some ds := e
    split at e'
    · rename_i es q
      cases e'
      obtain ⟨vs, h1, h2⟩ := r.f.so n a _ h q
      exact ⟨a, vs, rfl, h1, h2⟩
    · cases e'
  | _ => cases e
theorem Rel.getT (r : Rel j G s σ H) {d : D} {v : V} {ds : List D} (h : Has j.B G d v) (e : getT d = some ds) : ∃ a vs, v = .ref a ∧ SqT j.B.K H a vs ∧ HasL j.B G ds vs := by
  cases h with
  | tup h l =>
    have e' : some _ = some ds := e
    cases e'
    exact ⟨_, _, rfl, SqT.mono r.f.le h, l⟩
  | _ => cases e
theorem Rel.getS (r : Rel j G s σ H) {d : D} {v : V} {ds : List D} (h : Has j.B G d v) (e : getS s.st d = some ds) : ∃ a vs, v = .ref a ∧ (SqL j.B.K H a vs ∨ SqT j.B.K H a vs) ∧ HasL j.B G ds vs := by
  unfold DL.getS at e
  split at e
  · rename_i es q
    cases e
    obtain ⟨a, vs, h1, h2, h3⟩ := r.getL h q
    exact ⟨a, vs, h1, .inl (SqL.of h2), h3⟩
  · obtain ⟨a, vs, h1, h2, h3⟩ := r.getT h e
    exact ⟨a, vs, h1, .inr h2, h3⟩
end
end DL
end

section
set_option maxHeartbeats 4000000
/-! DL part 3: expressions. -/
namespace DL
open PySem PySem.Spec PyProof.Rows L2

/-- an answer that leaves the state -/
def ans (o : Option D) (s : S) : Out D := match o with
  | some d => .ok d s
  | none => .no
theorem outG_ans {j : Cj} {σ : L2.St} {G : Wd} {o : Option D} {s : S} {H : Hp} {Q : V → Hp → Prop} (r : Rel j G s σ H) (h : outG j (Has j.B) σ G H (ans o s) Q) :
    ∃ d, o = some d ∧ (∀ v, Has j.B G d v → Q v H) ∧ ∀ G' H' v, Rel j G' s σ H' → Ext j.B G H G' H' → Has j.B G' d v → Q v H' := by
  cases o with
  | none => exact h.elim
  | some d => exact ⟨d, rfl, fun v k => h G H v r (.refl G H) k, h⟩

section
variable {X : Cx} {j : Cj} {pos : Pos}
/-! ### names, constants -/
def dVar (i : Nat) : DenE := fun s => match s.sl[i]? with
  | some (some d) => .ok d s
  | _ => .no
theorem de_of_pe {e : Expr} {t : TE} {den : DenE} (h : PE X e t) (k : ∀ σ H Q G s, Rel j G s σ H → outG j (Has j.B) σ G H (den s) Q → t σ H Q) : DE X j e den :=
  PE.imp h fun σ H Q ⟨G, s, r, o⟩ => k σ H Q G s r o
theorem de_var {i : Nat} {x : Str} (hN : X.N[i]? = some x) (hv : Vis X.env.scope x) (hd : (x == ("__debug__" : Str)) = false := by decide) (hcd : (x == ("__classdict__" : Str)) = false := by decide) : DE X j (.Name x pos) (dVar i) :=
  de_of_pe (pe_var hN hv hd hcd) fun σ H Q G s r o => by
    unfold dVar at o
    split at o
    · rename_i d e
      obtain ⟨v, e1, e2⟩ := r.sl i d e
      exact ⟨v, e1, o G H v r (.refl G H) e2⟩
    · exact o.elim
def dC (d : D) : DenE := fun s => .ok d s
theorem de_c {e : Expr} {d : D} {v : V} (h : PE X e (tC v)) (k : ∀ G, Has j.B G d v) : DE X j e (dC d) := de_of_pe h fun σ H Q G s r o => o G H v r (.refl G H) (k G)
theorem de_int {i : Int} {n} : DE X j (.Constant (.int i) n pos) (dC (.int i)) := de_c pe_int fun _ => .int i
theorem de_bl {b : Bool} {n} : DE X j (.Constant (.bool b) n pos) (dC (.bl b)) := de_c pe_bl fun _ => .bl b
theorem de_non {n} : DE X j (.Constant .none n pos) (dC .non) := de_c pe_non fun _ => .non
theorem de_str {x : Str} {n} : DE X j (.Constant (.str x) n pos) (dC (.str x)) := de_c pe_str fun _ => .str x
/-- a module's int, a module's text, a def or class, a built-in type, as values -/
theorem de_gint {x : Str} {i : Int} {t : Tok} (hg : Gl X x) (hm : X.mg x = some (.int i t)) (hd : (x == ("__debug__" : Str)) = false := by decide) : DE X j (.Name x pos) (dC (.int i)) := de_c (v := .int i) (pe_glob hg hm ⟨_, rfl⟩ hd) fun _ => .int i
theorem de_gstr {x : Str} {i : Str} {t : Tok} (hg : Gl X x) (hm : X.mg x = some (.str i t)) (hd : (x == ("__debug__" : Str)) = false := by decide) : DE X j (.Name x pos) (dC (.str i)) := de_c (v := .str i) (pe_glob hg hm ⟨_, rfl⟩ hd) fun _ => .str i
theorem de_gl {x : Str} (hg : Gl X x) (hm : X.mg x = some (.ref (j.B.cA x))) (hd : (x == ("__debug__" : Str)) = false := by decide) : DE X j (.Name x pos) (dC (.gl x)) := de_c (v := .ref (j.B.cA x)) (pe_glob hg hm rfl hd) fun _ => .gl x
theorem de_ty {x : Str} {n : String} (hg : Gl X x) (hm : X.mg x = none) (hv : bootBuiltins x = some (.type n)) (hn : x ≠ "__name__" := by decide) (hd : (x == ("__debug__" : Str)) = false := by decide) : DE X j (.Name x pos) (dC (.ty n)) :=
  de_c (pe_bltn hg hm hv (v := .ty n) rfl hn hd) fun _ => .ty n

/-! ### operators -/
abbrev Op2 := List SO → D → D → Option D
def dBin (f : Op2) (da db : DenE) : DenE := fun s => (da s).bind fun x s1 => (db s1).bind fun y s2 => ans (f s2.st x y) s2
/-- by its values: the reading r is served by f -/
def OpS (j : Cj) (r : R2) (f : Op2) : Prop := ∀ (σ : L2.St) (G : Wd) (s : S) (H : Hp) (x y : V) (dx dy d : D) (Q : V → Hp → Prop), Rel j G s σ H → Has j.B G dx x → Has j.B G dy y → f s.st dx dy = some d →
  (∀ v, Has j.B G d v → Q v H) → (∀ G' H' v, Rel j G' s σ H' → Ext j.B G H G' H' → Has j.B G' d v → Q v H') → r x y H Q
variable {a b : Expr} {da db : DenE} {f : Op2}
theorem bin_ok {r : R2} (hs : OpS j r f) {σ : L2.St} {H : Hp} {Q : V → Hp → Prop} (h : toTE j (dBin f da db) σ H Q) : tOp r (toTE j da) (toTE j db) σ H Q := by
  obtain ⟨G, s, hr, ho⟩ := h
  refine ⟨G, s, hr, outG.imp (outG.bind (R := Has j.B) ho) fun x H1 ⟨G1, s1, dx, r1, l1, h1, o1⟩ => ⟨G1, s1, r1, outG.imp (outG.bind (R := Has j.B) o1) fun y H2 ⟨G2, s2, dy, r2, l2, h2, o2⟩ => ?_⟩⟩
  obtain ⟨d, e, q1, q2⟩ := outG_ans r2 o2
  exact hs σ G2 s2 H2 x y dx dy d Q r2 (h1.mono l2.le) h2 e q1 q2
theorem de_bin {op : Operator} {r : R2} (ho : OpR X (binaryOp op) r) (hs : OpS j r f) (ha : DE X j a da) (hb : DE X j b db) : DE X j (.BinOp a op b pos) (dBin f da db) := PE.imp (pe_op ho ha hb) fun _ _ _ h => bin_ok hs h
theorem OpR.or {g : Value → Value → Sem Value} {r r' : R2} (h : OpR X g r) (h' : OpR X g r') : OpR X g (fun x y H Q => r x y H Q ∨ r' x y H Q) := by
  intro pins s σ H x y v u Q I rx ry q
  rcases q with q | q
  · exact h pins s σ H x y v u Q I rx ry q
  · exact h' pins s σ H x y v u Q I rx ry q
end
/-- two ints -/
def f2I (g : Int → Int → Option D) : Op2 := fun _ x y => match x, y with
  | .int i, .int k => g i k
  | _, _ => none
theorem f2I_some {g : Int → Int → Option D} {st : List SO} {x y d : D} (h : f2I g st x y = some d) : ∃ i k, x = .int i ∧ y = .int k ∧ g i k = some d := by
  unfold f2I at h
  split at h
  · exact ⟨_, _, rfl, rfl, h⟩
  · cases h
theorem opS_I {j : Cj} {C : Int → Int → Prop} {g : Int → Int → V} {g' : Int → Int → Option D} (h : ∀ i k d, g' i k = some d → C i k ∧ ∀ G, Has j.B G d (g i k)) : OpS j (rI C g) (f2I g') := by
  intro σ G s H x y dx dy d Q r hx hy e q1 q2
  obtain ⟨i, k, rfl, rfl, e⟩ := f2I_some e
  cases hx
  cases hy
  obtain ⟨c, hh⟩ := h i k d e
  exact ⟨i, k, rfl, rfl, c, q1 _ (hh G)⟩
theorem opS_I0 {j : Cj} {g : Int → Int → V} {g' : Int → Int → D} (h : ∀ i k G, Has j.B G (g' i k) (g i k)) : OpS j (rI0 g) (f2I fun i k => some (g' i k)) := by
  intro σ G s H x y dx dy d Q r hx hy e q1 q2
  obtain ⟨i, k, rfl, rfl, e⟩ := f2I_some e
  cases hx
  cases hy
  cases e
  exact ⟨i, k, rfl, rfl, q1 _ (h i k G)⟩
section
variable {X : Cx} {j : Cj} {pos : Pos} {a b : Expr} {da db : DenE}
abbrev fSub : Op2 := f2I fun i k => some (.int (i - k))
theorem de_sub (ha : DE X j a da) (hb : DE X j b db) : DE X j (.BinOp a .Sub b pos) (dBin fSub da db) := de_bin op_sub (opS_I0 fun _ _ _ => .int _) ha hb
/-- both below 2^64, or together below a million bits -/
def mulOk (i k : Int) : Bool := decide (-(2 ^ 64) < i ∧ i < 2 ^ 64) || decide (-(2 ^ 64) < k ∧ k < 2 ^ 64) || decide (i.natAbs.log2 + k.natAbs.log2 < 1000000)
abbrev fMul : Op2 := f2I fun i k => if mulOk i k = true then some (.int (i * k)) else none
theorem op_mulA : OpR X (binaryOp .Mult) (rI (fun i k => mulOk i k = true) fun i k => .int (i * k)) := by
  intro pins s σ H x y v u Q I rx ry h
  obtain ⟨i, k, e1, e2, c, q⟩ := h
  unfold mulOk at c
  simp only [Bool.or_eq_true, decide_eq_true_eq] at c
  rcases c with (c | c) | c
  · exact op_mul pins s σ H x y v u Q I rx ry ⟨i, k, e1, e2, .inl c, q⟩
  · exact op_mul pins s σ H x y v u Q I rx ry ⟨i, k, e1, e2, .inr c, q⟩
  · exact op_mulW pins s σ H x y v u Q I rx ry ⟨i, k, e1, e2, c, q⟩
theorem de_mul (ha : DE X j a da) (hb : DE X j b db) : DE X j (.BinOp a .Mult b pos) (dBin fMul da db) := de_bin op_mulA (opS_I fun i k d e => by
  split at e
  · cases e; exact ⟨by assumption, fun _ => .int _⟩
  · cases e) ha hb
/-- // by a positive divisor -/
def divOk (k : Int) : Bool := decide (0 < k ∧ k.natAbs.log2 < 9000)
abbrev fDiv : Op2 := f2I fun i k => if divOk k = true then some (.int (i / k)) else none
theorem de_div (ha : DE X j a da) (hb : DE X j b db) : DE X j (.BinOp a .FloorDiv b pos) (dBin fDiv da db) := de_bin op_fdivW (opS_I fun i k d e => by
  split at e
  · rename_i c
    unfold divOk at c
    simp only [decide_eq_true_eq] at c
    cases e; exact ⟨c, fun _ => .int _⟩
  · cases e) ha hb
abbrev fMod : Op2 := f2I fun i k => if 0 < k then some (.int (i % k)) else none
theorem de_mod (ha : DE X j a da) (hb : DE X j b db) : DE X j (.BinOp a .Mod b pos) (dBin fMod da db) := de_bin op_mod (opS_I fun i k d e => by
  split at e
  · cases e; exact ⟨by assumption, fun _ => .int _⟩
  · cases e) ha hb
abbrev fPow : Op2 := f2I fun i k => if 0 ≤ k ∧ k ≤ 1000000 ∧ i.natAbs < 2 ^ 64 then some (.int (i ^ k.toNat)) else none
theorem de_pow (ha : DE X j a da) (hb : DE X j b db) : DE X j (.BinOp a .Pow b pos) (dBin fPow da db) := de_bin op_pow (opS_I fun i k d e => by
  split at e
  · cases e; exact ⟨by assumption, fun _ => .int _⟩
  · cases e) ha hb

/-- + : ints, an int and a bool, texts, lists, tuples -/
def fAdd : Op2 := fun st x y => match x, y with
  | .int i, .int k => some (.int (i + k))
  | .int i, .bl k => some (.int (i + b2i k))
  | .str z, .str u => if z.length + u.length ≤ sizeLine then some (.str (z ++ u)) else none
  | .tup ds, .tup es => if ds.isEmpty = false ∧ ds.length + es.length ≤ sizeLine then some (.tup (ds ++ es)) else none
  | x, y => match getL st x, getL st y with
    | some ds, some es => if ds.length + es.length ≤ sizeLine then some (.lst (ds ++ es)) else none
    | _, _ => none
def rAddA (K : PySem.W.Frag) : R2 := fun x y H Q => (rI0 fun i k => .int (i + k)) x y H Q ∨ (∃ i k, x = .int i ∧ y = .bl k ∧ Q (.int (i + b2i k)) H) ∨
  (∃ i k, x = .str i ∧ y = .str k ∧ i.length + k.length ≤ sizeLine ∧ Q (.str (i ++ k)) H) ∨ rCatT K x y H Q ∨ rCat x y H Q
theorem op_addA : OpR X (binaryOp .Add) (rAddA X.K) := OpR.or op_add (OpR.or op_add_ib (OpR.or op_add_str (OpR.or op_catT op_cat)))
theorem Rel.newLst {G : Wd} {s : S} {σ : L2.St} {H : Hp} (r : Rel j G s σ H) {p : Addr} (hp : H p = none) {ds : List D} {vs : List V} (l : HasL j.B G ds vs) : ∃ G', Rel j G' s σ (upd H p (.lst vs)) ∧ Ext j.B G H G' (upd H p (.lst vs)) ∧ Has j.B G' (.lst ds) (.ref p) := by
  obtain ⟨r', l'⟩ := r.new hp (.lst vs)
  exact ⟨_, r', l', .lst (by show upd G.Fz p _ p = _; exact upd_same) (l.mono l'.le)⟩
theorem Rel.newTup {G : Wd} {s : S} {σ : L2.St} {H : Hp} (r : Rel j G s σ H) {p : Addr} (hp : H p = none) {ds : List D} {vs : List V} (l : HasL j.B G ds vs) : ∃ G', Rel j G' s σ (upd H p (.tup vs)) ∧ Ext j.B G H G' (upd H p (.tup vs)) ∧ Has j.B G' (.tup ds) (.ref p) := by
  obtain ⟨r', l'⟩ := r.new hp (.tup vs)
  exact ⟨_, r', l', .tup (SqT.of (by show upd G.Fz p _ p = _; exact upd_same)) (l.mono l'.le)⟩
theorem opS_add (hK : X.K = j.B.K) : OpS j (rAddA X.K) fAdd := by
  intro σ G s H x y dx dy d Q r hx hy e q1 q2
  unfold fAdd at e
  split at e
  · cases e; cases hx; cases hy
    exact .inl ⟨_, _, rfl, rfl, q1 _ (.int _)⟩
  · cases e; cases hx; cases hy
    exact .inr (.inl ⟨_, _, rfl, rfl, q1 _ (.int _)⟩)
  · split at e
    · cases e; cases hx; cases hy
      exact .inr (.inr (.inl ⟨_, _, rfl, rfl, by assumption, q1 _ (.str _)⟩))
    · cases e
  · split at e
    · rename_i ds es c
      cases e
      obtain ⟨a, vs, rfl, h1, l1⟩ := r.getT hx rfl
      obtain ⟨b, ws, rfl, h2, l2⟩ := r.getT hy rfl
      refine .inr (.inr (.inr (.inl ⟨a, b, vs, ws, rfl, rfl, by rw [hK]; exact h1, by rw [hK]; exact h2, ?_, by rw [← l1.length, ← l2.length]; exact c.2, fun z => ?_, fun z p hp => ?_⟩)))
      · intro z
        have n := l1.length
        rw [z] at n
        have c1 := c.1
        cases ds with
        | nil => cases c1
        | cons _ _ => simp at n
      · have n := l2.length
        rw [z] at n
        cases es with
        | nil => rw [List.append_nil] at q1; exact q1 _ hx
        | cons _ _ => simp at n
      · obtain ⟨G', r', l', h'⟩ := r.newTup hp (l1.append l2)
        exact q2 G' _ _ r' l' h'
    · cases e
  · split at e
    · rename_i ds es e1 e2
      split at e
      · rename_i c
        cases e
        obtain ⟨a, vs, rfl, h1, l1⟩ := r.getL hx e1
        obtain ⟨b, ws, rfl, h2, l2⟩ := r.getL hy e2
        refine .inr (.inr (.inr (.inr ⟨a, b, vs, ws, rfl, rfl, h1, h2, by rw [← l1.length, ← l2.length]; exact c, fun p hp => ?_⟩)))
        obtain ⟨G', r', l', h'⟩ := r.newLst hp (l1.append l2)
        exact q2 G' _ _ r' l' h'
      · cases e
    · cases e
theorem de_add (hK : X.K = j.B.K) (ha : DE X j a da) (hb : DE X j b db) : DE X j (.BinOp a .Add b pos) (dBin fAdd da db) := de_bin op_addA (opS_add hK) ha hb

/-! ### comparisons -/
end
mutual
def toPy : D → Option PyData
  | .non => some .none
  | .bl b => some (.bool b)
  | .int i => some (.int i)
  | .str x => some (.str x)
  | .tup ds => (toPyL ds).map .tuple
  | .lst ds => (toPyL ds).map .list
  | _ => none
def toPyL : List D → Option (List PyData)
  | [] => some []
  | d :: ds => match toPy d, toPyL ds with
    | some p, some ps => some (p :: ps)
    | _, _ => none
end
section
variable {B : Bg} {G : Wd} {H : Hp}
theorem toPy_tup {ds : List D} {p : PyData} (e : toPy (.tup ds) = some p) : ∃ ps, toPyL ds = some ps ∧ p = .tuple ps := by
  have e' : (toPyL ds).map PyData.tuple = some p := by rw [← e, toPy]
  cases q : toPyL ds with
  | none => rw [q] at e'; cases e'
  | some ps => rw [q] at e'; cases e'; exact ⟨ps, rfl, rfl⟩
theorem toPy_lst {ds : List D} {p : PyData} (e : toPy (.lst ds) = some p) : ∃ ps, toPyL ds = some ps ∧ p = .list ps := by
  have e' : (toPyL ds).map PyData.list = some p := by rw [← e, toPy]
  cases q : toPyL ds with
  | none => rw [q] at e'; cases e'
  | some ps => rw [q] at e'; cases e'; exact ⟨ps, rfl, rfl⟩
theorem toPyL_cons {d : D} {ds : List D} {ps : List PyData} (e : toPyL (d :: ds) = some ps) : ∃ p qs, toPy d = some p ∧ toPyL ds = some qs ∧ ps = p :: qs := by
  rw [toPyL] at e
  split at e
  · rename_i p qs e1 e2
    cases e
    exact ⟨p, qs, e1, e2, rfl⟩
  · cases e
mutual
theorem dp_of (le : ∀ a o, G.Fz a = some o → H a = some o) : ∀ {d : D} {v : V}, Has B G d v → ∀ p : PyData, toPy d = some p → Dp B.K H v p
  | _, _, .non => fun p e => by rw [toPy] at e; cases e; exact .non
  | _, _, .bl b => fun p e => by rw [toPy] at e; cases e; exact .bl b
  | _, _, .int i => fun p e => by rw [toPy] at e; cases e; exact .int i
  | _, _, .str x => fun p e => by rw [toPy] at e; cases e; exact .str x
  | _, _, .ty n => fun p e => by rw [toPy] at e <;> first | cases e | (intros; nofun)
  | _, _, .gl n => fun p e => by rw [toPy] at e <;> first | cases e | (intros; nofun)
  | _, _, .tup h l => fun p e => by
    obtain ⟨ps, q, rfl⟩ := toPy_tup e
    exact .tup (SqT.mono le h) (dpl_of le l ps q)
  | _, _, .lst h l => fun p e => by
    obtain ⟨ps, q, rfl⟩ := toPy_lst e
    exact .lst (SqL.of (le _ _ h)) (dpl_of le l ps q)
  | _, _, .scr h => fun p e => by rw [toPy] at e <;> first | cases e | (intros; nofun)
  | _, _, .dic _ _ _ => fun p e => by rw [toPy] at e <;> first | cases e | (intros; nofun)
  | _, _, .dit _ _ _ => fun p e => by rw [toPy] at e <;> first | cases e | (intros; nofun)
  | _, _, .ins _ _ _ => fun p e => by rw [toPy] at e <;> first | cases e | (intros; nofun)
  | _, _, .exc _ _ _ _ => fun p e => by rw [toPy] at e <;> first | cases e | (intros; nofun)
  | _, _, .ob _ => fun p e => by rw [toPy] at e <;> first | cases e | (intros; nofun)
  | _, _, .ask _ => fun p e => by rw [toPy] at e <;> first | cases e | (intros; nofun)
theorem dpl_of (le : ∀ a o, G.Fz a = some o → H a = some o) : ∀ {ds : List D} {vs : List V}, HasL B G ds vs → ∀ ps : List PyData, toPyL ds = some ps → DpAll B.K H vs ps
  | _, _, .nil => fun ps e => by rw [toPyL] at e; cases e; exact .nil
  | _, _, .cons h l => fun ps e => by
    obtain ⟨p, qs, e1, e2, rfl⟩ := toPyL_cons e
    exact .cons (dp_of le h p e1) (dpl_of le l qs e2)
end
end
/-- data as == sees it (a mutable list as its items) -/
def topPy (st : List SO) (d : D) : Option PyData := match getL st d with
  | some ds => (toPyL ds).map .list
  | none => toPy d
def eqD (st : List SO) (x y : D) : Option Bool := match x, y with
  | .int i, .int k => some (decide (i = k))
  | .str z, .str u => some (decide (z = u))
  | x, y => match topPy st x, topPy st y with
    | some p, some q => if SeqAt.shaped p = true ∧ SeqAt.shaped q = true then some (PyData.eqv p q) else none
    | _, _ => none
theorem Rel.py {j : Cj} {G : Wd} {s : S} {σ : L2.St} {H : Hp} (r : Rel j G s σ H) {d : D} {v : V} {p : PyData} (h : Has j.B G d v) (e : topPy s.st d = some p) : Dp j.B.K H v p := by
  unfold topPy at e
  split at e
  · rename_i ds q
    obtain ⟨a, vs, rfl, h1, l1⟩ := r.getL h q
    cases q2 : toPyL ds with
    | none => rw [q2] at e; cases e
    | some ps => rw [q2] at e; cases e; exact .lst (SqL.of h1) (dpl_of r.f.le l1 ps q2)
  · exact dp_of r.f.le h p e
section
variable {X : Cx} {j : Cj} {pos : Pos} {a b : Expr} {da db : DenE}
abbrev fEq : Op2 := fun st x y => (eqD st x y).map .bl
abbrev fNe : Op2 := fun st x y => (eqD st x y).map fun b => .bl !b
def rEqA (K : PySem.W.Frag) : R2 := fun x y H Q => rEq x y H Q ∨ rEqD K x y H Q
def rNeA (K : PySem.W.Frag) : R2 := fun x y H Q => rNe x y H Q ∨ rNeD K x y H Q
theorem op_eqA (hu : X.A.units + 64 < cLine) : OpR X (compareOp .Eq) (rEqA X.K) := OpR.or op_eq (op_eqD hu)
theorem op_neA (hu : X.A.units + 64 < cLine) : OpR X (compareOp .NotEq) (rNeA X.K) := OpR.or op_ne (op_neD hu)
theorem eqD_some {st : List SO} {x y : D} {c : Bool} (h : eqD st x y = some c) : (∃ i k, x = .int i ∧ y = .int k ∧ c = decide (i = k)) ∨ (∃ z u, x = .str z ∧ y = .str u ∧ c = decide (z = u)) ∨
    ∃ p q, topPy st x = some p ∧ topPy st y = some q ∧ SeqAt.shaped p = true ∧ SeqAt.shaped q = true ∧ c = PyData.eqv p q := by
  unfold eqD at h
  split at h
  · cases h; exact .inl ⟨_, _, rfl, rfl, rfl⟩
  · cases h; exact .inr (.inl ⟨_, _, rfl, rfl, rfl⟩)
  · split at h
    · rename_i p q e1 e2
      split at h
      · rename_i c
        cases h
        exact .inr (.inr ⟨p, q, e1, e2, c.1, c.2, rfl⟩)
      · cases h
    · cases h
theorem opS_eq (hK : X.K = j.B.K) : OpS j (rEqA X.K) fEq := by
  intro σ G s H x y dx dy d Q r hx hy e q1 q2
  cases h : eqD s.st dx dy with
  | none => rw [fEq, h] at e; cases e
  | some c =>
    rw [fEq, h] at e
    cases e
    rcases eqD_some h with ⟨i, k, rfl, rfl, rfl⟩ | ⟨i, k, rfl, rfl, rfl⟩ | ⟨p, q, e1, e2, s1, s2, rfl⟩
    · cases hx; cases hy
      refine .inl ⟨rfl, ?_⟩
      rw [show decide (V.int i = V.int k) = decide (i = k) from decide_eq_decide.mpr (by simp)]
      exact q1 _ (.bl _)
    · cases hx; cases hy
      refine .inl ⟨rfl, ?_⟩
      rw [show decide (V.str i = V.str k) = decide (i = k) from decide_eq_decide.mpr (by simp)]
      exact q1 _ (.bl _)
    · exact .inr ⟨p, q, by rw [hK]; exact r.py hx e1, by rw [hK]; exact r.py hy e2, s1, s2, q1 _ (.bl _)⟩
theorem opS_ne (hK : X.K = j.B.K) : OpS j (rNeA X.K) fNe := by
  intro σ G s H x y dx dy d Q r hx hy e q1 q2
  cases h : eqD s.st dx dy with
  | none => rw [fNe, h] at e; cases e
  | some c =>
    rw [fNe, h] at e
    cases e
    rcases eqD_some h with ⟨i, k, rfl, rfl, rfl⟩ | ⟨i, k, rfl, rfl, rfl⟩ | ⟨p, q, e1, e2, s1, s2, rfl⟩
    · cases hx; cases hy
      refine .inl ⟨rfl, ?_⟩
      rw [show decide (V.int i = V.int k) = decide (i = k) from decide_eq_decide.mpr (by simp)]
      exact q1 _ (.bl _)
    · cases hx; cases hy
      refine .inl ⟨rfl, ?_⟩
      rw [show decide (V.str i = V.str k) = decide (i = k) from decide_eq_decide.mpr (by simp)]
      exact q1 _ (.bl _)
    · exact .inr ⟨p, q, by rw [hK]; exact r.py hx e1, by rw [hK]; exact r.py hy e2, s1, s2, q1 _ (.bl _)⟩
theorem de_cmp {op : CmpOp} {r : R2} {f : Op2} (ho : OpR X (compareOp op) r) (hs : OpS j r f) (ha : DE X j a da) (hb : DE X j b db) (hm : behindInMarks op b = false) : DE X j (.Compare a [op] [b] pos) (dBin f da db) :=
  PE.imp (pe_cmpR ho ha hb hm) fun _ _ _ h => bin_ok hs h
/-- a value as a test -/
def dTest (den : DenE) : DenT := fun s => (den s).bind fun d s' => match d with
  | .bl b => .ok b s'
  | _ => .no
theorem test_ok {den : DenE} {σ : L2.St} {H : Hp} {Q : Bool → Hp → Prop} (h : toTT j (dTest den) σ H Q) : toTE j den σ H fun x H' => ∃ k, x = .bl k ∧ Q k H' := by
  obtain ⟨G, s, r, o⟩ := h
  refine ⟨G, s, r, outG.imp (outG.bind (R := Has j.B) o) fun x H1 ⟨G1, s1, d, r1, l1, h1, o1⟩ => ?_⟩
  split at o1
  · cases h1
    exact ⟨_, rfl, o1 G1 H1 _ r1 (.refl G1 H1) rfl⟩
  · exact o1.elim
theorem tOp_mono {r : R2} {ta tb : TE} (ma : ∀ (σ : L2.St) (H : Hp) (Q Q' : VK), (∀ v H, Q v H → Q' v H) → ta σ H Q → ta σ H Q') : True := True.intro
theorem dt_cmp {op : CmpOp} {r : R2} {f : Op2} (ho : OpR X (compareOp op) r) (hs : OpS j r f) (ha : DE X j a da) (hb : DE X j b db) (hm : behindInMarks op b = false) : DT X j (.Compare a [op] [b] pos) (dTest (dBin f da db)) :=
  PT.imp (pt_cmpR ho ha hb hm) fun _ _ _ h => bin_ok hs (test_ok h)
theorem dt_val {e : Expr} {den : DenE} (h : DE X j e den) (he : ∀ whole, isTrue e X.env whole = (do let v ← whole; standAt e.pos; holding [v] (truthy v)) := by intro _; rfl) : DT X j e (dTest den) :=
  PT.imp (pt_val h he) fun _ _ _ h => test_ok h
abbrev fCmpI (g : Int → Int → Bool) : Op2 := f2I fun i k => some (.bl (g i k))
abbrev fLt : Op2 := fCmpI fun i k => decide (i < k)
abbrev fLe : Op2 := fCmpI fun i k => decide (i ≤ k)
abbrev fGt : Op2 := fCmpI fun i k => decide (k < i)
abbrev fGe : Op2 := fCmpI fun i k => decide (k ≤ i)
theorem opS_cmp {g : Int → Int → Bool} : OpS j (rI0 fun i k => .bl (g i k)) (fCmpI g) := opS_I0 fun _ _ _ => .bl _
/-- is None -/
def isNon : D → Bool
  | .non => true
  | _ => false
abbrev fIsN : Op2 := fun _ x y => match y with
  | .non => some (.bl (isNon x))
  | _ => none
abbrev fNotN : Op2 := fun _ x y => match y with
  | .non => some (.bl (!isNon x))
  | _ => none
theorem isNon_ok {B : Bg} {G : Wd} {d : D} {v : V} (h : Has B G d v) : decide (v = V.non) = isNon d := by
  cases h <;> first | rfl | exact decide_eq_false (fun z => nomatch z)
theorem opS_isN : OpS j (fun x y H Q => y = V.non ∧ Q (.bl (decide (x = V.non))) H) fIsN := by
  intro σ G s H x y dx dy d Q r hx hy e q1 q2
  unfold fIsN at e
  split at e
  · cases hy
    cases e
    exact ⟨rfl, by rw [isNon_ok hx]; exact q1 _ (.bl _)⟩
  · cases e
theorem opS_notN : OpS j (fun x y H Q => y = V.non ∧ Q (.bl (!decide (x = V.non))) H) fNotN := by
  intro σ G s H x y dx dy d Q r hx hy e q1 q2
  unfold fNotN at e
  split at e
  · cases hy
    cases e
    exact ⟨rfl, by rw [isNon_ok hx]; exact q1 _ (.bl _)⟩
  · cases e

/-! ### and, or, not, if -/
def dAndV (da db : DenE) : DenE := fun s => (da s).bind fun x s1 => match x with
  | .bl true => db s1
  | .bl false => .ok (.bl false) s1
  | _ => .no
def dOrV (da db : DenE) : DenE := fun s => (da s).bind fun x s1 => match x with
  | .bl false => db s1
  | .bl true => .ok (.bl true) s1
  | _ => .no
def dNotV (da : DenE) : DenE := fun s => (da s).bind fun x s1 => match x with
  | .bl b => .ok (.bl !b) s1
  | _ => .no
theorem de_one {op} (h : DE X j a da) : DE X j (.BoolOp op [a] pos) da := pe_one h
theorem de_and {rest : List Expr} (ha : DE X j a da) (hb : DE X j (.BoolOp .And (b :: rest) pos) db) : DE X j (.BoolOp .And (a :: b :: rest) pos) (dAndV da db) :=
  PE.imp (pe_and ha hb) fun σ H Q ⟨G, s, r, o⟩ => ⟨G, s, r, outG.imp (outG.bind (R := Has j.B) o) fun x H1 ⟨G1, s1, d, r1, l1, h1, o1⟩ => by
    split at o1
    · cases h1; exact ⟨true, rfl, by rw [if_pos rfl]; exact ⟨G1, s1, r1, o1⟩⟩
    · cases h1; exact ⟨false, rfl, by rw [if_neg (by decide)]; exact o1 G1 H1 _ r1 (.refl G1 H1) (.bl _)⟩
    · exact o1.elim⟩
theorem de_or {rest : List Expr} (ha : DE X j a da) (hb : DE X j (.BoolOp .Or (b :: rest) pos) db) : DE X j (.BoolOp .Or (a :: b :: rest) pos) (dOrV da db) :=
  PE.imp (pe_or ha hb) fun σ H Q ⟨G, s, r, o⟩ => ⟨G, s, r, outG.imp (outG.bind (R := Has j.B) o) fun x H1 ⟨G1, s1, d, r1, l1, h1, o1⟩ => by
    split at o1
    · cases h1; exact ⟨false, rfl, by rw [if_neg (by decide)]; exact ⟨G1, s1, r1, o1⟩⟩
    · cases h1; exact ⟨true, rfl, by rw [if_pos rfl]; exact o1 G1 H1 _ r1 (.refl G1 H1) (.bl _)⟩
    · exact o1.elim⟩
theorem de_not (ha : DE X j a da) : DE X j (.UnaryOp .Not a pos) (dNotV da) :=
  PE.imp (pe_not ha) fun σ H Q ⟨G, s, r, o⟩ => ⟨G, s, r, outG.imp (outG.bind (R := Has j.B) o) fun x H1 ⟨G1, s1, d, r1, l1, h1, o1⟩ => by
    split at o1
    · cases h1; exact ⟨_, rfl, o1 G1 H1 _ r1 (.refl G1 H1) (.bl _)⟩
    · exact o1.elim⟩
def dAnd (ta tb : DenT) : DenT := fun s => (ta s).bind fun c s1 => if c = true then tb s1 else .ok false s1
def dOr (ta tb : DenT) : DenT := fun s => (ta s).bind fun c s1 => if c = true then .ok true s1 else tb s1
def dNot (ta : DenT) : DenT := fun s => (ta s).bind fun c s1 => .ok (!c) s1
variable {ta tb : DenT}
theorem dw_and1 (ha : DT X j a ta) : DW X j (.BoolOp .And [a] pos) ta := pw_and1 ha
theorem dw_or1 (ha : DT X j a ta) : DW X j (.BoolOp .Or [a] pos) ta := pw_or1 ha
theorem dw_and {rest : List Expr} (ha : DT X j a ta) (hb : DW X j (.BoolOp .And (b :: rest) pos) tb) : DW X j (.BoolOp .And (a :: b :: rest) pos) (dAnd ta tb) :=
  PW.imp (pw_and ha hb) fun σ H Q ⟨G, s, r, o⟩ => ⟨G, s, r, outG.imp (outG.bind (R := eqB) o) fun x H1 ⟨G1, s1, d, r1, l1, h1, o1⟩ => by
    cases h1
    split at o1
    · rename_i c; rw [if_pos c]; exact ⟨G1, s1, r1, o1⟩
    · rename_i c; rw [if_neg c]; exact o1 G1 H1 _ r1 (.refl G1 H1) rfl⟩
theorem dw_or {rest : List Expr} (ha : DT X j a ta) (hb : DW X j (.BoolOp .Or (b :: rest) pos) tb) : DW X j (.BoolOp .Or (a :: b :: rest) pos) (dOr ta tb) :=
  PW.imp (pw_or ha hb) fun σ H Q ⟨G, s, r, o⟩ => ⟨G, s, r, outG.imp (outG.bind (R := eqB) o) fun x H1 ⟨G1, s1, d, r1, l1, h1, o1⟩ => by
    cases h1
    split at o1
    · rename_i c; rw [if_pos c]; exact o1 G1 H1 _ r1 (.refl G1 H1) rfl
    · rename_i c; rw [if_neg c]; exact ⟨G1, s1, r1, o1⟩⟩
theorem dt_w {e : Expr} (h : DW X j e ta) : DT X j e ta := PW.pt h
theorem dt_not (ha : DT X j a ta) : DT X j (.UnaryOp .Not a pos) (dNot ta) :=
  PT.imp (pt_not ha) fun σ H Q ⟨G, s, r, o⟩ => ⟨G, s, r, outG.imp (outG.bind (R := eqB) o) fun x H1 ⟨G1, s1, d, r1, l1, h1, o1⟩ => by
    cases h1
    exact o1 G1 H1 _ r1 (.refl G1 H1) rfl⟩
def dIf (t : DenT) (da db : DenE) : DenE := fun s => (t s).bind fun c s1 => if c = true then da s1 else db s1
theorem de_if {c : Expr} (hc : DT X j c ta) (ha : DE X j a da) (hb : DE X j b db) : DE X j (.IfExp c a b pos) (dIf ta da db) :=
  PE.imp (pe_ifExp hc ha hb) fun σ H Q ⟨G, s, r, o⟩ => ⟨G, s, r, outG.imp (outG.bind (R := eqB) o) fun x H1 ⟨G1, s1, d, r1, l1, h1, o1⟩ => by
    cases h1
    split at o1
    · rename_i c; rw [if_pos c]; exact ⟨G1, s1, r1, o1⟩
    · rename_i c; rw [if_neg c]; exact ⟨G1, s1, r1, o1⟩⟩
/-- -a -/
def dUn (f : D → Option D) (da : DenE) : DenE := fun s => (da s).bind fun x s1 => ans (f x) s1
abbrev fNeg : D → Option D := fun x => match x with
  | .int i => some (.int (-i))
  | _ => none
theorem de_neg (ha : DE X j a da) : DE X j (.UnaryOp .USub a pos) (dUn fNeg da) :=
  PE.imp (pe_un un_neg ha) fun σ H Q ⟨G, s, r, o⟩ => ⟨G, s, r, outG.imp (outG.bind (R := Has j.B) o) fun x H1 ⟨G1, s1, d, r1, l1, h1, o1⟩ => by
    obtain ⟨d', e, q1, _⟩ := outG_ans r1 o1
    unfold fNeg at e
    split at e
    · cases e; cases h1; exact ⟨_, rfl, q1 _ (.int _)⟩
    · cases e⟩
end
end DL
end

section
set_option maxHeartbeats 4000000
/-! DL part 4: arguments, displays, subscripts, calls; a def by its body. -/
namespace DL
open PySem PySem.Spec PyProof.Rows L2

section
variable {X : Cx} {j : Cj} {pos : Pos}
/-! ### arguments, displays -/
def aNil : DenA := fun s => .ok [] s
def aCons (da : DenE) (dr : DenA) : DenA := fun s => (da s).bind fun d s1 => (dr s1).bind fun ds s2 => .ok (d :: ds) s2
theorem da_nil : DA X j [] aNil := PA.imp pa_nil fun σ H Q ⟨G, s, r, o⟩ => o G H [] r (.refl G H) .nil
theorem da_cons {e : Expr} {es : List Expr} {da : DenE} {dr : DenA} (ha : DE X j e da) (hr : DA X j es dr) (hs : starEach (e :: es) X.env = (false, eval e X.env) :: starEach es X.env := by rfl) : DA X j (e :: es) (aCons da dr) :=
  PA.imp (pa_cons ha hr hs) fun σ H Q ⟨G, s, r, o⟩ => ⟨G, s, r, outG.imp (outG.bind (R := Has j.B) o) fun x H1 ⟨G1, s1, d, r1, l1, h1, o1⟩ =>
    ⟨G1, s1, r1, outG.imp (outG.bind (R := HasL j.B) o1) fun xs H2 ⟨G2, s2, ds, r2, l2, h2, o2⟩ => o2 G2 H2 _ r2 (.refl G2 H2) (.cons (h1.mono l2.le) h2)⟩⟩
def dTup (da : DenA) : DenE := fun s => (da s).bind fun ds s1 => if ds.length ≤ sizeLine then .ok (.tup ds) s1 else .no
def dLst (da : DenA) : DenE := fun s => (da s).bind fun ds s1 => if ds.length ≤ sizeLine then .ok (.lst ds) s1 else .no
variable {es : List Expr} {das : DenA}
theorem de_tup {x1} (h : DA X j es das) : DE X j (.Tuple es x1 pos) (dTup das) :=
  PE.imp (pe_tup h) fun σ H Q ⟨G, s, r, o⟩ => ⟨G, s, r, outG.imp (outG.bind (R := HasL j.B) o) fun xs H1 ⟨G1, s1, ds, r1, l1, h1, o1⟩ => by
    split at o1
    · rename_i c
      refine ⟨by rw [← h1.length]; exact c, fun p hp => ?_⟩
      obtain ⟨G', r', l', h'⟩ := r1.newTup hp h1
      exact o1 G' _ _ r' l' h'
    · exact o1.elim⟩
theorem de_lst (h : DA X j es das) : DE X j (.List es pos) (dLst das) :=
  PE.imp (pe_lst h) fun σ H Q ⟨G, s, r, o⟩ => ⟨G, s, r, outG.imp (outG.bind (R := HasL j.B) o) fun xs H1 ⟨G1, s1, ds, r1, l1, h1, o1⟩ => by
    split at o1
    · rename_i c
      refine ⟨by rw [← h1.length]; exact c, fun p hp => ?_⟩
      obtain ⟨G', r', l', h'⟩ := r1.newLst hp h1
      exact o1 G' _ _ r' l' h'
    · exact o1.elim⟩

/-! ### fresh lists: what becomes a mutable object of the store -/
/-- at a: a list that nobody knows as yet; Hs: the heap at the expression's start -/
def FreshL (j : Cj) (Hs : Hp) (G : Wd) (H : Hp) (ds : List D) (v : V) : Prop := ∃ a vs, v = .ref a ∧ H a = some (.lst vs) ∧ HasL j.B G ds vs ∧ j.H0 a = none ∧ G.Fz a = none ∧ a ∉ G.ρ ∧ a ∉ j.B.ta ∧ Hs a = none
def outF (j : Cj) (σ : L2.St) (G : Wd) (H : Hp) : Out (List D) → (V → Hp → Prop) → Prop
  | .ok ds s', Q => ∀ G' H' v, Rel j G' s' σ H' → Ext j.B G H G' H' → FreshL j H G' H' ds v → Q v H'
  | .er x s', _ => ∀ G' H' dd, Rel j G' s' σ H' → Ext j.B G H G' H' → ExnOk j.B G' H' x dd → H dd = none → j.W (.ref (j.B.cA x.c)) (some dd) σ H'
  | .no, _ => False
theorem FreshL.back {Hs Hs' : Hp} {G : Wd} {H : Hp} {ds : List D} {v : V} (f : FreshL j Hs G H ds v) (k : ∀ a, Hs a = none → Hs' a = none) : FreshL j Hs' G H ds v := by
  obtain ⟨a, vs, h1, h2, h3, h4, h5, h6, h7, h8⟩ := f
  exact ⟨a, vs, h1, h2, h3, h4, h5, h6, h7, k a h8⟩
theorem outF.mono {σ : L2.St} {G G1 : Wd} {H H1 : Hp} {o : Out (List D)} {Q : V → Hp → Prop} (h : outF j σ G H o Q) (l : Ext j.B G H G1 H1) : outF j σ G1 H1 o Q := by
  cases o with
  | ok a s => exact fun G' H' y r k q => h G' H' y r (l.trans k) (q.back fun a n => l.back n)
  | er x s => exact fun G' H' dd r k q n => h G' H' dd r (l.trans k) q (l.back n)
  | no => exact h
theorem outF.bind {α β : Type} {R : Wd → α → β → Prop} {σ : L2.St} {G : Wd} {H : Hp} {o : Out α} {f : α → S → Out (List D)} {Q : V → Hp → Prop} (h : outF j σ G H (o.bind f) Q) :
    outG j R σ G H o fun x H1 => ∃ G1 s1 a, Rel j G1 s1 σ H1 ∧ Ext j.B G H G1 H1 ∧ R G1 a x ∧ outF j σ G1 H1 (f a s1) Q := by
  cases o with
  | ok a s => exact fun G' H' y r l q => ⟨G', s, a, r, l, q, outF.mono h l⟩
  | er x s => exact h
  | no => exact h
def DF (X : Cx) (j : Cj) (e : Expr) (den : DenA) : Prop := PE X e fun σ H Q => ∃ G s, Rel j G s σ H ∧ outF j σ G H (den s) Q
theorem Rel.freshL {G : Wd} {s : S} {σ : L2.St} {H : Hp} (r : Rel j G s σ H) {p : Addr} (hp : H p = none) {ds : List D} {vs : List V} (l : HasL j.B G ds vs) :
    Rel j G s σ (L2.upd H p (.lst vs)) ∧ Ext j.B G H G (L2.upd H p (.lst vs)) ∧ FreshL j H G (L2.upd H p (.lst vs)) ds (.ref p) := by
  obtain ⟨n1, n2, n3⟩ := r.f.fresh hp
  exact ⟨r.laid hp _, Ext.laid hp _, p, vs, rfl, upd_same, l, r.back hp, n1, n2, n3, hp⟩
theorem Rel.freeze {G Gs : Wd} {s : S} {σ : L2.St} {H Hs : Hp} (r : Rel j G s σ H) (e : Ext j.B Gs Hs G H) {ds : List D} {v : V} (h : FreshL j Hs G H ds v) : ∃ G', Rel j G' s σ H ∧ Ext j.B Gs Hs G' H ∧ Has j.B G' (.lst ds) v := by
  obtain ⟨a, vs, rfl, h1, l, n0, n1, n2, n3, n4⟩ := h
  have l' : G.le (G.fz a (.lst vs)) := .fz (.inl n1)
  refine ⟨_, r.fz h1 n0 n1 n2 n3, ⟨e.le.trans l', fun b z => ?_, e.newR, e.keep, e.there⟩, .lst (by show L2.upd G.Fz a _ a = _; exact upd_same) (l.mono l')⟩
  by_cases eb : b = a
  · rw [eb]; exact .inr (.inl n4)
  · exact e.newF b (by have z' : upd G.Fz a (.lst vs) b ≠ none := z; rw [upd_ne eb] at z'; exact z')
def dFz (den : DenA) : DenE := fun s => (den s).bind fun ds s1 => .ok (.lst ds) s1
theorem de_fz {e : Expr} (h : DF X j e das) : DE X j e (dFz das) := PE.imp h fun σ H Q ⟨G, s, r, o⟩ => ⟨G, s, r, by
  unfold dFz at o
  cases e : das s with
  | ok ds s' =>
    rw [e] at o
    intro G' H' v r' l' f
    obtain ⟨G2, r2, l2, h2⟩ := r'.freeze l' f
    exact o G2 H' v r2 l2 h2
  | er x s' => rw [e] at o; exact o
  | no => rw [e] at o; exact o⟩
theorem df_lst (h : DA X j es das) : DF X j (.List es pos) (fun s => (das s).bind fun ds s1 => if ds.length ≤ sizeLine then .ok ds s1 else .no) :=
  PE.imp (pe_lst h) fun σ H Q ⟨G, s, r, o⟩ => ⟨G, s, r, outG.imp (outF.bind (R := HasL j.B) o) fun xs H1 ⟨G1, s1, ds, r1, l1, h1, o1⟩ => by
    split at o1
    · rename_i c
      refine ⟨by rw [← h1.length]; exact c, fun p hp => ?_⟩
      obtain ⟨r', e', f'⟩ := r1.freshL hp h1
      exact o1 G1 _ _ r' e' f'
    · exact o1.elim⟩

/-! ### subscripts -/
def fIx : Op2 := fun st x y => match y with
  | .int i => (match x with
    | .str z => if z.length ≤ sizeLine then (atI z.cps.toList i).map fun c => .str ⟨#[c]⟩ else none
    | x => match getS st x with
      | some ds => atI ds i
      | none => none)
  | _ => none
theorem HasL.atI {B : Bg} {G : Wd} {ds : List D} {vs : List V} {i : Int} {d : D} (l : HasL B G ds vs) (h : L2.atI ds i = some d) : ∃ v, L2.atI vs i = some v ∧ Has B G d v := by
  unfold L2.atI at h ⊢
  rw [← l.length]
  cases e : ixN ds.length i with
  | none => rw [e] at h; cases h
  | some k =>
    rw [e] at h
    obtain ⟨v, h1, h2⟩ := l.getD h
    exact ⟨v, h1, h2⟩
theorem opS_ix (hK : X.K = j.B.K) : OpS j (rIx X.K) fIx := by
  intro σ G s H x y dx dy d Q r hx hy e q1 q2
  unfold fIx at e
  split at e
  · cases hy
    split at e
    · cases hx
      split at e
      · rename_i z c
        cases h : L2.atI z.cps.toList _ with
        | none => rw [h] at e; cases e
        | some w =>
          rw [h] at e
          cases e
          exact .inr (.inr ⟨_, _, w, rfl, rfl, c, h, q1 _ (.str _)⟩)
      · cases e
    · split at e
      · rename_i ds es
        obtain ⟨a, vs, rfl, h1, l1⟩ := r.getS hx es
        obtain ⟨v, h2, h3⟩ := l1.atI e
        rcases h1 with h1 | h1
        · exact .inl ⟨a, vs, _, v, rfl, rfl, by rw [hK]; exact h1, h2, q1 v h3⟩
        · exact .inr (.inl ⟨a, vs, _, v, rfl, rfl, by rw [hK]; exact h1, h2, q1 v h3⟩)
      · cases e
  · cases e
variable {a b : Expr} {da db : DenE}
theorem de_ix (hK : X.K = j.B.K) (ha : DE X j a da) (hb : DE X j b db) (hs : PlainIx b := by intro _ _; rfl) : DE X j (.Subscript a b pos) (dBin fIx da db) := PE.imp (pe_ix ix_seq ha hb hs) fun _ _ _ h => bin_ok (opS_ix hK) h

/-! ### calls of built-ins -/
def CallS (j : Cj) (r : List V → Hp → VK → Prop) (f : List SO → List D → Option D) : Prop := ∀ (σ : L2.St) (G : Wd) (s : S) (H : Hp) (xs : List V) (ds : List D) (d : D) (Q : V → Hp → Prop), Rel j G s σ H → HasL j.B G ds xs → f s.st ds = some d →
  (∀ v, Has j.B G d v → Q v H) → (∀ G' H' v, Rel j G' s σ H' → Ext j.B G H G' H' → Has j.B G' d v → Q v H') → r xs H Q
def dCB (f : List SO → List D → Option D) (da : DenA) : DenE := fun s => (da s).bind fun ds s1 => ans (f s1.st ds) s1
theorem cb_ok {r : List V → Hp → VK → Prop} {f : List SO → List D → Option D} (hs : CallS j r f) {σ : L2.St} {H : Hp} {Q : V → Hp → Prop} (h : toTE j (dCB f das) σ H Q) : tCB r (toTA j das) σ H Q := by
  obtain ⟨G, s, hr, ho⟩ := h
  refine ⟨G, s, hr, outG.imp (outG.bind (R := HasL j.B) ho) fun xs H1 ⟨G1, s1, ds, r1, l1, h1, o1⟩ => ?_⟩
  obtain ⟨d, e, q1, q2⟩ := outG_ans r1 o1
  exact hs σ G1 s1 H1 xs ds d Q r1 h1 e q1 q2
variable {x : Str} {p : Pos} {e : Expr} {id T : String} {r : List V → Hp → VK → Prop} {f : List SO → List D → Option D}
theorem de_callB (hc : CallR X (.builtin id) r) (hs : CallS j r f) (hg : Gl X x) (hm : X.mg x = none) (hv : bootBuiltins x = some (.builtin id)) (ha : DA X j (e :: es) das) (hn : x ≠ "__name__" := by decide) (hdb : (x == ("__debug__" : Str)) = false := by decide)
    (he : starEach (e :: es) X.env = (false, eval e X.env) :: starEach es X.env := by rfl) (hpl : (backTo pos (starEach es X.env)).any (·.1) = false := by rfl) : DE X j (.Call (.Name x p) (e :: es) [] pos) (dCB f das) :=
  PE.imp (pe_callB hc hg hm hv ha hn hdb he hpl) fun _ _ _ h => cb_ok hs h
theorem de_callTy (hc : CallR X (.type T) r) (hs : CallS j r f) (hg : Gl X x) (hm : X.mg x = none) (hv : bootBuiltins x = some (.type T)) (ha : DA X j (e :: es) das) (hn : x ≠ "__name__" := by decide) (hdb : (x == ("__debug__" : Str)) = false := by decide)
    (he : starEach (e :: es) X.env = (false, eval e X.env) :: starEach es X.env := by rfl) (hpl : (backTo pos (starEach es X.env)).any (·.1) = false := by rfl) : DE X j (.Call (.Name x p) (e :: es) [] pos) (dCB f das) :=
  PE.imp (pe_callTy hc hg hm hv ha hn hdb he hpl) fun _ _ _ h => cb_ok hs h
/-- a built-in that the top has imported: gcd -/
theorem de_callBf (hc : CallR X (.builtin id) r) (hs : CallS j r f) (hg : Gl X x) (hm : X.mg x = some (.builtin id)) (ha : DA X j (e :: es) das) (hdb : (x == ("__debug__" : Str)) = false := by decide)
    (he : starEach (e :: es) X.env = (false, eval e X.env) :: starEach es X.env := by rfl) (hpl : (backTo pos (starEach es X.env)).any (·.1) = false := by rfl) : DE X j (.Call (.Name x p) (e :: es) [] pos) (dCB f das) :=
  PE.imp (pe_callBfun hc hg hm ha hdb he hpl) fun _ _ _ h => cb_ok hs h
end

theorem HasL.one {B : Bg} {G : Wd} {d : D} {xs : List V} (h : HasL B G [d] xs) : ∃ v, xs = [v] ∧ Has B G d v := by
  cases h with
  | cons h l => cases l; exact ⟨_, rfl, h⟩
theorem HasL.two {B : Bg} {G : Wd} {d e : D} {xs : List V} (h : HasL B G [d, e] xs) : ∃ v w, xs = [v, w] ∧ Has B G d v ∧ Has B G e w := by
  cases h with
  | cons h l => obtain ⟨w, rfl, k⟩ := l.one; exact ⟨_, w, rfl, h, k⟩

/-- ints, bools as such -/
def asInts : List D → Option (List Int)
  | [] => some []
  | .int i :: ds => (asInts ds).map (i :: ·)
  | _ => none
def asBools : List D → Option (List Bool)
  | [] => some []
  | .bl i :: ds => (asBools ds).map (i :: ·)
  | _ => none
theorem asInts_map : ∀ (is : List Int), asInts (is.map D.int) = some is
  | [] => rfl
  | i :: is => by
    show (asInts (is.map D.int)).map (i :: ·) = _
    rw [asInts_map is] <;> rfl
theorem asBools_map : ∀ (is : List Bool), asBools (is.map D.bl) = some is
  | [] => rfl
  | i :: is => by
    show (asBools (is.map D.bl)).map (i :: ·) = _
    rw [asBools_map is] <;> rfl
theorem asInts_ok : ∀ {ds : List D} {is : List Int}, asInts ds = some is → ds = is.map D.int
  | [], is, h => by cases h; rfl
  | d :: ds, is, h => by
    cases d with
    | int i =>
      have h' : (asInts ds).map (i :: ·) = some is := h
      cases q : asInts ds with
      | none => rw [q] at h'; cases h'
      | some ks => rw [q] at h'; cases h'; rw [asInts_ok q] <;> rfl
    | _ => cases h
theorem asBools_ok : ∀ {ds : List D} {is : List Bool}, asBools ds = some is → ds = is.map D.bl
  | [], is, h => by cases h; rfl
  | d :: ds, is, h => by
    cases d with
    | bl i =>
      have h' : (asBools ds).map (i :: ·) = some is := h
      cases q : asBools ds with
      | none => rw [q] at h'; cases h'
      | some ks => rw [q] at h'; cases h'; rw [asBools_ok q] <;> rfl
    | _ => cases h
theorem HasL.bools {B : Bg} {G : Wd} : ∀ {is : List Bool} {vs : List V}, HasL B G (is.map D.bl) vs → vs = is.map V.bl
  | [], _, .nil => rfl
  | _ :: _, _, .cons (.bl _) r => by simp only [List.map_cons]; rw [HasL.bools r]
section
variable {X : Cx} {j : Cj} {pos : Pos}
/-! ### the built-ins -/
def cLen : List SO → List D → Option D := fun st ds => match ds with
  | [.str z] => if z.length ≤ sizeLine then some (.int z.length) else none
  | [d] => (getS st d).map fun es => .int es.length
  | _ => none
def rLenA (K : PySem.W.Frag) : List V → Hp → VK → Prop := fun xs H Q => (∃ p ys, xs = [.ref p] ∧ (SqL K H p ys ∨ SqT K H p ys) ∧ Q (.int ys.length) H) ∨ ∃ z, xs = [.str z] ∧ z.length ≤ sizeLine ∧ Q (.int z.length) H
theorem CallR.or {c : Value} {r r' : List V → Hp → VK → Prop} (h : CallR X c r) (h' : CallR X c r') : CallR X c (fun xs H Q => r xs H Q ∨ r' xs H Q) := by
  intro pins s σ H xs us Q I rx q
  rcases q with q | q
  · exact h pins s σ H xs us Q I rx q
  · exact h' pins s σ H xs us Q I rx q
theorem cr_lenA : CallR X (.builtin "len") (rLenA X.K) := CallR.or call_len_seq call_len_str
theorem cs_len (hK : X.K = j.B.K) : CallS j (rLenA X.K) cLen := by
  intro σ G s H xs ds d Q r hx e q1 q2
  unfold cLen at e
  split at e
  · obtain ⟨v, rfl, h⟩ := hx.one
    cases h
    split at e
    · cases e; exact .inr ⟨_, rfl, by assumption, q1 _ (.int _)⟩
    · cases e
  · obtain ⟨v, rfl, h⟩ := hx.one
    rename_i d' _
    cases q : getS s.st d' with
    | none => rw [q] at e; cases e
    | some es =>
      rw [q] at e
      cases e
      obtain ⟨a, vs, rfl, h1, l1⟩ := r.getS h q
      exact .inl ⟨a, vs, rfl, by rw [hK]; exact h1, q1 _ (by show Has j.B G (.int es.length) _; rw [l1.length]; exact .int _)⟩
  · cases e
def cAll : List SO → List D → Option D := fun st ds => match ds with
  | [d] => (getL st d).bind fun es => (asBools es).map fun bs => .bl (bs.all id)
  | _ => none
def cAny : List SO → List D → Option D := fun st ds => match ds with
  | [d] => (getL st d).bind fun es => (asBools es).map fun bs => .bl (bs.any id)
  | _ => none
def cSum : List SO → List D → Option D := fun st ds => match ds with
  | [d] => (getL st d).bind fun es => (asInts es).map fun bs => .int bs.sum
  | _ => none
theorem cs_all (hK : X.K = j.B.K) : CallS j (rAll X.K) cAll := by
  intro σ G s H xs ds d Q r hx e q1 q2
  unfold cAll at e
  split at e
  · obtain ⟨v, rfl, h⟩ := hx.one
    obtain ⟨es, k1, e⟩ := Option.bind_eq_some_iff.mp e
    obtain ⟨bs, k2, e⟩ := Option.map_eq_some_iff.mp e
    subst e
    obtain ⟨a, vs, rfl, h1, l1⟩ := r.getL h k1
    rw [asBools_ok k2] at l1
    rw [l1.bools] at h1
    exact ⟨a, bs, rfl, SqL.of h1, q1 _ (.bl _)⟩
  · cases e
theorem cs_any (hK : X.K = j.B.K) : CallS j (rAny X.K) cAny := by
  intro σ G s H xs ds d Q r hx e q1 q2
  unfold cAny at e
  split at e
  · obtain ⟨v, rfl, h⟩ := hx.one
    obtain ⟨es, k1, e⟩ := Option.bind_eq_some_iff.mp e
    obtain ⟨bs, k2, e⟩ := Option.map_eq_some_iff.mp e
    subst e
    obtain ⟨a, vs, rfl, h1, l1⟩ := r.getL h k1
    rw [asBools_ok k2] at l1
    rw [l1.bools] at h1
    exact ⟨a, bs, rfl, SqL.of h1, q1 _ (.bl _)⟩
  · cases e
theorem cs_sum (hK : X.K = j.B.K) : CallS j (rSum X.K) cSum := by
  intro σ G s H xs ds d Q r hx e q1 q2
  unfold cSum at e
  split at e
  · obtain ⟨v, rfl, h⟩ := hx.one
    obtain ⟨es, k1, e⟩ := Option.bind_eq_some_iff.mp e
    obtain ⟨bs, k2, e⟩ := Option.map_eq_some_iff.mp e
    subst e
    obtain ⟨a, vs, rfl, h1, l1⟩ := r.getL h k1
    rw [asInts_ok k2] at l1
    rw [l1.ints] at h1
    exact ⟨a, bs, rfl, SqL.of h1, q1 _ (.int _)⟩
  · cases e
def cTuple : List SO → List D → Option D := fun st ds => match ds with
  | [d] => (getS st d).map .tup
  | _ => none
theorem cs_tuple (hK : X.K = j.B.K) : CallS j (fun xs H Q => ∃ p ys, xs = [.ref p] ∧ ((SqL X.K H p ys ∧ ∀ l, H l = none → Q (.ref l) (upd H l (.tup ys))) ∨ (SqT X.K H p ys ∧ Q (.ref p) H))) cTuple := by
  intro σ G s H xs ds d Q r hx e q1 q2
  unfold cTuple at e
  split at e
  · obtain ⟨v, rfl, h⟩ := hx.one
    obtain ⟨es, k, e⟩ := Option.map_eq_some_iff.mp e
    subst e
    unfold getS at k
    split at k
    · rename_i k1
      cases k
      obtain ⟨a, vs, rfl, h1, l1⟩ := r.getL h k1
      refine ⟨a, vs, rfl, .inl ⟨SqL.of h1, fun p hp => ?_⟩⟩
      obtain ⟨G', r', l', h'⟩ := r.newTup hp l1
      exact q2 G' _ _ r' l' h'
    · obtain ⟨a, vs, rfl, h1, l1⟩ := r.getT h k
      rename_i d' _ _
      cases d' with
      | tup ds' => cases k; exact ⟨a, vs, rfl, .inr ⟨by rw [hK]; exact h1, q1 _ h⟩⟩
      | _ => cases k
  · cases e
def cList : List SO → List D → Option D := fun st ds => match ds with
  | [d] => (getS st d).map .lst
  | _ => none
theorem cs_list (hK : X.K = j.B.K) : CallS j (fun xs H Q => ∃ p ys, xs = [.ref p] ∧ (SqL X.K H p ys ∨ SqT X.K H p ys) ∧ ∀ l, H l = none → Q (.ref l) (upd H l (.lst ys))) cList := by
  intro σ G s H xs ds d Q r hx e q1 q2
  unfold cList at e
  split at e
  · obtain ⟨v, rfl, h⟩ := hx.one
    obtain ⟨es, k, e⟩ := Option.map_eq_some_iff.mp e
    subst e
    obtain ⟨a, vs, rfl, h1, l1⟩ := r.getS h k
    refine ⟨a, vs, rfl, by rw [hK]; exact h1, fun p hp => ?_⟩
    obtain ⟨G', r', l', h'⟩ := r.newLst hp l1
    exact q2 G' _ _ r' l' h'
  · cases e
def cAbs : List SO → List D → Option D := fun _ ds => match ds with
  | [.int i] => some (.int (if i < 0 then -i else i))
  | _ => none
theorem cs_abs : CallS j (fun xs H Q => ∃ i, xs = [.int i] ∧ Q (.int (if i < 0 then -i else i)) H) cAbs := by
  intro σ G s H xs ds d Q r hx e q1 q2
  unfold cAbs at e
  split at e
  · obtain ⟨v, rfl, h⟩ := hx.one
    cases h; cases e
    exact ⟨_, rfl, q1 _ (.int _)⟩
  · cases e
def cInt : List SO → List D → Option D := fun _ ds => match ds with
  | [.int i] => some (.int i)
  | [.bl b] => some (.int (if b then 1 else 0))
  | _ => none
theorem cs_int : CallS j (fun xs H Q => (∃ i, xs = [.int i] ∧ Q (.int i) H) ∨ ∃ k, xs = [.bl k] ∧ Q (.int (if k then 1 else 0)) H) cInt := by
  intro σ G s H xs ds d Q r hx e q1 q2
  unfold cInt at e
  split at e
  · obtain ⟨v, rfl, h⟩ := hx.one
    cases h; cases e
    exact .inl ⟨_, rfl, q1 _ (.int _)⟩
  · obtain ⟨v, rfl, h⟩ := hx.one
    cases h; cases e
    exact .inr ⟨_, rfl, q1 _ (.int _)⟩
  · cases e
def cGcd : List SO → List D → Option D := fun _ ds => match ds with
  | [.int i, .int k] => some (.int ((Nat.gcd i.natAbs k.natAbs : Nat) : Int))
  | _ => none
theorem cs_gcd : CallS j rGcd cGcd := by
  intro σ G s H xs ds d Q r hx e q1 q2
  unfold cGcd at e
  split at e
  · obtain ⟨v, w, rfl, h, k⟩ := hx.two
    cases h; cases k; cases e
    exact ⟨_, _, rfl, q1 _ (.int _)⟩
  · cases e
def cRepr : List SO → List D → Option D := fun _ ds => match ds with
  | [.int i] => if i.natAbs.log2 < 1920 then some (.str (toString i)) else none
  | _ => none
theorem cs_repr : CallS j (fun xs H Q => ∃ i, xs = [.int i] ∧ i.natAbs.log2 < 1920 ∧ Q (.str (toString i)) H) cRepr := by
  intro σ G s H xs ds d Q r hx e q1 q2
  unfold cRepr at e
  split at e
  · obtain ⟨v, rfl, h⟩ := hx.one
    cases h
    split at e
    · cases e
      exact ⟨_, rfl, by assumption, q1 _ (.str _)⟩
    · cases e
  · cases e
end
end DL
end

section
set_option maxHeartbeats 4000000
/-! DL part 5: defs, their promises, statements. -/
namespace DL
open PySem PySem.Spec PyProof.Rows L2

/-! ### what a def does -/
inductive OutF where
  | ok (d : D) (st : List SO)
  | er (x : Exn) (st : List SO)
  | no
abbrev FD := List D → List SO → OutF
def outD (B : Bg) (G : Wd) (H : Hp) (Q : VK) (E : XK) : OutF → Prop
  | .ok d st' => ∀ G' H' v, RelF B G' st' H' → Ext B G H G' H' → Has B G' d v → Q v H'
  | .er x st' => ∀ G' H' dd, RelF B G' st' H' → Ext B G H G' H' → ExnOk B G' H' x dd → H dd = none → E (.ref (B.cA x.c)) (some dd) H'
  | .no => False
def spD (B : Bg) (n : Nat) (F : FD) : Sp := fun vs H Q E => vs.length = n ∧ ∃ G st ds, RelF B G st H ∧ HasL B G ds vs ∧ outD B G H Q E (F ds st)

mutual
/-- no mutable object from b on -/
def D.lowb (b : Nat) : D → Bool
  | .tup ds => lowbL b ds
  | .lst ds => lowbL b ds
  | .dic _ ds => lowbL b ds
  | .dit _ ds => lowbL b ds
  | .ins _ _ ds => lowbL b ds
  | .exc _ _ ds => lowbL b ds
  | .ob n => decide (n < b)
  | _ => true
def lowbL (b : Nat) : List D → Bool
  | [] => true
  | d :: ds => d.lowb b && lowbL b ds
end
def SO.lowb (b : Nat) : SO → Bool
  | .lst ds => lowbL b ds
  | .dic _ ds => lowbL b ds
  | .ins _ _ ds => lowbL b ds
  | .dead => true
/-- the end of a def: its own objects of the store go, if nothing told knows them -/
def finF (b : Nat) (d : D) (st : List SO) : OutF := if st.length = b then .ok d st else if d.lowb b = true ∧ (st.take b).all (SO.lowb b) = true then .ok d (st.take b) else .ok d st
def endF (b : Nat) : Out Fl → OutF
  | .ok .nx s => finF b .non s.st
  | .ok (.rt d) s => finF b d s.st
  | .ok _ _ => .no
  | .er x s => if s.st.length = b then .er x s.st else if lowbL b x.ds = true ∧ (s.st.take b).all (SO.lowb b) = true then .er x (s.st.take b) else .er x s.st
  | .no => .no
def runF (N : Nat) (den : DenS) : FD := fun ds st => endF st.length (den ⟨ds.map some ++ List.replicate (N - ds.length) none, st, st.length⟩)

section
variable {B : Bg} {G : Wd} {b : Nat}
theorem lowbL_cons {d : D} {ds : List D} (h : lowbL b (d :: ds) = true) : d.lowb b = true ∧ lowbL b ds = true := by
  rw [lowbL, Bool.and_eq_true] at h
  exact h
mutual
theorem Has.lowb : ∀ {d : D} {v : V}, Has B G d v → d.lowb b = true → Has B ⟨G.Fz, G.ρ.take b⟩ d v
  | _, _, .non, _ => .non
  | _, _, .bl b, _ => .bl b
  | _, _, .int i, _ => .int i
  | _, _, .str x, _ => .str x
  | _, _, .ty n, _ => .ty n
  | _, _, .gl x, _ => .gl x
  | _, _, .tup h l, e => .tup h (HasL.lowb l (by rw [D.lowb] at e; exact e))
  | _, _, .lst h l, e => .lst h (HasL.lowb l (by rw [D.lowb] at e; exact e))
  | _, _, .scr h, _ => .scr h
  | _, _, .dic h q l, e => .dic h q (HasL.lowb l (by rw [D.lowb] at e; exact e))
  | _, _, .dit h q l, e => .dit h q (HasL.lowb l (by rw [D.lowb] at e; exact e))
  | _, _, .ins h q l, e => .ins h q (HasL.lowb l (by rw [D.lowb] at e; exact e))
  | _, _, .exc h hd q l, e => .exc h hd q (HasL.lowb l (by rw [D.lowb] at e; exact e))
  | _, _, .ob h, e => .ob (by
    rw [D.lowb, decide_eq_true_eq] at e
    show (G.ρ.take b)[_]? = _
    rw [List.getElem?_take_of_lt e]
    exact h)
  | _, _, .ask h, _ => .ask h
theorem HasL.lowb : ∀ {ds : List D} {vs : List V}, HasL B G ds vs → lowbL b ds = true → HasL B ⟨G.Fz, G.ρ.take b⟩ ds vs
  | _, _, .nil, _ => .nil
  | _, _, .cons h l, e => .cons (Has.lowb h (lowbL_cons e).1) (HasL.lowb l (lowbL_cons e).2)
end
theorem SOok.lowb {H : Hp} {a : Addr} : ∀ {o : SO}, SOok B G H a o → o.lowb b = true → SOok B ⟨G.Fz, G.ρ.take b⟩ H a o
  | .lst _, ⟨vs, h, l⟩, e => ⟨vs, h, l.lowb e⟩
  | .dic _ _, ⟨kvs, h, q, l⟩, e => ⟨kvs, h, q, l.lowb e⟩
  | .ins _ _ _, ⟨dx, fvs, h, q, l⟩, e => ⟨dx, fvs, h, q, l.lowb e⟩
  | .dead, h, _ => h
theorem RelF.take {st : List SO} {H : Hp} (f : RelF B G st H) (h : (st.take b).all (SO.lowb b) = true) : RelF B ⟨G.Fz, G.ρ.take b⟩ (st.take b) H := by
  refine ⟨f.le, by simp [f.len], fun n a o e1 e2 => ?_, f.nd.sublist (List.take_sublist _ _), fun n a o e1 e2 e3 => ?_, f.tb, fun a m => ?_⟩
  · have hn : n < b := by
      have := (List.getElem?_eq_some_iff.mp e1).1
      rw [List.length_take] at this
      omega
    have e1' : G.ρ[n]? = some a := by rw [← List.getElem?_take_of_lt hn]; exact e1
    have e2' : st[n]? = some o := by rw [← List.getElem?_take_of_lt hn]; exact e2
    exact (f.so n a o e1' e2').lowb (List.all_eq_true.mp h o (List.mem_of_getElem? e2))
  · have hn : n < b := by
      have := (List.getElem?_eq_some_iff.mp e1).1
      rw [List.length_take] at this
      omega
    exact f.ap n a o (by rw [← List.getElem?_take_of_lt hn]; exact e1) (by rw [← List.getElem?_take_of_lt hn]; exact e2) e3
  · obtain ⟨h1, h2, h3⟩ := f.tF a m
    exact ⟨h1, fun z => h2 (List.mem_of_mem_take z), h3⟩
theorem Ext.take {G0 : Wd} {H0 H : Hp} (e : Ext B G0 H0 G H) (hb : b = G0.ρ.length) : Ext B G0 H0 ⟨G.Fz, G.ρ.take b⟩ H := by
  refine ⟨⟨e.le.mono, [], ?_⟩, e.newF, fun a m => e.newR a (List.mem_of_mem_take m), e.keep, e.there⟩
  obtain ⟨t, q⟩ := e.le.pre
  show G.ρ.take b = _
  rw [q, hb]
  simp
end

section
variable {X : Cx} {j : Cj} {pos : Pos} {es : List Expr} {das : DenA}
/-! ### calls of own defs -/
def ansF (s : S) : OutF → Out D
  | .ok d st => .ok d { s with st := st }
  | .er x st => .er x { s with st := st }
  | .no => .no
def dCall (n : Nat) (F : FD) (dds : List D) (da : DenA) : DenE := fun s => (da s).bind fun ds s1 => if (ds ++ dds).length = n then ansF s1 (F (ds ++ dds) s1.st) else .no
/-- what a caller wants, from what it wants of the answer -/
theorem outD_of {G : Wd} {s : S} {σ : L2.St} {H : Hp} {Q : VK} {o : OutF} (r : Rel j G s σ H) (h : outG j (Has j.B) σ G H (ansF s o) Q) : outD j.B G H Q (WE j.W σ) o := by
  cases o with
  | ok d st => exact fun G' H' v f e k => h G' H' v (r.call f e) e k
  | er x st => exact fun G' H' dd f e k n => h G' H' dd (r.call f e) e k n
  | no => exact h.elim
variable {x : Str} {p : Pos} {e : Expr} {k n : Nat} {f : Addr} {fd : FuncData} {ps : List Str} {F : FD} {dds : List D} {dvs : List V} {dus : List Value}
theorem de_call (Fo : FnOk X.prog X.w X.K X.mg X.base (L2.CX X.prog X.w) k f fd ps (spD j.B n F)) (hr : Room k X.A) (hg : Gl X x) (hm : X.mg x = some (.ref f)) (hk : PySem.W.keepIn X.K (.ref f) = true) (hb : Binds X.K fd ps dus) (hd : Vals dvs dus) (hdd : ∀ G, HasL j.B G dds dvs)
    (tk : Takes X j.W) (ha : DA X j (e :: es) das) (hdb : (x == ("__debug__" : Str)) = false := by decide) (he : starEach (e :: es) X.env = (false, eval e X.env) :: starEach es X.env := by rfl) (hpl : (backTo pos (starEach es X.env)).any (·.1) = false := by rfl) :
    DE X j (.Call (.Name x p) (e :: es) [] pos) (dCall n F dds das) :=
  PE.imp (pe_callSD (E := WE j.W) Fo hr hg hm hk hb hd (fun σ => passAt tk σ) ha hdb he hpl) fun σ H Q ⟨G, s, r, o⟩ => ⟨G, s, r, outG.imp (outG.bind (R := HasL j.B) o) fun vs H1 ⟨G1, s1, ds, r1, l1, h1, o1⟩ => by
    split at o1
    · rename_i c
      have hh := h1.append (hdd G1)
      exact ⟨by rw [← hh.length]; exact c, G1, s1.st, ds ++ dds, r1.f, hh, outD_of r1 o1⟩
    · exact o1.elim⟩

/-! ### statements -/
theorem outS.mono {σ : L2.St} {G G1 : Wd} {H H1 : Hp} {D : Ends} {o : Out Fl} (h : outS j σ G H D o) (l : Ext j.B G H G1 H1) : outS j σ G1 H1 D o := by
  cases o with
  | ok f s => cases f with
    | nx => exact fun G' σ' H' r k => h G' σ' H' r (l.trans k)
    | rt d => exact fun G' σ' H' v r k => h G' σ' H' v r (l.trans k)
    | bk => exact fun G' σ' H' r k => h G' σ' H' r (l.trans k)
    | ct => exact fun G' σ' H' r k => h G' σ' H' r (l.trans k)
  | er x s => exact fun G' σ' H' dd r k q n => h G' σ' H' dd r (l.trans k) q (l.back n)
  | no => exact h
/-- an expression ahead of a statement's own step -/
theorem outS.bindG {α β : Type} {R : Wd → α → β → Prop} {σ : L2.St} {G : Wd} {H : Hp} {D : Ends} {o : Out α} {g : α → S → Out Fl} (h : outS j σ G H D (o.bind g)) :
    outG j R σ G H o fun x H1 => ∃ G1 s1 a, Rel j G1 s1 σ H1 ∧ Ext j.B G H G1 H1 ∧ R G1 a x ∧ outS j σ G1 H1 D (g a s1) := by
  cases o with
  | ok a s => exact fun G' H' y r l q => ⟨G', s, a, r, l, q, outS.mono h l⟩
  | er x s => exact fun G' H' dd r l q n => h G' σ H' dd r l q n
  | no => exact h
/-- slots do not matter to what is said of σ but for errors -/
theorem outS.cast {σ σ' : L2.St} {G : Wd} {H : Hp} {D : Ends} {o : Out Fl} (h : outS j σ G H D o) : outS j σ' G H D o := by
  cases o with
  | ok f s => cases f <;> exact h
  | er x s => exact h
  | no => exact h
def sSeq (a b : DenS) : DenS := fun s => (a s).bind fun f s1 => match f with
  | .nx => b s1
  | f => .ok f s1
def sNil : DenS := fun s => .ok .nx s
variable {st : Stmt} {rest : List Stmt} {ds dr : DenS}
theorem dss_nil : DSs X j [] sNil := PSs.imp pss_nil fun D σ H ⟨G, s, r, o⟩ => o G σ H r (.refl G H)
theorem seq_ok {D : Ends} {σ : L2.St} {H : Hp} (h : toTS j (sSeq ds dr) D σ H) : tSeq (toTS j ds) (toTS j dr) D σ H := by
  obtain ⟨G, s, r, o⟩ := h
  refine ⟨G, s, r, ?_⟩
  unfold sSeq at o
  cases e : ds s with
  | ok f s1 =>
    rw [e] at o
    cases f with
    | nx => exact fun G' σ' H' r' l => ⟨G', s1, r', outS.mono (outS.cast o) l⟩
    | rt d => exact o
    | bk => exact o
    | ct => exact o
  | er x s1 => rw [e] at o; exact o
  | no => rw [e] at o; exact o
theorem dss_cons (h : DS X j st ds) (hr : DSs X j rest dr) : DSs X j (st :: rest) (sSeq ds dr) := PSs.imp (pss_cons h hr) fun D σ H h => seq_ok h
theorem dss_one (h : DS X j st ds) : DSs X j [st] ds := pss_one h
def sPass : DenS := fun s => .ok .nx s
theorem ds_pass : DS X j (.Pass pos) sPass := PS.imp ps_pass fun D σ H ⟨G, s, r, o⟩ => o G σ H r (.refl G H)
def sBreak : DenS := fun s => .ok .bk s
theorem ds_break : DS X j (.Break pos) sBreak := PS.imp ps_break fun D σ H ⟨G, s, r, o⟩ => o G σ H r (.refl G H)
def sCont : DenS := fun s => .ok .ct s
theorem ds_cont : DS X j (.Continue pos) sCont := PS.imp ps_continue fun D σ H ⟨G, s, r, o⟩ => o G σ H r (.refl G H)
def sDrop (de : DenE) : DenS := fun s => (de s).bind fun _ s1 => .ok .nx s1
theorem ds_expr {de : DenE} (he : DE X j e de) (hs : swapsWith e none pos.line X.env = pure false := by rfl) : DS X j (.Expr e pos) (sDrop de) :=
  PS.imp (ps_expr he hs) fun D σ H ⟨G, s, r, o⟩ => ⟨G, s, r, outG.imp (outS.bindG (R := Has j.B) o) fun x H1 ⟨G1, s1, a, r1, l1, h1, o1⟩ => o1 G1 σ H1 r1 (.refl G1 H1)⟩
def sRet (de : DenE) : DenS := fun s => (de s).bind fun d s1 => .ok (.rt d) s1
theorem ds_ret {de : DenE} (he : DE X j e de) : DS X j (.Return (some e) pos) (sRet de) :=
  PS.imp (ps_ret he) fun D σ H ⟨G, s, r, o⟩ => ⟨G, s, r, outG.imp (outS.bindG (R := Has j.B) o) fun x H1 ⟨G1, s1, a, r1, l1, h1, o1⟩ => o1 G1 σ H1 x r1 (.refl G1 H1) h1⟩
def sRetN : DenS := fun s => .ok (.rt .non) s
theorem ds_retN : DS X j (.Return none pos) sRetN := PS.imp ps_retN fun D σ H ⟨G, s, r, o⟩ => o G σ H .non r (.refl G H) .non
def sIf (t : DenT) (a b : DenS) : DenS := fun s => (t s).bind fun c s1 => if c = true then a s1 else b s1
theorem ds_if {c : Expr} {a b : List Stmt} {t : DenT} {da db : DenS} (hc : DT X j c t) (ha : DSs X j a da) (hb : DSs X j b db) : DS X j (.If c a b pos) (sIf t da db) :=
  PS.imp (ps_if hc ha hb) fun D σ H ⟨G, s, r, o⟩ => ⟨G, s, r, outG.imp (outS.bindG (R := eqB) o) fun x H1 ⟨G1, s1, a, r1, l1, h1, o1⟩ => by
    cases h1
    split at o1
    · rename_i c; rw [if_pos c]; exact ⟨G1, s1, r1, o1⟩
    · rename_i c; rw [if_neg c]; exact ⟨G1, s1, r1, o1⟩⟩

/-! ### a name stored -/
abbrev DenG := D → S → Out Unit
def gNm (i : Nat) : DenG := fun d s => if i < s.sl.length then .ok () { s with sl := s.sl.set i (some d) } else .no
def sSet (i : Nat) (de : DenE) : DenS := fun s => (de s).bind fun d s1 => if i < s1.sl.length then .ok .nx { s1 with sl := s1.sl.set i (some d) } else .no
theorem ds_set {i : Nat} {pos' : Pos} {de : DenE} (hN : X.N.Nodup) (hi : X.N[i]? = some x) (hx : Loc X.env.scope x) (he : DE X j e de) (hs : swapsWith e (some (.Name x pos')) pos.line X.env = pure false := by rfl) (hf : X.fn x = true ∨ X.env.scope.names.lookup x = some .local := by first | exact .inl rfl | exact .inr rfl | assumption) :
    DS X j (.Assign [.Name x pos'] e pos) (sSet i de) :=
  PS.imp (ps_set hN hi hx he hs hf) fun D σ H ⟨G, s, r, o⟩ => ⟨G, s, r, outG.imp (outS.bindG (R := Has j.B) o) fun v H1 ⟨G1, s1, a, r1, l1, h1, o1⟩ => by
    split at o1
    · rename_i c
      exact o1 G1 _ H1 (r1.set h1 i c) (.refl G1 H1)
    · exact o1.elim⟩
end
end DL
end

section
set_option maxHeartbeats 4000000
/-! DL part 6: mutable lists, targets, assignments, methods of lists. -/
namespace DL
open PySem PySem.Spec PyProof.Rows L2

section
variable {X : Cx} {j : Cj} {pos : Pos} {e : Expr} {es : List Expr} {das : DenA} {de : DenE}
/-! ### a list as a new object of the store; an object frozen -/
def dNew (das : DenA) : DenE := fun s => (das s).bind fun ds s1 => .ok (.ob s1.st.length) { s1 with st := s1.st ++ [.lst ds] }
theorem de_new (h : DF X j e das) : DE X j e (dNew das) := PE.imp h fun σ H Q ⟨G, s, r, o⟩ => ⟨G, s, r, by
  unfold dNew at o
  cases e : das s with
  | ok ds s' =>
    rw [e] at o
    intro G' H' v r' l' f
    obtain ⟨a, vs, rfl, h1, l, n0, n1, n2, n3, n4⟩ := f
    obtain ⟨r2, l2⟩ := r'.push (o := .lst ds) h1 ⟨vs, h1, l⟩ n0 n1 n2 n3
    refine o _ H' _ r2 ⟨l'.le.trans l2, l'.newF, fun b m => ?_, l'.keep, l'.there⟩ (.ob ?_)
    · rcases List.mem_append.mp m with m | m
      · exact l'.newR b m
      · simp at m; subst m; exact .inr n4
    show (G'.ρ ++ [a])[s'.st.length]? = some a
    rw [← r'.f.len]
    simp
  | er x s' => rw [e] at o; exact o
  | no => rw [e] at o; exact o⟩
theorem Rel.freezeOb {G : Wd} {s : S} {σ : L2.St} {H : Hp} (r : Rel j G s σ H) {n : Nat} {a : Addr} {ds : List D} (h : G.ρ[n]? = some a) (q : s.st[n]? = some (.lst ds)) :
    ∃ G', Rel j G' { s with st := s.st.set n .dead } σ H ∧ Ext j.B G H G' H ∧ Has j.B G' (.lst ds) (.ref a) := by
  obtain ⟨vs, h1, l⟩ := r.f.so n a _ h q
  have n1 : G.Fz a = none := r.f.ap n a _ h q (fun z => nomatch z)
  have ha : a ∈ G.ρ := List.mem_of_getElem? h
  have l' : G.le (G.fz a (.lst vs)) := .fz (.inl n1)
  have hn : n < s.st.length := (List.getElem?_eq_some_iff.mp q).1
  refine ⟨G.fz a (.lst vs), ⟨⟨fun b u e => ?_, by simpa using r.f.len, fun m b o e1 e2 => ?_, r.f.nd, fun m b o e1 e2 e3 => ?_, r.f.tb, fun b m => ?_⟩, ⟨r.e.le.trans l', fun b z => ?_, r.e.newR, r.e.keep, r.e.there⟩, r.b, r.ln, fun i d e => ?_⟩, (Ext.refl G H).fz (.inr ha) n1, .lst (by show upd G.Fz a _ a = _; exact upd_same) (l.mono l')⟩
  · have e' : upd G.Fz a (.lst vs) b = some u := e
    by_cases eb : b = a
    · subst eb; rw [upd_same] at e'; rw [h1, e']
    · rw [upd_ne eb] at e'; exact r.f.le b u e'
  · by_cases hm : m = n
    · subst hm
      have e2' : (s.st.set m .dead)[m]? = some o := e2
      rw [List.getElem?_set_self hn] at e2'
      cases e2'
      have e1' : G.ρ[m]? = some b := e1
      rw [h] at e1'
      cases e1'
      exact ⟨_, h1, fun φ z => nomatch z⟩
    · have e2' : (s.st.set n .dead)[m]? = some o := e2
      rw [List.getElem?_set_ne (Ne.symm hm)] at e2'
      exact (r.f.so m b o e1 e2').mono l' fun _ z => z
  · have hm : m ≠ n := fun z => by
      subst z
      have e2' : (s.st.set m .dead)[m]? = some o := e2
      rw [List.getElem?_set_self hn] at e2'
      cases e2'
      exact e3 rfl
    have e2' : (s.st.set n .dead)[m]? = some o := e2
    rw [List.getElem?_set_ne (Ne.symm hm)] at e2'
    have nb : b ≠ a := fun z => by
      subst z
      exact hm ((List.getElem?_inj (List.getElem?_eq_some_iff.mp e1).1 r.f.nd).mp ((show G.ρ[m]? = some b from e1).trans h.symm))
    show upd G.Fz a _ b = none
    rw [upd_ne nb]
    exact r.f.ap m b o e1 e2' e3
  · obtain ⟨h2, h3, w⟩ := r.f.tF b m
    have nb : b ≠ a := fun z => h3 (z ▸ ha)
    exact ⟨by show upd G.Fz a _ b = none; rw [upd_ne nb]; exact h2, h3, w⟩
  · by_cases eb : b = a
    · rw [eb]; exact .inr (r.e.newR a ha).symm
    · exact r.e.newF b (by have z' : upd G.Fz a (.lst vs) b ≠ none := z; rw [upd_ne eb] at z'; exact z')
  · obtain ⟨v, e1, e2⟩ := r.sl i d e
    exact ⟨v, e1, e2.mono l'⟩
def frz (d : D) (s : S) : Out D := match d with
  | .ob n => (match s.st[n]? with
    | some (.lst ds) => .ok (.lst ds) { s with st := s.st.set n .dead }
    | _ => .ok d s)
  | d => .ok d s
def dFrz (de : DenE) : DenE := fun s => (de s).bind frz
theorem de_frz (h : DE X j e de) : DE X j e (dFrz de) := PE.imp h fun σ H Q ⟨G, s, r, o⟩ => ⟨G, s, r, outG.imp (outG.bind (R := Has j.B) o) fun v H1 ⟨G1, s1, d, r1, l1, h1, o1⟩ => by
  unfold frz at o1
  split at o1
  · split at o1
    · cases h1 with
      | ob h1 =>
        obtain ⟨G2, r2, l2, h2⟩ := r1.freezeOb h1 (by assumption)
        exact o1 G2 H1 _ r2 l2 h2
    · exact o1 G1 H1 v r1 (.refl G1 H1) h1
  · exact o1 G1 H1 v r1 (.refl G1 H1) h1⟩

/-! ### more fresh lists: slices, list(..), sums -/
/-- xs[lo:hi] -/
def cutD (ds : List D) (lo hi : Option Int) : List D := (ds.drop (HT.sIx ds.length 0 lo)).take (HT.sIx ds.length ds.length hi - HT.sIx ds.length 0 lo)
theorem HasL.cut {B : Bg} {G : Wd} {ds : List D} {vs : List V} (l : HasL B G ds vs) (lo hi : Option Int) : HasL B G (cutD ds lo hi) (cutV vs lo hi) := by
  unfold cutD cutV
  rw [l.length]
  exact (l.drop _).take _
/-- a part of a slice -/
def DO (X : Cx) (j : Cj) (e : Option Expr) (den : S → Out (Option Int)) : Prop := PO X e fun σ H Q => ∃ G s, Rel j G s σ H ∧ outG j (fun _ a b => b = a) σ G H (den s) Q
def oNone : S → Out (Option Int) := fun s => .ok none s
def oSome (de : DenE) : S → Out (Option Int) := fun s => (de s).bind fun d s1 => match d with
  | .int i => .ok (some i) s1
  | _ => .no
theorem PO.imp {X : Cx} {e : Option Expr} {t t' : TO} (h : PO X e t) (k : ∀ σ H Q, t' σ H Q → t σ H Q) : PO X e t' := ⟨fun pins s σ H Q I q => h.run pins s σ H Q I (k σ H Q q)⟩
theorem do_none : DO X j none oNone := PO.imp po_none fun σ H Q ⟨G, s, r, o⟩ => o G H _ r (.refl G H) rfl
theorem do_some (h : DE X j e de) : DO X j (some e) (oSome de) := PO.imp (po_some h) fun σ H Q ⟨G, s, r, o⟩ => ⟨G, s, r, outG.imp (outG.bind (R := Has j.B) o) fun v H1 ⟨G1, s1, d, r1, l1, h1, o1⟩ => by
  split at o1
  · cases h1; exact ⟨_, rfl, o1 G1 H1 _ r1 (.refl G1 H1) rfl⟩
  · exact o1.elim⟩
/-- what a slice of a value is -/
def sliD (st : List SO) (x : D) (lo hi : Option Int) : Option D := match x with
  | .str z => if z.length ≤ sizeLine then some (.str (cutS z lo hi)) else none
  | .tup ds => if HT.sIx ds.length 0 lo = 0 ∧ HT.sIx ds.length ds.length hi = ds.length then none else some (.tup (cutD ds lo hi))
  | .scr is => some (.lst ((cutD (is.map D.int) lo hi)))
  | x => (getL st x).map fun ds => .lst (cutD ds lo hi)
def rSlA (K : PySem.W.Frag) : V → Option Int → Option Int → Hp → VK → Prop := fun x lo hi H Q => rSlL K x lo hi H Q ∨ rSlT K x lo hi H Q ∨ rSlS x lo hi H Q
theorem sl_any : SlR X (rSlA X.K) := sl_list.or (sl_tup.or sl_str)
def dSl (de : DenE) (dl dh : S → Out (Option Int)) : DenE := fun s => (de s).bind fun x s1 => (dl s1).bind fun l s2 => (dh s2).bind fun h s3 => ans (sliD s3.st x l h) s3
theorem sl_ok {G : Wd} {s : S} {σ : L2.St} {H : Hp} {x : V} {d d' : D} {lo hi : Option Int} {Q : VK} (hK : X.K = j.B.K) (r : Rel j G s σ H) (hx : Has j.B G d x) (e : sliD s.st d lo hi = some d') (q1 : ∀ v, Has j.B G d' v → Q v H) (q2 : ∀ G' H' v, Rel j G' s σ H' → Ext j.B G H G' H' → Has j.B G' d' v → Q v H') :
    rSlA X.K x lo hi H Q := by
  unfold sliD at e
  split at e
  · cases hx
    split at e
    · cases e; exact .inr (.inr ⟨_, rfl, by assumption, q1 _ (.str _)⟩)
    · cases e
  · split at e
    · cases e
    · rename_i ds c
      cases e
      obtain ⟨a, vs, rfl, h1, l1⟩ := r.getT hx rfl
      refine .inr (.inl ⟨a, vs, rfl, by rw [hK]; exact h1, by rw [← l1.length]; exact c, fun p hp => ?_⟩)
      obtain ⟨G', r', l', h'⟩ := r.newTup hp (l1.cut lo hi)
      exact q2 G' _ _ r' l' h'
  · rename_i is
    cases e
    cases hx with
    | scr h =>
      refine .inl ⟨_, _, rfl, by rw [hK]; exact SqL.mono r.f.le h, fun p hp => ?_⟩
      obtain ⟨G', r', l', h'⟩ := r.newLst hp ((HasL.ofInts (B := j.B) (G := G) is).cut lo hi)
      exact q2 G' _ _ r' l' h'
  · obtain ⟨ds, k, e⟩ := Option.map_eq_some_iff.mp e
    subst e
    obtain ⟨a, vs, rfl, h1, l1⟩ := r.getL hx k
    refine .inl ⟨a, vs, rfl, SqL.of h1, fun p hp => ?_⟩
    obtain ⟨G', r', l', h'⟩ := r.newLst hp (l1.cut lo hi)
    exact q2 G' _ _ r' l' h'
theorem de_slice {lo hi : Option Expr} {p2 : Pos} {dl dh : S → Out (Option Int)} (hK : X.K = j.B.K) (he : DE X j e de) (hl : DO X j lo dl) (hh : DO X j hi dh) : DE X j (.Subscript e (.Slice lo hi none p2) pos) (dSl de dl dh) :=
  PE.imp (pe_slice sl_any he hl hh) fun σ H Q ⟨G, s, r, o⟩ => ⟨G, s, r, outG.imp (outG.bind (R := Has j.B) o) fun x H1 ⟨G1, s1, d, r1, l1, h1, o1⟩ =>
    ⟨G1, s1, r1, outG.imp (outG.bind (R := fun _ a b => b = a) o1) fun l H2 ⟨G2, s2, l', r2, l2, h2, o2⟩ => ⟨G2, s2, r2, outG.imp (outG.bind (R := fun _ a b => b = a) o2) fun u H3 ⟨G3, s3, u', r3, l3, h3, o3⟩ => by
      subst h2 h3
      obtain ⟨d', e, q1, q2⟩ := outG_ans r3 o3
      exact sl_ok hK r3 (h1.mono (l2.trans l3).le) e q1 q2⟩⟩⟩

/-! ### targets -/
/-- what a target may do to the slots: vs none: anything; some l: only those of l -/
def frameOk : Option (List Nat) → L2.St → L2.St → Prop
  | none, _, _ => True
  | some l, σ, σ' => wipe σ' l = wipe σ l
theorem frameOk.refl : ∀ (vs : Option (List Nat)) (σ : L2.St), frameOk vs σ σ
  | none, _ => True.intro
  | some _, _ => rfl
theorem frameOk.trans : ∀ {vs : Option (List Nat)} {σ1 σ2 σ3 : L2.St}, frameOk vs σ1 σ2 → frameOk vs σ2 σ3 → frameOk vs σ1 σ3
  | none, _, _, _, _, _ => True.intro
  | some _, _, _, _, a, b => Eq.trans b a
theorem wipe_set : ∀ {l : List Nat} {σ : L2.St} {i : Nat} {v : Option V}, i ∈ l → wipe (σ.set i v) l = wipe σ l
  | [], _, _, _, h => by simp at h
  | k :: l, σ, i, v, h => by
    show (wipe (σ.set i v) l).set k none = (wipe σ l).set k none
    by_cases hi : i ∈ l
    · rw [wipe_set hi]
    · have e : i = k := by
        rcases List.mem_cons.mp h with h | h
        · exact h
        · exact absurd h hi
      subst e
      have key : ∀ (l : List Nat) (σ : L2.St), i ∉ l → wipe (σ.set i v) l = (wipe σ l).set i v := by
        intro l
        induction l with
        | nil => intro σ _; rfl
        | cons m l ih =>
          intro σ hm
          show (wipe (σ.set i v) l).set m none = ((wipe σ l).set m none).set i v
          rw [ih σ (fun z => hm (List.mem_cons_of_mem _ z)), List.set_comm]
          intro z; subst z; exact hm List.mem_cons_self
      rw [key l σ hi, List.set_set]
def outU (j : Cj) (vs : Option (List Nat)) (σ : L2.St) (G : Wd) (H : Hp) : Out Unit → (L2.St → Hp → Prop) → Prop
  | .ok _ s', Q => ∀ G' σ' H', Rel j G' s' σ' H' → Ext j.B G H G' H' → frameOk vs σ σ' → Q σ' H'
  | .er _ _, _ => False
  | .no, _ => False
theorem outU.mono {vs : Option (List Nat)} {σ : L2.St} {G G1 : Wd} {H H1 : Hp} {o : Out Unit} {Q : L2.St → Hp → Prop} (h : outU j vs σ G H o Q) (l : Ext j.B G H G1 H1) : outU j vs σ G1 H1 o Q := by
  cases o with
  | ok a s => exact fun G' σ' H' r k => h G' σ' H' r (l.trans k)
  | er x s => exact h
  | no => exact h
def TGt (j : Cj) (vs : Option (List Nat)) (g : DenG) : TG := fun v σ H Q => ∃ G s d, Rel j G s σ H ∧ Has j.B G d v ∧ outU j vs σ G H (g d s) Q
def TGts (j : Cj) (vs : Option (List Nat)) (g : List D → S → Out Unit) : TGs := fun xs σ H Q => ∃ G s ds, Rel j G s σ H ∧ HasL j.B G ds xs ∧ outU j vs σ G H (g ds s) Q
theorem PG.imp {X : Cx} {e : Expr} {t t' : TG} (h : PG X e t) (k : ∀ v σ H Q, t' v σ H Q → t v σ H Q) : PG X e t' := ⟨fun pins s σ H v u Q I r q => h.run pins s σ H v u Q I r (k v σ H Q q)⟩
theorem PGs.imp {X : Cx} {es : List Expr} {t t' : TGs} (h : PGs X es t) (k : ∀ vs σ H Q, t' vs σ H Q → t vs σ H Q) : PGs X es t' := ⟨fun pins s σ H vs us Q I r q => h.run pins s σ H vs us Q I r (k vs σ H Q q)⟩
theorem PG.or {X : Cx} {e : Expr} {t t' : TG} (h : PG X e t) (h' : PG X e t') : PG X e (fun v σ H Q => t v σ H Q ∨ t' v σ H Q) := ⟨fun pins s σ H v u Q I r q => q.elim (h.run pins s σ H v u Q I r) (h'.run pins s σ H v u Q I r)⟩
def DGt (X : Cx) (j : Cj) (vs : Option (List Nat)) (tg : Expr) (g : DenG) : Prop := PG X tg (TGt j vs g)
def DGts (X : Cx) (j : Cj) (vs : Option (List Nat)) (tgs : List Expr) (g : List D → S → Out Unit) : Prop := PGs X tgs (TGts j vs g)
variable {x : Str} {vs : Option (List Nat)}
theorem dgt_name {i : Nat} (hN : X.N.Nodup) (hi : X.N[i]? = some x) (hx : Loc X.env.scope x) (hv : ∀ l, vs = some l → i ∈ l) (hf : X.fn x = true ∨ X.env.scope.names.lookup x = some .local := by first | exact .inl rfl | exact .inr rfl | assumption) : DGt X j vs (.Name x pos) (gNm i) :=
  PG.imp (pg_name (pos := pos) hN hi hx hf) fun v σ H Q ⟨G, s', d, r, hd, o⟩ => by
    unfold gNm at o
    split at o
    · rename_i c
      refine o G _ H (r.set hd i c) (.refl G H) ?_
      cases vs with
      | none => trivial
      | some l => exact wipe_set (hv l rfl)
    · exact o.elim
/-- o, then f; no exception -/
def bindU {β : Type} (o : Out Unit) (f : S → Out β) : Out β := match o with
  | .ok _ s => f s
  | _ => .no
def gsNil : List D → S → Out Unit := fun ds s => match ds with
  | [] => .ok () s
  | _ => .no
def gsCons (g : DenG) (gs : List D → S → Out Unit) : List D → S → Out Unit := fun ds s => match ds with
  | d :: r => bindU (g d s) fun s1 => gs r s1
  | [] => .no
theorem dgs_nil : DGts X j vs [] gsNil := PGs.imp pgs_nil fun xs σ H Q ⟨G, s, ds, r, l, o⟩ => by
  cases l with
  | nil => exact ⟨rfl, o G σ H r (.refl G H) (frameOk.refl _ _)⟩
  | cons _ _ => exact o.elim
theorem outU.bind {σ : L2.St} {G : Wd} {H : Hp} {o : Out Unit} {f : S → Out Unit} {Q : L2.St → Hp → Prop} (h : outU j vs σ G H (bindU o f) Q) : outU j vs σ G H o fun σ' H' => ∃ G1 s1, Rel j G1 s1 σ' H' ∧ Ext j.B G H G1 H' ∧ outU j vs σ' G1 H' (f s1) Q := by
  cases o with
  | ok a s =>
    intro G' σ' H' r k fr
    refine ⟨G', s, r, k, ?_⟩
    have h' : outU j vs σ G H (f s) Q := h
    cases e : f s with
    | ok a2 s2 => rw [e] at h'; exact fun G2 σ2 H2 r2 k2 f2 => h' G2 σ2 H2 r2 (k.trans k2) (fr.trans f2)
    | er x s2 => rw [e] at h'; exact h'
    | no => rw [e] at h'; exact h'
  | er x s => exact h
  | no => exact h
theorem outU.imp {σ : L2.St} {G : Wd} {H : Hp} {o : Out Unit} {Q Q' : L2.St → Hp → Prop} (h : outU j vs σ G H o Q) (k : ∀ σ H, Q σ H → Q' σ H) : outU j vs σ G H o Q' := by
  cases o with
  | ok a s => exact fun G' σ' H' r l f => k _ _ (h G' σ' H' r l f)
  | er x s => exact h
  | no => exact h
theorem dgs_cons {g : DenG} {gs : List D → S → Out Unit} (h1 : DGt X j vs e g) (h2 : DGts X j vs es gs)
    (hs : (assignEach (e :: es) X.env).map (·.2) = assign e X.env :: (assignEach es X.env).map (·.2) := by rfl) : DGts X j vs (e :: es) (gsCons g gs) :=
  PGs.imp (pgs_cons h1 h2 hs) fun xs σ H Q ⟨G, s, ds, r, l, o⟩ => by
    cases l with
    | nil => exact o.elim
    | @cons d ds v xs h l => exact ⟨v, xs, rfl, G, s, d, r, h, outU.imp (outU.bind o) fun σ' H' ⟨G1, s1, r1, l1, o1⟩ => ⟨G1, s1, ds, r1, l.mono l1.le, o1⟩⟩
def gTp (n : Nat) (g : List D → S → Out Unit) : DenG := fun d s => match getS s.st d with
  | some ds => if ds.length = n then g ds s else .no
  | none => .no
theorem dgt_tup {k n : Nat} {gs : List D → S → Out Unit} (hK : X.K = j.B.K) (hc : X.calm = true) (h : DGts X j vs es gs)
    (hn : (assignEach es X.env).length = n := by rfl) (hst : (assignEach es X.env).findIdx? (·.1) = none := by rfl) : DGt X j vs (.Tuple es k pos) (gTp n gs) :=
  PG.imp (PG.or (pg_tup (k := k) (pos := pos) hc h hn hst) (pg_lst (k := k) (pos := pos) hc h hn hst)) fun v σ H Q ⟨G, s, d, r, hd, o⟩ => by
    unfold gTp at o
    split at o
    · rename_i ds e
      split at o
      · rename_i c
        obtain ⟨a, ws, rfl, h1, l1⟩ := r.getS hd e
        rcases h1 with h1 | h1
        · exact .inr ⟨a, ws, rfl, by rw [hK]; exact h1, by rw [← l1.length]; exact c, G, s, ds, r, l1, o⟩
        · exact .inl ⟨a, ws, rfl, by rw [hK]; exact h1, by rw [← l1.length]; exact c, G, s, ds, r, l1, o⟩
      · exact o.elim
    · exact o.elim

/-! ### assignments -/
theorem outS.bindU {σ : L2.St} {G : Wd} {H : Hp} {D : Ends} {o : Out Unit} {f : S → Out Fl} (h : outS j σ G H D (bindU o f)) : outU j vs σ G H o fun σ' H' => ∃ G1 s1, Rel j G1 s1 σ' H' ∧ Ext j.B G H G1 H' ∧ outS j σ' G1 H' D (f s1) := by
  cases o with
  | ok a s => exact fun G' σ' H' r k _ => ⟨G', s, r, k, outS.mono (outS.cast h) k⟩
  | er x s => exact h.elim
  | no => exact h.elim
def sAsg (de : DenE) (g : DenG) : DenS := fun s => (de s).bind fun d s1 => bindU (g d s1) fun s2 => .ok .nx s2
variable {tg : Expr} {g : DenG}
theorem ds_asg (he : DE X j e de) (hg : DGt X j none tg g) (hs : swapsWithSole [tg] e pos.line X.env = pure false := by rfl) (hw : swappedStores [tg] e X.env = pure none := by rfl) (h1 : (assignEach [tg] X.env).map (·.2) = [assign tg X.env] := by rfl) : DS X j (.Assign [tg] e pos) (sAsg de g) :=
  PS.imp (ps_asg he hg hs hw h1) fun D σ H ⟨G, s, r, o⟩ => ⟨G, s, r, outG.imp (outS.bindG (R := Has j.B) o) fun v H1 ⟨G1, s1, d, r1, l1, h1, o1⟩ =>
    ⟨G1, s1, d, r1, h1, outU.imp (outS.bindU o1) fun σ' H' ⟨G2, s2, r2, l2, o2⟩ => o2 G2 σ' H' r2 (.refl G2 H')⟩⟩
/-- a, b = e1, e2 (local names): stored without a tuple -/
def sPar (is : List Nat) (das : DenA) : DenS := fun s => (das s).bind fun ds s1 => if ds.length = is.length ∧ is.all (fun i => decide (i < s1.sl.length)) = true then .ok .nx { s1 with sl := (is.zip ds).foldl (fun sl p => sl.set p.1 (some p.2)) s1.sl } else .no
theorem ds_par {i k : Nat} {x y : Str} {a b : Expr} {px py pt : Pos} {kt k2 pt2} (hc : X.calm = true) (hN : X.N.Nodup) (hi : X.N[i]? = some x) (hj : X.N[k]? = some y) (hij : i ≠ k)
    (hx : X.env.scope.names.lookup x = some .local) (hy : X.env.scope.names.lookup y = some .local) (ha : DA X j [a, b] das)
    (hw : swappedStores [.Tuple [.Name x px, .Name y py] kt pt] (.Tuple [a, b] k2 pt2) X.env = pure (some [x, y]) := by rfl)
    (hs : swapsWithSole [.Tuple [.Name x px, .Name y py] kt pt] (.Tuple [a, b] k2 pt2) pos.line X.env = pure false := by rfl) :
    DS X j (.Assign [.Tuple [.Name x px, .Name y py] kt pt] (.Tuple [a, b] k2 pt2) pos) (sPar [i, k] das) :=
  PS.imp (ps_par hc hN hi hj hij hx hy ha hw hs) fun D σ H ⟨G, s, r, o⟩ => ⟨G, s, r, outG.imp (outS.bindG (R := HasL j.B) o) fun xs H1 ⟨G1, s1, ds, r1, l1, h1, o1⟩ => by
    split at o1
    · rename_i c
      obtain ⟨c1, c2⟩ := c
      simp only [List.all_cons, List.all_nil, Bool.and_true, Bool.and_eq_true, decide_eq_true_eq] at c2
      match ds, c1, h1 with
      | [d1, d2], _, h1 =>
        obtain ⟨v, w, rfl, q1, q2⟩ := h1.two
        exact ⟨v, w, rfl, o1 G1 _ H1 ((r1.set q1 i c2.1).set q2 k (by show k < (s1.sl.set i _).length; rw [List.length_set]; exact c2.2)) (.refl G1 H1)⟩
    · exact o1.elim⟩
theorem ds_par3 {i k l : Nat} {x y z : Str} {a b c : Expr} {px py pz pt : Pos} {kt k2 pt2} (hc : X.calm = true) (hN : X.N.Nodup) (hi : X.N[i]? = some x) (hj : X.N[k]? = some y) (hl : X.N[l]? = some z) (hij : i ≠ k) (hil : i ≠ l) (hjl : k ≠ l)
    (hx : X.env.scope.names.lookup x = some .local) (hy : X.env.scope.names.lookup y = some .local) (hz : X.env.scope.names.lookup z = some .local) (ha : DA X j [a, b, c] das)
    (hw : swappedStores [.Tuple [.Name x px, .Name y py, .Name z pz] kt pt] (.Tuple [a, b, c] k2 pt2) X.env = pure (some [x, y, z]) := by rfl)
    (hs : swapsWithSole [.Tuple [.Name x px, .Name y py, .Name z pz] kt pt] (.Tuple [a, b, c] k2 pt2) pos.line X.env = pure false := by rfl) :
    DS X j (.Assign [.Tuple [.Name x px, .Name y py, .Name z pz] kt pt] (.Tuple [a, b, c] k2 pt2) pos) (sPar [i, k, l] das) :=
  PS.imp (ps_par3 hc hN hi hj hl hij hil hjl hx hy hz ha hw hs) fun D σ H ⟨G, s, r, o⟩ => ⟨G, s, r, outG.imp (outS.bindG (R := HasL j.B) o) fun xs H1 ⟨G1, s1, ds, r1, l1, h1, o1⟩ => by
    split at o1
    · rename_i c
      obtain ⟨c1, c2⟩ := c
      simp only [List.all_cons, List.all_nil, Bool.and_true, Bool.and_eq_true, decide_eq_true_eq] at c2
      match ds, c1, h1 with
      | [d1, d2, d3], _, .cons q1 h1 =>
        obtain ⟨v, w, rfl, q2, q3⟩ := h1.two
        exact ⟨_, v, w, rfl, o1 G1 _ H1 (((r1.set q1 i c2.1).set q2 k (by show k < (s1.sl.set i _).length; rw [List.length_set]; exact c2.2.1)).set q3 l (by show l < ((s1.sl.set i _).set k _).length; rw [List.length_set, List.length_set]; exact c2.2.2)) (.refl G1 H1)⟩
    · exact o1.elim⟩

/-! ### stores into lists -/
def gSt (do_ di : DenE) : DenG := fun d s => match do_ s with
  | .ok o s1 => (match di s1 with
    | .ok k s2 => (match o, k with
      | .ob n, .int i => (match s2.st[n]? with
        | some (.lst ds) => (match ixN ds.length i with
          | some m => .ok () { s2 with st := s2.st.set n (.lst (ds.set m d)) }
          | none => .no)
        | _ => .no)
      | _, _ => .no)
    | _ => .no)
  | _ => .no
theorem dgt_sub {o i : Expr} {do_ di : DenE} (ho : DE X j o do_) (hi : DE X j i di)
    (ha : ∀ v, assign (.Subscript o i pos) X.env v = (do
      let ov ← holding [v] (eval o X.env)
      let iv ← holding [v, ov] (eval i X.env)
      standAt pos
      holding [v, ov, iv] (setItem ov iv v)
      release [v, ov, iv] []) := by intro _; rfl) : DGt X j vs (.Subscript o i pos) (gSt do_ di) :=
  PG.imp (pg_sub ho hi set_list ha) fun v σ H Q ⟨G, s, d, r, hd, out⟩ => by
    refine ⟨G, s, r, ?_⟩
    unfold gSt at out
    split at out
    · rename_i od s1 e1
      rw [e1]
      intro G1 H1 ov r1 l1 ho1
      refine ⟨G1, s1, r1, ?_⟩
      split at out
      · rename_i kd s2 e2
        rw [e2]
        intro G2 H2 kv r2 l2 hk2
        split at out
        · split at out
          · split at out
            · rename_i m c
              cases ho1 with
              | ob ho1 =>
                cases hk2
                have ho2 := l2.le.at ho1
                obtain ⟨ws, h3, l3⟩ := r2.f.so _ _ _ ho2 (by assumption)
                refine ⟨_, ws, _, m, rfl, rfl, h3, by rw [← l3.length]; exact c, ?_⟩
                have l4 := l3.set (hd.mono (l1.trans l2).le) m
                have ru := r2.updO (q := .lst _) (o := .lst _) ho2 (by assumption) (fun z => nomatch z) ⟨_, upd_same, l4⟩
                refine out G2 σ _ ru.1 ((l1.trans l2).trans ru.2) (frameOk.refl _ _)
            · exact out.elim
          · exact out.elim
        · exact out.elim
      · exact out.elim
    · exact out.elim

/-! ### methods of built-in types -/
def tyD (st : List SO) : D → Option String
  | .str _ => some "str"
  | .lst _ => some "list"
  | .ob n => (match st[n]? with
    | some (.lst _) => some "list"
    | some (.dic _ _) => some "dict"
    | _ => none)
  | .dic _ _ => some "dict"
  | _ => none
theorem Rel.tyV {G : Wd} {s : S} {σ : L2.St} {H : Hp} {K : PySem.W.Frag} (r : Rel j G s σ H) {d : D} {v : V} {T : String} (h : Has j.B G d v) (e : tyD s.st d = some T) : tyV K T v H := by
  cases h with
  | str x => cases e; rfl
  | lst h l => cases e; exact .inl ⟨rfl, _, SqL.of (r.f.le _ _ h)⟩
  | dic h q l => cases e; exact .inr (.inr (.inl ⟨rfl, .inl ⟨_, r.f.le _ _ h⟩⟩))
  | @ob n a h =>
    have e' : (match s.st[n]? with
      | some (.lst _) => some "list"
      | some (.dic _ _) => some "dict"
      | _ => none) = some T := e
    split at e'
    · cases e'
      rename_i q
      obtain ⟨vs, h1, _⟩ := r.f.so n a _ h q
      exact .inl ⟨rfl, vs, SqL.of h1⟩
    · cases e'
      rename_i q
      obtain ⟨kvs, h1, _⟩ := r.f.so n a _ h q
      exact .inr (.inr (.inl ⟨rfl, .inl ⟨kvs, h1⟩⟩))
    · cases e'
  | _ => cases e
def ansM (s : S) : Option (D × List SO) → Out D
  | some (d, st) => .ok d { s with st := st }
  | none => .no
def dBM (T : String) (f : List SO → D → List D → Option (D × List SO)) (do_ : DenE) (das : DenA) : DenE := fun s => (do_ s).bind fun x s1 => if tyD s1.st x = some T then (das s1).bind fun ds s2 => ansM s2 (f s2.st x ds) else .no
def MtS (j : Cj) (r : V → List V → Hp → VK → Prop) (f : List SO → D → List D → Option (D × List SO)) : Prop := ∀ (σ : L2.St) (G : Wd) (s : S) (H : Hp) (x : V) (xs : List V) (dx : D) (ds : List D) (d : D) (st' : List SO) (Q : V → Hp → Prop), Rel j G s σ H → Has j.B G dx x → HasL j.B G ds xs → f s.st dx ds = some (d, st') →
  (∀ G' H' v, Rel j G' { s with st := st' } σ H' → Ext j.B G H G' H' → Has j.B G' d v → Q v H') → r x xs H Q
variable {T id : String} {r : V → List V → Hp → VK → Prop} {name : Str} {apos cpos : Pos} {o : Expr} {do_ : DenE} {f : List SO → D → List D → Option (D × List SO)}
theorem de_bm (pa : PlainAttrs T) (slot : Slot T name id) (hty : typeOf (.builtin id) = pure (.type "method_descriptor")) (hm : MtR X id r) (hs : MtS j r f) (ho : DE X j o do_) (ha : DA X j (e :: es) das)
    (hbase : attributeBase o name X.env (eval o X.env) = eval o X.env := by rfl)
    (hfew : ((backTo cpos (starEach (e :: es) X.env)).all (fun x => !x.1) && (backToKw cpos (keywordEach [] X.env)).all (fun x => x.1.isSome)
      && decide ((e :: es).length + ([] : List Keyword).length + (if ([] : List Keyword).isEmpty then 0 else 1) < 30)) = true := by rfl)
    (hline : (apos.endLine == cpos.line) = true := by rfl) (hsx : starEach (e :: es) X.env = (false, eval e X.env) :: starEach es X.env := by rfl) (hplain : (backTo cpos (starEach es X.env)).any (·.1) = false := by rfl) :
    DE X j (.Call (.Attribute o name apos) (e :: es) [] cpos) (dBM T f do_ das) :=
  PE.imp (pe_bm pa slot hty hm ho ha hbase hfew hline hsx hplain) fun σ H Q ⟨G, s, r, out⟩ => ⟨G, s, r, outG.imp (outG.bind (R := Has j.B) out) fun x H1 ⟨G1, s1, d, r1, l1, h1, o1⟩ => by
    split at o1
    · rename_i c
      refine ⟨r1.tyV h1 c, G1, s1, r1, outG.imp (outG.bind (R := HasL j.B) o1) fun xs H2 ⟨G2, s2, ds, r2, l2, h2, o2⟩ => ?_⟩
      cases e : f s2.st d ds with
      | none => rw [e] at o2; exact o2.elim
      | some q =>
        obtain ⟨d', st'⟩ := q
        rw [e] at o2
        exact hs σ G2 s2 H2 x xs d ds d' st' Q r2 (h1.mono l2.le) h2 e fun G' H' v r' l' k => o2 G' H' v r' l' k
    · exact o1.elim⟩
theorem de_bm0 (pa : PlainAttrs T) (slot : Slot T name id) (hty : typeOf (.builtin id) = pure (.type "method_descriptor")) (hm : MtR X id r) (hs : MtS j r f) (ho : DE X j o do_)
    (hbase : attributeBase o name X.env (eval o X.env) = eval o X.env := by rfl) (hline : (apos.endLine == cpos.line) = true := by rfl) : DE X j (.Call (.Attribute o name apos) [] [] cpos) (dBM T f do_ aNil) :=
  PE.imp (pe_bm0 pa slot hty hm ho hbase hline) fun σ H Q ⟨G, s, r, out⟩ => ⟨G, s, r, outG.imp (outG.bind (R := Has j.B) out) fun x H1 ⟨G1, s1, d, r1, l1, h1, o1⟩ => by
    split at o1
    · rename_i c
      refine ⟨r1.tyV h1 c, ?_⟩
      have o2 : outG j (Has j.B) σ G1 H1 (ansM s1 (f s1.st d [])) Q := o1
      cases e : f s1.st d [] with
      | none => rw [e] at o2; exact o2.elim
      | some q =>
        obtain ⟨d', st'⟩ := q
        rw [e] at o2
        exact hs σ G1 s1 H1 x [] d [] d' st' Q r1 h1 .nil e fun G' H' v r' l' k => o2 G' H' v r' l' k
    · exact o1.elim⟩
def mAppend : List SO → D → List D → Option (D × List SO) := fun st x ds => match x, ds with
  | .ob n, [d] => (match st[n]? with
    | some (.lst es) => if es.length < sizeLine then some (.non, st.set n (.lst (es ++ [d]))) else none
    | _ => none)
  | _, _ => none
theorem ms_append : MtS j rAppend mAppend := by
  intro σ G s H x xs dx ds d st' Q r hx hl e q
  unfold mAppend at e
  split at e
  · split at e
    · split at e
      · rename_i c
        cases e
        obtain ⟨v, rfl, h⟩ := hl.one
        cases hx with
        | ob hx =>
          obtain ⟨vs, h1, l1⟩ := r.f.so _ _ _ hx (by assumption)
          have l4 := l1.append (.cons h .nil)
          have ru := r.updO (q := .lst _) (o := .lst _) hx (by assumption) (fun z => nomatch z) ⟨_, upd_same, l4⟩
          exact ⟨_, vs, v, rfl, rfl, h1, by rw [← l1.length]; exact c, q G _ .non ru.1 ru.2 .non⟩
      · cases e
    · cases e
  · cases e
end
end DL
end

section
set_option maxHeartbeats 4000000
/-! DL part 7: sources, loops, comprehensions. -/
namespace DL
open PySem PySem.Spec PyProof.Rows L2

/-- what a loop walks: the items, and the mutable lists that must stand still while it walks -/
structure Src where
  ds : List D
  lk : List (Nat × List D)
def lockOk (lk : List (Nat × List D)) (s : S) : Prop := ∀ p ∈ lk, s.st[p.1]? = some (SO.lst p.2)
theorem lockOk_nil (s : S) : lockOk [] s := fun _ h => by simp at h
/-- the iterator J tells the items ds, as long as the locks hold -/
def Yields (j : Cj) (J : It) (G : Wd) (lk : List (Nat × List D)) (ds : List D) : Prop := ∀ (i : Nat) (G' : Wd) (s : S) (σ : L2.St) (H : Hp), G.le G' → Rel j G' s σ H → lockOk lk s →
  (∀ d, ds[i]? = some d → J.go i H ∧ ∀ x H', J.yld i H x H' → ∃ G'', Rel j G'' s σ H' ∧ Ext j.B G' H G'' H' ∧ Has j.B G'' d x) ∧ (i = ds.length → J.stop i H)
def outI (j : Cj) (σ : L2.St) (G : Wd) (H : Hp) : Out Src → (It → Hp → Prop) → Prop
  | .ok r s', Q => ∀ G' H' J, Rel j G' s' σ H' → Ext j.B G H G' H' → lockOk r.lk s' → Yields j J G' r.lk r.ds → Q J H'
  | .er x s', _ => ∀ G' H' dd, Rel j G' s' σ H' → Ext j.B G H G' H' → ExnOk j.B G' H' x dd → H dd = none → j.W (.ref (j.B.cA x.c)) (some dd) σ H'
  | .no, _ => False
abbrev DenI := S → Out Src
def TIt (j : Cj) (den : DenI) : TI := fun σ H R => ∃ G s, Rel j G s σ H ∧ outI j σ G H (den s) R
def DI (X : Cx) (j : Cj) (tg iter : Expr) (den : DenI) : Prop := PI X tg iter (TIt j den)
theorem PI.imp {X : Cx} {tg e : Expr} {t t' : TI} (h : PI X tg e t) (k : ∀ σ H R, t' σ H R → t σ H R) : PI X tg e t' := ⟨fun pins s σ H R I q => h.run pins s σ H R I (k σ H R q)⟩
theorem PI.or {X : Cx} {tg e : Expr} {t t' : TI} (h : PI X tg e t) (h' : PI X tg e t') : PI X tg e (fun σ H R => t σ H R ∨ t' σ H R) := ⟨fun pins s σ H R I q => q.elim (h.run pins s σ H R I) (h'.run pins s σ H R I)⟩
theorem outI.bind {j : Cj} {α β : Type} {R : Wd → α → β → Prop} {σ : L2.St} {G : Wd} {H : Hp} {o : Out α} {f : α → S → Out Src} {Q : It → Hp → Prop} (h : outI j σ G H (o.bind f) Q) :
    outG j R σ G H o fun x H1 => ∃ G1 s1 a, Rel j G1 s1 σ H1 ∧ Ext j.B G H G1 H1 ∧ R G1 a x ∧ outI j σ G1 H1 (f a s1) Q := by
  cases o with
  | ok a s =>
    intro G' H' y r l q
    refine ⟨G', s, a, r, l, q, ?_⟩
    have h' : outI j σ G H (f a s) Q := h
    cases e : f a s with
    | ok r2 s2 => rw [e] at h'; exact fun G2 H2 J q1 q2 q3 q4 => h' G2 H2 J q1 (l.trans q2) q3 q4
    | er x s2 => rw [e] at h'; exact fun G2 H2 dd q1 q2 q3 n => h' G2 H2 dd q1 (l.trans q2) q3 (l.back n)
    | no => rw [e] at h'; exact h'
  | er x s => exact h
  | no => exact h
/-- a list or a tuple as a source -/
def srcD (st : List SO) (d : D) : Option Src := match d with
  | .lst ds => some ⟨ds, []⟩
  | .tup ds => some ⟨ds, []⟩
  | .str z => some ⟨z.cps.toList.map fun c => .str ⟨#[c]⟩, []⟩
  | .ob n => (match st[n]? with
    | some (.lst ds) => some ⟨ds, [(n, ds)]⟩
    | _ => none)
  | _ => none
def ansI (o : Option Src) (s : S) : Out Src := match o with
  | some r => .ok r s
  | none => .no
def iSeq (de : DenE) : DenI := fun s => (de s).bind fun d s1 => ansI (srcD s1.st d) s1
section
variable {X : Cx} {j : Cj} {pos : Pos} {tg e : Expr} {de : DenE}
theorem yields_list {G : Wd} {ds : List D} {a : Addr} {vs : List V} (h : G.Fz a = some (.lst vs)) (l : HasL j.B G ds vs) : Yields j (Itl j.B.K a) G [] ds := by
  intro i G' s σ H le r _
  have q : SqL j.B.K H a vs := SqL.of (r.f.le _ _ (le.mono _ _ h))
  refine ⟨fun d e => ?_, fun hl => ⟨vs, q, by rw [← l.length]; exact Nat.le_of_eq hl.symm⟩⟩
  obtain ⟨v, e1, e2⟩ := l.getD e
  refine ⟨⟨vs, v, q, e1⟩, fun x H' y => ?_⟩
  obtain ⟨e3, y⟩ := y
  subst e3
  have e4 := y vs q
  rw [e1] at e4
  cases e4
  exact ⟨G', r, .refl G' _, e2.mono le⟩
theorem yields_ob {G : Wd} {ds : List D} {a : Addr} {n : Nat} (h : G.ρ[n]? = some a) : Yields j (Itl j.B.K a) G [(n, ds)] ds := by
  intro i G' s σ H le r lk
  obtain ⟨vs, q0, l⟩ := r.f.so n a _ (le.at h) (lk (n, ds) (by simp))
  have q : SqL j.B.K H a vs := SqL.of q0
  refine ⟨fun d e => ?_, fun hl => ⟨vs, q, by rw [← l.length]; exact Nat.le_of_eq hl.symm⟩⟩
  obtain ⟨v, e1, e2⟩ := l.getD e
  refine ⟨⟨vs, v, q, e1⟩, fun x H' y => ?_⟩
  obtain ⟨e3, y⟩ := y
  subst e3
  have e4 := y vs q
  rw [e1] at e4
  cases e4
  exact ⟨G', r, .refl G' _, e2⟩
theorem yields_tup {G : Wd} {ds : List D} {a : Addr} {vs : List V} (h : SqT j.B.K G.Fz a vs) (l : HasL j.B G ds vs) : Yields j (Itt j.B.K a) G [] ds := by
  intro i G' s σ H le r _
  have q : SqT j.B.K H a vs := SqT.mono r.f.le (SqT.mono le.mono h)
  refine ⟨fun d e => ?_, fun hl => ⟨vs, q, by rw [← l.length]; exact Nat.le_of_eq hl.symm⟩⟩
  obtain ⟨v, e1, e2⟩ := l.getD e
  refine ⟨⟨vs, v, q, e1⟩, fun x H' y => ?_⟩
  obtain ⟨e3, y⟩ := y
  subst e3
  have e4 := y vs q
  rw [e1] at e4
  cases e4
  exact ⟨G', r, .refl G' _, e2.mono le⟩
theorem yields_str {G : Wd} {z : Str} : Yields j (Its z) G [] (z.cps.toList.map fun c => .str ⟨#[c]⟩) := by
  intro i G' s σ H le r _
  refine ⟨fun d e => ?_, fun hl => Nat.le_of_eq (by simpa using hl.symm : z.cps.size = i)⟩
  rw [List.getElem?_map] at e
  obtain ⟨c, e1, e2⟩ := Option.map_eq_some_iff.mp e
  subst e2
  have e1' : z.cps[i]? = some c := by simpa using e1
  refine ⟨(Array.getElem?_eq_some_iff.mp e1').1, fun x H' y => ?_⟩
  obtain ⟨e3, c2, e4, e5⟩ := y
  subst e3 e5
  rw [e1'] at e4
  cases e4
  exact ⟨G', r, .refl G' _, .str _⟩
theorem di_seq (hK : X.K = j.B.K) (he : DE X j e de) : DI X j tg e (iSeq de) :=
  PI.imp (PI.or (pi_list he) (PI.or (pi_tup he) (pi_str he))) fun σ H R ⟨G, s, r, o⟩ => by
    -- which of the three: by the datum
    unfold iSeq at o
    cases ed : de s with
    | no => rw [ed] at o; exact o.elim
    | er x s' => rw [ed] at o; exact .inl ⟨G, s, r, by rw [ed]; exact o⟩
    | ok d s' =>
      rw [ed] at o
      have o' : outI j σ G H (ansI (srcD s'.st d) s') R := o
      cases d with
      | lst ds => exact .inl ⟨G, s, r, by
          rw [ed]
          intro G1 H1 v r1 l1 h1
          cases h1 with
          | lst h l => exact ⟨_, rfl, ⟨_, SqL.of (r1.f.le _ _ h)⟩, by rw [hK]; exact o' G1 H1 _ r1 l1 (lockOk_nil _) (yields_list h l)⟩⟩
      | tup ds => exact .inr (.inl ⟨G, s, r, by
          rw [ed]
          intro G1 H1 v r1 l1 h1
          cases h1 with
          | tup h l => exact ⟨_, rfl, ⟨_, by rw [hK]; exact SqT.mono r1.f.le h⟩, by rw [hK]; exact o' G1 H1 _ r1 l1 (lockOk_nil _) (yields_tup h l)⟩⟩)
      | str z => exact .inr (.inr ⟨G, s, r, by
          rw [ed]
          intro G1 H1 v r1 l1 h1
          cases h1
          exact ⟨z, rfl, o' G1 H1 _ r1 l1 (lockOk_nil _) yields_str⟩⟩)
      | ob n => exact .inl ⟨G, s, r, by
          rw [ed]
          intro G1 H1 v r1 l1 h1
          cases h1 with
          | ob h =>
            have o2 : outI j σ G H (ansI (match s'.st[n]? with | some (.lst ds) => some ⟨ds, [(n, ds)]⟩ | _ => none) s') R := o'
            split at o2
            · rename_i q2
              obtain ⟨vs, k1, k2⟩ := r1.f.so n _ _ h q2
              exact ⟨_, rfl, ⟨vs, SqL.of k1⟩, by rw [hK]; exact o2 G1 H1 _ r1 l1 (fun p hp => by simp at hp; subst hp; exact q2) (yields_ob h)⟩
            · exact o2.elim⟩
      | _ => exact o'.elim
/-! ### range -/
def rangeD (lo : Int) (n : Nat) : List D := (List.range n).map fun (i : Nat) => D.int (lo + (i : Int))
theorem yields_range {G : Wd} {lo : Int} {n : Nat} : Yields j (Itr lo n) G [] (rangeD lo n) := by
  intro i G' s σ H le r _
  refine ⟨fun d e => ?_, fun hl => Nat.le_of_eq (by simpa [rangeD] using hl.symm : n = i)⟩
  unfold rangeD at e
  rw [List.getElem?_map] at e
  obtain ⟨k, e1, e2⟩ := Option.map_eq_some_iff.mp e
  subst e2
  have hi : i < n := by
    have := (List.getElem?_eq_some_iff.mp e1).1
    simpa using this
  rw [List.getElem?_range hi] at e1
  cases e1
  refine ⟨hi, fun x H' y => ?_⟩
  obtain ⟨e3, e4⟩ := y
  subst e3 e4
  exact ⟨G', r, .refl G' _, .int _⟩
def in62 (i : Int) : Bool := decide (-(2 ^ 62) ≤ i ∧ i < 2 ^ 62)
def iRange1 (das : DenA) : DenI := fun s => (das s).bind fun ds s1 => match ds with
  | [.int k] => if in62 k = true then .ok ⟨rangeD 0 k.toNat, []⟩ s1 else .no
  | _ => .no
def iRange2 (das : DenA) : DenI := fun s => (das s).bind fun ds s1 => match ds with
  | [.int i, .int k] => if in62 i = true ∧ in62 k = true then .ok ⟨rangeD i (k - i).toNat, []⟩ s1 else .no
  | _ => .no
variable {a b : Expr} {p : Pos} {das : DenA}
theorem in62_ok {i : Int} (h : in62 i = true) : -(2 ^ 62) ≤ i ∧ i < 2 ^ 62 := by
  unfold in62 at h
  rw [decide_eq_true_eq] at h
  exact h
theorem di_range1 (hg : Gl X "range") (hm : X.mg "range" = none) (ha : DA X j [a] das) (hs : starEach [a] X.env = [(false, eval a X.env)] := by rfl) : DI X j tg (.Call (.Name "range" p) [a] [] pos) (iRange1 das) :=
  PI.imp (pi_range1 hg hm ha hs) fun σ H R ⟨G, s, r, o⟩ => ⟨G, s, r, outG.imp (outI.bind (R := HasL j.B) o) fun xs H1 ⟨G1, s1, ds, r1, l1, h1, o1⟩ => by
    split at o1
    · obtain ⟨v, rfl, h⟩ := h1.one
      cases h
      split at o1
      · rename_i c
        exact ⟨_, rfl, (in62_ok c).1, (in62_ok c).2, o1 G1 H1 _ r1 (.refl G1 H1) (lockOk_nil _) yields_range⟩
      · exact o1.elim
    · exact o1.elim⟩
theorem di_range2 (hg : Gl X "range") (hm : X.mg "range" = none) (ha : DA X j [a, b] das) (hs : starEach [a, b] X.env = [(false, eval a X.env), (false, eval b X.env)] := by rfl) (hs2 : starEach [b] X.env = [(false, eval b X.env)] := by rfl) : DI X j tg (.Call (.Name "range" p) [a, b] [] pos) (iRange2 das) :=
  PI.imp (pi_range2 hg hm ha hs hs2) fun σ H R ⟨G, s, r, o⟩ => ⟨G, s, r, outG.imp (outI.bind (R := HasL j.B) o) fun xs H1 ⟨G1, s1, ds, r1, l1, h1, o1⟩ => by
    split at o1
    · obtain ⟨v, w, rfl, h, h'⟩ := h1.two
      cases h
      cases h'
      split at o1
      · rename_i c
        obtain ⟨c1, c2⟩ := in62_ok c.1
        obtain ⟨c3, c4⟩ := in62_ok c.2
        exact ⟨_, _, rfl, ⟨c1, c2, c3, c4⟩, o1 G1 H1 _ r1 (.refl G1 H1) (lockOk_nil _) yields_range⟩
      · exact o1.elim
    · exact o1.elim⟩

/-! ### for -/
open Classical in
noncomputable def forL (lk : List (Nat × List D)) (g : DenG) (body : DenS) : List D → DenS
  | [] => fun s => if lockOk lk s then .ok .nx s else .no
  | d :: ds => fun s => if lockOk lk s then bindU (g d s) fun s1 => match body s1 with
      | .ok .nx s2 => forL lk g body ds s2
      | .ok .ct s2 => forL lk g body ds s2
      | .ok .bk s2 => .ok .nx s2
      | .ok (.rt v) s2 => .ok (.rt v) s2
      | .er x s2 => .er x s2
      | .no => .no
    else .no
noncomputable def sFor (src : DenI) (g : DenG) (body : DenS) : DenS := fun s => (src s).bind fun r s1 => forL r.lk g body r.ds s1
theorem outS.bindI {σ : L2.St} {G : Wd} {H : Hp} {D : Ends} {o : Out Src} {f : Src → S → Out Fl} (h : outS j σ G H D (o.bind f)) :
    outI j σ G H o fun J H1 => ∃ G1 s1 r, Rel j G1 s1 σ H1 ∧ lockOk r.lk s1 ∧ Yields j J G1 r.lk r.ds ∧ outS j σ G1 H1 D (f r s1) := by
  cases o with
  | ok a s => exact fun G' H' J r l lo y => ⟨G', s, a, r, lo, y, outS.mono h l⟩
  | er x s => exact fun G' H' dd r l q n => h G' σ H' dd r l q n
  | no => exact h
theorem ds_for {iter tg : Expr} {body : List Stmt} {src : DenI} {g : DenG} {db : DenS} (hp : PassesOwn (model X.prog X.w) X.A X.env X.xe) (hc : X.calm = true) (hi : DI X j tg iter src) (hg : DGt X j none tg g) (hb : DSs X j body db)
    (hs : ∀ x, foldedSetIterable iter X.env x = pure x := by intro _; rfl) : DS X j (.For tg iter body [] pos) (sFor src g db) :=
  PS.imp (ps_for hp hc hi hg hb hs) fun D σ H ⟨G, s, r, o⟩ => ⟨G, s, r, by
    have o2 := outS.bindI o
    revert o2
    cases src s with
    | no => exact fun z => z
    | er x s' => exact fun z => z
    | ok q s' =>
      intro o2 G1 H1 J r1 l1 lo y
      obtain ⟨G2, s2, q2, r2, lo2, y2, o3⟩ := o2 G1 H1 J r1 l1 lo y
      clear o2 lo y r1 l1
      refine ⟨fun i m σ' H' => m = q2.ds.length - i ∧ i ≤ q2.ds.length ∧ ∃ G' s', Rel j G' s' σ' H' ∧ G2.le G' ∧ outS j σ' G' H' D (forL q2.lk g db (q2.ds.drop i) s'), ⟨_, rfl, Nat.zero_le _, G2, s2, r2, Wd.le.refl G2, by simpa using o3⟩, ?_⟩
      rintro i m σ' H' ⟨rfl, hi', G', s', r', l', o'⟩
      by_cases hlt : i < q2.ds.length
      · rw [List.drop_eq_getElem_cons hlt] at o'
        unfold forL at o'
        split at o'
        · rename_i lo'
          obtain ⟨y1, y3⟩ := y2 i G' s' σ' H' l' r' lo'
          obtain ⟨go, yl⟩ := y1 _ (List.getElem?_eq_getElem hlt)
          refine .inr ⟨go, fun σ3 H3 => ∃ G3 s3, Rel j G3 s3 σ3 H3 ∧ G2.le G3 ∧ outS j σ3 G3 H3 D (forL q2.lk g db (q2.ds.drop (i + 1)) s3), fun σ3 H3 ⟨G3, s3, r3, l3, o3⟩ => ⟨q2.ds.length - (i + 1), by omega, rfl, hlt, G3, s3, r3, l3, o3⟩, fun x H3 yx => ?_⟩
          obtain ⟨G3, r3, l3, h3⟩ := yl x H3 yx
          refine ⟨G3, s', _, r3, h3, outU.imp (outS.bindU (outS.mono o' l3)) fun σ4 H4 ⟨G4, s4, r4, l4, o4⟩ => ⟨G4, s4, r4, ?_⟩⟩
          have ll : G2.le G4 := l'.trans (l3.le.trans l4.le)
          cases eb : db s4 with
          | no => rw [eb] at o4; exact o4
          | er x s5 => rw [eb] at o4; exact o4
          | ok f s5 =>
            rw [eb] at o4
            cases f with
            | nx => exact fun G5 σ5 H5 r5 l5 => ⟨G5, s5, r5, ll.trans l5.le, outS.mono (outS.cast o4) l5⟩
            | ct => exact fun G5 σ5 H5 r5 l5 => ⟨G5, s5, r5, ll.trans l5.le, outS.mono (outS.cast o4) l5⟩
            | bk => exact o4
            | rt v => exact o4
        · exact o'.elim
      · have e : i = q2.ds.length := by omega
        subst e
        rw [List.drop_length] at o'
        unfold forL at o'
        split at o'
        · rename_i lo'
          exact .inl ⟨(y2 _ G' s' σ' H' l' r' lo').2 rfl, o' G' σ' H' r' (.refl G' H')⟩
        · exact o'.elim⟩

/-! ### comprehensions -/
/-- the slots of the block's own names forgotten -/
def wipeS (sl : List (Option D)) : List Nat → List (Option D)
  | [] => sl
  | v :: vs => (wipeS sl vs).set v none
theorem wipeS_length (sl : List (Option D)) : ∀ vs, (wipeS sl vs).length = sl.length
  | [] => rfl
  | v :: vs => by show ((wipeS sl vs).set v none).length = _; rw [List.length_set, wipeS_length sl vs]
theorem wipeS_some {sl : List (Option D)} {i : Nat} {d : D} : ∀ {vs : List Nat}, (wipeS sl vs)[i]? = some (some d) → sl[i]? = some (some d) ∧ i ∉ vs
  | [], h => ⟨h, by simp⟩
  | v :: vs, h => by
    have h' : ((wipeS sl vs).set v none)[i]? = some (some d) := h
    by_cases hi : v = i
    · subst hi
      by_cases hv : v < (wipeS sl vs).length
      · rw [List.getElem?_set_self hv] at h'; cases h'
      · rw [List.getElem?_eq_none (by simpa using hv)] at h'; cases h'
    · rw [List.getElem?_set_ne hi] at h'
      obtain ⟨h1, h2⟩ := wipeS_some h'
      exact ⟨h1, by simp only [List.mem_cons, not_or]; exact ⟨fun e => hi e.symm, h2⟩⟩
theorem wipe_notin {σ : L2.St} {i : Nat} : ∀ {vs : List Nat}, i ∉ vs → (wipe σ vs)[i]? = σ[i]?
  | [], _ => rfl
  | v :: vs, h => by
    show ((wipe σ vs).set v none)[i]? = _
    rw [List.getElem?_set_ne (fun e => h (by rw [e]; exact List.mem_cons_self)), wipe_notin (fun m => h (List.mem_cons_of_mem _ m))]
theorem wipe_idem (σ : L2.St) (vs : List Nat) : L2.wipe (L2.wipe σ vs) vs = L2.wipe σ vs := by
  refine List.ext_getElem? fun i => ?_
  by_cases h : i ∈ vs
  · have key : ∀ (l : List Nat) (τ : L2.St), i ∈ l → (L2.wipe τ l)[i]? = (τ[i]?).map fun _ => none := by
      intro l
      induction l with
      | nil => intro τ h; simp at h
      | cons v l ih =>
        intro τ h
        show ((L2.wipe τ l).set v none)[i]? = _
        by_cases e : v = i
        · subst e
          by_cases hl : v < τ.length
          · rw [List.getElem?_set_self (by rw [L2.wipe_length]; exact hl), List.getElem?_eq_getElem hl]; rfl
          · rw [List.getElem?_eq_none (by rw [List.length_set, L2.wipe_length]; omega), List.getElem?_eq_none (by omega)]; rfl
        · rw [List.getElem?_set_ne e]
          exact ih τ ((List.mem_cons.mp h).resolve_left (fun z => e z.symm))
    rw [key vs _ h, key vs _ h]
    cases σ[i]? <;> rfl
  · rw [wipe_notin h]
theorem Rel.wipe {G : Wd} {s : S} {σ : L2.St} {H : Hp} (r : Rel j G s σ H) (vs : List Nat) : Rel j G { s with sl := wipeS s.sl vs } (L2.wipe σ vs) H :=
  r.forget (by rw [wipeS_length, L2.wipe_length, r.ln]) fun i d e => by
    obtain ⟨h1, h2⟩ := wipeS_some e
    exact ⟨h1, wipe_notin h2⟩
/-- the wish does not matter to the relation -/
abbrev Cj.calm (j : Cj) : Cj := { j with W := fun _ _ _ _ => False }
theorem Rel.cv {G : Wd} {s : S} {σ : L2.St} {H : Hp} {W : WX} (r : Rel j G s σ H) : Rel { j with W := W } G s σ H := ⟨r.f, r.e, r.b, r.ln, r.sl⟩
theorem Rel.vc {G : Wd} {s : S} {σ : L2.St} {H : Hp} {W : WX} (r : Rel { j with W := W } G s σ H) : Rel j G s σ H := ⟨r.f, r.e, r.b, r.ln, r.sl⟩
/-- o, then f; no exception -/
def bindN {α β : Type} (o : Out α) (f : α → S → Out β) : Out β := match o with
  | .ok a s => f a s
  | _ => .no
open Classical in
noncomputable def compL (lk : List (Nat × List D)) (vs : List Nat) (g : DenG) (t : DenT) (e : DenE) : List D → List D → S → Out (List D)
  | [], acc => fun s => if lockOk lk s then .ok acc s else .no
  | d :: ds, acc => fun s => if lockOk lk s then bindU (g d s) fun s1 => bindN (t s1) fun c s2 => if c = true then bindN (e s2) fun y s3 => if acc.length < sizeLine then compL lk vs g t e ds (acc ++ [y]) { s3 with sl := wipeS s3.sl vs } else .no
      else compL lk vs g t e ds acc { s2 with sl := wipeS s2.sl vs }
    else .no
noncomputable def dComp (src : DenI) (vs : List Nat) (g : DenG) (t : DenT) (e : DenE) : DenA := fun s => (src s).bind fun r s1 => (compL r.lk vs g t e r.ds [] { s1 with sl := wipeS s1.sl vs }).bind fun acc s2 => .ok acc { s2 with sl := s1.sl }
/-- tests of a clause -/
def DTs (X : Cx) (j : Cj) (ifs : List Expr) (t : DenT) : Prop := PTs X ifs (toTT j t)
def tTrue : DenT := fun s => .ok true s
theorem PTs.imp {X : Cx} {ifs : List Expr} {t t' : TT} (h : PTs X ifs t) (k : ∀ σ H Q, t' σ H Q → t σ H Q) : PTs X ifs t' := ⟨fun pins s σ H Q I q => h.run pins s σ H Q I (k σ H Q q)⟩
theorem dts_nil : DTs X j [] tTrue := PTs.imp pts_nil fun σ H Q ⟨G, s, r, o⟩ => o G H _ r (.refl G H) rfl
theorem dts_one {c : Expr} {t : DenT} (h : DT X j c t) : DTs X j [c] t := pts_one h
theorem outF.bindI {σ : L2.St} {G : Wd} {H : Hp} {o : Out Src} {f : Src → S → Out (List D)} {Q : V → Hp → Prop} (h : outF j σ G H (o.bind f) Q) :
    outI j σ G H o fun J H1 => ∃ G1 s1 r, Rel j G1 s1 σ H1 ∧ lockOk r.lk s1 ∧ Yields j J G1 r.lk r.ds ∧ outF j σ G1 H1 (f r s1) Q := by
  cases o with
  | ok a s => exact fun G' H' J r l lo y => ⟨G', s, a, r, lo, y, outF.mono h l⟩
  | er x s => exact fun G' H' dd r l q n => h G' H' dd r l q n
  | no => exact h
/-- what a step without exceptions makes sure -/
theorem okN {α β : Type} {R : Wd → α → β → Prop} {σ : L2.St} {G : Wd} {H : Hp} {o : Out α} {P : β → Hp → Prop} {a : α} {s : S} (e : o = .ok a s) (h : ∀ G' H' y, Rel j G' s σ H' → Ext j.B G H G' H' → R G' a y → P y H') : outG j R σ G H o P := by
  subst e
  exact h
theorem bindN_ok {α β : Type} {o : Out α} {f : α → S → Out β} {r : Out β} (h : bindN o f = r) (n : r ≠ .no) : ∃ a s, o = .ok a s ∧ f a s = r := by
  cases o with
  | ok a s => exact ⟨a, s, rfl, h⟩
  | er x s => exact absurd h.symm n
  | no => exact absurd h.symm n
theorem bindU_ok {β : Type} {o : Out Unit} {f : S → Out β} {r : Out β} (h : bindU o f = r) (n : r ≠ .no) : ∃ s, o = .ok () s ∧ f s = r := by
  cases o with
  | ok a s => exact ⟨s, rfl, h⟩
  | er x s => exact absurd h.symm n
  | no => exact absurd h.symm n
/-- the new list of a comprehension, known to nobody -/
structure CompAt (j : Cj) (G : Wd) (H : Hp) (A : Addr) (acc : List DL.D) : Prop where
  lst : ∃ vs, H A = some (.lst vs) ∧ HasL j.B G acc vs
  h0 : j.H0 A = none
  nf : G.Fz A = none
  nr : A ∉ G.ρ
  nt : A ∉ j.B.ta
theorem CompAt.ext {G G' : Wd} {H H' : Hp} {A : Addr} {acc : List DL.D} (c : CompAt j G H A acc) (e : Ext j.B G H G' H') : CompAt j G' H' A acc := by
  obtain ⟨vs, h, l⟩ := c.lst
  refine ⟨⟨vs, e.keep A _ h c.nr c.nt, l.mono e.le⟩, c.h0, ?_, fun m => ?_, c.nt⟩
  · cases q : G'.Fz A with
    | none => rfl
    | some o =>
      rcases e.newF A (by rw [q]; simp) with z | z | z
      · exact absurd c.nf z
      · rw [h] at z; cases z
      · exact absurd z c.nr
  · rcases e.newR A m with z | z
    · exact c.nr z
    · rw [h] at z; cases z
/-- the list grows -/
theorem CompAt.grow {G : Wd} {s : S} {σ : L2.St} {H : Hp} {A : Addr} {acc : List DL.D} {d : DL.D} {v : V} {vs : List V} (r : Rel j G s σ H) (c : CompAt j G H A acc) (hA : H A = some (.lst vs)) (l : HasL j.B G acc vs) (h : Has j.B G d v) :
    Rel j G s σ (L2.upd H A (.lst (vs ++ [v]))) ∧ CompAt j G (L2.upd H A (.lst (vs ++ [v]))) A (acc ++ [d]) := by
  have kp : ∀ b x, b ≠ A → H b = some x → L2.upd H A (.lst (vs ++ [v])) b = some x := fun b x hb e => by rw [upd_ne hb]; exact e
  have na : ∀ {b u}, H b = some u → (∀ ws, u ≠ .lst ws) → b ≠ A := fun {b u} e n z => by rw [z, hA] at e; cases e; exact n _ rfl
  refine ⟨⟨⟨fun a x e => kp a x (fun z => by rw [z, c.nf] at e; cases e) (r.f.le a x e), r.f.len, fun n a o e1 e2 => (r.f.so n a o e1 e2).mono (.refl G) fun u => kp a u fun z => c.nr (z ▸ List.mem_of_getElem? e1), r.f.nd, r.f.ap,
    tabs_keep r.f.tb fun b x e k => kp b x (na e fun ws z => by rcases k with ⟨_, k⟩ | ⟨_, k⟩ <;> (rw [z] at k; cases k)) e, fun a m => ?_⟩,
    ⟨r.e.le, r.e.newF, r.e.newR, fun b x e nb nt => kp b x (fun z => by rw [z, c.h0] at e; cases e) (r.e.keep b x e nb nt), fun b z => ?_⟩, r.b, r.ln, r.sl⟩, ⟨_, upd_same, l.append (.cons h .nil)⟩, c.h0, c.nf, c.nr, c.nt⟩
  · obtain ⟨h1, h2, x, e⟩ := r.f.tF a m
    exact ⟨h1, h2, x, kp a x (fun z => c.nt (z ▸ m)) e⟩
  · by_cases hb : b = A
    · rw [hb, upd_same]; simp
    · rw [upd_ne hb]; exact r.e.there b z
theorem lc_ok {vs : List Nat} {src : DenI} {g : DenG} {t : DenT} {de : DenE} {σ : L2.St} {H : Hp} {Q : VK}
    (h : ∃ G s, Rel j G s σ H ∧ outF j σ G H (dComp src vs g t de s) Q) : tLc (TIt j src) (TGt j.calm (some vs) g) (toTT j.calm t) (toTE j.calm de) vs σ H Q := by
  obtain ⟨G, s, r, o⟩ := h
  refine ⟨G, s, r, ?_⟩
  have o2 := outF.bindI o
  revert o2
  cases src s with
  | no => exact fun z => z
  | er x s' => exact fun z => z
  | ok q s' =>
    intro o2 G1 H1 J r1 l1 lo y A hA
    obtain ⟨G2, s2, q2, r2, lo2, y2, o3⟩ := o2 G1 H1 J r1 l1 lo y
    clear o2 lo y r1 l1 o r
    obtain ⟨rn, en, a0, w0, e0, f1, f2, f3, f4, f5, f6, f7⟩ := r2.freshL (ds := []) hA .nil
    cases e0
    have c0 : CompAt j G2 (L2.upd H1 A (.lst [])) A [] := ⟨⟨_, f1, f2⟩, f3, f4, f5, f6⟩
    -- what is left of the loop ends well
    refine ⟨fun i m H' => m = q2.ds.length - i ∧ i ≤ q2.ds.length ∧ ∃ G' s' acc, Rel j G' s' (L2.wipe σ vs) H' ∧ Ext j.B G2 H1 G' H' ∧ CompAt j G' H' A acc ∧
      outF j σ G2 H1 ((compL q2.lk vs g t de (q2.ds.drop i) acc s').bind fun acc s3 => .ok acc { s3 with sl := s2.sl }) Q, ⟨_, rfl, Nat.zero_le _, G2, _, [], rn.wipe vs, en, c0, by simpa using o3⟩, ?_⟩
    rintro i m H' ⟨rfl, hi', G', s', acc, r', e', c', o'⟩
    by_cases hlt : i < q2.ds.length
    · rw [List.drop_eq_getElem_cons hlt] at o'
      unfold compL at o'
      split at o'
      · rename_i lo'
        obtain ⟨y1, _⟩ := y2 i G' s' _ H' e'.le r' lo'
        obtain ⟨go, yl⟩ := y1 _ (List.getElem?_eq_getElem hlt)
        refine .inr ⟨go, fun H3 => ∃ G3 s3 acc3, Rel j G3 s3 (L2.wipe σ vs) H3 ∧ Ext j.B G2 H1 G3 H3 ∧ CompAt j G3 H3 A acc3 ∧
          outF j σ G2 H1 ((compL q2.lk vs g t de (q2.ds.drop (i + 1)) acc3 s3).bind fun acc s3 => .ok acc { s3 with sl := s2.sl }) Q, fun H3 ⟨G3, s3, acc3, r3, e3, c3, o3⟩ => ⟨q2.ds.length - (i + 1), by omega, rfl, hlt, G3, s3, acc3, r3, e3, c3, o3⟩, fun x H3 yx => ?_⟩
        obtain ⟨G3, r3, e3, h3⟩ := yl x H3 yx
        refine ⟨G3, s', _, r3.cv, h3, ?_⟩
        cases eg : g q2.ds[i] s' with
        | no => rw [eg] at o'; exact o'.elim
        | er x s4 => rw [eg] at o'; exact o'.elim
        | ok u s4 =>
          rw [eg] at o'
          intro G4 σ4 H4 r4 e4 fr4
          have hw : L2.wipe σ4 vs = L2.wipe σ vs := Eq.trans fr4 (wipe_idem σ vs)
          refine ⟨hw, G4, s4, r4, ?_⟩
          have o4 : outF j σ G2 H1 ((bindN (t s4) _).bind _) Q := o'
          cases et : t s4 with
          | no => rw [et] at o4; exact o4.elim
          | er x s5 => rw [et] at o4; exact o4.elim
          | ok c s5 =>
            rw [et] at o4
            intro G5 H5 b r5 e5 hb
            cases hb
            have o5 : outF j σ G2 H1 (Out.bind (if c = true then bindN (de s5) _ else _) _) Q := o4
            cases c with
            | false =>
              rw [if_neg Bool.false_ne_true] at o5
              rw [if_neg Bool.false_ne_true]
              have E : Ext j.B G' H' G5 H5 := (e3.trans e4).trans e5
              refine ⟨G5, _, acc, ?_, e'.trans E, c'.ext E, o5⟩
              rw [← hw]
              exact r5.vc.wipe vs
            | true =>
              rw [if_pos rfl] at o5
              rw [if_pos rfl]
              refine ⟨G5, s5, r5, ?_⟩
              cases ed : de s5 with
              | no => rw [ed] at o5; exact o5.elim
              | er x s6 => rw [ed] at o5; exact o5.elim
              | ok d s6 =>
                rw [ed] at o5
                intro G6 H6 v r6 e6 h6
                have E : Ext j.B G' H' G6 H6 := ((e3.trans e4).trans e5).trans e6
                have c6 := c'.ext E
                obtain ⟨ws, w1, w2⟩ := c6.lst
                have o6 : outF j σ G2 H1 (Out.bind (if acc.length < sizeLine then _ else _) _) Q := o5
                split at o6
                · rename_i hz
                  obtain ⟨r7, c7⟩ := c6.grow r6.vc w1 w2 h6
                  refine ⟨ws, w1, by rw [← w2.length]; exact hz, G6, _, _, ?_, ?_, c7, o6⟩
                  · rw [← hw]
                    exact r7.wipe vs
                  · have E2 := e'.trans E
                    have nA : H1 A = none := hA
                    exact ⟨E2.le, E2.newF, E2.newR, fun b o k n1 n2 => by rw [upd_ne (ne_of_none k nA)]; exact E2.keep b o k n1 n2, fun b k => by
                      by_cases hb : b = A
                      · rw [hb, upd_same]; simp
                      · rw [upd_ne hb]; exact E2.there b k⟩
                · exact o6.elim
      · exact o'.elim
    · have e : i = q2.ds.length := by omega
      subst e
      rw [List.drop_length] at o'
      unfold compL at o'
      split at o'
      · rename_i lo'
        refine .inl ⟨(y2 _ G' s' _ H' e'.le r' lo').2 rfl, ?_⟩
        obtain ⟨ws, w1, w2⟩ := c'.lst
        exact o' G' H' (.ref A) ⟨r'.f, r'.e, r'.b, r2.ln, fun k d ek => by
          obtain ⟨v, k1, k2⟩ := r2.sl k d ek
          exact ⟨v, k1, k2.mono e'.le⟩⟩ e' ⟨A, ws, rfl, w1, w2, c'.h0, c'.nf, c'.nr, c'.nt, hA⟩
      · exact o'.elim
variable {scope : Scope} {own : List (Str × Nat)} {src : DenI} {g : DenG} {t : DenT} {iter tg elt : Expr} {ifs : List Expr}
theorem df_lc (hc : X.calm = true) (hN : X.N.Nodup) (hi : DI X j tg iter src) (ok : BlkOk X.N X.env.scope scope own)
    (hg : ∀ (s : Shared) (H : Hp) (C : Addr) (cl : List (Str × Addr)) (fp : List Addr), DGt (X.blk s H scope (compEnvC scope cl C X.env) fp) j.calm (some (own.map (·.2))) tg g)
    (ht : ∀ (s : Shared) (H : Hp) (C : Addr) (cl : List (Str × Addr)) (fp : List Addr), DTs (X.blk s H scope (compEnvC scope cl C X.env) fp) j.calm ifs t)
    (he : ∀ (s : Shared) (H : Hp) (C : Addr) (cl : List (Str × Addr)) (fp : List Addr), DE (X.blk s H scope (compEnvC scope cl C X.env) fp) j.calm elt de) (hs : ∀ x, foldedSetIterable iter X.env x = pure x := by intro _; rfl) :
    DF X j (.ListComp elt [⟨tg, iter, ifs, 0⟩] scope pos) (dComp src (own.map (·.2)) g t de) := PE.imp (pe_lc hc hN hi ok hg ht he hs) fun _ _ _ h => lc_ok h
/-- name = [..]: as a new object of the store, or frozen -/
def sNewC (i : Nat) (das : DenA) : DenS := fun s => (das s).bind fun ds s1 => if i < s1.sl.length then .ok .nx { s1 with sl := s1.sl.set i (some (.ob s1.st.length)), st := s1.st ++ [.lst ds] } else .no
def sFzC (i : Nat) (das : DenA) : DenS := fun s => (das s).bind fun ds s1 => if i < s1.sl.length then .ok .nx { s1 with sl := s1.sl.set i (some (.lst ds)) } else .no
theorem setLc_ok {i : Nat} {das : DenA} {σ : L2.St} {H : Hp} {D : Ends} {G : Wd} {s : S} (r : Rel j G s σ H) (o : outS j σ G H D (sFzC i das s)) : outF j σ G H (das s) fun x H1 => gName i x σ H1 D.nx := by
  unfold sFzC at o
  cases e : das s with
  | no => rw [e] at o; exact o
  | er x s' => rw [e] at o; exact fun G' H' dd r l q n => o G' σ H' dd r l q n
  | ok ds s' =>
    rw [e] at o
    intro G' H' v r' l' f
    have o' : outS j σ G H D (if i < s'.sl.length then _ else _) := o
    split at o'
    · rename_i c
      obtain ⟨G2, r2, l2, h2⟩ := r'.freeze l' f
      exact o' G2 _ H' (r2.set h2 i c) l2
    · exact o'.elim
theorem setLn_ok {i : Nat} {das : DenA} {σ : L2.St} {H : Hp} {D : Ends} {G : Wd} {s : S} (r : Rel j G s σ H) (o : outS j σ G H D (sNewC i das s)) : outF j σ G H (das s) fun x H1 => gName i x σ H1 D.nx := by
  unfold sNewC at o
  cases e : das s with
  | no => rw [e] at o; exact o
  | er x s' => rw [e] at o; exact fun G' H' dd r l q n => o G' σ H' dd r l q n
  | ok ds s' =>
    rw [e] at o
    intro G' H' v r' l' f
    have o' : outS j σ G H D (if i < s'.sl.length then _ else _) := o
    split at o'
    · rename_i c
      obtain ⟨a, vs, rfl, h1, l, n0, n1, n2, n3, n4⟩ := f
      obtain ⟨r2, l2⟩ := r'.push (o := .lst ds) h1 ⟨vs, h1, l⟩ n0 n1 n2 n3
      have ho : Has j.B ⟨G'.Fz, G'.ρ ++ [a]⟩ (.ob s'.st.length) (.ref a) := .ob (by show (G'.ρ ++ [a])[s'.st.length]? = some a; rw [← r'.f.len]; simp)
      refine o' _ _ H' (r2.set ho i c) ⟨l'.le.trans l2, l'.newF, fun b m => ?_, l'.keep, l'.there⟩
      rcases List.mem_append.mp m with m | m
      · exact l'.newR b m
      · simp at m; subst m; exact .inr n4
    · exact o'.elim
variable {i : Nat} {y : Str} {py spos : Pos}
theorem ds_lcF (hc : X.calm = true) (hN : X.N.Nodup) (hy : X.N[i]? = some y) (hyl : X.env.scope.names.lookup y = some .local) (hsw : swapsWith (.ListComp elt [⟨tg, iter, ifs, 0⟩] scope pos) (some (.Name y py)) spos.line X.env = pure true) (hi : DI X j tg iter src) (ok : BlkOk X.N X.env.scope scope own)
    (hg : ∀ (s : Shared) (H : Hp) (C : Addr) (cl : List (Str × Addr)) (fp : List Addr), DGt (X.blk s H scope (compEnvC scope cl C X.env) fp) j.calm (some (own.map (·.2))) tg g)
    (ht : ∀ (s : Shared) (H : Hp) (C : Addr) (cl : List (Str × Addr)) (fp : List Addr), DTs (X.blk s H scope (compEnvC scope cl C X.env) fp) j.calm ifs t)
    (he : ∀ (s : Shared) (H : Hp) (C : Addr) (cl : List (Str × Addr)) (fp : List Addr), DE (X.blk s H scope (compEnvC scope cl C X.env) fp) j.calm elt de) (hs : ∀ x, foldedSetIterable iter X.env x = pure x := by intro _; rfl) :
    DS X j (.Assign [.Name y py] (.ListComp elt [⟨tg, iter, ifs, 0⟩] scope pos) spos) (sFzC i (dComp src (own.map (·.2)) g t de)) :=
  PS.imp (ps_setLc hc hN hy hyl hsw hi ok hg ht he hs) fun D σ H ⟨G, s, r, o⟩ => lc_ok ⟨G, s, r, setLc_ok r o⟩
theorem ds_lcN (hc : X.calm = true) (hN : X.N.Nodup) (hy : X.N[i]? = some y) (hyl : X.env.scope.names.lookup y = some .local) (hsw : swapsWith (.ListComp elt [⟨tg, iter, ifs, 0⟩] scope pos) (some (.Name y py)) spos.line X.env = pure true) (hi : DI X j tg iter src) (ok : BlkOk X.N X.env.scope scope own)
    (hg : ∀ (s : Shared) (H : Hp) (C : Addr) (cl : List (Str × Addr)) (fp : List Addr), DGt (X.blk s H scope (compEnvC scope cl C X.env) fp) j.calm (some (own.map (·.2))) tg g)
    (ht : ∀ (s : Shared) (H : Hp) (C : Addr) (cl : List (Str × Addr)) (fp : List Addr), DTs (X.blk s H scope (compEnvC scope cl C X.env) fp) j.calm ifs t)
    (he : ∀ (s : Shared) (H : Hp) (C : Addr) (cl : List (Str × Addr)) (fp : List Addr), DE (X.blk s H scope (compEnvC scope cl C X.env) fp) j.calm elt de) (hs : ∀ x, foldedSetIterable iter X.env x = pure x := by intro _; rfl) :
    DS X j (.Assign [.Name y py] (.ListComp elt [⟨tg, iter, ifs, 0⟩] scope pos) spos) (sNewC i (dComp src (own.map (·.2)) g t de)) :=
  PS.imp (ps_setLc hc hN hy hyl hsw hi ok hg ht he hs) fun D σ H ⟨G, s, r, o⟩ => lc_ok ⟨G, s, r, setLn_ok r o⟩
end
end DL
end

section
set_option maxHeartbeats 4000000
/-! DL part 8: an own exception's __init__ that begins with super().__init__(text). -/
namespace DL
open PySem PySem.Spec PyProof.Rows L2 NdefX

/-- what the written part holds of the def __init__ of the class at D, run for an object of the class at C -/
structure InitK (P : Program) (K : PySem.W.Frag) (C D f cc : Addr) (F : NF) : Prop where
  lk : ∃ (oc : Value) (od : Option Addr) (sl : Array (Option Value)) (doc pm ctv : Value), K.lookup f = some ⟨oc, od, .func (F.fd doc pm ctv), sl⟩
  cl : F.cl = [(("__class__" : Str), cc)]
  cd : PySem.W.codeIn K (.ref F.c) F.qual = true
  code : ∃ (ccl : Value) (cdd : Option Addr) (vs : Array Value) (ccs : Array (Option Value)) (file : Str) (tf : Tok), K.lookup F.c = some ⟨ccl, cdd, .fields vs, ccs⟩ ∧ vs[2]? = some (.str file tf) ∧ ((P.main.file : Str) == file) = true
  cell : ∃ (cl : Value) (cld : Option Addr) (csl : Array (Option Value)), K.lookup cc = some ⟨cl, cld, .cell (some (.ref D)), csl⟩
  clsD : ∃ cd, PySem.W.clsIn K D = some cd
  sub : PySem.W.mroIn K C (.ref D) = some true
  sup : PySem.W.nsIn K mainGlobals "super" = some none
  tp : PySem.W.nsIn K cStatics "thirdparty.any" = some none
  base : PySem.W.ks_superIn K C D "__init__" = some (some (.builtin "ValueError.__init__"))
  ve : PySem.W.subIn K (.ref C) (.type "ValueError") = some true
  oex : OexC K C
  top : (P.main.scope.names.lookup ("super" : Str)).isSome = false
section
variable {CX : CXT} {P : Program} {w : World} {K : PySem.W.Frag} {mg : Str → Option Value} {base : Heap} {C D f cc : Addr} {F : NF} {N ps : List Str} {k : Nat} {sp : Sp}
/-- such a method-wrapper is called: ValueError.__init__ -/
theorem mw_init {A : Around} {E : Value → Shared → Prop} {h : Heap} {g : Array GenState} {d : Drawn} {t : Nat} {os : OsState} {nm q : Str} {C N : Addr} {bs bm : List Value} {hdct : Bool} {sn : List Str} {sub : List Value} {ab : Bool} {col : Option Bool} {dd : Option Addr} {k0 k1 k2 k3 k5 : Option Value}
    {u e t0 : Addr} {rest : List Value} {Q : Value → Shared → Prop}
    (hC : h.get? C = some (excClassObj nm q C N bs bm hdct sn sub ab col dd k0 k1 k2 k3 k5 "ValueError.__new__")) (he : h.get? e = some (HandSPX.excO C t0)) (hu : h.get? u = some (PySem.W.kxs_mw "ValueError.__init__" e)) (hrest : rest.length ≤ sizeLine)
    (hq : ∀ h' t1, (∀ b o, b ≠ e → h.get? b = some o → h'.get? b = some o) → h'.get? e = some (HandSPX.excO C t1) → Q .none ⟨h', g, d, t, os⟩) : wpAny (model P w) A (call (.ref u) rest) Q E ⟨h, g, d, t, os⟩ := by
  refine wpAny_call (codeAny_of_tree ?_); show wpAny _ A.in1 (callAny (.ref u) ⟨rest, []⟩) _ _ _
  simp only [callAny]; refine wpAny_bind (wpAny_load hu ?_)
  simp only [PySem.W.kxs_mw, show (Value.type "method-wrapper" == Value.type "method" || Value.type "method-wrapper" == Value.type "builtin_function_or_method" || Value.type "method-wrapper" == Value.type "method-wrapper") = true by decide, if_true]
  refine PySem.W.KFB.if_so (by decide) (wpAny_bind (PySem.W.check_bound_init F.excBase_ValueError.toExcCallFacts hC he rfl (wpAny_bind (wpAny_pure (wpAny_pure ?_)))))
  refine ⟨plainId_quiet F.excBase_ValueError.init.plain _, codeAny_builtin F.excBase_ValueError.initEntry ?_⟩
  exact PySem.W.exc_init_tree (cls := .ref C) (t0 := t0) (dv := none) (c2 := .none) (c3 := .none) (b4 := .bool false) he hrest fun h' kk e' _ => hq h' _ kk e'
/-- THE RULE: what comes behind super().__init__(m) is rest -/
theorem init_ok {fd : FuncData} {m : Str} {n : Nat} {p0 p1 p2 p3 p4 p5 : Pos} {rest : List Stmt} {ar : Arg} (I0 : ∀ vs H Q E, sp vs H Q E → ∃ (C : Addr), InitK P K C D f cc F ∧ ∃ (a : Addr) (ws : List V), vs = .ref a :: ws ∧ H a = some (exo a C none))
    (hfd : ∃ (oc : Value) (od : Option Addr) (sl : Array (Option Value)) (doc pm ctv : Value), fd = F.fd doc pm ctv ∧ K.lookup f = some ⟨oc, od, .func (F.fd doc pm ctv), sl⟩)
    (S : NScope N ps ["__class__"] F.scope) (har : (F.params.posonlyargs ++ F.params.args).head? = some ar) (har2 : ps.head? = some ar.arg) (hsu : F.scope.names.lookup ("super" : Str) = some .globalImplicit)
    (hbody : F.body = .Expr (.Call (.Attribute (.Call (.Name "super" p0) [] [] p1) "__init__" p2) [.Constant (.str m) n p3] [] p4) p5 :: rest)
    {pl : Sem Bool} (hev : ∀ L : Addr, eval (.Call (.Attribute (.Call (.Name "super" p0) [] [] p1) "__init__" p2) [.Constant (.str m) n p3] [] p4) (envF F f L) = (do let ov ← attributeBase (.Call (.Name "super" p0) [] [] p1) "__init__" (envF F f L) (eval (.Call (.Name "super" p0) [] [] p1) (envF F f L)); standAt p2.atName; let (g, first) ← holding [ov] (getMethod ov "__init__" pl); callWith p4 g first (backTo p4 (starEach [.Constant (.str m) n p3] (envF F f L))) []))
    (hsw : ∀ L : Addr, swapsWith (.Call (.Attribute (.Call (.Name "super" p0) [] [] p1) "__init__" p2) [.Constant (.str m) n p3] [] p4) none p5.line (envF F f L) = pure false)
    (len : ∀ vs H Q E, sp vs H Q E → vs.length = ps.length)
    (hrest : ∀ (A : Around) (outer : List Env) (s : Shared) (H : Hp) (vs : List V) (Q : VK) (E : XK), Room k (A.deeper (envF F f s.heap.objs.size)) → sp vs H Q E →
      ∃ t, PSs (ncx CX P w K mg base N F f A outer s H E) rest t ∧ t { nx := fun _ H' => Q .non H', rt := Q } (startF N vs [none]) H) : FnOk P w K mg base CX (k + 1) f fd ps sp := by
  refine ⟨len, fun A outer s H args us vs Q E hr e0 hb r hsp => ?_⟩
  obtain ⟨C, IK, a, ws, rfl, ha⟩ := I0 _ _ _ _ hsp
  obtain ⟨oc, od, osl, doc, pm, ctv, rfl, lk⟩ := hfd
  have hl := len _ _ _ _ hsp
  have KX : K.In s.heap := e0.mod.kin.keeps fun b o e => (e0.bs b o e).1
  have lim : s.heap.NoLimit := e0.mod.nolimit.keeps fun b o e => (e0.bs b o e).1
  have Kfree : ∀ {b : Addr} {o : Obj}, K.lookup b = some o → H b = none := fun {b o} e => (e0.bs b o (e0.mod.kin _ _ e)).2
  obtain ⟨cl0, cld, csl, hcell⟩ := IK.cell
  obtain ⟨ccl, cdd, cvs, ccs, file, tf, hcode, hvs, hfile⟩ := IK.code
  obtain ⟨cdD, hclsD⟩ := IK.clsD
  obtain ⟨nm, q0, nN, bs, bm, sn, sub, ab, col, dd, k0, k1, k2, k3, k5, hC, hbm⟩ := IK.oex.cls
  have hcc : ∀ y c, F.cl.lookup y = some c → c = cc := fun y c e => by
    rw [IK.cl] at e
    have e2 := PySem.mem_of_lookup e
    simp at e2
    exact e2.2
  have CA : CellsAt F.cl ["__class__"] [none] s.heap H := ⟨rfl, fun y c e => by rw [hcc y c e]; exact ⟨Kfree hcell, _, _, KX _ _ hcell, rfl⟩, fun x y c e1 e2 => by
    rw [IK.cl] at e1 e2
    have z1 := PySem.mem_of_lookup e1
    have z2 := PySem.mem_of_lookup e2
    simp at z1 z2
    rw [z1.1, z2.1], fun i y e => by
    match i with
    | 0 => simp at e; subst e; exact ⟨cc, by rw [IK.cl] <;> rfl, fun v z => by simp at z⟩
    | i + 1 => simp at e⟩
  refine codeAny_call_function hr.depth (KX _ _ lk) rfl S.co S.gen rfl (PySem.W.codeRec_of KX IK.cd) (hb _ _ _ _ ?_)
  refine wpAny_newFunctionEnv S.nocell (fun ⟨n, _⟩ hy => S.par n (List.of_mem_zip hy).1) (fun h1 hns hsb => ⟨lim.fresh _ hsb, ?_⟩) S.kind
  show codeAny _ _ (.func F.body (envF F f s.heap.objs.size)) _ _
  have kp : ∀ b o, s.heap.get? b = some o → h1.get? b = some o := fun b o e => hsb.extBut b o (Nat.ne_of_lt (Heap.lt_size e)) (Heap.get?_push_of_some _ e)
  obtain ⟨t, ht, hq⟩ := hrest A outer s H _ Q E (hr.deeper _) hsp
  have I : Inv (ncx CX P w K mg base N F f A outer s H E) [] (startF N _ [none]) H { s with heap := h1, toks := s.toks + (ps.zip us).length } := inv_startN S hr.hd e0 hl r CA hns kp
  have K1 : K.In h1 := I.kIn
  have D1 : ∃ oD, h1.get? D = some oD ∧ oD.data = .cls cdD := by
    unfold PySem.W.clsIn at hclsD
    split at hclsD
    · rename_i o1 o2 o3 o4 ho
      cases hclsD
      exact ⟨_, K1 _ _ ho, rfl⟩
    · cases hclsD
  obtain ⟨oD, hD1, hD2⟩ := D1
  obtain ⟨t1, hx⟩ := exo_at I.hok ha
  have IA : PySem.W.InstAt h1 a { cls := .ref C, dict := none, data := .fields #[.ref t1, .none, .none, .none, .bool false, .none] } C none := ⟨hx, rfl, rfl, trivial⟩
  -- the parameter self
  obtain ⟨pr, rfl⟩ : ∃ pr, ps = ar.arg :: pr := by
    cases ps with
    | nil => simp at har2
    | cons x pr => simp at har2; subst har2; exact ⟨pr, rfl⟩
  cases r with
  | @cons _ u0 _ ur ra rw' =>
  obtain rfl : u0 = Value.ref a := ra
  have hself : ((ar.arg :: pr).zip (Value.ref a :: ur)).reverse.lookup ar.arg = some (Value.ref a) := by
    have nd : (ar.arg :: pr).Nodup := by
      have q := S.nd.sublist (List.take_sublist ((ar.arg :: pr).length + 1) N)
      have q2 := S.pre
      rw [show (["__class__"] : List Str).length = 1 from rfl] at q2
      rw [q2] at q
      exact (List.nodup_append.mp q).1
    exact zip_look (i := 0) nd rfl rfl
  refine PySem.ks_codeAny_funcAt ?_
  rw [hbody]
  have hint : interactive (envF F f s.heap.objs.size) = false := by simp [interactive, S.kind]
  refine PySem.ks_wpAt_execs_cons (PySem.ks_wpAt_Expr_any (PySem.ks_wpAt_MethodCall ?_ (hev _)) hint (hsw _))
  have kin : F.scope.kind = .function := S.kind
  have hkc : F.scope.names.lookup ("__class__" : Str) = some .free := S.frk _ (by simp)
  refine PySem.ks_wpAt_super_base (env := envF F f s.heap.objs.size) hsu hkc (by decide) rfl (K1 _ _ lk) rfl har rfl (K1 _ _ hcode) rfl hvs hfile IK.top ?_
  obtain ⟨mb, hb1, hb2⟩ := I.mod.blt
  refine PySem.W.ks_loadName_global kin hsu (Calls.loadGlobal_builtin (env := envF F f s.heap.objs.size) (I.mod.glob.keeps I.bk) (PySem.W.mg_none_of I.mod.kin I.mod.glob IK.sup) (hb1.keeps I.bk) ((hb2 "super" (by decide)).trans PyProof.Rows.Boot.«super») ⟨rfl, ?_⟩)
  refine wpAny_loadName_free kin hkc (show F.cl.lookup ("__class__" : Str) = some cc by rw [IK.cl] <;> rfl) ⟨_, K1 _ _ hcell, rfl⟩ ?_
  have hka : F.scope.names.lookup ar.arg = some .local := S.par _ (by simp)
  refine wpAny_loadName_local kin hka hns hself ?_
  refine PySem.ks_wpAny_isType_cls hD1 hD2 ⟨rfl, PySem.ks_wpAny_call_super hD1 hD2 hx rfl (fun c e => by cases e) (PySem.W.looks_mroIn K1 IK.sub) (fun h2 e2 k2 => ?_)⟩
  have IA2 : PySem.W.InstAt h2 a { cls := .ref C, dict := none, data := .fields #[.ref t1, .none, .none, .none, .bool false, .none] } C none := ⟨k2 _ _ hx, rfl, rfl, trivial⟩
  have K2 : K.In h2 := fun b o z => k2 _ _ (K1 b o z)
  have hcl : PySem.W.clsIn K C = some { name := nm, bases := bs, mro := .ref C :: bm, ns := nN, qualname := q0, hasDict := true, slotNames := sn, subclasses := sub, abstract := ab, collection := col, hasDel := false } := by unfold PySem.W.clsIn; rw [hC] <;> rfl
  have hal := IK.base
  unfold PySem.W.ks_superIn at hal
  rw [hcl] at hal
  refine PySem.W.kxs_getMethod PySem.W.kxs_ValueError e2 (PySem.W.looks_opaque K2 IK.tp) (l₀ := .ref C :: bm) (fun A Q E s k q => wpAny_bind ((PySem.W.looks_clsIn K2 hcl) A _ E s k (wpAny_pure q))) rfl K2 hal (IA2.type.andThen (PySem.W.looks_subIn K2 IK.ve)) (PySem.W.ks_ne K2 IA2 hcl) (by decide) ?_
  have I2 := I.kept (h' := h2) (t' := s.toks + ((ar.arg :: pr).zip (Value.ref a :: ur)).length) k2
  have I3 := I2.kept (h' := h2.push (PySem.W.kxs_mw "ValueError.__init__" a)) (t' := s.toks + ((ar.arg :: pr).zip (Value.ref a :: ur)).length + 1) (fun b o z => Heap.get?_push_of_some _ z)
  have hu : (h2.push (PySem.W.kxs_mw "ValueError.__init__" a)).get? h2.objs.size = some (PySem.W.kxs_mw "ValueError.__init__" a) := Heap.get?_push_size _ rfl
  have nu : H h2.objs.size = none := I2.hok.fresh (Nat.le_refl _)
  have I4 : Inv (ncx CX P w K mg base N F f A outer s H E) [(h2.objs.size, PySem.W.kxs_mw "ValueError.__init__" a)] (startF N (.ref a :: ws) [none]) H ⟨h2.push (PySem.W.kxs_mw "ValueError.__init__" a), s.gens, s.drawn, s.toks + ((ar.arg :: pr).zip (Value.ref a :: ur)).length + 1, s.os⟩ :=
    ⟨I3.ok, I3.os, I3.bare, I3.base, I3.loc, I3.cell, I3.free, I3.freeC, fun p hp => by
      have hp' : p ∈ [(h2.objs.size, PySem.W.kxs_mw "ValueError.__init__" a)] := hp
      simp at hp'
      subst hp'
      exact ⟨hu, nu, fun z => absurd I2.lt (by rw [← z]; exact Nat.lt_irrefl _), I2.nofs (Nat.le_refl _), fun v z => by cases z⟩, I3.hok, I3.len⟩
  show wpAny _ _ (callWith p4 (.ref h2.objs.size) [] (backTo p4 (starEach [.Constant (.str m) n p3] (envF F f s.heap.objs.size))) []) _ _ _
  have he : starEach [.Constant (.str m) n p3] (envF F f s.heap.objs.size) = (false, eval (.Constant (.str m) n p3) (envF F f s.heap.objs.size)) :: starEach [] (envF F f s.heap.objs.size) := rfl
  rw [he]
  have ev := (pa_cons (X := ncx CX P w K mg base N F f A outer s H E) (pe_str (x := m) (j := n) (pos := p3)) pa_nil).run p4 _ _ _ _ (fun vs H1 => vs = [V.str m] ∧ H = H1) I4 ⟨rfl, rfl⟩
  rw [show starEach [.Constant (.str m) n p3] (ncx CX P w K mg base N F f A outer s H E).env = _ from he] at ev
  refine PySem.W.kxs_callWith (i := "ValueError.__init__") (x := a) rfl (Calls.evalArgs_plain (thn ev fun us s2 hh => ?_))
  obtain ⟨vs2, H2, I5, r2, ev2, eH⟩ := hh
  subst ev2
  rw [← eH] at I5
  obtain ⟨hu5, _⟩ := I5.pin (h2.objs.size, PySem.W.kxs_mw "ValueError.__init__" a) (List.mem_append_right _ List.mem_cons_self)
  refine ⟨hu5, ?_⟩
  obtain ⟨t5, hx5⟩ := exo_at I5.hok ha
  obtain ⟨hp5, g5, d5, tk5, os5⟩ := s2
  refine mw_init (I5.kIn _ _ hC) hx5 hu5 (by show us.length ≤ sizeLine; rw [← r2.length, sizeLine_eq]; simp) fun h6 t6 k6 hx6 => ?_
  have I5' : Inv (ncx CX P w K mg base N F f A outer s H E) [] (startF N (.ref a :: ws) [none]) H ⟨hp5, g5, d5, tk5, os5⟩ := ⟨I5.ok, I5.os, I5.bare, I5.base, I5.loc, I5.cell, I5.free, I5.freeC, fun p hp => absurd (show p ∈ ([] : List (Addr × Obj)) from hp) (by simp), I5.hok, I5.len⟩
  have J := I5'.write (t' := tk5) (x := a) (e := a) (o := exo a C none) (by rw [ha]; exact True.intro) (.inl rfl) k6 ⟨_, hx6⟩ (exo_ok hx6)
  have eu : upd H a (exo a C none) = H := by
    funext b
    by_cases hb : b = a
    · rw [hb, upd_same, ha]
    · rw [upd_ne hb]
  rw [eu] at J
  refine wpAt_of_wpAny (wpAny_mono (ht.run [] _ _ H _ J hq) (fun fl s' hs => ?_) fun e s' hs => hs)
  have fin : ∀ {σ' : L2.St} {H' : Hp} {v : V} {u : Value}, Inv (ncx CX P w K mg base N F f A outer s H E) [] σ' H' s' → RelV v u → Q v H' → CE outer P w H s Q u s' := fun {σ' H' v u} J rv q => ⟨v, H', J.os, J.bare, J.base, J.hok, rv, q⟩
  cases fl with
  | ret u =>
    obtain ⟨v, σ', H', J, rv, q⟩ := hs
    exact fin J rv q
  | next =>
    obtain ⟨σ', H', J, q⟩ := hs
    exact fin (v := V.non) (u := Value.none) J rfl q
  | brk =>
    obtain ⟨_, _, _, q⟩ := hs
    exact False.elim q
  | cont =>
    obtain ⟨_, _, _, q⟩ := hs
    exact False.elim q
end
end DL
end

section
set_option maxHeartbeats 4000000
/-! DL part 9: raise of own exceptions with one field; a def by its body. -/
namespace DL
open PySem PySem.Spec PyProof.Rows L2 NdefX

/-- what __init__(self, x): super().__init__(text); self.fl = x does -/
def spInit1 (C : Addr) (fl : Str) : Sp := fun vs H Q _ => ∃ (a : Addr) (p : V), vs = [.ref a, p] ∧ H a = some (exo a C none) ∧ ∀ dx, H dx = none → dx ≠ a → Q .non (upd (upd H dx (exd dx [(fl, p)])) a (exo a C (some dx)))
theorem pv {X : Cx} {i : Nat} {x : Str} {pos : Pos} (hN : X.N[i]? = some x) (hv : Vis X.env.scope x) (hd : (x == ("__debug__" : Str)) = false := by decide) (hcd : (x == ("__classdict__" : Str)) = false := by decide) : PE X (.Name x pos) (tVar i) := by
  first
    | exact pe_var hN hv hd hcd
    | exact pe_var hN hv hcd hd
section
variable {CX : CXT} {P : Program} {w : World} {K : PySem.W.Frag} {mg : Str → Option Value} {base : Heap} {C f cc : Addr} {F : NF} {k : Nat}
theorem init1_ok {fd : FuncData} {sf x fl m : Str} {n : Nat} {p0 p1 p2 p3 p4 p5 q1 q2 q3 q4 : Pos} {ar : Arg} (IK : InitK P K C C f cc F)
    (hfd : ∃ (oc : Value) (od : Option Addr) (sl : Array (Option Value)) (doc pm ctv : Value), fd = F.fd doc pm ctv ∧ K.lookup f = some ⟨oc, od, .func (F.fd doc pm ctv), sl⟩)
    (S : NScope [sf, x, "__class__"] [sf, x] ["__class__"] F.scope) (har : (F.params.posonlyargs ++ F.params.args).head? = some ar) (har2 : sf = ar.arg) (hsu : F.scope.names.lookup ("super" : Str) = some .globalImplicit)
    (hbody : F.body = [.Expr (.Call (.Attribute (.Call (.Name "super" p0) [] [] p1) "__init__" p2) [.Constant (.str m) n p3] [] p4) p5, .Assign [.Attribute (.Name sf q1) fl q2] (.Name x q3) q4])
    {pl : Sem Bool} (hev : ∀ L : Addr, eval (.Call (.Attribute (.Call (.Name "super" p0) [] [] p1) "__init__" p2) [.Constant (.str m) n p3] [] p4) (envF F f L) = (do let ov ← attributeBase (.Call (.Name "super" p0) [] [] p1) "__init__" (envF F f L) (eval (.Call (.Name "super" p0) [] [] p1) (envF F f L)); standAt p2.atName; let (g, first) ← holding [ov] (getMethod ov "__init__" pl); callWith p4 g first (backTo p4 (starEach [.Constant (.str m) n p3] (envF F f L))) []))
    (hsw : ∀ L : Addr, swapsWith (.Call (.Attribute (.Call (.Name "super" p0) [] [] p1) "__init__" p2) [.Constant (.str m) n p3] [] p4) none p5.line (envF F f L) = pure false)
    (hsw2 : ∀ L : Addr, swapsWith (.Name x q3) (some (.Attribute (.Name sf q1) fl q2)) q4.line (envF F f L) = pure false) (hno : PySem.W.findIn K (.ref C) fl = some none)
    (hd1 : (sf == ("__debug__" : Str)) = false := by decide) (hd2 : (sf == ("__classdict__" : Str)) = false := by decide) (hd3 : (x == ("__debug__" : Str)) = false := by decide) (hd4 : (x == ("__classdict__" : Str)) = false := by decide) :
    FnOk P w K mg base CX (k + 1) f fd [sf, x] (spInit1 C fl) := by
  refine init_ok (N := [sf, x, "__class__"]) (fun vs H Q E h => ⟨C, IK, by obtain ⟨a, p, rfl, h1, _⟩ := h; exact ⟨a, [p], rfl, h1⟩⟩) hfd S har (by rw [har2] <;> rfl) hsu hbody hev hsw (fun vs H Q E h => by obtain ⟨a, p, rfl, _⟩ := h; rfl) fun A outer s H vs Q E hr h => ?_
  have v1 : Vis F.scope sf := .inl (S.par sf (by simp))
  have v2 : Vis F.scope x := .inl (S.par x (by simp))
  refine ⟨_, pss_one (ps_ost (pv (X := ncx CX P w K mg base [sf, x, "__class__"] F f A outer s H E) (i := 0) rfl v1 hd1 hd2) (pv (X := ncx CX P w K mg base [sf, x, "__class__"] F f A outer s H E) (i := 1) rfl v2 hd3 hd4) (hsw2 _)), ?_⟩
  obtain ⟨a, p, rfl, h1, h2⟩ := h
  exact ⟨p, rfl, .ref a, rfl, a, C, rfl, IK.oex, hno, .inl ⟨h1, h2⟩⟩
end

/-! ### raise C(e) -/
def sRaise1 (c f : Str) (de : DenE) : DenS := fun s => (de s).bind fun d s1 => .er ⟨c, [f], [d]⟩ s1
section
variable {X : Cx} {j : Cj} {pos pos' p : Pos}
theorem ds_raise1 {c fl : Str} {fI : Addr} {fd : FuncData} {k : Nat} {ps : List Str} {e : Expr} {de : DenE} (tk : Takes X j.W) (hc : X.calm = true) (T : OexC X.K (j.B.cA c)) (iC : PySem.W.findIn X.K (.ref (j.B.cA c)) "__init__" = some (some (.ref fI))) (tI : PySem.W.typeIn X.K (.ref fI) = some (.type "function"))
    (F1 : FnOk X.prog X.w X.K X.mg X.base (L2.CX X.prog X.w) k fI fd ps (spInit1 (j.B.cA c) fl)) (hr : Room (k + 1) X.A) (hb : Binds X.K fd ps []) (hg : Gl X c) (hm : X.mg c = some (.ref (j.B.cA c))) (he : DE X j e de)
    (hdb : (c == ("__debug__" : Str)) = false := by decide) (hse : starEach [e] X.env = (false, eval e X.env) :: starEach [] X.env := by rfl) (hpl : (backTo pos (starEach [] X.env)).any (·.1) = false := by rfl) :
    DS X j (.Raise (some (.Call (.Name c p) [e] [] pos)) none pos') (sRaise1 c fl de) :=
  PS.imp (ps_raise hc tk (pmk_oex T iC tI F1 hr hb .nil passL hg hm (pa_cons he pa_nil hse) hdb hse hpl)) fun D σ H ⟨G, s, r, o⟩ => by
    refine ⟨G, s, r, outG.imp (outS.bindG (R := Has j.B) o) fun v H1 ⟨G1, s1, d, r1, l1, h1, o1⟩ => ?_⟩
    refine ⟨by simp, fun a na => ⟨a, v, rfl, upd_same, fun dx ndx nda => ⟨rfl, dx, [(fl, v)], upd_same, ?_, ?_, ?_⟩⟩⟩
    · rw [upd_ne nda, upd_same]
    · rw [upd_ne nda] at ndx; exact ndx
    · have n0 : H1 dx = none := by rw [upd_ne nda] at ndx; exact ndx
      have e : upd (del (upd (upd (upd H1 a (exo a (j.B.cA c) none)) dx (exd dx [(fl, v)])) a (exo a (j.B.cA c) (some dx))) a) dx (.xd [(fl, v)]) = upd H1 dx (.xd [(fl, v)]) := by
        funext b
        by_cases hb : b = dx
        · subst hb; rw [upd_same, upd_same]
        · rw [upd_ne hb, upd_ne hb]
          by_cases ha : b = a
          · subst ha; rw [del_same, na]
          · rw [del_ne ha, upd_ne ha, upd_ne hb, upd_ne ha]
      rw [e]
      obtain ⟨n1, n2, n3⟩ := r1.f.fresh n0
      have o2 : outS j σ G1 H1 D (.er ⟨c, [fl], [d]⟩ s1) := o1
      exact o2 G1 σ _ dx (r1.laid n0 _) (Ext.laid n0 _) ⟨[(fl, v)], upd_same, n1, n2, n3, rfl, .cons h1 .nil⟩ n0
end
end DL
end

section
set_option maxHeartbeats 4000000
/-! DL part 10: a def by its body. -/
namespace DL
open PySem PySem.Spec PyProof.Rows L2 NdefX

section
variable {B : Bg} {G0 : Wd} {H0 : Hp} {W : WX}
theorem fin_ok {Q : VK} {E : XK} {b : Nat} {d : D} {st : List SO} {G : Wd} {H : Hp} {v : V} (h : outD B G0 H0 Q E (finF b d st)) (hb : b = G0.ρ.length) (f : RelF B G st H) (e : Ext B G0 H0 G H) (hd : Has B G d v) : Q v H := by
  unfold finF at h
  split at h
  · exact h G H v f e hd
  · split at h
    · rename_i c
      exact h _ H v (f.take c.2) (e.take hb) (hd.lowb c.1)
    · exact h G H v f e hd
theorem end_ok {Q : VK} {E : XK} {σ : L2.St} {o : Out Fl} (hW : ∀ c d σ H, E c d H → W c d σ H) (h : outD B G0 H0 Q E (endF G0.ρ.length o)) : outS ⟨B, G0, H0, W⟩ σ G0 H0 { nx := fun _ H' => Q .non H', rt := Q } o := by
  cases o with
  | no => exact h
  | er x s =>
    intro G' σ' H' dd r l q n
    refine hW _ _ _ _ ?_
    have h' : outD B G0 H0 Q E (if s.st.length = G0.ρ.length then .er x s.st else if lowbL G0.ρ.length x.ds = true ∧ (s.st.take G0.ρ.length).all (SO.lowb G0.ρ.length) = true then .er x (s.st.take G0.ρ.length) else .er x s.st) := h
    split at h'
    · exact h' G' H' dd r.f l q n
    · split at h'
      · rename_i c
        obtain ⟨fvs, q1, q2, q3, q4, q5, q6⟩ := q
        exact h' _ H' dd (r.f.take c.2) (l.take rfl) ⟨fvs, q1, q2, fun z => q3 (List.mem_of_mem_take z), q4, q5, q6.lowb c.1⟩ n
      · exact h' G' H' dd r.f l q n
  | ok f s =>
    cases f with
    | nx => exact fun G' σ' H' r l => fin_ok (h : outD B G0 H0 Q E (finF _ .non s.st)) rfl r.f l .non
    | rt d => exact fun G' σ' H' v r l hd => fin_ok (h : outD B G0 H0 Q E (finF _ d s.st)) rfl r.f l hd
    | bk => exact h.elim
    | ct => exact h.elim
theorem start_rel {N : List Str} {st : List SO} {ds : List D} {vs : List V} (f : RelF B G0 st H0) (l : HasL B G0 ds vs) (hn : vs.length ≤ N.length) :
    Rel ⟨B, G0, H0, W⟩ G0 ⟨ds.map some ++ List.replicate (N.length - ds.length) none, st, st.length⟩ (L2.start N vs) H0 := by
  refine ⟨f, .refl _ _, f.len.symm, ?_, fun i d e => ?_⟩
  · unfold L2.start
    simp [l.length]
  · have e' : (ds.map some ++ List.replicate (N.length - ds.length) none)[i]? = some (some d) := e
    by_cases hi : i < ds.length
    · rw [List.getElem?_append_left (by simpa using hi), List.getElem?_map] at e'
      obtain ⟨d', h1, h2⟩ := Option.map_eq_some_iff.mp e'
      cases h2
      obtain ⟨v, h3, h4⟩ := l.getD h1
      refine ⟨v, ?_, h4⟩
      unfold L2.start
      rw [List.getElem?_append_left (by rw [List.length_map, ← l.length]; exact hi), List.getElem?_map, h3] <;> rfl
    · rw [List.getElem?_append_right (by simpa using hi), List.getElem?_replicate] at e'
      split at e' <;> cases e'
end
section
variable {P : Program} {w : World} {K : PySem.W.Frag} {mg : Str → Option Value} {base : Heap} {x qual : Str} {params : Arguments} {body : List Stmt} {scope : Scope} {dvs : List V} {kws : List (Str × V)} {f : Addr} {fd : FuncData}
/-- what a body's derivation is given -/
structure Bod (B : Bg) (P : Program) (w : World) (K : PySem.W.Frag) (mg : Str → Option Value) (base : Heap) (N : List Str) (scope : Scope) (k : Nat) (X : Cx) (j : Cj) : Prop where
  prog : X.prog = P
  w : X.w = w
  K : X.K = K
  mg : X.mg = mg
  base : X.base = base
  N : X.N = N
  scope : X.env.scope = scope
  calm : X.calm = true
  room : Room k X.A
  tk : Takes X j.W
  own : PassesOwn (model X.prog X.w) X.A X.env X.xe
  B : j.B = B
theorem fnD {B : Bg} {N ps : List Str} {k : Nat} {den : DenS} (F : FunD K x qual params body scope dvs kws f fd) (S : FnScope N ps scope)
    (hbody : ∀ (A : Around) (outer : List Env) (s : Shared) (H : Hp) (E : XK) (G : Wd) (cdv : Value), Room k (A.deeper (envOfC qual scope s.heap.objs.size f cdv)) →
      Takes (cxOf (L2.CX P w) P w K mg base N qual scope f cdv A outer s H E) (fun cls d _ H' => E cls d H') →
      PassesOwn (model P w) (A.deeper (envOfC qual scope s.heap.objs.size f cdv)) (envOfC qual scope s.heap.objs.size f cdv) (cxOf (L2.CX P w) P w K mg base N qual scope f cdv A outer s H E).xe →
      DSs (cxOf (L2.CX P w) P w K mg base N qual scope f cdv A outer s H E) ⟨B, G, H, fun cls d _ H' => E cls d H'⟩ body den) :
    FnOk P w K mg base (L2.CX P w) (k + 1) f fd ps (spD B ps.length (runF N.length den)) := by
  refine F.ok S (fun vs H Q E h => h.1) fun cdv A outer s H vs Q E hr h => ?_
  obtain ⟨hl, G, st, ds, rf, l, o⟩ := h
  have hN : ps.length ≤ N.length := by
    have := congrArg List.length S.pre
    rw [List.length_take] at this
    omega
  refine ⟨_, hbody A outer s H E G cdv hr (takes_of rfl rfl rfl rfl) (passes_of rfl), G, _, start_rel rf l (by omega), ?_⟩
  have o' : outD B G H Q E (endF st.length (den ⟨ds.map some ++ List.replicate (N.length - ds.length) none, st, st.length⟩)) := o
  rw [← rf.len] at o'
  refine end_ok (W := fun cls d _ H' => E cls d H') (fun _ _ _ _ h => h) ?_
  rw [← rf.len]
  exact o'
end
end DL
end

section
set_option maxHeartbeats 4000000
/-! DL part 11: isinstance. -/
namespace DL
open PySem PySem.Spec PyProof.Rows L2

/-- the own classes: all names, those of exceptions, what each is under (itself too) -/
structure IsTab where
  names : List Str
  exs : List Str
  sub : Str → List Str
def tyNs : List String := ["NoneType", "bool", "int", "str", "tuple", "list", "dict"]
def tyMs : List String := ["bool", "int", "str", "tuple", "list", "dict"]
def isB (a b : String) : Bool := a == b || (a == "bool" && b == "int")
theorem kitB_ok : ∀ a ∈ tyNs, ∀ b ∈ tyMs, kitB a b = some (isB a b) := by decide +kernel
/-- a datum's type: built in, or own -/
inductive Tw where
  | ty (n : String) | own (c : Str)
def tyW (T : IsTab) (st : List SO) : D → Option Tw
  | .non => some (.ty "NoneType")
  | .bl _ => some (.ty "bool")
  | .int _ => some (.ty "int")
  | .str _ => some (.ty "str")
  | .tup _ => some (.ty "tuple")
  | .lst _ => some (.ty "list")
  | .scr _ => some (.ty "list")
  | .dic _ _ => some (.ty "dict")
  | .dit _ _ => some (.ty "dict")
  | .ins c _ _ => if c ∈ T.names ∧ c ∉ T.exs then some (.own c) else none
  | .exc c _ _ => if c ∈ T.names ∧ c ∈ T.exs then some (.own c) else none
  | .ob n => (match st[n]? with
    | some (.lst _) => some (.ty "list")
    | some (.dic _ _) => some (.ty "dict")
    | some (.ins c _ _) => if c ∈ T.names ∧ c ∉ T.exs then some (.own c) else none
    | _ => none)
  | _ => none
def isW (T : IsTab) : Tw → D → Option Bool
  | .ty a, .ty b => if b ∈ tyMs then some (isB a b) else none
  | .ty _, .gl y => if y ∈ T.names then some false else none
  | .own _, .ty b => if b ∈ tyMs then some false else none
  | .own x, .gl y => if y ∈ T.names then some (decide (y ∈ T.sub x)) else none
  | _, _ => none
def isAny (T : IsTab) (t : Tw) : List D → Option Bool
  | [] => some false
  | c :: cs => (isW T t c).bind fun b => (isAny T t cs).map fun r => b || r
def isIn (T : IsTab) (t : Tw) : D → Option Bool
  | .tup cs => isAny T t cs
  | c => isW T t c
def cIsi (T : IsTab) : List SO → List D → Option D := fun st ds => match ds with
  | [x, c] => (tyW T st x).bind fun t => (isIn T t c).map .bl
  | _ => none
/-- what the written part must say of the own classes -/
structure XcK (K : PySem.W.Frag) (C : Addr) : Prop where
  cl : (PySem.W.clsIn K C).isSome = true
  ga : PySem.W.findIn K (.ref C) "__getattribute__" = some (some (.builtin "BaseException.__getattribute__"))
  gg : PySem.W.findIn K (.ref C) "__getattr__" = some none
  sb : PySem.W.subIn K (.ref C) (.type "BaseException") = some true
  at_ : PySem.W.findIn K (.ref C) "__class__" = some (some (.builtin "object.__class__"))
  mo : PySem.W.mroIn K C (.type "object") = some true
  hd : PySem.W.hasDictIn K C = true
structure PlK (K : PySem.W.Frag) (C : Addr) : Prop where
  cls : Cls K C
  at_ : PySem.W.findIn K (.ref C) "__class__" = some (some (.builtin "object.__class__"))
  mo : PySem.W.mroIn K C (.type "object") = some true
structure IsOk (K : PySem.W.Frag) (cA : Str → Addr) (T : IsTab) : Prop where
  sp : PySem.W.specialIn K (.builtin "object.__class__") "__get__" = some (some (.builtin "getset_descriptor.__get__"))
  tk : PySem.W.takesIn K (.builtin "object.__class__") = some true
  exc : ∀ x ∈ T.names, x ∈ T.exs → XcK K (cA x)
  pl : ∀ x ∈ T.names, x ∉ T.exs → PlK K (cA x)
  ba : ∀ x ∈ T.names, ∀ a ∈ tyNs, PySem.W.kitOne K (.type a) (.ref (cA x)) = some false
  bo : ∀ x ∈ T.names, ∀ b ∈ tyMs, PySem.W.kitOne K (.ref (cA x)) (.type b) = some false
  oo : ∀ x ∈ T.names, ∀ y ∈ T.names, PySem.W.kitOne K (.ref (cA x)) (.ref (cA y)) = some (decide (y ∈ T.sub x))
def KitV (X : Cx) (H : Hp) (x : V) (t : Value) : Prop := ∀ (pins : List (Addr × Obj)) (σ : L2.St) (s : Shared) (u : Value), Inv X pins σ H s → RelV x u → ∃ P : Heap → Prop, PySem.W.KitX X.K u t P ∧ P s.heap ∧ u ≠ .builtin "__main__.__loader__#opaque"
def rIsA (X : Cx) : List V → Hp → VK → Prop := fun xs H Q => ∃ x c t, xs = [x, c] ∧ KitV X H x t ∧ ((∃ u b, ClsV c u ∧ PySem.W.kitOne X.K t u = some b ∧ Q (.bl b) H) ∨ ∃ tp cs us b, c = .ref tp ∧ SqT X.K H tp cs ∧ Paired ClsV cs us ∧ PySem.W.kitAny X.K t us = some b ∧ Q (.bl b) H)
theorem cr_isA {X : Cx} : CallR X (.builtin "isinstance") (rIsA X) := by
  intro pins s σ H xs us Q I r h
  obtain ⟨x, c, t, rfl, kv, h⟩ := h
  obtain ⟨u1, u2, rfl, r1, r2⟩ := vals2 r
  obtain ⟨P, Z, p, hx⟩ := kv pins σ s u1 I r1
  rcases h with ⟨u, b, k, e, q⟩ | ⟨tp, cs, ws, b, rfl, hT, k, e, q⟩
  · have e2 := k.eq r2
    subst e2
    exact PySem.W.kia_one Z I.kIn p e hx fun tk => ⟨.bl b, H, I.tok tk, rfl, q⟩
  · cases (show u2 = Value.ref tp from r2)
    obtain ⟨its, rv, ⟨o, h1, h2, n, h3⟩, _⟩ := I.tuple hT
    have e3 := ClsV.all k rv
    subst e3
    obtain ⟨oc, od, dt, sl⟩ := o
    simp only at h2 h3
    subst h2 h3
    exact PySem.W.kia_tup Z I.kIn p h1 e hx fun tk => ⟨.bl b, H, I.tok tk, rfl, q⟩
section
variable {X : Cx} {j : Cj} {T : IsTab}
def twV (cA : Str → Addr) : Tw → Value
  | .ty n => .type n
  | .own c => .ref (cA c)
theorem tyNs_of {st : List SO} {d : D} {n : String} (h : tyW T st d = some (.ty n)) : n ∈ tyNs := by
  unfold tyW at h
  split at h
  all_goals first
    | (cases h; decide)
    | (split at h <;> first | (cases h; decide) | (cases h; done) | (split at h <;> cases h))
    | cases h
theorem kitV_of {H : Hp} {x : V} {t : Value} (h : TyX X.K H x t) : KitV X H x t := fun pins σ s u I r => kit_of I r h
theorem kitV_ok (hK : X.K = j.B.K) (ok : IsOk X.K j.B.cA T) {G : Wd} {s : S} {σ : L2.St} {H : Hp} (r : Rel j G s σ H) {d : D} {v : V} {t : Tw} (h : Has j.B G d v) (e : tyW T s.st d = some t) : KitV X H v (twV j.B.cA t) := by
  have kIns : ∀ {a dx : Addr} {c : Str} {fvs : List (Str × V)}, H a = some (.ins (j.B.cA c) dx fvs) → c ∈ T.names → c ∉ T.exs → KitV X H (.ref a) (.ref (j.B.cA c)) := fun {a dx c fvs} ha h1 h2 => by
    have p := ok.pl c h1 h2
    exact kitV_of (.base (.ins ha p.cls p.at_ ok.sp ok.tk p.mo))
  have kLst : ∀ {a : Addr} {vs : List V}, SqL X.K H a vs → KitV X H (.ref a) (.type "list") := fun {a vs} q => by
    rcases q with (q | ⟨o, q⟩) | ⟨o, its, n, e1, e2, _⟩
    · exact kitV_of (.base (.lst q))
    · exact kitV_of (.base (.frz q))
    · exact kitV_of (.kList e1 e2)
  cases h with
  | non => cases e; exact kitV_of (.base .non)
  | bl b => cases e; exact kitV_of (.base (.bl b))
  | int i => cases e; exact kitV_of (.base (.int i))
  | str x => cases e; exact kitV_of (.base (.str x))
  | ty n => cases e
  | gl x => cases e
  | ask h => cases e
  | tup h l =>
    cases e
    have q := SqT.mono r.f.le h
    rw [← hK] at q
    rcases q with (q | ⟨o, q⟩) | ⟨o, its, n, e1, e2, _⟩
    · exact kitV_of (.base (.tup q))
    · exact kitV_of (.fTuple q)
    · exact kitV_of (.kTuple e1 e2)
  | lst h l => cases e; exact kLst (SqL.of (r.f.le _ _ h))
  | scr h =>
    cases e
    have q := SqL.mono r.f.le h
    rw [← hK] at q
    exact kLst q
  | dic h q l => cases e; exact kitV_of (.base (.dK (r.f.le _ _ h)))
  | dit h q l => cases e; exact kitV_of (.base (.dT (r.f.le _ _ h)))
  | ins h q l =>
    have e' : (if _ ∈ T.names ∧ _ ∉ T.exs then some (Tw.own _) else none) = some t := e
    split at e'
    · rename_i c
      cases e'
      exact kIns (r.f.le _ _ h) c.1 c.2
    · cases e'
  | @exc c fs ds a dd fvs h hd q l =>
    have e' : (if c ∈ T.names ∧ c ∈ T.exs then some (Tw.own c) else none) = some t := e
    split at e'
    · rename_i cc
      cases e'
      have p := ok.exc c cc.1 cc.2
      intro pins σ' s' u I ru
      obtain rfl : u = Value.ref a := ru
      have x1 : ObjOk X.prog X.w H s'.heap a (ExH (j.B.cA c) dd a) := I.hok a _ (r.f.le _ _ h)
      obtain ⟨⟨oe, vs, g1, g2, g3, g4⟩, _, _⟩ := x1
      have x2 : ObjOk X.prog X.w H s'.heap dd (.xd fvs) := I.hok dd _ (r.f.le _ _ hd)
      obtain ⟨mA, hns, _⟩ := x2
      obtain ⟨od, ho, _⟩ := lookIn_ns hns
      refine ⟨fun hh => PySem.W.InstAt hh a oe (j.B.cA c) (some od), PySem.W.kitx_exc p.cl p.ga p.gg p.sb p.at_ ok.sp ok.tk p.mo, ⟨g1, g2, by unfold PySem.W.notCls; rw [g4] <;> rfl, by rw [g3]; exact ho⟩, fun z => nomatch z⟩
    · cases e'
  | @ob n a h =>
    have e' : (match s.st[n]? with
      | some (.lst _) => some (Tw.ty "list")
      | some (.dic _ _) => some (Tw.ty "dict")
      | some (.ins c _ _) => if c ∈ T.names ∧ c ∉ T.exs then some (Tw.own c) else none
      | _ => none) = some t := e
    split at e'
    · rename_i q
      cases e'
      obtain ⟨vs, h1, _⟩ := r.f.so n a _ h q
      exact kLst (SqL.of h1)
    · rename_i q
      cases e'
      obtain ⟨kvs, h1, _⟩ := r.f.so n a _ h q
      exact kitV_of (.base (.dK h1))
    · rename_i q
      split at e'
      · rename_i c
        cases e'
        obtain ⟨dx, fvs, h1, _⟩ := r.f.so n a _ h q
        exact kIns h1 c.1 c.2
      · cases e'
    · cases e'
theorem isW_ok (ok : IsOk X.K j.B.cA T) {t : Tw} {d : D} {v : V} {b : Bool} {G : Wd} (ht : ∀ n, t = .ty n → n ∈ tyNs) (ho : ∀ c, t = .own c → c ∈ T.names) (h : Has j.B G d v) (e : isW T t d = some b) : ∃ u, ClsV v u ∧ PySem.W.kitOne X.K (twV j.B.cA t) u = some b := by
  cases t with
  | ty a =>
    cases d with
    | ty n =>
      cases h
      have e' : (if n ∈ tyMs then some (isB a n) else none) = some b := e
      split at e'
      · rename_i c
        cases e'
        exact ⟨_, .ty n, kit_ty (kitB_ok a (ht a rfl) n c)⟩
      · cases e'
    | gl y =>
      cases h
      have e' : (if y ∈ T.names then some false else none) = some b := e
      split at e'
      · rename_i c
        cases e'
        exact ⟨_, .own _, ok.ba y c a (ht a rfl)⟩
      · cases e'
    | _ => cases e
  | own x =>
    cases d with
    | ty n =>
      cases h
      have e' : (if n ∈ tyMs then some false else none) = some b := e
      split at e'
      · rename_i c
        cases e'
        exact ⟨_, .ty n, ok.bo x (ho x rfl) n c⟩
      · cases e'
    | gl y =>
      cases h
      have e' : (if y ∈ T.names then some (decide (y ∈ T.sub x)) else none) = some b := e
      split at e'
      · rename_i c
        cases e'
        exact ⟨_, .own _, ok.oo x (ho x rfl) y c⟩
      · cases e'
    | _ => cases e
theorem isAny_ok (ok : IsOk X.K j.B.cA T) {t : Tw} {G : Wd} (ht : ∀ n, t = .ty n → n ∈ tyNs) (ho : ∀ c, t = .own c → c ∈ T.names) : ∀ {ds : List D} {vs : List V} {b : Bool}, HasL j.B G ds vs → isAny T t ds = some b → ∃ us, Paired ClsV vs us ∧ PySem.W.kitAny X.K (twV j.B.cA t) us = some b
  | _, _, _, .nil, e => by cases e; exact ⟨[], .nil, kitAny_nil⟩
  | d :: ds, v :: vs, b, .cons h l, e => by
    obtain ⟨b1, e1, e2⟩ := Option.bind_eq_some_iff.mp (show (isW T t d).bind (fun b => (isAny T t ds).map fun r => b || r) = some b from e)
    obtain ⟨b2, e3, e4⟩ := Option.map_eq_some_iff.mp e2
    obtain ⟨u, k1, k2⟩ := isW_ok ok ht ho h e1
    obtain ⟨us, p, q⟩ := isAny_ok ok ht ho l e3
    subst e4
    refine ⟨u :: us, .cons k1 p, kitAny_cons k2 (fun z => ?_) (fun z => ?_)⟩
    · rw [z, Bool.false_or]; exact q
    · rw [z, Bool.true_or]
theorem own_in {st : List SO} {d : D} {c : Str} (h : tyW T st d = some (.own c)) : c ∈ T.names := by
  unfold tyW at h
  split at h
  all_goals first
    | (cases h; done)
    | (split at h <;> first | (cases h; done) | (rename_i q; cases h; exact q.1) | (split at h <;> first | (cases h; done) | (rename_i q; cases h; exact q.1)))
theorem cs_isi (hK : X.K = j.B.K) (ok : IsOk X.K j.B.cA T) : CallS j (rIsA X) (cIsi T) := by
  intro σ G s H xs ds d Q r hx e q1 q2
  unfold cIsi at e
  split at e
  · rename_i x c
    obtain ⟨t, e1, e2⟩ := Option.bind_eq_some_iff.mp e
    obtain ⟨b, e3, e4⟩ := Option.map_eq_some_iff.mp e2
    subst e4
    obtain ⟨v, w, rfl, h1, h2⟩ := hx.two
    have kv := kitV_ok hK ok r h1 e1
    have ht : ∀ n, t = .ty n → n ∈ tyNs := fun n z => tyNs_of (z ▸ e1)
    have ho : ∀ c, t = .own c → c ∈ T.names := fun c z => own_in (z ▸ e1)
    refine ⟨v, w, _, rfl, kv, ?_⟩
    unfold isIn at e3
    split at e3
    · cases h2 with
      | tup h l =>
        obtain ⟨us, p, q⟩ := isAny_ok ok ht ho l e3
        exact .inr ⟨_, _, us, b, rfl, by rw [hK]; exact SqT.mono r.f.le h, p, q, q1 _ (.bl b)⟩
    · obtain ⟨u, k1, k2⟩ := isW_ok ok ht ho h2 e3
      exact .inl ⟨u, b, k1, k2, q1 _ (.bl b)⟩
  · cases e
end
end DL
end

section
set_option maxHeartbeats 4000000
/-! DL part 12: calls by keywords alone; calls without arguments. -/
namespace DL
open PySem PySem.Spec PyProof.Rows L2

def permV (pm : List Nat) (vs : List V) : List V := pm.map fun i => vs.getD i .non
def permU (pm : List Nat) (us : List Value) : List Value := pm.map fun i => us.getD i .none
def permD (pm : List Nat) (ds : List D) : List D := pm.map fun i => ds.getD i .non
theorem HasL.perm {B : Bg} {G : Wd} {ds : List D} {vs : List V} (l : HasL B G ds vs) : ∀ (pm : List Nat), HasL B G (permD pm ds) (permV pm vs)
  | [] => .nil
  | i :: pm => .cons (by
    show Has B G (ds.getD i .non) (vs.getD i .non)
    rw [List.getD_eq_getElem?_getD, List.getD_eq_getElem?_getD]
    cases e : ds[i]? with
    | none =>
      have e2 : vs[i]? = none := by
        rw [List.getElem?_eq_none_iff] at e ⊢
        rw [← l.length]; exact e
      rw [e2]; exact .non
    | some d =>
      obtain ⟨v, h1, h2⟩ := l.getD e
      rw [h1]; exact h2) (HasL.perm l pm)
theorem vals_perm {vs : List V} {us : List Value} (r : Vals vs us) : ∀ (pm : List Nat), Vals (permV pm vs) (permU pm us)
  | [] => .nil
  | i :: pm => .cons (by
    show L2.RelV (vs.getD i .non) (us.getD i .none)
    rw [List.getD_eq_getElem?_getD, List.getD_eq_getElem?_getD]
    cases e : vs[i]? with
    | none =>
      have e2 : us[i]? = none := by
        rw [List.getElem?_eq_none_iff] at e ⊢
        rw [← r.length]; exact e
      rw [e2]; exact rfl
    | some v =>
      obtain ⟨u, h1, h2⟩ := r.get e
      rw [h1]; exact h2) (vals_perm r pm)
section
variable {X : Cx} {j : Cj} {pos : Pos} {das : DenA}
/-- values of the keywords, from the left -/
def DK (X : Cx) (j : Cj) (kws : List Keyword) (den : DenA) : Prop := PK X kws (toTA j den)
theorem PK.imp {X : Cx} {kws : List Keyword} {t t' : TA} (h : PK X kws t) (k : ∀ σ H Q, t' σ H Q → t σ H Q) : PK X kws t' := ⟨fun pos pins s σ H Q I q => h.run pos pins s σ H Q I (k σ H Q q)⟩
theorem dk_nil : DK X j [] aNil := PK.imp pk_nil fun σ H Q ⟨G, s, r, o⟩ => o G H [] r (.refl G H) .nil
theorem dk_cons {e : Expr} {kws : List Keyword} {nm : Option Str} {kpos : Pos} {da : DenE} {dr : DenA} (ha : DE X j e da) (hr : DK X j kws dr) : DK X j (⟨nm, e, kpos⟩ :: kws) (aCons da dr) :=
  PK.imp (pk_cons ha hr) fun σ H Q ⟨G, s, r, o⟩ => ⟨G, s, r, outG.imp (outG.bind (R := Has j.B) o) fun x H1 ⟨G1, s1, d, r1, l1, h1, o1⟩ =>
    ⟨G1, s1, r1, outG.imp (outG.bind (R := HasL j.B) o1) fun xs H2 ⟨G2, s2, ds, r2, l2, h2, o2⟩ => o2 G2 H2 _ r2 (.refl G2 H2) (.cons (h1.mono l2.le) h2)⟩⟩
variable {x : Str} {p : Pos} {k n : Nat} {f : Addr} {fd : FuncData} {ps ks : List Str} {F : FD} {kws : List Keyword} {pm : List Nat}
/-- f(k = v, ..): pm: where each parameter's value is among the keywords' -/
def dCallK (n m : Nat) (F : FD) (pm : List Nat) (da : DenA) : DenE := fun s => (da s).bind fun ds s1 => if ds.length = m ∧ pm.length = n then ansF s1 (F (permD pm ds) s1.st) else .no
/-- how such a call binds -/
def KwB (K : PySem.W.Frag) (fd : FuncData) (ps ks : List Str) (pm : List Nat) : Prop := ∀ (s : Shared) (ws : List Value), K.In s.heap → ws.length = ks.length → BindsTo s fd ⟨[], ks.zip ws⟩ (ps.zip (permU pm ws))
theorem FunD.kwB {K : PySem.W.Frag} {x qual : Str} {params : Arguments} {body : List Stmt} {scope : Scope} {kws : List (Str × V)} {f : Addr} (F : FunD K x qual params body scope [] kws f fd)
    (h : ∀ (kV doc pmv : Value) (an : Option Addr) (cdv ct : Value) (ws : List Value), ws.length = ks.length → bindArgs (PySem.W.fnOf x qual params body scope .none kV doc pmv an cdv ct) ⟨[], ks.zip ws⟩ = pure (ps.zip (permU pm ws))) : KwB K fd ps ks pm := by
  obtain ⟨oc, od, dV, kV, doc, pmv, an, cdv, ct, osl, rfl, lk, hcd, hD, hK⟩ := F.ex
  rcases hD with ⟨_, rfl⟩ | ⟨e, _⟩
  · exact fun s ws _ hl => .of_eq (h kV doc pmv an cdv ct ws hl)
  · exact absurd rfl e
theorem de_callK {mk : Nat} (Fo : FnOk X.prog X.w X.K X.mg X.base (L2.CX X.prog X.w) k f fd ps (spD j.B n F)) (hr : Room k X.A) (hg : Gl X x) (hm : X.mg x = some (.ref f)) (hk : PySem.W.keepIn X.K (.ref f) = true) (hb : KwB X.K fd ps ks pm) (tk : Takes X j.W) (ha : DK X j kws das)
    (hall : (backToKw pos (keywordEach kws X.env)).all (·.1.isSome) = true := by rfl) (hks : (backToKw pos (keywordEach kws X.env)).filterMap (·.1) = ks := by rfl) (hdb : (x == ("__debug__" : Str)) = false := by decide)
    (hpl : ((backTo pos (starEach [] X.env)).any (·.1) || (backToKw pos (keywordEach kws X.env)).any (·.1.isNone)) = false := by rfl) (hmk : ks.length = mk := by rfl) : DE X j (.Call (.Name x p) [] kws pos) (dCallK n mk F pm das) := by
  subst hmk
  refine ⟨fun pins s σ H Q I h => ?_⟩
  refine wpAny_Call_Name_kw (ld_glob I hg hm ?_ hdb)
  obtain ⟨G, s0, r, o⟩ := h
  refine PySem.W.callWith_KW0 (h₀ := X.base) I.ok.mod.kin hk hall ?_ hpl
  refine thn (ha.run pos pins s σ H _ I ⟨G, s0, r, outG.bind (R := HasL j.B) o⟩) fun ws s2 ⟨zs, H2, I2, rz, G1, s1, ds, r1, l1, h1, o1⟩ => ⟨I2.kIn, ?_⟩
  rw [hks]
  split at o1
  · rename_i c
    have hz : ws.length = ks.length := by rw [← rz.length, ← h1.length]; exact c.1
    have hq : spD j.B n F (permV pm zs) H2 Q (WE j.W σ) := ⟨by unfold permV; rw [List.length_map]; exact c.2, G1, s1.st, permD pm ds, r1.f, h1.perm pm, outD_of r1 o1⟩
    refine wpAny_call (codeAny_mono (Fo.run X.A X.stack s2 H2 ⟨[], ks.zip ws⟩ (permU pm ws) (permV pm zs) Q (WE j.W σ) hr I2.env0 (hb s2 ws I2.kIn hz) (vals_perm rz pm) hq) fun r s' hq => ?_)
    cases r with
    | error e => exact passAt tk σ pins H2 s2 e s' I2 hq
    | ok fl =>
      cases fl with
      | ret u => exact I2.after hq
      | next => exact False.elim hq
      | brk => exact False.elim hq
      | cont => exact False.elim hq
  · exact o1.elim
/-- f() -/
theorem de_call0 (Fo : FnOk X.prog X.w X.K X.mg X.base (L2.CX X.prog X.w) k f fd ps (spD j.B n F)) (hr : Room k X.A) (hg : Gl X x) (hm : X.mg x = some (.ref f)) (hk : PySem.W.keepIn X.K (.ref f) = true) (hb : KwB X.K fd ps [] []) (tk : Takes X j.W)
    (hdb : (x == ("__debug__" : Str)) = false := by decide) : DE X j (.Call (.Name x p) [] [] pos) (dCallK n 0 F [] aNil) := de_callK (kws := []) (ks := []) Fo hr hg hm hk hb tk dk_nil (by rfl) (by rfl) hdb (by rfl)
end
end DL
end

section
set_option maxHeartbeats 4000000
/-! DL part 13: zip of lists and tuples, mixed. -/
namespace DL
open PySem PySem.Spec PyProof.Rows L2

/-- true: a list; false: a tuple -/
def sq (b : Bool) (K : PySem.W.Frag) (H : Hp) (a : Addr) (xs : List V) : Prop := if b = true then SqL K H a xs else SqT K H a xs
def itAt (b : Bool) (h : Heap) (it a : Addr) (i : Nat) : Prop := if b = true then h.IsListIter it a i else h.IsTupleIter it a i
def coAt (b : Bool) (h : Heap) (a : Addr) (its : Array Value) : Prop := if b = true then h.IsList a its else h.IsTuple a its
theorem draws (b : Bool) {prog : Program} {w : World} {A : Around} (hh : A.handled = none) (it l : Addr) (hne : l ≠ it) (items : Array Value) :
    Draws prog w A it [it, l] items.size (fun i v => items[i]? = some v) (fun i h => itAt b h it l i ∧ coAt b h l items) := by
  cases b
  · exact Draws.tuple hh it l hne items
  · exact Draws.list hh it l hne items
theorem itAt.keep {b : Bool} {h h' : Heap} {it a : Addr} {i : Nat} (x : itAt b h it a i) (k : ∀ o, h.get? it = some o → h'.get? it = some o) : itAt b h' it a i := by
  cases b
  · exact Heap.IsTupleIter.at x k
  · exact Heap.IsListIter.at x k
theorem itAt.obj {b : Bool} {h : Heap} {it a : Addr} {i : Nat} (x : itAt b h it a i) : ∃ o, h.get? it = some o ∧ ∀ v, o.data ≠ .cell v := by
  cases b <;> exact (let ⟨o, e, _, d⟩ := x; ⟨o, e, fun v q => by rw [d] at q; cases q⟩)
def itO (b : Bool) (a : Addr) : Obj := if b = true then { cls := .type "list_iterator", data := .fields #[.ref a, .int 0 0] } else { cls := .type "tuple_iterator", data := .fields #[.ref a, .int 0 0] }
theorem begins (b : Bool) (a : Addr) (its : Array Value) : Begins (.ref a) (itO b a) fun h => coAt b h a its := by
  cases b
  · exact begins_tuple a its
  · exact begins_list a its
theorem itAt.of {b : Bool} {h : Heap} {it a : Addr} (e : h.get? it = some (itO b a)) : itAt b h it a 0 := by
  cases b <;> exact ⟨_, e, rfl, rfl⟩
theorem Inv.sq {X : Cx} {pins : List (Addr × Obj)} {σ : L2.St} {H : Hp} {s : Shared} {b : Bool} {a : Addr} {xs : List V} (I : Inv X pins σ H s) (h : sq b X.K H a xs) : ∃ its : List Value, Vals xs its ∧ coAt b s.heap a its.toArray ∧ a < s.heap.objs.size := by
  cases b
  · obtain ⟨its, r, p, _⟩ := I.tuple (show SqT X.K H a xs from h)
    obtain ⟨o, ho, _⟩ := id p
    exact ⟨its, r, p, Heap.lt_size ho⟩
  · obtain ⟨its, r, p, _⟩ := I.list (show SqL X.K H a xs from h)
    exact ⟨its, r, p.isList, p.lt⟩
theorem Inv.sq_inj {X : Cx} {pins : List (Addr × Obj)} {σ : L2.St} {H : Hp} {s : Shared} {b : Bool} {a : Addr} {xs ys : List V} (I : Inv X pins σ H s) (h : DL.sq b X.K H a xs) (h' : DL.sq b X.K H a ys) : xs = ys := by
  cases b
  · exact I.tuple_inj h h'
  · exact I.list_inj h h'
/-- both as they stand at each turn, the items in new pairs -/
def ItzM (b1 b2 : Bool) (K : PySem.W.Frag) (a b : Addr) : It :=
  ⟨fun i H => ∃ (xs ys : List V) (x y : V), sq b1 K H a xs ∧ sq b2 K H b ys ∧ xs[i]? = some x ∧ ys[i]? = some y,
    fun i H v H' => ∃ T x y, v = .ref T ∧ H T = none ∧ H' = upd H T (.tup [x, y]) ∧ (∀ xs, sq b1 K H a xs → xs[i]? = some x) ∧ ∀ ys, sq b2 K H b ys → ys[i]? = some y,
    fun i H => ∃ xs ys : List V, sq b1 K H a xs ∧ sq b2 K H b ys ∧ i = min xs.length ys.length⟩
theorem zsep (n a b : Nat) (h1 : a < n) (h2 : b < n) : ZipSep2 (n + 4) (n + 2) (n + 3) n (n + 1) [n, a] [n + 1, b] := by
  have e : ∀ x y : Nat, x ≠ y → ¬ ((x : Addr) = (y : Addr)) := fun x y h z => h z
  constructor <;> first | (refine e _ _ ?_; omega) | (simp; refine e _ _ ?_; omega) | simp
theorem co_ne {b : Bool} {h : Heap} {it a : Addr} {i : Nat} {its : Array Value} (p : coAt b h a its) (x : itAt b h it a i) : a ≠ it := fun q => by
  subst q
  cases b
  · obtain ⟨o, e1, c1, _⟩ := (show h.IsTuple a its from p)
    obtain ⟨o2, e2, c2, _⟩ := (show h.IsTupleIter a a i from x)
    rw [e1] at e2; cases e2; rw [c1] at c2; injection c2 with c2; exact absurd c2 (by decide)
  · obtain ⟨o, e1, c1, _⟩ := (show h.IsList a its from p)
    obtain ⟨o2, e2, c2, _⟩ := (show h.IsListIter a a i from x)
    rw [e1] at e2; cases e2; rw [c1] at c2; injection c2 with c2; exact absurd c2 (by decide)
theorem turn_zipM {P : Program} {w : World} {K : PySem.W.Frag} {elts : List Expr} {kk : Nat} {tpos : Pos} {b1 b2 : Bool} {a b z TI TO i1 i2 : Addr} (S : ZipSep2 z TI TO i1 i2 [i1, a] [i2, b]) :
    Turn P w K (.Tuple elts kk tpos) (ItzM b1 b2 K a b) [z, TI, TO, i1, i2] z (fun i h => IsZip h z TI TO .none ∧ IsTupOf2 h TI (.ref i1) (.ref i2) ∧ (∃ x y, IsTupOf2 h TO x y) ∧ itAt b1 h i1 a i ∧ itAt b2 h i2 b i) where
  mem := by simp
  obj := fun i h st c hc => by
    obtain ⟨hz, hTI, ⟨x, y, hTO⟩, h1, h2⟩ := st
    have e' : c = z ∨ c = TI ∨ c = TO ∨ c = i1 ∨ c = i2 := by simpa using hc
    rcases e' with q | q | q | q | q <;> rw [q]
    · exact ⟨_, hz, fun v q => nomatch q⟩
    · exact ⟨_, hTI, fun v q => nomatch q⟩
    · exact ⟨_, hTO, fun v q => nomatch q⟩
    · exact h1.obj
    · exact h2.obj
  keep := fun i h h' st k => by
    obtain ⟨hz, hTI, ⟨x, y, hTO⟩, h1, h2⟩ := st
    exact ⟨k z (by simp) _ hz, k TI (by simp) _ hTI, ⟨x, y, k TO (by simp) _ hTO⟩, h1.keep fun o q => k i1 (by simp) o q, h2.keep fun o q => k i2 (by simp) o q⟩
  item := by
    intro X hP hw hK hc i pins s σ H E I hf st hg
    subst hP hw hK
    obtain ⟨hz, hTI, ⟨x0, y0, hTO⟩, h1, h2⟩ := st
    obtain ⟨xs, ys, x, y, hqx, hqy, hx, hy⟩ := hg
    obtain ⟨its, rv, p, la⟩ := Inv.sq I hqx
    obtain ⟨its2, rv2, p2, lb⟩ := Inv.sq I hqy
    obtain ⟨u, hu, ru⟩ := rv.get hx
    obtain ⟨u2, hu2, ru2⟩ := rv2.get hy
    have hu' : its.toArray[i]? = some u := by simpa using hu
    have hu2' : its2.toArray[i]? = some u2 := by simpa using hu2
    have hzl : z < s.heap.objs.size := Heap.lt_size hz
    have hh : X.A.in1.handled = none := I.ok.hd hc
    have na := co_ne p h1
    have nb := co_ne p2 h2
    have hi1 : i < its.toArray.size := (Array.getElem?_eq_some_iff.mp hu').1
    have hi2 : i < its2.toArray.size := (Array.getElem?_eq_some_iff.mp hu2').1
    refine wpAny_pyNext_zipD2_item S (draws b1 hh i1 a na its.toArray) (draws b2 hh i2 b nb its2.toArray) hz hTI hTO ⟨h1, p⟩ ⟨h2, p2⟩ hi1 hi2 fun x1 x2 h' tk e1 e2 z' TO' s1' s2' hT hsz hk => ?_
    cases (hu'.symm.trans e1)
    cases (hu2'.symm.trans e2)
    refine ⟨_, rfl, wpAny_letOwnedTupleGo_zip (s := { s with heap := h', toks := tk }) z' fun h'' z'' sb => ?_⟩
    have hT2 : h''.get? s.heap.objs.size = some { cls := .type "tuple", data := .seq #[u, u2] } := (sb.2 _ (Nat.ne_of_gt hzl)).trans hT
    have new : ObjOk X.prog X.w (upd H s.heap.objs.size (.tup [x, y])) h'' s.heap.objs.size (.tup [x, y]) :=
      ⟨by show 2 ≤ sizeLine; decide, [u, u2], .cons ru (.cons ru2 .nil), ⟨_, hT2, rfl, _, rfl⟩⟩
    have I1 : Inv X pins σ (upd H s.heap.objs.size (.tup [x, y])) { s with heap := h'', toks := tk } :=
      I.turnedNew (t' := tk) (ch := [z, TI, TO, i1, i2]) (fun c o hb q => (sb.2 c (fun q' => hb (by simp [q']))).trans (hk c o (fun q' => hb (by simp [q'])) (fun q' => hb (by simp [q'])) (fun q' => hb (by simp [q'])) (fun q' => hb (by simp [q'])) q)) hf (Nat.le_refl _) new
    refine ⟨.ref s.heap.objs.size, _, I1, rfl, ⟨_, x, y, rfl, I.hok.fresh (Nat.le_refl _), rfl, fun l hl => by rw [Inv.sq_inj I hl hqx]; exact hx, fun l hl => by rw [Inv.sq_inj I hl hqy]; exact hy⟩, ⟨z'', ?_, ⟨u, u2, ?_⟩, ?_, ?_⟩, fun c hcm => ?_⟩
    · exact (sb.2 _ S.TIz).trans (hk _ _ S.TIz S.TITO S.TIi1 S.TIi2 hTI)
    · exact (sb.2 _ S.TOz).trans TO'
    · exact s1'.1.keep fun o q => (sb.2 _ (fun e => S.zi1 e.symm)).trans q
    · exact s2'.1.keep fun o q => (sb.2 _ (fun e => S.zi2 e.symm)).trans q
    · have hlt : c < s.heap.objs.size := by
        have e' : c = z ∨ c = TI ∨ c = TO ∨ c = i1 ∨ c = i2 := by simpa using hcm
        rcases e' with q | q | q | q | q <;> rw [q]
        · exact hzl
        · exact Heap.lt_size hTI
        · exact Heap.lt_size hTO
        · obtain ⟨_, e1, _⟩ := h1.obj; exact Heap.lt_size e1
        · obtain ⟨_, e2, _⟩ := h2.obj; exact Heap.lt_size e2
      rw [upd_ne (Nat.ne_of_lt hlt)]
      exact (hf c hcm).1
  done := by
    intro X hP hw hK hc i pins s σ H E I hf st hg
    subst hP hw hK
    obtain ⟨hz, hTI, ⟨x0, y0, hTO⟩, h1, h2⟩ := st
    obtain ⟨xs, ys, hqx, hqy, hend⟩ := hg
    obtain ⟨its, rv, p, la⟩ := Inv.sq I hqx
    obtain ⟨its2, rv2, p2, lb⟩ := Inv.sq I hqy
    have l1 := rv.length
    have l2 := rv2.length
    have hh : X.A.in1.handled = none := I.ok.hd hc
    have na := co_ne p h1
    have nb := co_ne p2 h2
    refine wpAny_pyNext_zipD2_end S (draws b1 hh i1 a na its.toArray) (draws b2 hh i2 b nb its2.toArray) hz hTI hTO ⟨h1, p⟩ ⟨h2, p2⟩ (by simp; omega) (by simp; omega) (by simp; omega) fun h' tk hk => ⟨rfl, I.turnedL (t' := tk) (ch := [z, TI, TO, i1, i2]) (fun c o hb q => ?_) hf⟩
    exact hk c o (fun q' => hb (by simp [q'])) (fun q' => hb (by simp [q'])) (fun q' => hb (by simp [q'])) (fun q' => hb (by simp [q'])) q
  self := fun A i s Q E st h => wpAny_pyIter_zip st.1 h
/-- zip(e, e2) -/
def tZip (K : PySem.W.Frag) (ta : TA) : TI := fun σ H R => ta σ H fun vs H1 => ∃ b1 b2 a b xs ys, vs = [.ref a, .ref b] ∧ sq b1 K H1 a xs ∧ sq b2 K H1 b ys ∧ R (ItzM b1 b2 K a b) H1
theorem pi_zipM {X : Cx} {e e2 : Expr} {ta : TA} {p pos tpos : Pos} {elts : List Expr} {kk : Nat} (hg : Gl X "zip") (hm : X.mg "zip" = none) (ha : PA X [e, e2] ta)
    (hs : starEach [e, e2] X.env = (false, eval e X.env) :: starEach [e2] X.env := by rfl) (hpl : (backTo pos (starEach [e2] X.env)).any (·.1) = false := by rfl) :
    PI X (.Tuple elts kk tpos) (.Call (.Name "zip" p) [e, e2] [] pos) (tZip X.K ta) := by
  refine ⟨fun pins s σ H R I h => ?_⟩
  refine Call_ (ld_blt I hg hm PyProof.Rows.boot_zip (PyProof.Rows.callWith_type1 (thn (ha.run pos pins s σ H _ I h) fun us s1 ⟨vs, H1, I1, r1, q1⟩ => ?_) hs hpl))
  obtain ⟨b1, b2, a, b, xs, ys, ex, hqx, hqy, q⟩ := q1
  subst ex
  obtain ⟨u1, u2, rfl, r, r'⟩ := vals2 r1
  cases r
  cases r'
  obtain ⟨its, rv, p1, la⟩ := Inv.sq I1 hqx
  obtain ⟨its2, rv2, p2, lb⟩ := Inv.sq I1 hqy
  refine zip_begins2 (begins b1 a its.toArray) (begins b2 b its2.toArray) p1 p2 fun h' hz hTI hTO h1 h2 hsz hk => wpAny_pyIter_zip hz ?_
  have I2 : Inv X pins σ H1 { s1 with heap := h' } := I1.kept (t' := s1.toks) hk
  refine ⟨s1.heap.objs.size + 4, [s1.heap.objs.size + 4, s1.heap.objs.size + 2, s1.heap.objs.size + 3, s1.heap.objs.size, s1.heap.objs.size + 1], _, _, H1, rfl, I2, turn_zipM (zsep s1.heap.objs.size a b la lb), ⟨hz, hTI, ⟨_, _, hTO⟩, .of h1, .of h2⟩, fun c hcm => ?_, q⟩
  have e' : c = s1.heap.objs.size + 4 ∨ c = s1.heap.objs.size + 2 ∨ c = s1.heap.objs.size + 3 ∨ c = s1.heap.objs.size ∨ c = s1.heap.objs.size + 1 := by simpa using hcm
  have hle : s1.heap.objs.size ≤ c := by
    rcases e' with z | z | z | z | z <;> rw [z] <;> first | exact Nat.le_refl _ | exact Nat.le_add_right _ _
  exact I1.fpOk hle (I1.hok.fresh hle)
/-! ### the rule over data -/
/-- a list or a tuple -/
def D.isSeq : D → Bool
  | .lst _ => true
  | .tup _ => true
  | .ob _ => true
  | _ => false
def zipD (xs ys : List D) : List D := List.zipWith (fun x y => .tup [x, y]) xs ys
def iZip (das : DenA) : DenI := fun s => (das s).bind fun ds s1 => match ds with
  | [x, y] => (match x.isSeq, y.isSeq, srcD s1.st x, srcD s1.st y with
    | true, true, some a, some b => .ok ⟨zipD a.ds b.ds, a.lk ++ b.lk⟩ s1
    | _, _, _, _ => .no)
  | _ => .no
section
variable {X : Cx} {j : Cj} {pos p tpos : Pos} {das : DenA}
theorem lockOk_app {a b : List (Nat × List D)} {s : S} (h : lockOk (a ++ b) s) : lockOk a s ∧ lockOk b s := ⟨fun p hp => h p (List.mem_append_left _ hp), fun p hp => h p (List.mem_append_right _ hp)⟩
theorem seq_at {G : Wd} {s : S} {σ : L2.St} {H : Hp} (r : Rel j G s σ H) {d : D} {v : V} {q : Src} (h : Has j.B G d v) (e : srcD s.st d = some q) (hs : d.isSeq = true) : ∃ b a, v = .ref a ∧ lockOk q.lk s ∧
    ∀ (G' : Wd) (s' : S) (σ' : L2.St) (H' : Hp), G.le G' → Rel j G' s' σ' H' → lockOk q.lk s' → ∃ xs, sq b j.B.K H' a xs ∧ HasL j.B G' q.ds xs := by
  cases h with
  | lst h l => cases e; exact ⟨true, _, rfl, lockOk_nil _, fun G' s' σ' H' le r' _ => ⟨_, SqL.of (r'.f.le _ _ (le.mono _ _ h)), l.mono le⟩⟩
  | tup h l => cases e; exact ⟨false, _, rfl, lockOk_nil _, fun G' s' σ' H' le r' _ => ⟨_, SqT.mono r'.f.le (SqT.mono le.mono h), l.mono le⟩⟩
  | @ob n a h =>
    have e' : (match s.st[n]? with
      | some (.lst ds) => some (Src.mk ds [(n, ds)])
      | _ => none) = some q := e
    split at e'
    · rename_i ds q0
      cases e'
      refine ⟨true, a, rfl, fun p hp => by simp at hp; subst hp; exact q0, fun G' s' σ' H' le r' lk => ?_⟩
      obtain ⟨vs, h1, h2⟩ := r'.f.so n a _ (le.at h) (lk (n, ds) (by simp))
      exact ⟨vs, SqL.of h1, h2⟩
    · cases e'
  | _ => cases hs
theorem zipD_get {xs ys : List D} {i : Nat} {d : D} (h : (zipD xs ys)[i]? = some d) : ∃ x y, xs[i]? = some x ∧ ys[i]? = some y ∧ d = .tup [x, y] := by
  unfold zipD at h
  rw [List.getElem?_zipWith] at h
  split at h
  · rename_i x y e1 e2
    cases h
    exact ⟨x, y, e1, e2, rfl⟩
  · cases h
theorem di_zip {e e2 : Expr} {elts : List Expr} {kk : Nat} (hK : X.K = j.B.K) (hg : Gl X "zip") (hm : X.mg "zip" = none) (ha : DA X j [e, e2] das)
    (hs : starEach [e, e2] X.env = (false, eval e X.env) :: starEach [e2] X.env := by rfl) (hpl : (backTo pos (starEach [e2] X.env)).any (·.1) = false := by rfl) : DI X j (.Tuple elts kk tpos) (.Call (.Name "zip" p) [e, e2] [] pos) (iZip das) :=
  PI.imp (pi_zipM hg hm ha hs hpl) fun σ H R ⟨G, s, r, o⟩ => ⟨G, s, r, outG.imp (outI.bind (R := HasL j.B) o) fun xs H1 ⟨G1, s1, ds, r1, l1, h1, o1⟩ => by
    split at o1
    · obtain ⟨v, w, rfl, hx, hy⟩ := h1.two
      split at o1
      · rename_i qa qb k1 k2 k3 k4
        obtain ⟨b1, a, rfl, lk1, f1⟩ := seq_at r1 hx k3 k1
        obtain ⟨b2, b, rfl, lk2, f2⟩ := seq_at r1 hy k4 k2
        obtain ⟨us, u1, _⟩ := f1 G1 s1 σ H1 (.refl _) r1 lk1
        obtain ⟨ws, w1, _⟩ := f2 G1 s1 σ H1 (.refl _) r1 lk2
        rw [hK]
        refine ⟨b1, b2, a, b, us, ws, rfl, u1, w1, o1 G1 H1 _ r1 (.refl G1 H1) (fun p hp => (List.mem_append.mp hp).elim (lk1 p) (lk2 p)) fun i G' s' σ' H' le r' lk => ?_⟩
        obtain ⟨m1, m2⟩ := lockOk_app lk
        obtain ⟨us, u1, hu⟩ := f1 G' s' σ' H' le r' m1
        obtain ⟨ws, w1, hw⟩ := f2 G' s' σ' H' le r' m2
        refine ⟨fun d hd => ?_, fun hi => ⟨us, ws, u1, w1, ?_⟩⟩
        · obtain ⟨dx, dy, g1, g2, rfl⟩ := zipD_get hd
          obtain ⟨x, x1, x2⟩ := hu.getD g1
          obtain ⟨y, y1, y2⟩ := hw.getD g2
          refine ⟨⟨us, ws, x, y, u1, w1, x1, y1⟩, fun v H2 yl => ?_⟩
          obtain ⟨T, x', y', rfl, hT, rfl, z1, z2⟩ := yl
          have e1 := z1 us u1
          have e2 := z2 ws w1
          rw [x1] at e1
          rw [y1] at e2
          cases e1
          cases e2
          exact r'.newTup hT (.cons x2 (.cons y2 .nil))
        · have hi' : i = (zipD qa.ds qb.ds).length := hi
          rw [hi', ← hu.length, ← hw.length]
          simp [zipD]
      · exact o1.elim
    · exact o1.elim⟩
end
end DL
end

section
set_option maxHeartbeats 4000000
/-! DL part 14: a lambda that is handed to a def and asked there. -/
namespace DL
open PySem PySem.Spec PyProof.Rows L2 LamX

/-! ### the background with the asked function in it -/
abbrev Bg.wa (B : Bg) (f : Addr) : Bg := { B with ask := some f }
mutual
def D.noAsk : D → Bool
  | .tup ds => noAskL ds
  | .lst ds => noAskL ds
  | .dic _ ds => noAskL ds
  | .dit _ ds => noAskL ds
  | .ins _ _ ds => noAskL ds
  | .exc _ _ ds => noAskL ds
  | .ask => false
  | _ => true
def noAskL : List D → Bool
  | [] => true
  | d :: ds => d.noAsk && noAskL ds
end
def SO.noAsk : SO → Bool
  | .lst ds => noAskL ds
  | .dic _ ds => noAskL ds
  | .ins _ _ ds => noAskL ds
  | .dead => true
section
variable {B : Bg} {G : Wd} {f : Addr}
theorem noAskL_cons {d : D} {ds : List D} (h : noAskL (d :: ds) = true) : d.noAsk = true ∧ noAskL ds = true := by
  rw [noAskL, Bool.and_eq_true] at h
  exact h
mutual
theorem Has.toAsk (n : B.ask = none) : ∀ {d : D} {v : V}, Has B G d v → Has (B.wa f) G d v
  | _, _, .non => .non
  | _, _, .bl b => .bl b
  | _, _, .int i => .int i
  | _, _, .str x => .str x
  | _, _, .ty n => .ty n
  | _, _, .gl x => .gl (B := B.wa f) x
  | _, _, .tup h l => .tup h (HasL.toAsk n l)
  | _, _, .lst h l => .lst h (HasL.toAsk n l)
  | _, _, .scr h => .scr h
  | _, _, .dic h q l => .dic h q (HasL.toAsk n l)
  | _, _, .dit h q l => .dit h q (HasL.toAsk n l)
  | _, _, .ins h q l => .ins h q (HasL.toAsk n l)
  | _, _, .exc h hd q l => .exc h hd q (HasL.toAsk n l)
  | _, _, .ob h => .ob h
  | _, _, .ask h => by rw [n] at h; cases h
theorem HasL.toAsk (n : B.ask = none) : ∀ {ds : List D} {vs : List V}, HasL B G ds vs → HasL (B.wa f) G ds vs
  | _, _, .nil => .nil
  | _, _, .cons h l => .cons (Has.toAsk n h) (HasL.toAsk n l)
end
mutual
theorem Has.ofAsk : ∀ {d : D} {v : V}, Has (B.wa f) G d v → d.noAsk = true → Has B G d v
  | _, _, .non, _ => .non
  | _, _, .bl b, _ => .bl b
  | _, _, .int i, _ => .int i
  | _, _, .str x, _ => .str x
  | _, _, .ty n, _ => .ty n
  | _, _, .gl x, _ => .gl (B := B) x
  | _, _, .tup h l, e => .tup h (HasL.ofAsk l (by rw [D.noAsk] at e; exact e))
  | _, _, .lst h l, e => .lst h (HasL.ofAsk l (by rw [D.noAsk] at e; exact e))
  | _, _, .scr h, _ => .scr h
  | _, _, .dic h q l, e => .dic h q (HasL.ofAsk l (by rw [D.noAsk] at e; exact e))
  | _, _, .dit h q l, e => .dit h q (HasL.ofAsk l (by rw [D.noAsk] at e; exact e))
  | _, _, .ins h q l, e => .ins h q (HasL.ofAsk l (by rw [D.noAsk] at e; exact e))
  | _, _, .exc h hd q l, e => .exc h hd q (HasL.ofAsk l (by rw [D.noAsk] at e; exact e))
  | _, _, .ob h, _ => .ob h
  | _, _, .ask h, e => by rw [D.noAsk] at e; cases e
theorem HasL.ofAsk : ∀ {ds : List D} {vs : List V}, HasL (B.wa f) G ds vs → noAskL ds = true → HasL B G ds vs
  | _, _, .nil, _ => .nil
  | _, _, .cons h l, e => .cons (Has.ofAsk h (noAskL_cons e).1) (HasL.ofAsk l (noAskL_cons e).2)
end
theorem SOok.toAsk {H : Hp} {a : Addr} (n : B.ask = none) : ∀ {o : SO}, SOok B G H a o → SOok (B.wa f) G H a o
  | .lst _, ⟨vs, h, l⟩ => ⟨vs, h, l.toAsk n⟩
  | .dic _ _, ⟨kvs, h, q, l⟩ => ⟨kvs, h, q, l.toAsk n⟩
  | .ins _ _ _, ⟨dx, fvs, h, q, l⟩ => ⟨dx, fvs, h, q, l.toAsk n⟩
  | .dead, h => h
theorem SOok.ofAsk {H : Hp} {a : Addr} : ∀ {o : SO}, SOok (B.wa f) G H a o → o.noAsk = true → SOok B G H a o
  | .lst _, ⟨vs, h, l⟩, e => ⟨vs, h, l.ofAsk e⟩
  | .dic _ _, ⟨kvs, h, q, l⟩, e => ⟨kvs, h, q, l.ofAsk e⟩
  | .ins _ _ _, ⟨dx, fvs, h, q, l⟩, e => ⟨dx, fvs, h, q, l.ofAsk e⟩
  | .dead, h, _ => h
theorem RelF.toAsk {st : List SO} {H : Hp} (n : B.ask = none) (r : RelF B G st H) : RelF (B.wa f) G st H := ⟨r.le, r.len, fun k a o e1 e2 => (r.so k a o e1 e2).toAsk n, r.nd, r.ap, r.tb, r.tF⟩
theorem RelF.ofAsk {st : List SO} {H : Hp} (r : RelF (B.wa f) G st H) (e : st.all SO.noAsk = true) : RelF B G st H :=
  ⟨r.le, r.len, fun k a o e1 e2 => (r.so k a o e1 e2).ofAsk (List.all_eq_true.mp e o (List.mem_of_getElem? e2)), r.nd, r.ap, r.tb, r.tF⟩
theorem Ext.toAsk {G' : Wd} {H H' : Hp} (e : Ext B G H G' H') : Ext (B.wa f) G H G' H' := ⟨e.le, e.newF, e.newR, e.keep, e.there⟩
theorem Ext.ofAsk {G' : Wd} {H H' : Hp} (e : Ext (B.wa f) G H G' H') : Ext B G H G' H' := ⟨e.le, e.newF, e.newR, e.keep, e.there⟩
theorem ExnOk.ofAsk {H : Hp} {x : Exn} {dd : Addr} (h : ExnOk (B.wa f) G H x dd) (e : noAskL x.ds = true) : ExnOk B G H x dd := by
  obtain ⟨fvs, h1, h2, h3, h4, h5, h6⟩ := h
  exact ⟨fvs, h1, h2, h3, h4, h5, h6.ofAsk e⟩
/-- what a def tells that got the function: nothing of it knows the function -/
def outAsk : OutF → OutF
  | .ok d st => if d.noAsk = true ∧ st.all SO.noAsk = true then .ok d st else .no
  | .er x st => if noAskL x.ds = true ∧ st.all SO.noAsk = true then .er x st else .no
  | .no => .no
theorem outD_ask {H : Hp} {Q : VK} {E : XK} {o : OutF} (h : outD B G H Q E (outAsk o)) : outD (B.wa f) G H Q E o := by
  cases o with
  | ok d st =>
    have h' : outD B G H Q E (if d.noAsk = true ∧ st.all SO.noAsk = true then .ok d st else .no) := h
    split at h'
    · rename_i c
      exact fun G' H' v r e k => h' G' H' v (r.ofAsk c.2) e.ofAsk (k.ofAsk c.1)
    · exact h'.elim
  | er x st =>
    have h' : outD B G H Q E (if noAskL x.ds = true ∧ st.all SO.noAsk = true then .er x st else .no) := h
    split at h'
    · rename_i c
      exact fun G' H' dd r e k n => h' G' H' dd (r.ofAsk c.2) e.ofAsk (k.ofAsk c.1) n
    · exact h'.elim
  | no => exact h
theorem outD_mono {G' : Wd} {H H' : Hp} {Q : VK} {E : XK} {o : OutF} (h : outD B G H Q E o) (l : Ext B G H G' H') : outD B G' H' Q E o := by
  cases o with
  | ok d st => exact fun G2 H2 v r e k => h G2 H2 v r (l.trans e) k
  | er x st => exact fun G2 H2 dd r e k n => h G2 H2 dd r (l.trans e) k (l.back n)
  | no => exact h
end
/-! ### a lambda is made -/
/-- the abstract heap behind it: the code object was there, or is new -/
def LamH (H : Hp) (P c' : Addr) (q : Str) (H1 : Hp) : Prop := (H1 = H ∧ H c' = some (CodeO c' q)) ∨ ∃ (ps : Array Value) (pos : Pos), H P = some (.tbl ps) ∧ H c' = none ∧ H1 = upd (upd H P (.tbl (ps ++ #[rawInt pos.line, rawInt pos.col, .ref c']))) c' (CodeO c' q)
abbrev lamO (q : Str) (params : Arguments) (body : Expr) (scope : Scope) (clos : List (Str × Addr)) (dV doc pm : Value) (c' : Addr) (ctv : Value) : Obj := PySem.W.kdv_obj "<lambda>" q params (.expr body) scope clos dV doc pm c' ctv
section
variable {X : Cx} {pins : List (Addr × Obj)} {σ : L2.St} {H : Hp} {s : Shared}
theorem lamk {c P : Addr} {ps : Array Value} {params : Arguments} {body : Expr} {scope : Scope} {pos : Pos} {dV : Value} {E : Value → Shared → Prop} {Q : Value → Shared → Prop} (I : Inv X pins σ H s) (TB : TabB X.base X.mg c P) (hcode : X.env.code = .ref c) (hP : H P = some (.tbl ps)) (ht : TriplesOk ps.toList)
    (ha : ∀ (pos : Pos) (cv : Value), codeAmong pos ps.toList = some cv → ∃ c, cv = .ref c ∧ H c = some (CodeO c (X.env.qual ++ "<lambda>"))) (hfree : ∀ y ∈ scope.names, y.2 = .free → ∃ c, X.env.cells.lookup y.1 = some c)
    (h : ∀ (f c' : Addr) (doc pm ctv : Value) (H1 : Hp) (s' : Shared), Inv X pins σ H1 s' → LamH H P c' (X.env.qual ++ "<lambda>") H1 → H1 c' = some (CodeO c' (X.env.qual ++ "<lambda>")) →
      s'.heap.get? f = some (lamO (X.env.qual ++ "<lambda>") params body scope (cloFrom X.env.cells scope.names []) dV doc pm c' ctv) → H1 f = none → f ∉ frs X.stack → Q (.ref f) s') :
    wpAny (model X.prog X.w) X.A (PySem.makeTail "<lambda>" (X.env.qual ++ "<lambda>") params (.expr body) scope X.env dV .none none pos pos.line) Q E s := by
  have bP : s.heap.BuiltinsAt X.mg P := TB.bm.keeps I.bk
  have hP' : s.heap.get? P = some { cls := .none, data := .fields ps } := I.hok P _ hP
  have nofr : ∀ f, s.heap.objs.size ≤ f → f ∉ frs X.stack := fun f hf z => (List.mem_cons.mp (I.stkSub _ z)).elim (fun e => absurd I.lt (Nat.not_lt.mpr (by rw [← e]; exact hf))) (I.nofs hf)
  cases hc : codeAmong pos ps.toList with
  | some cv =>
    obtain ⟨c', rfl, hco⟩ := ha pos cv hc
    refine PySem.W.kdv_makeTailHit (mg := X.mg) (c := c) (P := P) (ps := ps) (dV := dV) (closure_ok hfree) I.ok.glob (I.mod.glob.keeps I.bk) hcode (TB.code.keeps I.bk) hP' ht hc bP fun ctv doc h' tk hx hsz => ?_
    exact h h'.objs.size c' doc _ ctv H _ (I.kept (t' := tk) fun b o e => Heap.get?_push_of_some _ (hx b o e)) (.inl ⟨rfl, hco⟩) hco (Heap.get?_push_size _ rfl) (I.hok.fresh hsz) (nofr _ hsz)
  | none =>
    refine PySem.W.kdv_makeTail (mg := X.mg) (c := c) (P := P) (ps := ps) (dV := dV) (closure_ok hfree) I.ok.glob (I.mod.glob.keeps I.bk) hcode (TB.code.keeps I.bk) hP' ht hc TB.gP bP fun c' ctv doc h' tk hx hge hlt hrec htb => ?_
    obtain ⟨c2, oc, vs, t, e2, hoc, hd, hv⟩ := hrec
    cases e2
    have hsz : s.heap.objs.size ≤ h'.objs.size := Nat.le_trans hge (Nat.le_of_lt hlt)
    have J := inv_table (t' := tk) (more := #[rawInt pos.line, rawInt pos.col, .ref c']) (h' := h'.push (lamO (X.env.qual ++ "<lambda>") params body scope (cloFrom X.env.cells scope.names []) dV doc ((X.mg "__name__").getD .none) c' ctv)) I hP
      (fun b o hb e => Heap.get?_push_of_some _ (hx b o hb e)) (Heap.get?_push_of_some _ htb) hge ⟨oc, vs, t, Heap.get?_push_of_some _ hoc, hd, hv⟩
    refine h h'.objs.size c' doc _ ctv _ _ J (.inr ⟨ps, pos, hP, I.hok.fresh hge, rfl⟩) upd_same (Heap.get?_push_size _ rfl) ?_ (nofr _ hsz)
    rw [upd_ne (show h'.objs.size ≠ c' from Nat.ne_of_gt hlt), upd_ne (show h'.objs.size ≠ P from Nat.ne_of_gt (Nat.lt_of_lt_of_le (Heap.lt_size hP') hsz))]
    exact I.hok.fresh hsz
end
section
variable {j : Cj} {G : Wd} {s : S} {σ : L2.St} {H H1 : Hp} {P c' : Addr} {q : Str}
/-- the tables behind it -/
theorem LamH.tabs {T : List (Addr × Str)} (l : LamH H P c' q H1) (t : Tabs T H) (hm : (P, q) ∈ T) (hu : ∀ p ∈ T, p.1 = P → p.2 = q) : Tabs T H1 := by
  rcases l with ⟨rfl, _⟩ | ⟨ps, pos, hP, nC, rfl⟩
  · exact t
  · intro p hp
    have up : ∀ b u, H b = some u → b ≠ P → upd (upd H P (.tbl (ps ++ #[rawInt pos.line, rawInt pos.col, .ref c']))) c' (CodeO c' q) b = some u := fun b u e n => by rw [upd_ne (ne_of_none e nC), upd_ne n]; exact e
    have notP : ∀ {c0 q0}, H c0 = some (CodeO c0 q0) → c0 ≠ P := fun {c0 q0} e z => by rw [z, hP] at e; exact codeO_ne ps (Option.some.inj e).symm
    obtain ⟨ps', a1, a2, a3⟩ := t p hp
    by_cases hb : p.1 = P
    · have e1 := a1
      rw [hb, hP] at e1
      cases e1
      refine ⟨_, by rw [hb, upd_ne (ne_of_none hP nC), upd_same], by rw [Array.toList_append]; exact PySem.TriplesOk_snoc _ _ _ _ a2, fun p' cv hcv => ?_⟩
      rw [Array.toList_append] at hcv
      rcases among_app _ a2 hcv with z | z
      · obtain ⟨c0, e1, e2⟩ := a3 p' cv z
        exact ⟨c0, e1, up _ _ e2 (notP e2)⟩
      · exact ⟨c', z, by rw [hu p hp hb, upd_same]⟩
    · refine ⟨ps', up _ _ a1 hb, a2, fun p' cv hcv => ?_⟩
      obtain ⟨c0, e1, e2⟩ := a3 p' cv hcv
      exact ⟨c0, e1, up _ _ e2 (notP e2)⟩
/-- .. and the state -/
theorem Rel.lam (r : Rel j G s σ H) (l : LamH H P c' q H1) (hm : (P, q) ∈ j.B.T) (hu : ∀ p ∈ j.B.T, p.1 = P → p.2 = q) : Rel j G s σ H1 ∧ Ext j.B G H G H1 := by
  have hT := l.tabs r.f.tb hm hu
  rcases l with ⟨rfl, _⟩ | ⟨ps, pos, hP, nC, rfl⟩
  · exact ⟨r, .refl G H1⟩
  · have hPa : P ∈ j.B.ta := List.mem_map.mpr ⟨_, hm, rfl⟩
    have up : ∀ b u, H b = some u → b ≠ P → upd (upd H P (.tbl (ps ++ #[rawInt pos.line, rawInt pos.col, .ref c']))) c' (CodeO c' q) b = some u := fun b u e n => by rw [upd_ne (ne_of_none e nC), upd_ne n]; exact e
    obtain ⟨nF, nR, _⟩ := r.f.tF P hPa
    have th : ∀ b, H b ≠ none → upd (upd H P (.tbl (ps ++ #[rawInt pos.line, rawInt pos.col, .ref c']))) c' (CodeO c' q) b ≠ none := fun b n => by
      by_cases hb : b = P
      · rw [hb, upd_ne (ne_of_none hP nC), upd_same]; simp
      · obtain ⟨u, hu⟩ := Option.ne_none_iff_exists'.mp n
        rw [up b u hu hb]; simp
    have e : Ext j.B G H G (upd (upd H P (.tbl (ps ++ #[rawInt pos.line, rawInt pos.col, .ref c']))) c' (CodeO c' q)) := ⟨.refl G, fun _ z => .inl z, fun _ z => .inl z, fun b o e _ n => up b o e (fun z => n (z ▸ hPa)), th⟩
    refine ⟨⟨⟨fun a o e => up a o (r.f.le a o e) (fun z => by rw [z, nF] at e; cases e), r.f.len, fun n a o e1 e2 => (r.f.so n a o e1 e2).mono (.refl G) fun u hu => up a u hu (fun z => nR (z ▸ List.mem_of_getElem? e1)), r.f.nd, r.f.ap, hT, fun a m => ?_⟩, r.e.trans e, r.b, r.ln, r.sl⟩, e⟩
    obtain ⟨h1, h2, w⟩ := r.f.tF a m
    refine ⟨h1, h2, Option.ne_none_iff_exists'.mp (th a ?_)⟩
    obtain ⟨o, w⟩ := w
    rw [w]; simp
/-- a code object stays -/
theorem code_out (r : RelF j.B G s.st H) (h : H c' = some (CodeO c' q)) : c' ∉ G.ρ ∧ c' ∉ j.B.ta := by
  refine ⟨fun m => ?_, fun m => ?_⟩
  · obtain ⟨n, hn, e⟩ := List.getElem_of_mem m
    have h1 : G.ρ[n]? = some c' := by rw [List.getElem?_eq_getElem hn, e]
    have h2 : s.st[n]? = some (s.st[n]'(by rw [← r.len]; exact hn)) := List.getElem?_eq_getElem _
    have ok := r.so n c' _ h1 h2
    generalize s.st[n]'(by rw [← r.len]; exact hn) = o at ok
    unfold CodeO at h
    cases o with
    | lst ds => obtain ⟨vs, z, _⟩ := ok; rw [h] at z; cases z
    | dic ks ds => obtain ⟨vs, z, _⟩ := ok; rw [h] at z; cases z
    | ins c fs ds => obtain ⟨dx, vs, z, _⟩ := ok; rw [h] at z; cases z
    | dead => obtain ⟨o, z, n⟩ := ok; rw [h] at z; cases z; exact n _ rfl
  · obtain ⟨p, hp, e⟩ := List.mem_map.mp m
    obtain ⟨ps, z, _⟩ := r.tb p hp
    rw [e, h] at z
    exact codeO_ne ps (Option.some.inj z)
end
/-! ### the lambda is asked -/
/-- its names: captured ones, globals, parameters that nothing of the maker's is called by -/
structure LamS2 (N : List Str) (sc scope : Scope) : Prop where
  kind : scope.kind = .function
  co : scope.isCoroutine = false
  gen : scope.isGenerator = false
  own : ∀ y ∈ scope.names, y.2 ≠ .cell
  loc : ∀ y ∈ scope.names, y.2 = .local → y.1 ∉ N
  free : ∀ y ∈ scope.names, y.2 = .free → sc.names.lookup y.1 = some .cell ∨ sc.names.lookup y.1 = some .free
def lamS2B (N : List Str) (sc scope : Scope) : Bool := decide (scope.kind = .function) && (!scope.isCoroutine && (!scope.isGenerator && (scope.names.all fun y => !decide (y.2 = .cell) && ((!decide (y.2 = .local) || !decide (y.1 ∈ N)) && (!decide (y.2 = .free) || (decide (sc.names.lookup y.1 = some .cell) || decide (sc.names.lookup y.1 = some .free)))))))
theorem lamS2_by {N : List Str} {sc scope : Scope} (h : lamS2B N sc scope = true) : LamS2 N sc scope := by
  unfold lamS2B at h
  simp only [Bool.and_eq_true, Bool.or_eq_true, Bool.not_eq_true', decide_eq_true_eq, decide_eq_false_iff_not, List.all_eq_true] at h
  obtain ⟨h1, h2, h3, h4⟩ := h
  exact ⟨h1, h2, h3, fun y hy => (h4 y hy).1, fun y hy e => (h4 y hy).2.1.elim (fun z => absurd e z) id, fun y hy e => (h4 y hy).2.2.elim (fun z => absurd e z) id⟩
theorem LamS2.has {X : Cx} {scope : Scope} (L : LamS2 X.N X.env.scope scope) (ok : X.Ok) : ∀ y ∈ scope.names, y.2 = .free → ∃ c, X.env.cells.lookup y.1 = some c := fun y hy e => ok.has _ (L.free y hy e)
section
variable {X : Cx} {pins : List (Addr × Obj)} {σ : L2.St} {H HZ : Hp} {s s1 : Shared}
theorem lam_start3 {A : Around} {outer : List Env} {E : XK} {scope : Scope} {f c' : Addr} {h1 : Heap} {tk : Nat} {binds : List (Str × Value)} (I : Inv X pins σ H s) (L : LamS2 X.N X.env.scope scope) (e0 : Env0 X.prog X.w X.K X.mg X.base A outer s1 HZ) (hd : A.handled = none)
    (un : Un (frs X.stack) [] H HZ s.heap s1.heap) (hns : h1.Ns s1.heap.objs.size fun y => binds.reverse.lookup y) (kp : ∀ b o, s1.heap.get? b = some o → h1.get? b = some o) : Inv (lamCx X A outer s1 HZ E scope f c') [] σ HZ { s1 with heap := h1, toks := tk } := by
  have cm : ∀ {y c}, (cloFrom X.env.cells scope.names []).lookup y = some c → X.env.cells.lookup y = some c := fun {y c} e => by
    rcases cloFrom_mem (PySem.mem_of_lookup e) with hm | ⟨h1, h2⟩
    · cases hm
    · obtain ⟨c1, hc⟩ := L.has I.ok _ h1 rfl
      have hc : X.env.cells.lookup y = some c1 := hc
      rw [h2, hc] <;> rfl
  have look : ∀ {y}, scope.names.lookup y = some .free → ∃ c, (cloFrom X.env.cells scope.names []).lookup y = some c := fun {y} hl => mem_lookup (cloFrom_has (cells := X.env.cells) (acc := []) (show (y, NameKind.free) ∈ scope.names from PySem.mem_of_lookup hl))
  have cellK : ∀ {c : Addr} {v : Option Value}, H c = none → s.heap.IsCell c v → h1.IsCell c v := fun {c v} n ⟨o, ho, hd⟩ => (let ⟨sl, q⟩ := un.any ho n (by simp); ⟨_, kp _ _ q, hd⟩)
  have noA : ∀ b : Addr, b ∉ (lamCx X A outer s1 HZ E scope f c').ex := fun b z => absurd (show b ∈ ([] : List Addr) from z) (by simp)
  have okk : (lamCx X A outer s1 HZ E scope f c').Ok := ⟨e0.mod, L.kind, rfl, rfl, Nat.le_refl _, fun y z c e1 e2 => I.ok.inj y z c (cm e1) (cm e2), fun y hy => (show scope.names.lookup y = some .cell ∨ scope.names.lookup y = some .free from hy).elim (fun q => absurd rfl (L.own _ (PySem.mem_of_lookup q))) look, fun y c z _ => Bool.noConfusion (show false = true from z), fun _ => hd, Around.frames_deeper e0.frames, .inr ⟨rfl, rfl⟩, fun b z => absurd z (noA b), e0.bs, e0.bsz, fun b _ _ => noA b, fun b z => absurd z (noA b), e0.funs, e0.frf⟩
  refine ⟨okk, rfl, e0.bare, Un.kept kp, ⟨_, hns, fun i y v e1 e2 e3 => ?_⟩, fun y c e => ?_, e0.hok.fresh (Nat.le_refl _), fun y c e => ?_, fun q hq => absurd (show q ∈ ([] : List (Addr × Obj)) ++ [] from hq) (by simp), e0.hok.kept kp, I.len⟩
  · rcases (show Vis scope y from e3) with k | k | k
    · exact absurd (List.mem_of_getElem? e1) (L.loc _ (PySem.mem_of_lookup k) rfl)
    · exact absurd rfl (L.own _ (PySem.mem_of_lookup k))
    · obtain ⟨m, hn, hl⟩ := I.loc
      have hfr := L.free _ (PySem.mem_of_lookup k) rfl
      obtain ⟨w', r, q⟩ := hl i y v e1 e2 (.inr hfr)
      obtain ⟨c2, h2⟩ := look k
      refine ⟨w', r, .inr ⟨.inr k, c2, h2, ?_⟩⟩
      rcases q with ⟨k', _⟩ | ⟨_, c3, e', z⟩
      · have k' : X.env.scope.names.lookup y = some .local := k'
        rcases hfr with k2 | k2 <;> rw [show X.env.scope.names.lookup y = _ from k2] at k' <;> cases k'
      · rw [cm h2] at e'; cases e'; exact cellK (I.freeC y _ (cm h2)) z
  · obtain ⟨w', z⟩ := I.cell y c (cm e)
    exact ⟨w', cellK (I.freeC y c (cm e)) z⟩
  · obtain ⟨v, o, ho, hd⟩ := I.cell y c (cm e)
    exact un.free c o ho (I.freeC y c (cm e)) (by simp)
end
def actF : Out D → OutF
  | .ok d s => .ok d s.st
  | .er x s => .er x s.st
  | .no => .no
def dAsk (i : Nat) (A : List SO → OutF) : DenE := fun s => match s.sl[i]? with
  | some (some .ask) => ansF s (A s.st)
  | _ => .no
theorem outG_act {B : Bg} {G : Wd} {H : Hp} {σ : L2.St} {Q : VK} {E : XK} {o : Out D} (h : outD B G H Q E (actF o)) : outG ⟨B, G, H, fun cls d _ H' => E cls d H'⟩ (Has B) σ G H o Q := by
  cases o with
  | ok d s => exact fun G' H' y r e k => h G' H' y r.f e k
  | er x s => exact fun G' H' dd r e k n => h G' H' dd r.f e k n
  | no => exact h
section
variable {X : Cx} {jX : Cj} {pins : List (Addr × Obj)} {σ : L2.St} {H : Hp} {G : Wd} {s : Shared} {sX : S}
theorem de_ask {Eg : XK} {Ng : List Str} {qg : Str} {sg : Scope} {g f c' : Addr} {cdg dV doc pm ctv : Value} {params : Arguments} {body : Expr} {scope : Scope} {k i : Nat} {a : Str} {pn : List (Addr × Obj)} {xe : Value → Shared → Prop} {W : WX} {den : DenE} {p1 p2 : Pos}
    (I : Inv X pins σ H s) (rX : Rel jX G sX σ H) (hna : jX.B.ask = none) (L : LamS2 X.N X.env.scope scope) (hf : s.heap.get? f = some (lamO (X.env.qual ++ "<lambda>") params body scope (cloFrom X.env.cells scope.names []) dV doc pm c' ctv)) (hfn : H f = none) (hfr : f ∉ frs X.stack) (hco : H c' = some (CodeO c' (X.env.qual ++ "<lambda>")))
    (hbind : ∀ (sZ : Shared) (pinsZ : List (Addr × Obj)) (σZ : L2.St) (HZ : Hp) (GZ : Wd), Inv ((cxOf (L2.CX X.prog X.w) X.prog X.w X.K X.mg X.base Ng qg sg g cdg X.A X.stack s H Eg).tr pn xe) pinsZ σZ HZ sZ → Ext jX.B G H GZ HZ →
      ∃ binds, BindsTo sZ (PySem.W.kdv_fn "<lambda>" (X.env.qual ++ "<lambda>") params (.expr body) scope (cloFrom X.env.cells scope.names []) dV doc pm (.ref c') ctv) ⟨[], []⟩ binds ∧ ∀ y ∈ binds, scope.names.lookup y.1 = some .local)
    (tk : Takes ((cxOf (L2.CX X.prog X.w) X.prog X.w X.K X.mg X.base Ng qg sg g cdg X.A X.stack s H Eg).tr pn xe) W) (hr : Room (k + 1) (X.A.deeper (envOfC qg sg s.heap.objs.size g cdg)))
    (hbody : ∀ (A : Around) (outer : List Env) (s : Shared) (H : Hp) (E : XK) (G : Wd), Room k (A.deeper (lamEnv X scope s.heap.objs.size f c')) → Takes (lamCx X A outer s H E scope f c') (fun cls d _ H' => E cls d H') → DE (lamCx X A outer s H E scope f c') ⟨jX.B.wa f, G, H, fun cls d _ H' => E cls d H'⟩ body den)
    (hN : Ng[i]? = some a) (hv : Vis sg a) (hd : (a == ("__debug__" : Str)) = false) (hcd : (a == ("__classdict__" : Str)) = false) :
    DE ((cxOf (L2.CX X.prog X.w) X.prog X.w X.K X.mg X.base Ng qg sg g cdg X.A X.stack s H Eg).tr pn xe) ⟨jX.B.wa f, G, H, W⟩ (.Call (.Name a p1) [] [] p2) (dAsk i fun st => actF (den ⟨sX.sl, st, st.length⟩)) := by
  refine ⟨fun pinsZ sZ σZ HZ Q IZ ⟨GZ, s', r, o⟩ => ?_⟩
  unfold dAsk at o
  split at o
  · rename_i hsl
    obtain ⟨v, hs, hav⟩ := r.sl i _ hsl
    cases hav with
    | @ask f' hask =>
    have ef : f' = f := (Option.some.inj hask).symm
    subst ef
    refine wpAny_Call_Name_kw (thn ((pv (X := (cxOf (L2.CX X.prog X.w) X.prog X.w X.K X.mg X.base Ng qg sg g cdg X.A X.stack s H Eg).tr pn xe) (pos := p1) (i := i) hN hv hd hcd).run pinsZ sZ σZ HZ (fun v H1 => v = .ref f' ∧ H1 = HZ) IZ ⟨.ref f', hs, rfl, rfl⟩) fun u s1 ⟨v, H1, I1, r1, q1⟩ => ?_)
    obtain ⟨ev, eH⟩ := q1
    subst ev
    rw [eH] at I1
    obtain rfl : u = Value.ref f' := r1
    have of1 : s1.heap.get? f' = some (lamO (X.env.qual ++ "<lambda>") params body scope (cloFrom X.env.cells scope.names []) dV doc pm c' ctv) := I1.base.keep f' _ hf hfn hfr (fun z => nomatch (show f' ∈ ([] : List Addr) from z))
    refine PySem.W.callWith_F0 ⟨_, _, _, _, of1⟩ ?_
    have un : Un (frs X.stack) [] H HZ s.heap s1.heap := I1.base
    obtain ⟨n1, n2⟩ := code_out rX.f hco
    have hcz : HZ c' = some (CodeO c' (X.env.qual ++ "<lambda>")) := r.e.keep c' _ hco n1 n2
    obtain ⟨⟨oc, vs, t, hoc, hdc, hvc⟩, _, _⟩ := I1.hok c' _ hcz
    have od := outD_of r o
    obtain ⟨binds, hb, hloc⟩ := hbind s1 pinsZ σZ HZ GZ I1 r.e.ofAsk
    have rc : codeAny (model X.prog X.w) (X.A.deeper (envOfC qg sg s.heap.objs.size g cdg)) (.call (.ref f') ⟨[], []⟩) (CR (L2.CX X.prog X.w) (envOfC qg sg s.heap.objs.size g cdg :: X.stack) X.prog X.w HZ s1 Q (WE W σZ)) s1 := by
      refine PySem.W.kla_callFunE hr.depth of1 rfl L.co L.gen rfl ⟨c', oc, vs, t, rfl, hoc, hdc, hvc⟩ (hb _ _ _ _ ?_)
      refine wpAny_newFunctionEnv L.own hloc (fun h1 hns hsb => ⟨I1.nolimit.fresh _ hsb, ?_⟩) L.kind
      show codeAny _ _ (.expr body (lamEnv X scope s1.heap.objs.size f' c')) _ _
      have kp : ∀ b o, s1.heap.get? b = some o → h1.get? b = some o := fun b o e => hsb.extBut b o (Nat.ne_of_lt (Heap.lt_size e)) (Heap.get?_push_of_some _ e)
      have J : Inv (lamCx X (X.A.deeper (envOfC qg sg s.heap.objs.size g cdg)) (envOfC qg sg s.heap.objs.size g cdg :: X.stack) s1 HZ (WE W σZ) scope f' c') [] σ HZ { s1 with heap := h1, toks := s1.toks + binds.length } := lam_start3 I L I1.env0 hr.hd un hns kp
      have rel : Rel ⟨jX.B.wa f', GZ, HZ, fun cls d _ H' => WE W σZ cls d H'⟩ GZ ⟨sX.sl, s'.st, s'.st.length⟩ σ HZ := ⟨r.f, .refl _ _, r.f.len.symm, rX.ln, fun m d e => (let ⟨v, e1, e2⟩ := rX.sl m d e; ⟨v, e1, (e2.toAsk hna).mono r.e.le⟩)⟩
      refine PySem.W.kla_codeExpr (wpAny_mono ((hbody _ _ s1 HZ (WE W σZ) GZ (hr.deeper _) (takes_of rfl rfl rfl rfl)).run [] _ _ HZ Q J ⟨GZ, _, rel, outG_act od⟩) (fun v s' hq => ?_) fun e s' hq => hq)
      obtain ⟨w', H', J', rv, q⟩ := hq
      exact ⟨w', H', J'.os, J'.bare, J'.base, J'.hok, rv, q⟩
    refine wpAny_call (codeAny_mono rc fun r2 s2 hq => ?_)
    cases r2 with
    | error e => exact passAt tk σZ pinsZ HZ s1 e s2 I1 hq
    | ok fl =>
      cases fl with
      | ret u => exact I1.after hq
      | next => exact False.elim hq
      | brk => exact False.elim hq
      | cont => exact False.elim hq
  · exact o.elim
end
end DL
end

section
set_option maxHeartbeats 4000000
/-! DL part 15: f(lambda: e). -/
namespace DL
open PySem PySem.Spec PyProof.Rows L2 LamX

/-- what the def does that gets the function: denH, given what asking does -/
def dHeard (n : Nat) (denH : (List SO → OutF) → DenS) (den : DenE) : DenE := fun s =>
  ansF s (outAsk (endF s.st.length (denH (fun st => actF (den ⟨s.sl, st, st.length⟩)) ⟨[D.ask].map some ++ List.replicate (n - 1) none, s.st, s.st.length⟩)))
/-- a def that is given a function and asks it -/
structure Hears (P : Program) (w : World) (K : PySem.W.Frag) (mg : Str → Option Value) (base : Heap) (B : Bg) (k : Nat) (x a : Str) (g : Addr) (Ng : List Str) (bg : List Stmt) (sg : Scope) (denH : (List SO → OutF) → DenS) : Prop where
  ex : ∃ (pg : Arguments) (dV kV doc pm cdv ct oc : Value) (an od : Option Addr) (osl : Array (Option Value)), K.lookup g = some ⟨oc, od, .func (PySem.W.fnOf x x pg bg sg dV kV doc pm an cdv ct), osl⟩ ∧ PySem.W.codeIn K cdv x = true ∧ Binds K (PySem.W.fnOf x x pg bg sg dV kV doc pm an cdv ct) [a] []
  kp : PySem.W.keepIn K (.ref g) = true
  S : FnScope Ng [a] sg
  nm : Ng[0]? = some a
  vis : Vis sg a
  body : ∀ (f : Addr) (A : Around) (outer : List Env) (s : Shared) (H : Hp) (E : XK) (G : Wd) (cdv : Value) (AF : List SO → OutF), Room k (A.deeper (envOfC x sg s.heap.objs.size g cdv)) →
    Takes (cxOf (L2.CX P w) P w K mg base Ng x sg g cdv A outer s H E) (fun cls d _ H' => E cls d H') →
    PassesOwn (model P w) (A.deeper (envOfC x sg s.heap.objs.size g cdv)) (envOfC x sg s.heap.objs.size g cdv) (cxOf (L2.CX P w) P w K mg base Ng x sg g cdv A outer s H E).xe →
    (∀ (W : WX) (pn : List (Addr × Obj)) (xe : Value → Shared → Prop) (p1 p2 : Pos), Takes ((cxOf (L2.CX P w) P w K mg base Ng x sg g cdv A outer s H E).tr pn xe) W →
      DE ((cxOf (L2.CX P w) P w K mg base Ng x sg g cdv A outer s H E).tr pn xe) ⟨B.wa f, G, H, W⟩ (.Call (.Name a p1) [] [] p2) (dAsk 0 AF)) →
    DSs (cxOf (L2.CX P w) P w K mg base Ng x sg g cdv A outer s H E) ⟨B.wa f, G, H, fun cls d _ H' => E cls d H'⟩ bg (denH AF)
section
variable {X : Cx} {j : Cj} {pins : List (Addr × Obj)} {σ : L2.St} {H : Hp} {G : Wd} {s : Shared} {sX : S} {x a : Str} {g f c' : Addr} {Ng : List Str} {bg : List Stmt} {sg : Scope} {denH : (List SO → OutF) → DenS} {den : DenE} {k : Nat}
theorem heard_core {dV doc pm ctv : Value} {params : Arguments} {body : Expr} {scope : Scope} {Q : VK} (Hr : Hears X.prog X.w X.K X.mg X.base j.B (k + 1) x a g Ng bg sg denH) (tk : Takes X j.W) (hr : Room (k + 2) X.A)
    (I : Inv X pins σ H s) (rX : Rel j G sX σ H) (hna : j.B.ask = none) (L : LamS2 X.N X.env.scope scope) (hf : s.heap.get? f = some (lamO (X.env.qual ++ "<lambda>") params body scope (cloFrom X.env.cells scope.names []) dV doc pm c' ctv)) (hfn : H f = none) (hfr : f ∉ frs X.stack) (hco : H c' = some (CodeO c' (X.env.qual ++ "<lambda>")))
    (hbind : ∀ (Z : Cx) (sZ : Shared) (pinsZ : List (Addr × Obj)) (σZ : L2.St) (HZ : Hp) (GZ : Wd), Z.K = X.K → Inv Z pinsZ σZ HZ sZ → Ext j.B G H GZ HZ →
      ∃ binds, BindsTo sZ (PySem.W.kdv_fn "<lambda>" (X.env.qual ++ "<lambda>") params (.expr body) scope (cloFrom X.env.cells scope.names []) dV doc pm (.ref c') ctv) ⟨[], []⟩ binds ∧ ∀ y ∈ binds, scope.names.lookup y.1 = some .local)
    (hbody : ∀ (A : Around) (outer : List Env) (s : Shared) (H : Hp) (E : XK) (G : Wd), Room k (A.deeper (lamEnv X scope s.heap.objs.size f c')) → Takes (lamCx X A outer s H E scope f c') (fun cls d _ H' => E cls d H') → DE (lamCx X A outer s H E scope f c') ⟨j.B.wa f, G, H, fun cls d _ H' => E cls d H'⟩ body den)
    (hd : (a == ("__debug__" : Str)) = false) (hcd : (a == ("__classdict__" : Str)) = false) (o : outG j (Has j.B) σ G H (dHeard Ng.length denH den sX) Q) : wpAny (model X.prog X.w) X.A (call (.ref g) [.ref f]) (EP X pins σ Q) X.xe s := by
  obtain ⟨pg, dVg, kVg, docg, pmg, cdv, ctg, oc, an, od, osl, lk, hcg, hb⟩ := Hr.ex
  have rc : codeAny (model X.prog X.w) X.A (.call (.ref g) ⟨[.ref f], []⟩) (CR (L2.CX X.prog X.w) X.stack X.prog X.w H s Q (WE j.W σ)) s := by
    refine run_ofS (N := Ng) (ps := [a]) (us := [.ref f]) (vs := [.ref f]) lk hcg Hr.S hr I.env0 (hb s [.ref f] I.kIn rfl) (.cons rfl .nil) rfl fun hr' => ?_
    have hbd := Hr.body f X.A X.stack s H (WE j.W σ) G cdv (fun st => actF (den ⟨sX.sl, st, st.length⟩)) hr' (takes_of rfl rfl rfl rfl) (passes_of rfl)
      (fun W pn xe p1 p2 tk2 => de_ask (i := 0) I rX hna L hf hfn hfr hco (fun sZ pinsZ σZ HZ GZ IZ e => hbind ((cxOf (L2.CX X.prog X.w) X.prog X.w X.K X.mg X.base Ng x sg g cdv X.A X.stack s H (WE j.W σ)).tr pn xe) sZ pinsZ σZ HZ GZ rfl IZ e) tk2 hr' hbody Hr.nm Hr.vis hd hcd)
    refine ⟨_, hbd, G, _, start_rel (B := j.B.wa f) (N := Ng) (ds := [D.ask]) (rX.f.toAsk hna) (.cons (.ask rfl) .nil) (by have := congrArg List.length Hr.S.pre; rw [List.length_take] at this; simp at this ⊢; omega), ?_⟩
    refine end_ok (W := fun cls d _ H' => WE j.W σ cls d H') (fun _ _ _ _ h => h) ?_
    have od := outD_ask (f := f) (outD_of rX o)
    rw [rX.f.len]
    exact od
  refine wpAny_call (codeAny_mono rc fun r s2 hq => ?_)
  cases r with
  | error e => exact passAt tk σ pins H s e s2 I hq
  | ok fl =>
    cases fl with
    | ret u => exact I.after hq
    | next => exact False.elim hq
    | brk => exact False.elim hq
    | cont => exact False.elim hq
/-- x(lambda: e) -/
theorem de_heard {n0 : Nat} {c P : Addr} {params : Arguments} {body : Expr} {scope : Scope} {p lpos pos : Pos} (Hr : Hears X.prog X.w X.K X.mg X.base j.B (k + 1) x a g Ng bg sg denH) (tk : Takes X j.W) (hr : Room (k + 2) X.A) (hna : j.B.ask = none) (hg : Gl X x) (hm : X.mg x = some (.ref g))
    (L : LamS2 X.N X.env.scope scope) (TB : TabB X.base X.mg c P) (hcode : X.env.code = .ref c) (hmT : (P, X.env.qual ++ "<lambda>") ∈ j.B.T) (hu : ∀ p ∈ j.B.T, p.1 = P → p.2 = X.env.qual ++ "<lambda>") (hdef : defaultsOf params X.env = ([], []))
    (hbind : ∀ (q : Str) (cl : List (Str × Addr)) (doc pm cv ctv : Value), bindArgs (PySem.W.kdv_fn "<lambda>" q params (.expr body) scope cl .none doc pm cv ctv) ⟨[], []⟩ = pure [])
    (hbody : ∀ (f c' : Addr) (A : Around) (outer : List Env) (s : Shared) (H : Hp) (E : XK) (G : Wd), Room k (A.deeper (lamEnv X scope s.heap.objs.size f c')) → Takes (lamCx X A outer s H E scope f c') (fun cls d _ H' => E cls d H') → DE (lamCx X A outer s H E scope f c') ⟨j.B.wa f, G, H, fun cls d _ H' => E cls d H'⟩ body den)
    (hdb : (x == ("__debug__" : Str)) = false := by decide) (hd : (a == ("__debug__" : Str)) = false := by decide) (hcd : (a == ("__classdict__" : Str)) = false := by decide) (hn : Ng.length = n0 := by rfl) :
    DE X j (.Call (.Name x p) [.Lambda params body scope lpos] [] pos) (dHeard n0 denH den) := by
  subst hn
  refine ⟨fun pins s σ H Q I ⟨G, sX, r, o⟩ => ?_⟩
  obtain ⟨ps, hP, ht, ha⟩ := r.f.tb _ hmT
  refine wpAny_Call_Name_kw (ld_glob I hg hm ?_ hdb)
  refine PySem.W.callWith_K (h₀ := X.base) I.ok.mod.kin Hr.kp ?_ (by rfl) (by rfl)
  show wpAny _ _ (spliced ((false, eval (.Lambda params body scope lpos) X.env) :: backTo pos (starEach [] X.env))) _ _ s
  refine Calls.spliced_cons (PySem.W.kla_eval hdef ?_)
  rw [makeFunction_eq]
  simp only [List.zip_nil_right, List.filterMap_nil, List.isEmpty_nil, if_true, pure_bind]
  refine lamk I TB hcode hP ht ha (L.has I.ok) fun f c' doc pm ctv H1 s' I1 lh hco hf hfn hfr => ?_
  obtain ⟨r1, e1⟩ := r.lam lh hmT hu
  exact Calls.spliced_nil ⟨I1.kIn, heard_core Hr tk hr I1 r1 hna L hf hfn hfr hco (fun Z sZ pinsZ σZ HZ GZ hZ IZ e => ⟨[], .of_eq (hbind _ _ _ _ _ _), fun y hy => absurd hy (by simp)⟩) (hbody f c') hd hcd (outG.mono o e1)⟩
/-- x(lambda v=i: e), v not used -/
theorem de_heardD {n0 : Nat} {c P : Addr} {params : Arguments} {body : Expr} {scope : Scope} {i : Int} {n : Nat} {v : Str} {p ip lpos pos : Pos} (Hr : Hears X.prog X.w X.K X.mg X.base j.B (k + 1) x a g Ng bg sg denH) (tk : Takes X j.W) (hr : Room (k + 2) X.A) (hna : j.B.ask = none) (hg : Gl X x) (hm : X.mg x = some (.ref g))
    (L : LamS2 X.N X.env.scope scope) (TB : TabB X.base X.mg c P) (hcode : X.env.code = .ref c) (hmT : (P, X.env.qual ++ "<lambda>") ∈ j.B.T) (hu : ∀ p ∈ j.B.T, p.1 = P → p.2 = X.env.qual ++ "<lambda>") (hpd : params.defaults = [.Constant (.int i) n ip]) (hkd : params.kw_defaults = []) (hv : scope.names.lookup v = some .local)
    (hbind : ∀ (q : Str) (cl : List (Str × Addr)) (T : Addr) (doc pm cv ctv u : Value), ∃ kk : Option (Array Value) → Sem (List (Str × Value)), bindArgs (PySem.W.kdv_fn "<lambda>" q params (.expr body) scope cl (.ref T) doc pm cv ctv) ⟨[], []⟩ = seqItems? (.ref T) >>= kk ∧ kk (some #[u]) = pure [(v, u)])
    (hbody : ∀ (f c' : Addr) (A : Around) (outer : List Env) (s : Shared) (H : Hp) (E : XK) (G : Wd), Room k (A.deeper (lamEnv X scope s.heap.objs.size f c')) → Takes (lamCx X A outer s H E scope f c') (fun cls d _ H' => E cls d H') → DE (lamCx X A outer s H E scope f c') ⟨j.B.wa f, G, H, fun cls d _ H' => E cls d H'⟩ body den)
    (hdb : (x == ("__debug__" : Str)) = false := by decide) (hd : (a == ("__debug__" : Str)) = false := by decide) (hcd : (a == ("__classdict__" : Str)) = false := by decide) (hn : Ng.length = n0 := by rfl) :
    DE X j (.Call (.Name x p) [.Lambda params body scope lpos] [] pos) (dHeard n0 denH den) := by
  subst hn
  refine ⟨fun pins s σ H Q I ⟨G, sX, r, o⟩ => ?_⟩
  refine wpAny_Call_Name_kw (ld_glob I hg hm ?_ hdb)
  refine PySem.W.callWith_K (h₀ := X.base) I.ok.mod.kin Hr.kp ?_ (by rfl) (by rfl)
  show wpAny _ _ (spliced ((false, eval (.Lambda params body scope lpos) X.env) :: backTo pos (starEach [] X.env))) _ _ s
  refine Calls.spliced_cons (PySem.W.kdv_lam (by rw [hpd] <;> rfl) hkd ?_)
  rw [hpd]
  refine PySem.W.kdv_all1 (thn (pe_int.run pins s σ H (fun w H1 => w = .int i ∧ H1 = H) I ⟨rfl, rfl⟩) fun u s1 ⟨w, H1, I1, ru, ew, eH⟩ => PySem.W.kdv_all0 ?_)
  subst ew
  rw [eH] at I1
  rw [makeFunction_eq]
  simp only [List.zip_nil_right, List.filterMap_nil, List.isEmpty_nil, List.isEmpty_cons, if_true, pure_bind, Bool.false_eq_true, if_false]
  refine wpAny_bind (wpAny_newTextTuple ?_)
  have nT : H s1.heap.objs.size = none := I1.hok.fresh (Nat.le_refl _)
  have hT : (s1.heap.push ({ cls := .type "tuple", data := .seq [u].toArray } : Obj)).get? s1.heap.objs.size = some ({ cls := .type "tuple", data := .seq [u].toArray } : Obj) := Heap.get?_push_size _ rfl
  have I2 : Inv X pins σ (upd H s1.heap.objs.size (.tup [.int i])) { s1 with heap := s1.heap.push ({ cls := .type "tuple", data := .seq [u].toArray } : Obj) } :=
    I1.laid (t' := s1.toks) (fun b o e => Heap.get?_push_of_some _ e) (Nat.le_refl _) ⟨by show 1 ≤ sizeLine; decide, [u], .cons ru .nil, ⟨_, hT, rfl, _, rfl⟩⟩
  have r2 := r.laid nT (.tup [.int i])
  have l2 : Ext j.B G H G (upd H s1.heap.objs.size (.tup [.int i])) := Ext.laid nT _
  obtain ⟨ps, hP, ht, ha⟩ := r2.f.tb _ hmT
  refine lamk I2 TB hcode hP ht ha (L.has I2.ok) fun f c' doc pm ctv H3 s' I3 lh hco hf hfn hfr => ?_
  obtain ⟨r3, e3⟩ := r2.lam lh hmT hu
  have n1 : s1.heap.objs.size ∉ G.ρ ∧ s1.heap.objs.size ∉ j.B.ta := ⟨(r.f.fresh nT).2.1, (r.f.fresh nT).2.2⟩
  have hT3 : H3 s1.heap.objs.size = some (.tup [.int i]) := e3.keep _ _ upd_same n1.1 n1.2
  refine Calls.spliced_nil ⟨I3.kIn, heard_core Hr tk hr I3 r3 hna L hf hfn hfr hco (fun Z sZ pinsZ σZ HZ GZ hZ IZ e => ?_) (hbody f c') hd hcd (outG.mono o (l2.trans e3))⟩
  have hTZ : HZ s1.heap.objs.size = some (.tup [.int i]) := e.keep _ _ hT3 n1.1 n1.2
  obtain ⟨its, rv, ⟨oT, h1, h2, m, h3⟩, _⟩ := IZ.tuple (SqT.of (K := Z.K) hTZ)
  obtain ⟨u', rfl⟩ : ∃ u', its = [u'] := by
    cases rv with
    | cons a b => cases b; exact ⟨_, rfl⟩
  obtain ⟨kk, k1, k2⟩ := hbind (X.env.qual ++ "<lambda>") (cloFrom X.env.cells scope.names []) s1.heap.objs.size doc pm (.ref c') ctv u'
  exact ⟨[(v, u')], BindsTo.of_defaults rfl h1 h3 k1 k2, fun y hy => by simp at hy; rw [hy]; exact hv⟩
end
end DL
end

section
set_option maxHeartbeats 4000000
/-! DL part 16: try .. except C as e: .., the exception kept as a value. -/
namespace DL
open PySem PySem.Spec PyProof.Rows L2

/-- the context of the suite: the exception at a is handled, nothing leaves -/
abbrev sui (X : Cx) (a : Addr) : Cx := { X with A := X.A.mark (some (.ref a)), calm := false, xe := fun _ _ => False }
section
variable {X : Cx} {pins : List (Addr × Obj)} {σ : L2.St} {H : Hp} {s sI : Shared} {B : Heap} {a C dd : Addr}
theorem ok_sui (ok : X.Ok) (a : Addr) : (sui X a).Ok := ⟨ok.mod, ok.kind, ok.glob, ok.blt, ok.above, ok.inj, ok.has, ok.cab, (fun z => absurd (show false = true from z) Bool.false_ne_true), ok.frames, ok.stk, ok.exf, ok.bs, ok.bsz, ok.noex, ok.exfs, ok.funs, ok.frf⟩
theorem Inv.toSui (I : Inv X pins σ H s) (a : Addr) : Inv (sui X a) pins σ H s := ⟨ok_sui I.ok a, I.os, I.bare, I.base, I.loc, I.cell, I.free, I.freeC, I.pin, I.hok, I.len⟩
theorem Inv.ofSui (I : Inv (sui X a) pins σ H s) (ok : X.Ok) : Inv X pins σ H s := ⟨ok, I.os, I.bare, I.base, I.loc, I.cell, I.free, I.freeC, I.pin, I.hok, I.len⟩
/-- the caught exception is tracked from now on -/
theorem Inv.keepExc {oe : Obj} {vs : Array Value} (I : Inv X pins σ H sI) (nb : ∀ b o, sI.heap.get? b = some o → b ∉ frs X.stack → B.get? b = some o) (st : B.StaysIn s.heap) (hB : B.get? a = none) (nfr : a ∉ frs X.stack) (up : sI.heap.UpToSlots s.heap) (os : s.os = sI.os) (ag : AllBare s.gens)
    (na : H a = none) (he : s.heap.get? a = some oe) (hz : Zc (.ref C) (some dd) oe) (hd : oe.data = .fields vs) : Inv X pins σ (upd H a (ExH C dd a)) s := by
  obtain ⟨G, g1, g2⟩ := restrict s.heap fun b => decide (b ≠ a)
  have gk : ∀ b, b ≠ a → G.get? b = s.heap.get? b := fun b hb => g1 b (decide_eq_true hb)
  have ge : G.get? a = none := g2 a (by simp)
  have nI : sI.heap.get? a = none := by
    cases q : sI.heap.get? a with
    | none => rfl
    | some o => rw [nb a o q nfr] at hB; cases hB
  have J : Inv X pins σ H { s with heap := G } := Inv.landed (s' := { s with heap := G }) I nb (fun b o e => (gk b (fun z => by rw [z, hB] at e; cases e)).trans (st b o e)) (fun b o e hn => by
    obtain ⟨sl, q⟩ := up b o e hn
    exact ⟨sl, (gk b (fun z => by rw [z, nI] at e; cases e)).trans q⟩) os ag
  have J2 := Inv.laidN (t' := s.toks) (h' := s.heap) (a := a) (o := ExH C dd a) J (fun b u e => by
    by_cases hb : b = a
    · rw [hb] at e; have e' : G.get? a = some u := e; rw [ge] at e'; cases e'
    · exact (gk b hb).symm.trans e) ge na ⟨⟨oe, vs, he, hz.1, hz.2, hd⟩, ⟨oe, he⟩, fun h1 h2 ⟨oe, vs, q1, q2, q3, q4⟩ k => ⟨oe, vs, k _ q1, q2, q3, q4⟩⟩
  exact J2
end
/-- what the clause wishes of an exception of the body: slot i is the name's -/
def wKeep (K : PySem.W.Frag) (c : Value) (i : Nat) (ts : TS) (Wout : WX) (D : Ends) : WX := fun cls d σ H => ∃ b, PySem.W.exmOne K cls c = some b ∧
  (b = true → ∃ C dd, cls = .ref C ∧ d = some dd ∧ ∀ a, H a = none → ts { nx := fun σ' H' => D.nx (σ'.set i none) H', rt := D.rt, bk := fun σ' H' => D.bk (σ'.set i none) H', ct := fun σ' H' => D.ct (σ'.set i none) H' } (σ.set i (some (.ref a))) (upd H a (ExH C dd a))) ∧ (b = false → Wout cls d σ H)
section
variable {X : Cx} {x n : Str} {c : Value} {i : Nat} {body suite : List Stmt} {b₀ : Stmt} {np pos pos' : Pos} {tb : WX → TS} {ts : TS} {Wout : WX}
theorem ps_try_keep (hs : X.stack = X.env :: X.outer) (hf : X.env.frame = some X.env.locals) (hN : X.N.Nodup) (hi : X.N[i]? = some n) (hln : X.env.kindOf n = some .local) (hc : Names X x c) (tk : Takes X Wout)
    (hb : ∀ (W : WX) (pn : List (Addr × Obj)) (xe : Value → Shared → Prop), Takes (X.tr pn xe) W → PassesOwn (model X.prog X.w) X.A X.env xe → PSs (X.tr pn xe) body (tb W)) (hsu : ∀ (a : Addr), PSs (sui X a) (b₀ :: suite) ts) :
    PS X (.Try body [.ExceptHandler (some (.Name x np)) (some n) (b₀ :: suite) pos'] [] [] pos) (fun D σ H => tb (wKeep X.K c i ts Wout D) D σ H) := by
  refine ⟨fun pins s σ H D I h => ?_⟩
  have ok := I.ok
  have hfr : X.A.frames = some (X.env :: X.outer) := by rw [ok.frames, hs]
  refine wpAny_Try_except (wpAny_mono ((hb (wKeep X.K c i ts Wout D) (X.pn ++ pins) (fun e s1 => wpAny (model X.prog X.w) X.A (noteFrame e X.env) (fun _ s2 => wpAny (model X.prog X.w) X.A (setFlight e none) (fun _ s3 =>
    wpAny (model X.prog X.w) X.A (handleBy e X.env [.ExceptHandler (some (.Name x np)) (some n) (b₀ :: suite) pos']) (SP X pins D) X.xe s3) X.xe s2) X.xe s1) (fun u s' xx => ?_) PassesOwn.looking).run [] s σ H D (I.toTry _) h) (fun f s1 hsp => ?_) (fun e s1 he => he))
  · obtain ⟨a, B, sI, pins', σ', H', cls, d, rfl, J', nb, up, sky, na, os, ag, b, hb1, hyes, hno⟩ := xx
    have J : Inv X pins σ' H' sI := J'.ofTry ok
    show wpAny (model X.prog X.w) X.A (noteFrame (.ref a) X.env) _ _ _
    refine Sky.land Zc.steady hfr hf (show Sky B (X.env :: X.outer) a (Zc cls d) X.env.locals s'.heap by rw [← hs]; exact sky) fun h3 fl3 up3 => ?_
    have J3 : Inv X pins σ' H' { s' with heap := h3 } := J.landed nb fl3.1 (up.trans up3) os ag
    obtain ⟨oe3, vs3, he3, hz3, hd3⟩ := fl3.there
    have notFr : ∀ {h : Heap} {o : Obj} {vs : Array Value}, h.FunFrames B (X.env :: X.outer) → h.get? a = some o → o.data = .fields vs → a ∉ frs (X.env :: X.outer) := fun {h o vs} ff e dd hm => by
      obtain ⟨_, o', e', hnf⟩ := ff.mem hm; rw [e] at e'; cases e'; exact hnf _ dd
    have nfr := notFr fl3.2.2.1 he3 hd3
    have nL : a ≠ X.env.locals := fun z => nfr (List.mem_filterMap.mpr ⟨X.env, List.mem_cons_self, by rw [hf, z]⟩)
    have nF : a ∉ X.fs := fun hm => (let ⟨e, he, q⟩ := List.mem_filterMap.mp hm; nfr (List.mem_filterMap.mpr ⟨e, List.mem_cons_of_mem _ he, q⟩))
    have S3 := J3.suite he3 hd3 na nL nF
    refine wpAny_handleBy_cons (codeAny_handlers_test ?_) (by intro q; cases q)
    have LT : PySem.W.Looks (model X.prog X.w) h3 (typeOf (.ref a)) cls := fun A Q E s k q => wpAny_typeOf_ref (k _ _ he3) (by rw [hz3.1]; exact q)
    have LM := PySem.W.exm_one (M := model X.prog X.w) (J3.kIn) LT hb1
    have test : ∀ {Q : Value → Shared → Prop} {E : Value → Shared → Prop}, Q c { s' with heap := h3 } → wpAny (model X.prog X.w) (X.A.mark (some (.ref a))) (eval (.Name x np) X.env) Q E { s' with heap := h3 } := fun {Q E} q =>
      (let ⟨hg, hdbg, hm⟩ := hc; hm.elim (fun hm => ld_glob (X := X.suite a ((a, oe3) :: (X.pn ++ pins))) S3 hg hm q hdbg) fun ⟨hm, hv, hnn⟩ => ld_blt (X := X.suite a ((a, oe3) :: (X.pn ++ pins))) S3 hg hm hv q hnn hdbg)
    refine test (LM.here ?_)
    cases b with
    | true =>
      obtain ⟨C, dd, rfl, rfl, hts⟩ := hyes rfl
      refine codeAny_handlers_suite_as (HandSPX.lands_againZ fl3 fun h4 fl4 up4 => ?_)
      obtain ⟨oe4, vs4, he4, hz4, hd4⟩ := fl4.there
      have J4 : Inv X pins σ' (upd H' a (ExH C dd a)) { s' with heap := h4 } := Inv.keepExc (s := { s' with heap := h4 }) J nb fl4.1 fl4.2.1 (by rw [hs]; exact nfr) ((up.trans up3).trans up4) os ag na he4 hz4 hd4
      refine store_ok (X := sui X a) (v := .ref a) (Inv.toSui J4 a) hN hi (.inl hln) rfl (fun s5 S5 => ?_) (.inr hln)
      refine wpAny_mono ((hsu a).run pins s5 _ _ _ S5 (hts a na)) (fun f s6 hsp => ?_) (fun _ _ z => False.elim z)
      have end_ : ∀ {σ6 : L2.St} {H6 : Hp} {Q : Shared → Prop}, Inv (sui X a) pins σ6 H6 s6 → (∀ s7, Inv X pins (σ6.set i none) H6 s7 → Q s7) → wpAny (model X.prog X.w) X.A (do bindName X.env n .none; unbindBehindTheSuite X.env n pos') (fun _ s7 => Q s7) X.xe s6 := fun {σ6 H6 Q} S6 hq => gone_ok (Inv.ofSui S6 ok) hN hi hln hq
      cases f with
      | ret u => obtain ⟨v6, σ6, H6, S6, r6, q6⟩ := hsp; exact end_ S6 fun s7 J7 => ⟨_, _, _, J7, r6, q6⟩
      | next => obtain ⟨σ6, H6, S6, q6⟩ := hsp; exact end_ S6 fun s7 J7 => ⟨_, _, J7, q6⟩
      | brk => obtain ⟨σ6, H6, S6, q6⟩ := hsp; exact end_ S6 fun s7 J7 => ⟨_, _, J7, q6⟩
      | cont => obtain ⟨σ6, H6, S6, q6⟩ := hsp; exact end_ S6 fun s7 J7 => ⟨_, _, J7, q6⟩
    | false =>
      show wpAny _ X.A (handleBy (.ref a) X.env []) _ _ _
      refine wpAny_handleBy_nil ?_
      obtain ⟨k1, k2, k3, oe, vs, T, oT, ts', he, hz, hd, h1, hr⟩ := id fl3
      unfold PySem.passOn
      refine wpAny_bind (wpAny_field he hd h1 ?_)
      rw [if_neg (show ¬ ((Value.ref T == Value.none) = true) from by simp)]
      have fin : wpAny (model X.prog X.w) X.A (setFlight (.ref a) X.env.frame) (fun _ s4 => wpAny (model X.prog X.w) X.A (throw (.ref a) : Sem Flow) (SP X pins D) X.xe s4) X.xe { s' with heap := h3 } := by
        rw [hf]
        exact HandSPX.setFlight_upZ fl3 fun h4 hh4 up4 => wpAny_throw (tk _ _ ⟨a, B, sI, pins', σ', H', cls, d, rfl, ⟨ok, J'.os, J'.bare, J'.base, J'.loc, J'.cell, J'.free, J'.freeC, fun p hp => J'.pin p (List.mem_append.mpr ((List.mem_append.mp hp).imp (fun z => List.mem_append_left _ z) id)), J'.hok, J'.len⟩, nb, (up.trans up3).trans up4, .inr (.inr (by rw [hs]; exact hh4)), na, os, ag, hno rfl⟩)
      first
        | exact wpAny_bind (wpAny_pure (wpAny_bind fin))
        | exact wpAny_bind fin
  · cases f with
    | next => obtain ⟨σ', H', J', q⟩ := hsp; exact wpAny_execs_nil ⟨σ', H', J'.ofTry ok, q⟩
    | brk => obtain ⟨σ', H', J', q⟩ := hsp; exact ⟨σ', H', J'.ofTry ok, q⟩
    | cont => obtain ⟨σ', H', J', q⟩ := hsp; exact ⟨σ', H', J'.ofTry ok, q⟩
    | ret u => obtain ⟨v, σ', H', J', r, q⟩ := hsp; exact ⟨v, σ', H', J'.ofTry ok, r, q⟩
end
/-! ### the rule over data -/
/-- try: db / except C as (slot i): ds; yes: which classes it takes (none: not known) -/
def sTryK (i : Nat) (yes : Str → Option Bool) (db ds : DenS) : DenS := fun s => match db s with
  | .er x s1 => (match yes x.c with
    | some true => if i < s1.sl.length then (match ds { s1 with sl := s1.sl.set i (some (.exc x.c x.fs x.ds)) } with
      | .ok f s2 => .ok f { s2 with sl := s2.sl.set i none }
      | _ => .no) else .no
    | some false => .er x s1
    | none => .no)
  | r => r
section
variable {j : Cj} {G : Wd} {s : S} {σ : L2.St} {H : Hp}
theorem Rel.cw {W : WX} (r : Rel j G s σ H) : Rel ⟨j.B, j.G0, j.H0, W⟩ G s σ H := ⟨r.f, r.e, r.b, r.ln, r.sl⟩
theorem Rel.wc {W : WX} (r : Rel ⟨j.B, j.G0, j.H0, W⟩ G s σ H) : Rel j G s σ H := ⟨r.f, r.e, r.b, r.ln, r.sl⟩
/-- a slot is emptied -/
theorem Rel.unset (r : Rel j G s σ H) (i : Nat) : Rel j G { s with sl := s.sl.set i none } (σ.set i none) H := ⟨r.f, r.e, r.b, by simp [r.ln], fun k d e => by
  by_cases hk : i = k
  · subst hk
    have e' : (s.sl.set i none)[i]? = some (some d) := e
    by_cases hi : i < s.sl.length
    · rw [List.getElem?_set_self hi] at e'; cases e'
    · rw [List.getElem?_eq_none (by simpa using hi)] at e'; cases e'
  · have e' : (s.sl.set i none)[k]? = some (some d) := e
    rw [List.getElem?_set_ne hk] at e'
    obtain ⟨v, e1, e2⟩ := r.sl k d e'
    exact ⟨v, by rw [List.getElem?_set_ne hk]; exact e1, e2⟩⟩
/-- a caught exception becomes a datum -/
theorem Rel.caught {G' : Wd} {s1 : S} {σ' : L2.St} {H' : Hp} {x : Exn} {dd a : Addr} {i : Nat} (r0 : Rel j G s σ H) (r : Rel j G' s1 σ' H') (l : Ext j.B G H G' H') (ex : ExnOk j.B G' H' x dd) (n : H dd = none) (na : H' a = none) (hi : i < s1.sl.length) :
    ∃ G2, Rel j G2 { s1 with sl := s1.sl.set i (some (.exc x.c x.fs x.ds)) } (σ'.set i (some (.ref a))) (upd H' a (ExH (j.B.cA x.c) dd a)) ∧ Ext j.B G H G2 (upd H' a (ExH (j.B.cA x.c) dd a)) := by
  obtain ⟨fvs, q1, q2, q3, q4, q5, q6⟩ := ex
  have r1 := r.fz q1 (r0.back n) q2 q3 q4
  have l1 : Ext j.B G H (G'.fz dd (.xd fvs)) H' := ⟨l.le.trans (.fz (.inl q2)), fun b z => by
    by_cases eb : b = dd
    · rw [eb]; exact .inr (.inl n)
    · exact l.newF b (by have z' : upd G'.Fz dd (.xd fvs) b ≠ none := z; rw [upd_ne eb] at z'; exact z'), l.newR, l.keep, l.there⟩
  obtain ⟨r2, l2⟩ := r1.new na (ExH (j.B.cA x.c) dd a)
  have nad : dd ≠ a := fun z => by rw [z, na] at q1; cases q1
  refine ⟨_, r2.set (.exc (B := j.B) (a := a) (dd := dd) (fvs := fvs) ?_ ?_ q5 (q6.mono ((Wd.le.fz (.inl q2)).trans l2.le))) i hi, l1.trans l2⟩
  · exact upd_same
  · show upd (upd G'.Fz dd (.xd fvs)) a _ dd = _
    rw [upd_ne nad, upd_same]
variable {X : Cx} {x n : Str} {c : Value} {i : Nat} {body suite : List Stmt} {b₀ : Stmt} {np pos pos' : Pos} {yes : Str → Option Bool} {db ds : DenS}
theorem ds_try (hs : X.stack = X.env :: X.outer) (hf : X.env.frame = some X.env.locals) (hN : X.N.Nodup) (hi : X.N[i]? = some n) (hln : X.env.kindOf n = some .local) (hc : Names X x c) (tk : Takes X j.W)
    (hy : ∀ y b, yes y = some b → PySem.W.exmOne X.K (.ref (j.B.cA y)) c = some b)
    (hb : ∀ (W : WX) (pn : List (Addr × Obj)) (xe : Value → Shared → Prop), Takes (X.tr pn xe) W → PassesOwn (model X.prog X.w) X.A X.env xe → DSs (X.tr pn xe) ⟨j.B, j.G0, j.H0, W⟩ body db)
    (hsu : ∀ (a : Addr), DSs (sui X a) ⟨j.B, j.G0, j.H0, fun _ _ _ _ => False⟩ (b₀ :: suite) ds) :
    DS X j (.Try body [.ExceptHandler (some (.Name x np)) (some n) (b₀ :: suite) pos'] [] [] pos) (sTryK i yes db ds) :=
  PS.imp (ps_try_keep hs hf hN hi hln hc tk (tb := fun W => toTS ⟨j.B, j.G0, j.H0, W⟩ db) (ts := toTS ⟨j.B, j.G0, j.H0, fun _ _ _ _ => False⟩ ds) hb hsu) fun D σ H ⟨G, s, r, o⟩ => by
    refine ⟨G, s, r.cw, ?_⟩
    unfold sTryK at o
    cases e : db s with
    | no => rw [e] at o; exact o
    | ok f s1 =>
      rw [e] at o
      cases f with
      | nx => exact fun G' σ' H' r' l => o G' σ' H' r'.wc l
      | rt d => exact fun G' σ' H' v r' l => o G' σ' H' v r'.wc l
      | bk => exact fun G' σ' H' r' l => o G' σ' H' r'.wc l
      | ct => exact fun G' σ' H' r' l => o G' σ' H' r'.wc l
    | er x s1 =>
      rw [e] at o
      intro G' σ' H' dd r' l ex n
      have o1 : outS j σ G H D (match yes x.c with
        | some true => if i < s1.sl.length then (match ds { s1 with sl := s1.sl.set i (some (.exc x.c x.fs x.ds)) } with
          | .ok f s2 => .ok f { s2 with sl := s2.sl.set i none }
          | _ => .no) else .no
        | some false => .er x s1
        | none => .no) := o
      split at o1
      · rename_i hyx
        refine ⟨true, hy _ _ hyx, fun _ => ⟨j.B.cA x.c, dd, rfl, rfl, fun a na => ?_⟩, fun z => by cases z⟩
        split at o1
        · rename_i hil
          obtain ⟨G2, r2, l2⟩ := r.caught r'.wc l ex n na hil
          refine ⟨G2, _, r2.cw, ?_⟩
          cases e2 : ds { s1 with sl := s1.sl.set i (some (.exc x.c x.fs x.ds)) } with
          | no => rw [e2] at o1; exact o1
          | er y s2 => rw [e2] at o1; exact o1.elim
          | ok f s2 =>
            rw [e2] at o1
            cases f with
            | nx => exact fun G3 σ3 H3 r3 l3 => o1 G3 _ H3 (r3.wc.unset i) (l2.trans l3)
            | rt d => exact fun G3 σ3 H3 v r3 l3 k => o1 G3 _ H3 v (r3.wc.unset i) (l2.trans l3) k
            | bk => exact fun G3 σ3 H3 r3 l3 => o1 G3 _ H3 (r3.wc.unset i) (l2.trans l3)
            | ct => exact fun G3 σ3 H3 r3 l3 => o1 G3 _ H3 (r3.wc.unset i) (l2.trans l3)
        · exact o1.elim
      · rename_i hyx
        exact ⟨false, hy _ _ hyx, (fun z => by cases z), fun _ => o1 G' σ' H' dd r'.wc l ex n⟩
      · exact o1.elim
end
end DL
end

section
set_option maxHeartbeats 4000000
/-! DL part 17: e.f, a field of an instance or of an exception. -/
namespace DL
open PySem PySem.Spec PyProof.Rows L2

def lookF : List Str → List D → Str → Option D
  | f :: fs, d :: ds, g => if g = f then some d else lookF fs ds g
  | _, _, _ => none
theorem lookF_ok {B : Bg} {G : Wd} {f : Str} {d : D} : ∀ {fvs : List (Str × V)} {fs : List Str} {ds : List D}, fvs.map (·.1) = fs → HasL B G ds (fvs.map (·.2)) → lookF fs ds f = some d → ∃ v, fvs.lookup f = some v ∧ Has B G d v
  | [], _, _, e, l, h => by
    subst e
    cases l
    cases h
  | (g, v) :: fvs, _, _, e, l, h => by
    subst e
    cases l with
    | @cons d' ds _ _ h1 l =>
      have h' : (if f = g then some d' else lookF (fvs.map (·.1)) ds f) = some d := h
      rw [lookup_put]
      split at h'
      · rename_i c
        cases h'
        exact ⟨v, by rw [if_pos c], h1⟩
      · rename_i c
        obtain ⟨v', e1, e2⟩ := lookF_ok rfl l h'
        exact ⟨v', by rw [if_neg c]; exact e1, e2⟩
/-- the field f; cs: the classes that may be asked -/
def fAttr (T : IsTab) (cs : List Str) (f : Str) (st : List SO) (d : D) : Option D := match d with
  | .exc c fs ds => if c ∈ cs ∧ c ∈ T.names ∧ c ∈ T.exs then lookF fs ds f else none
  | .ins c fs ds => if c ∈ cs ∧ c ∈ T.names ∧ c ∉ T.exs then lookF fs ds f else none
  | .ob n => (match st[n]? with
    | some (.ins c fs ds) => if c ∈ cs ∧ c ∈ T.names ∧ c ∉ T.exs then lookF fs ds f else none
    | _ => none)
  | _ => none
def dAttr (T : IsTab) (cs : List Str) (f : Str) (de : DenE) : DenE := fun s => (de s).bind fun d s1 => ans (fAttr T cs f s1.st d) s1
/-- at a: an instance, or an exception with its dict at dd; f is v -/
def rAt (K : PySem.W.Frag) (f : Str) : V → Hp → VK → Prop := fun x H Q => ∃ a v, x = .ref a ∧ ((∃ C dx fs, H a = some (.ins C dx fs) ∧ Cls K C ∧ NoAttr K C f ∧ fs.lookup f = some v) ∨ ∃ C dd fs, H a = some (ExH C dd a) ∧ H dd = some (.xd fs) ∧ XcK K C ∧ NoAttr K C f ∧ fs.lookup f = some v) ∧ Q v H
section
variable {X : Cx} {j : Cj} {T : IsTab} {cs : List Str} {f : Str} {pos : Pos} {e : Expr} {de : DenE} {te : TE}
theorem pe_at (he : PE X e te) (hb : attributeBase e f X.env (eval e X.env) = eval e X.env) : PE X (.Attribute e f pos) (fun σ H Q => te σ H fun x H1 => rAt X.K f x H1 Q) := by
  refine ⟨fun pins s σ H Q I h => ?_⟩
  refine attr_of hb (thn (he.run pins s σ H _ I h) fun u s1 ⟨x, H1, I1, rx, a, v, ex, hh, q⟩ => ?_)
  subst ex
  obtain rfl : u = Value.ref a := rx
  rcases hh with ⟨C, dx, fs, ea, c, n, l⟩ | ⟨C, dd, fs, ea, ed, c, n, l⟩
  · exact getattr_ok I1 ea c n l fun u' s2 I2 ru => ⟨v, H1, I2, ru, q⟩
  · have x1 : ObjOk X.prog X.w H1 s1.heap a (ExH C dd a) := I1.hok a _ ea
    obtain ⟨⟨oe, vs, g1, g2, g3, g4⟩, _, _⟩ := x1
    have x2 : ObjOk X.prog X.w H1 s1.heap dd (.xd fs) := I1.hok dd _ ed
    obtain ⟨mA, hns, hr⟩ := x2
    obtain ⟨od, ho, hl⟩ := lookIn_ns hns
    obtain ⟨u, hu, ru⟩ := RelO.some_of (v := v) (o := mA f) (by rw [← l]; exact hr f)
    have J : PySem.W.InstAt s1.heap a oe C (some od) := ⟨g1, g2, by unfold PySem.W.notCls; rw [g4] <;> rfl, by rw [g3]; exact ho⟩
    exact HandSPX.exc_get I1.kIn J c.ga c.gg c.sb (PySem.W.findObj_own c.hd n rfl (by rw [hl, hu])) (handed_of ru) ⟨v, H1, I1.tok _, ru, q⟩
theorem de_attr (hK : X.K = j.B.K) (ok : IsOk X.K j.B.cA T) (hn : ∀ c ∈ cs, NoAttr X.K (j.B.cA c) f) (he : DE X j e de) (hb : attributeBase e f X.env (eval e X.env) = eval e X.env := by rfl) : DE X j (.Attribute e f pos) (dAttr T cs f de) :=
  PE.imp (pe_at he hb) fun σ H Q ⟨G, s, r, o⟩ => ⟨G, s, r, outG.imp (outG.bind (R := Has j.B) o) fun x H1 ⟨G1, s1, d, r1, l1, h1, o1⟩ => by
    obtain ⟨d', e, q1, _⟩ := outG_ans r1 o1
    unfold fAttr at e
    split at e
    · split at e
      · rename_i c
        cases h1 with
        | exc h hd q l =>
          obtain ⟨v, e1, e2⟩ := lookF_ok q l e
          exact ⟨_, v, rfl, .inr ⟨_, _, _, r1.f.le _ _ h, r1.f.le _ _ hd, ok.exc _ c.2.1 c.2.2, hn _ c.1, e1⟩, q1 v e2⟩
      · cases e
    · split at e
      · rename_i c
        cases h1 with
        | ins h q l =>
          obtain ⟨v, e1, e2⟩ := lookF_ok q l e
          exact ⟨_, v, rfl, .inl ⟨_, _, _, r1.f.le _ _ h, (ok.pl _ c.2.1 c.2.2).cls, hn _ c.1, e1⟩, q1 v e2⟩
      · cases e
    · split at e
      · rename_i hq
        split at e
        · rename_i c
          cases h1 with
          | ob h =>
            obtain ⟨dx, fvs, g1, g2, g3⟩ := r1.f.so _ _ _ h hq
            obtain ⟨v, e1, e2⟩ := lookF_ok g2 g3 e
            exact ⟨_, v, rfl, .inl ⟨_, _, _, g1, (ok.pl _ c.2.1 c.2.2).cls, hn _ c.1, e1⟩, q1 v e2⟩
        · cases e
      · cases e
    · cases e⟩
end
end DL
end

section
set_option maxHeartbeats 4000000
/-! DL part 18: facts of the written part, told by Bools; the hook. -/
namespace DL
open PySem PySem.Spec PyProof.Rows L2 NdefX LamX

theorem bA {a b : Bool} (h : (a && b) = true) : a = true ∧ b = true := Bool.and_eq_true_iff.mp h
def eqF (a b : Option (Option Value)) : Bool := decide (a = b)
def eqG (a : Option Bool) (b : Bool) : Bool := decide (a = some b)
theorem eqF_ok {a b : Option (Option Value)} (h : eqF a b = true) : a = b := of_decide_eq_true h
theorem eqG_ok {a : Option Bool} {b : Bool} (h : eqG a b = true) : a = some b := of_decide_eq_true h
def xcB (K : PySem.W.Frag) (C : Addr) : Bool := (PySem.W.clsIn K C).isSome && (eqF (PySem.W.findIn K (.ref C) "__getattribute__") (some (some (.builtin "BaseException.__getattribute__"))) && (eqF (PySem.W.findIn K (.ref C) "__getattr__") (some none) &&
  (eqG (PySem.W.subIn K (.ref C) (.type "BaseException")) true && (eqF (PySem.W.findIn K (.ref C) "__class__") (some (some (.builtin "object.__class__"))) && (eqG (PySem.W.mroIn K C (.type "object")) true && PySem.W.hasDictIn K C)))))
theorem xcB_ok {K : PySem.W.Frag} {C : Addr} (h : xcB K C = true) : XcK K C := by
  obtain ⟨h1, h⟩ := bA h
  obtain ⟨h2, h⟩ := bA h
  obtain ⟨h3, h⟩ := bA h
  obtain ⟨h4, h⟩ := bA h
  obtain ⟨h5, h⟩ := bA h
  obtain ⟨h6, h7⟩ := bA h
  exact ⟨h1, eqF_ok h2, eqF_ok h3, eqG_ok h4, eqF_ok h5, eqG_ok h6, h7⟩
def clsB (K : PySem.W.Frag) (C : Addr) : Bool := PySem.W.plainGet K C Str.empty && (PySem.W.hasDictIn K C && (PySem.W.plainOver K C && eqF (PySem.W.findIn K (.ref C) "__setattr__") (some (some (.builtin "object.__setattr__")))))
theorem clsB_ok {K : PySem.W.Frag} {C : Addr} (h : clsB K C = true) : Cls K C := by
  obtain ⟨h1, h⟩ := bA h
  obtain ⟨h2, h⟩ := bA h
  obtain ⟨h3, h4⟩ := bA h
  exact ⟨h1, h2, h3, eqF_ok h4⟩
def plB (K : PySem.W.Frag) (C : Addr) : Bool := clsB K C && (eqF (PySem.W.findIn K (.ref C) "__class__") (some (some (.builtin "object.__class__"))) && eqG (PySem.W.mroIn K C (.type "object")) true)
theorem plB_ok {K : PySem.W.Frag} {C : Addr} (h : plB K C = true) : PlK K C := by
  obtain ⟨h1, h⟩ := bA h
  obtain ⟨h2, h3⟩ := bA h
  exact ⟨clsB_ok h1, eqF_ok h2, eqG_ok h3⟩
def isOkB (K : PySem.W.Frag) (cA : Str → Addr) (T : IsTab) : Bool := eqF (PySem.W.specialIn K (.builtin "object.__class__") "__get__") (some (some (.builtin "getset_descriptor.__get__"))) && (eqG (PySem.W.takesIn K (.builtin "object.__class__")) true &&
  T.names.all fun x => (if x ∈ T.exs then xcB K (cA x) else plB K (cA x)) && ((tyNs.all fun a => eqG (PySem.W.kitOne K (.type a) (.ref (cA x))) false) && ((tyMs.all fun b => eqG (PySem.W.kitOne K (.ref (cA x)) (.type b)) false) &&
    T.names.all fun y => eqG (PySem.W.kitOne K (.ref (cA x)) (.ref (cA y))) (decide (y ∈ T.sub x)))))
theorem isOkB_ok {K : PySem.W.Frag} {cA : Str → Addr} {T : IsTab} (h : isOkB K cA T = true) : IsOk K cA T := by
  obtain ⟨h1, h⟩ := bA h
  obtain ⟨h2, h⟩ := bA h
  have key := fun x hx => bA (List.all_eq_true.mp h x hx)
  refine ⟨eqF_ok h1, eqG_ok h2, fun x hx he => ?_, fun x hx he => ?_, fun x hx a ha => ?_, fun x hx b hb => ?_, fun x hx y hy => ?_⟩
  · have z := (key x hx).1
    rw [if_pos he] at z
    exact xcB_ok z
  · have z := (key x hx).1
    rw [if_neg he] at z
    exact plB_ok z
  · exact eqG_ok (List.all_eq_true.mp (bA (key x hx).2).1 a ha)
  · exact eqG_ok (List.all_eq_true.mp (bA (bA (key x hx).2).2).1 b hb)
  · exact eqG_ok (List.all_eq_true.mp (bA (bA (key x hx).2).2).2 y hy)
def oexB (K : PySem.W.Frag) (C : Addr) : Bool := (match K.lookup C with
  | some ⟨.type t, _, .cls cd, sl⟩ => decide (t = "type") && (match cd.mro, sl.toList with
    | .ref C' :: bm, [_, _, _, _, some (.builtin n), _] => decide (C' = C) && (decide (n = "ValueError.__new__") && (HandSPX.refsVE bm && (cd.hasDict && !cd.hasDel)))
    | _, _ => false)
  | _ => false) && (eqF (PySem.W.findIn K (.ref C) "__setattr__") (some (some (.builtin "object.__setattr__"))) && (eqG (PySem.W.subIn K (.ref C) (.type "BaseException")) true && (decide (PySem.W.typeIn K (.ref C) = some (.type "type")) && PySem.W.keepIn K (.ref C))))
theorem oexB_ok {K : PySem.W.Frag} {C : Addr} (h : oexB K C = true) : OexC K C := by
  obtain ⟨h0, h⟩ := bA h
  obtain ⟨h1, h⟩ := bA h
  obtain ⟨h2, h⟩ := bA h
  obtain ⟨h3, h4⟩ := bA h
  refine ⟨?_, eqF_ok h1, eqG_ok h2, of_decide_eq_true h3, h4⟩
  split at h0
  · rename_i t dd cd sl hk
    obtain ⟨k1, k2⟩ := bA h0
    split at k2
    · rename_i C' bm a0 a1 a2 a3 n a5 hm hs
      obtain ⟨g1, g⟩ := bA k2
      obtain ⟨g2, g⟩ := bA g
      obtain ⟨g3, g⟩ := bA g
      obtain ⟨g4, g5⟩ := bA g
      have e1 := of_decide_eq_true k1
      have e2 := of_decide_eq_true g1
      have e3 := of_decide_eq_true g2
      subst e1 e2 e3
      obtain ⟨l⟩ := sl
      have hs' : l = _ := hs
      subst hs'
      obtain ⟨c1, c2, c3, c4, c5, c6, c7, c8, c9, c10, c11⟩ := cd
      simp only [Bool.not_eq_true'] at g5
      dsimp only at hm g4 g5
      subst hm g4 g5
      exact ⟨_, _, _, _, _, _, _, _, _, _, _, _, _, _, _, hk, g3⟩
    · cases k2
  · cases h0
/-! ### an __init__ with its class cell -/
abbrev FnC : Type := Option (Str × Str × Arguments × FuncBody × Scope × Addr × Addr)
def fnC (K : PySem.W.Frag) (f : Addr) : FnC := match K.lookup f with
  | some ⟨_, _, .func fd, _⟩ => some (fd.name, fd.qualname, fd.params, fd.body, fd.scope, fd.globals, fd.builtins)
  | _ => none
/-- one such def: its class, its name, qualified name, words -/
structure InD where
  cls : Str
  name : Str
  qual : Str
  params : Arguments
  body : List Stmt
  scope : Scope
def InD.val (d : InD) : FnC := some (d.name, d.qual, d.params, .stmts d.body, d.scope, mainGlobals, builtinsNs)
def ccOf (K : PySem.W.Frag) (f : Addr) : Addr := match K.lookup f with
  | some ⟨_, _, .func fd, _⟩ => (match fd.closure with
    | [(_, c)] => c
    | _ => 0)
  | _ => 0
def cdOf (K : PySem.W.Frag) (f : Addr) : Addr := match K.lookup f with
  | some ⟨_, _, .func fd, _⟩ => (match fd.code with
    | .ref c => c
    | _ => 0)
  | _ => 0
def InD.nf (K : PySem.W.Frag) (d : InD) (f : Addr) : NF := ⟨d.name, d.qual, d.params, d.body, d.scope, [(("__class__" : Str), ccOf K f)], cdOf K f⟩
def closB (K : PySem.W.Frag) (f : Addr) : Bool := match K.lookup f with
  | some ⟨_, _, .func fd, _⟩ => (match fd.closure, fd.code with
    | [(n, _)], .ref _ => decide (n = ("__class__" : Str)) && (decide (fd.defaults = .none) && (decide (fd.kwdefaults = .none) && decide (fd.annotations = none)))
    | _, _ => false)
  | _ => false
theorem clos_ok {K : PySem.W.Frag} {d : InD} {f : Addr} (h : closB K f = true) (e : fnC K f = d.val) : ∃ (oc : Value) (od : Option Addr) (sl : Array (Option Value)) (doc pm ctv : Value), K.lookup f = some ⟨oc, od, .func ((d.nf K f).fd doc pm ctv), sl⟩ := by
  unfold closB at h
  unfold fnC at e
  split at h
  · rename_i oc od fd sl hk
    rw [hk] at e
    split at h
    · rename_i n cc c hc hcd
      obtain ⟨g1, g⟩ := bA h
      obtain ⟨g2, g⟩ := bA g
      obtain ⟨g3, g4⟩ := bA g
      have ec : ccOf K f = cc := by unfold ccOf; rw [hk]; dsimp only; rw [hc]
      have ed : cdOf K f = c := by unfold cdOf; rw [hk]; dsimp only; rw [hcd]
      obtain ⟨n1, n2, n3, n4, n5, n6, n7, n8, n9, n10, n11, n12, n13, n14, n15⟩ := fd
      have e2 : (some (n1, n2, n3, n4, n5, n6, n15) : FnC) = some (d.name, d.qual, d.params, .stmts d.body, d.scope, mainGlobals, builtinsNs) := e
      simp only [Option.some.injEq, Prod.mk.injEq] at e2
      obtain ⟨h1, h2, h3, h4, h5, h6, h7⟩ := e2
      have r1 := of_decide_eq_true g1
      have r2 := of_decide_eq_true g2
      have r3 := of_decide_eq_true g3
      have r4 := of_decide_eq_true g4
      clear g1 g2 g3 g4 g h
      dsimp only at hc hcd r2 r3 r4
      subst h1 h2 h3 h4 h5 h6 h7 r1 r2 r3 r4 hc hcd
      refine ⟨oc, od, sl, n10, n11, n14, ?_⟩
      rw [hk]
      unfold InD.nf
      rw [ec, ed]
    · cases h
  · cases h
def initB (P : Program) (K : PySem.W.Frag) (C D f : Addr) (qual : Str) : Bool := closB K f && (PySem.W.codeIn K (.ref (cdOf K f)) qual && ((match K.lookup (cdOf K f) with
    | some ⟨_, _, .fields vs, _⟩ => (match (vs[2]? : Option Value) with
      | some (.str file _) => (P.main.file : Str) == file
      | _ => false)
    | _ => false) && ((match K.lookup (ccOf K f) with
    | some ⟨_, _, .cell (some (.ref D')), _⟩ => decide (D' = D)
    | _ => false) && ((PySem.W.clsIn K D).isSome && (eqG (PySem.W.mroIn K C (.ref D)) true && (eqF (PySem.W.nsIn K mainGlobals "super") (some none) && (eqF (PySem.W.nsIn K cStatics "thirdparty.any") (some none) &&
    (eqF (PySem.W.ks_superIn K C D "__init__") (some (some (.builtin "ValueError.__init__"))) && (eqG (PySem.W.subIn K (.ref C) (.type "ValueError")) true && (oexB K C && !(P.main.scope.names.lookup ("super" : Str)).isSome))))))))))
theorem initB_ok {P : Program} {K : PySem.W.Frag} {C D f : Addr} {d : InD} (h : initB P K C D f d.qual = true) (e : fnC K f = d.val) : InitK P K C D f (ccOf K f) (d.nf K f) := by
  obtain ⟨h1, h⟩ := bA h
  obtain ⟨h2, h⟩ := bA h
  obtain ⟨h3, h⟩ := bA h
  obtain ⟨h4, h⟩ := bA h
  obtain ⟨h5, h⟩ := bA h
  obtain ⟨h6, h⟩ := bA h
  obtain ⟨h7, h⟩ := bA h
  obtain ⟨h8, h⟩ := bA h
  obtain ⟨h9, h⟩ := bA h
  obtain ⟨h10, h⟩ := bA h
  obtain ⟨h11, h12⟩ := bA h
  refine ⟨clos_ok h1 e, rfl, h2, ?_, ?_, Option.isSome_iff_exists.mp h5, eqG_ok h6, eqF_ok h7, eqF_ok h8, eqF_ok h9, eqG_ok h10, oexB_ok h11, by simpa using h12⟩
  · split at h3
    · rename_i hk
      split at h3
      · rename_i hv
        exact ⟨_, _, _, _, _, _, hk, hv, h3⟩
      · cases h3
    · cases h3
  · split at h4
    · rename_i hk
      have z := of_decide_eq_true h4
      subst z
      exact ⟨_, _, _, hk⟩
    · cases h4
/-! ### the hook -/
def asL (g : Addr → Option Obj) (n : Nat) : List Addr := cStatics :: He.asD g n
abbrev AlL : Type := He.AlD × (List FnC × Bool)
def obsL (n : Nat) (fa : List He.Fa) (fn : List He.DefD) (cn : List InD) (tf : List He.Defn) (ex : PySem.W.Frag → Bool) (g : Addr → Option Obj) : AlL :=
  (He.obsD fa fn (He.frT g (asL g n)), (cn.map fun d => fnC (He.frT g (asL g n)) (He.ma (He.frT g (asL g n)) (He.ga (He.frT g (asL g n)) d.cls) "__init__"), ex (He.frT g (asL g n)) && He.tabsB g tf (He.frT g (asL g n))))
def valL (fn : List He.DefD) (cn : List InD) : AlL := (He.valD fn, (cn.map InD.val, true))
/-- what is told: facts of K, the inits, the Bool, the tables: empty, not in K -/
structure SaysL (fa : List He.Fa) (fn : List He.DefD) (cn : List InD) (tf : List He.Defn) (ex : PySem.W.Frag → Bool) (h : Heap) (K : PySem.W.Frag) : Prop where
  d : He.SaysD fa fn K
  c : (cn.map fun d => fnC K (He.ma K (He.ga K d.cls) "__init__")) = cn.map InD.val
  more : ex K = true
  hd : ∀ p ∈ tf, PySem.W.codeHdIn K (He.cT K p).1 (He.cT K p).2 = true
  out : ∀ p ∈ tf, K.lookup (He.cT K p).2 = none
  empty : ∀ p ∈ tf, h.get? (He.cT K p).2 = some { cls := .none, data := .fields #[] }
theorem saysL_of {n : Nat} {fa : List He.Fa} {fn : List He.DefD} {cn : List InD} {tf : List He.Defn} {ex : PySem.W.Frag → Bool} {h : Heap} (e : obsL n fa fn cn tf ex h.get? = valL fn cn) : SaysL fa fn cn tf ex h (He.frT h.get? (asL h.get? n)) := by
  have e1 : He.obsD fa fn (He.frT h.get? (asL h.get? n)) = He.valD fn := congrArg (fun z : AlL => z.1) e
  have e2 : (cn.map fun d => fnC (He.frT h.get? (asL h.get? n)) (He.ma (He.frT h.get? (asL h.get? n)) (He.ga (He.frT h.get? (asL h.get? n)) d.cls) "__init__")) = cn.map InD.val := congrArg (fun z : AlL => z.2.1) e
  have e3 : (ex (He.frT h.get? (asL h.get? n)) && He.tabsB h.get? tf (He.frT h.get? (asL h.get? n))) = true := congrArg (fun z : AlL => z.2.2) e
  obtain ⟨h1, h2⟩ := bA e3
  have key : ∀ p ∈ tf, PySem.W.codeHdIn (He.frT h.get? (asL h.get? n)) (He.cT (He.frT h.get? (asL h.get? n)) p).1 (He.cT (He.frT h.get? (asL h.get? n)) p).2 = true ∧ ∃ o, h.get? (He.cT (He.frT h.get? (asL h.get? n)) p).2 = some o ∧ He.emptyTab o = true := fun p hp => by
    obtain ⟨h3, h4⟩ := bA (List.all_eq_true.mp h2 p hp)
    refine ⟨h3, ?_⟩
    split at h4
    · rename_i o q; exact ⟨o, q, h4⟩
    · cases h4
  exact ⟨e1, e2, h1, fun p hp => (key p hp).1, fun p hp => (let ⟨_, o, q, z⟩ := key p hp; He.frT_none q z), fun p hp => (let ⟨_, o, q, z⟩ := key p hp; by rw [q, He.emptyTab_eq z])⟩
def hookL (n : Nat) (fa : List He.Fa) (fn : List He.DefD) (cn : List InD) (tf : List He.Defn) (ex : PySem.W.Frag → Bool) : PySem.W.Hook where
  α := AlL
  obs := fun s => obsL n fa fn cn tf ex s.heap.get?
  val := fun _ => valL fn cn
  says := fun _ h => ∃ K : PySem.W.Frag, K.In h ∧ SaysL fa fn cn tf ex h K
  of := fun _ _ e => ⟨_, He.frT_in, saysL_of e⟩
  keeps := fun _ _ _ ⟨K, hK, c⟩ k => ⟨K, PySem.W.Frag.In.keeps hK k, ⟨c.d, c.c, c.more, c.hd, c.out, fun p hp => k _ _ (c.empty p hp)⟩⟩
theorem obsL_eq {n : Nat} {fa : List He.Fa} {fn : List He.DefD} {cn : List InD} {tf : List He.Defn} {ex : PySem.W.Frag → Bool} {g : Addr → Option Obj} {s : Shared} (h : ∀ a, g a = s.heap.get? a) : obsL n fa fn cn tf ex g = (hookL n fa fn cn tf ex).obs s := by
  rw [show g = s.heap.get? from funext h]
  rfl
theorem SaysL.init {fa : List He.Fa} {fn : List He.DefD} {cn : List InD} {tf : List He.Defn} {ex : PySem.W.Frag → Bool} {h : Heap} {K : PySem.W.Frag} (c : SaysL fa fn cn tf ex h K) (i : Nat) {d : InD} (hd : cn[i]? = some d := by rfl) : fnC K (He.ma K (He.ga K d.cls) "__init__") = d.val := by
  have e := c.c
  have e2 : (cn.map fun d => fnC K (He.ma K (He.ga K d.cls) "__init__"))[i]? = (cn.map InD.val)[i]? := by rw [e]
  rw [List.getElem?_map, List.getElem?_map, hd] at e2
  exact Option.some.inj e2
end DL
end

section
set_option maxHeartbeats 4000000
/-! DL part 19: a def by its body, its code object known. -/
namespace DL
open PySem PySem.Spec PyProof.Rows L2 NdefX
theorem fnDC {P : Program} {w : World} {K : PySem.W.Frag} {mg : Str → Option Value} {base : Heap} {x qual : Str} {params : Arguments} {body : List Stmt} {scope : Scope} {dvs : List V} {kws : List (Str × V)} {f : Addr} {fd : FuncData} {B : Bg} {N ps : List Str} {k : Nat} {den : DenS} {p : Str × Option Str} (F : FunD K x qual params body scope dvs kws f fd) (hf : f = He.fAd K p) (S : FnScope N ps scope)
    (hbody : ∀ (A : Around) (outer : List Env) (s : Shared) (H : Hp) (E : XK) (G : Wd) (cdv : Value), cdv = .ref (He.codeOf K p) → Room k (A.deeper (envOfC qual scope s.heap.objs.size f cdv)) →
      Takes (cxOf (L2.CX P w) P w K mg base N qual scope f cdv A outer s H E) (fun cls d _ H' => E cls d H') →
      PassesOwn (model P w) (A.deeper (envOfC qual scope s.heap.objs.size f cdv)) (envOfC qual scope s.heap.objs.size f cdv) (cxOf (L2.CX P w) P w K mg base N qual scope f cdv A outer s H E).xe →
      DSs (cxOf (L2.CX P w) P w K mg base N qual scope f cdv A outer s H E) ⟨B, G, H, fun cls d _ H' => E cls d H'⟩ body den) :
    FnOk P w K mg base (L2.CX P w) (k + 1) f fd ps (spD B ps.length (runF N.length den)) := by
  obtain ⟨oc, od, dV, kV, doc, pm, an, cdv, ct, osl, rfl, lk, hcd, _, _⟩ := F.ex
  have hc : cdv = .ref (He.codeOf K p) := by
    obtain ⟨c, e⟩ := He.codeIn_ref hcd
    rw [e, He.codeOf_eq (p := p) (by rw [← hf]; exact lk) e]
  refine fn_of lk hcd S (fun vs H Q E h => h.1) fun A outer s H vs Q E hr h => ?_
  obtain ⟨hl, G, st, ds, rf, l, o⟩ := h
  have hN : ps.length ≤ N.length := by
    have := congrArg List.length S.pre
    rw [List.length_take] at this
    omega
  refine ⟨_, hbody A outer s H E G cdv hc hr (takes_of rfl rfl rfl rfl) (passes_of rfl), G, _, start_rel rf l (by omega), ?_⟩
  have o' : outD B G H Q E (endF st.length (den ⟨ds.map some ++ List.replicate (N.length - ds.length) none, st, st.length⟩)) := o
  rw [← rf.len] at o'
  refine end_ok (W := fun cls d _ H' => E cls d H') (fun _ _ _ _ h => h) ?_
  rw [← rf.len]
  exact o'
end DL
end

section
set_option maxHeartbeats 4000000
/-! DL part 20: loops and comprehensions of data, by invariants. -/
namespace DL
open PySem PySem.Spec PyProof.Rows L2

theorem bU {β : Type} {u : Unit} {s : S} {f : S → Out β} : bindU (.ok u s) f = f s := rfl
theorem bN {α β : Type} {a : α} {s : S} {f : α → S → Out β} : bindN (.ok a s) f = f a s := rfl
theorem tT {s : S} : tTrue s = .ok true s := rfl
theorem forL_at {g : DenG} {body : DenS} (ds : List D) (P : Nat → S → Prop) (hs : ∀ (n : Nat) (h : n < ds.length) (s : S), P n s → ∃ s1 s2, g ds[n] s = .ok () s1 ∧ body s1 = .ok .nx s2 ∧ P (n + 1) s2) :
    ∀ (m n : Nat) (s : S), n + m = ds.length → P n s → ∃ s', forL [] g body (ds.drop n) s = .ok .nx s' ∧ P ds.length s'
  | 0, n, s, e, p => by
    have e' : n = ds.length := by omega
    subst e'
    refine ⟨s, ?_, p⟩
    rw [List.drop_length]
    unfold forL
    rw [if_pos (lockOk_nil s)]
  | m + 1, n, s, e, p => by
    have hn : n < ds.length := by omega
    obtain ⟨s1, s2, h1, h2, h3⟩ := hs n hn s p
    obtain ⟨s', h4, h5⟩ := forL_at ds P hs m (n + 1) s2 (by omega) h3
    refine ⟨s', ?_, h5⟩
    rw [List.drop_eq_getElem_cons hn]
    unfold forL
    rw [if_pos (lockOk_nil s), h1]
    show (match body s1 with
      | .ok .nx s2 => forL [] g body (ds.drop (n + 1)) s2
      | .ok .ct s2 => forL [] g body (ds.drop (n + 1)) s2
      | .ok .bk s2 => .ok .nx s2
      | .ok (.rt v) s2 => .ok (.rt v) s2
      | .er x s2 => .er x s2
      | .no => .no) = _
    rw [h2]
    exact h4
theorem forL_inv {g : DenG} {body : DenS} {ds : List D} {s : S} (P : Nat → S → Prop) (h0 : P 0 s) (hs : ∀ (n : Nat) (h : n < ds.length) (s : S), P n s → ∃ s1 s2, g ds[n] s = .ok () s1 ∧ body s1 = .ok .nx s2 ∧ P (n + 1) s2) :
    ∃ s', forL [] g body ds s = .ok .nx s' ∧ P ds.length s' := forL_at ds P hs ds.length 0 s (by omega) h0
/-- a comprehension whose element depends on the item alone -/
theorem compL_map {i : Nat} {f : D → D} {e : DenE} {sl : List (Option D)} {st : List SO} {b : Nat} (hi : i < sl.length) : ∀ (ds acc : List D), acc.length + ds.length ≤ sizeLine → (∀ d ∈ ds, e ⟨sl.set i (some d), st, b⟩ = .ok (f d) ⟨sl.set i (some d), st, b⟩) →
    compL [] [i] (gNm i) tTrue e ds acc ⟨sl.set i none, st, b⟩ = .ok (acc ++ ds.map f) ⟨sl.set i none, st, b⟩
  | [], acc, _, _ => by
    unfold compL
    rw [if_pos (lockOk_nil _)]
    simp
  | d :: ds, acc, hz, he => by
    unfold compL
    rw [if_pos (lockOk_nil _)]
    have hz' : acc.length + (ds.length + 1) ≤ sizeLine := hz
    have h1 : gNm i d ⟨sl.set i none, st, b⟩ = .ok () ⟨sl.set i (some d), st, b⟩ := by simp [gNm, hi]
    rw [h1, bU, tT, bN, if_pos rfl, he d List.mem_cons_self, bN]
    show (if acc.length < sizeLine then compL [] [i] (gNm i) tTrue e ds (acc ++ [f d]) ⟨wipeS (sl.set i (some d)) [i], st, b⟩ else .no) = _
    rw [if_pos (by omega)]
    have h2 : wipeS (sl.set i (some d)) [i] = sl.set i none := by simp [wipeS, List.set_set]
    rw [h2, compL_map hi ds (acc ++ [f d]) (by simp; omega) (fun x hx => he x (List.mem_cons_of_mem _ hx))]
    simp
/-- .. and is tested -/
theorem compL_filter {i : Nat} {f : D → D} {p : D → Bool} {t : DenT} {e : DenE} {sl : List (Option D)} {st : List SO} {b : Nat} (hi : i < sl.length) : ∀ (ds acc : List D), acc.length + ds.length ≤ sizeLine → (∀ d ∈ ds, t ⟨sl.set i (some d), st, b⟩ = .ok (p d) ⟨sl.set i (some d), st, b⟩) → (∀ d ∈ ds, e ⟨sl.set i (some d), st, b⟩ = .ok (f d) ⟨sl.set i (some d), st, b⟩) →
    compL [] [i] (gNm i) t e ds acc ⟨sl.set i none, st, b⟩ = .ok (acc ++ (ds.filter p).map f) ⟨sl.set i none, st, b⟩
  | [], acc, _, _, _ => by
    unfold compL
    rw [if_pos (lockOk_nil _)]
    simp
  | d :: ds, acc, hz, ht, he => by
    unfold compL
    rw [if_pos (lockOk_nil _)]
    have hz' : acc.length + (ds.length + 1) ≤ sizeLine := hz
    have h1 : gNm i d ⟨sl.set i none, st, b⟩ = .ok () ⟨sl.set i (some d), st, b⟩ := by simp [gNm, hi]
    rw [h1, bU, ht d List.mem_cons_self, bN]
    have h2 : wipeS (sl.set i (some d)) [i] = sl.set i none := by simp [wipeS, List.set_set]
    by_cases c : p d = true
    · rw [if_pos c, he d List.mem_cons_self, bN]
      show (if acc.length < sizeLine then compL [] [i] (gNm i) t e ds (acc ++ [f d]) ⟨wipeS (sl.set i (some d)) [i], st, b⟩ else .no) = _
      rw [if_pos (by omega), h2, compL_filter hi ds (acc ++ [f d]) (by simp; omega) (fun x hx => ht x (List.mem_cons_of_mem _ hx)) (fun x hx => he x (List.mem_cons_of_mem _ hx))]
      simp [c]
    · rw [if_neg c]
      show compL [] [i] (gNm i) t e ds acc ⟨wipeS (sl.set i (some d)) [i], st, b⟩ = _
      rw [h2, compL_filter hi ds acc (by omega) (fun x hx => ht x (List.mem_cons_of_mem _ hx)) (fun x hx => he x (List.mem_cons_of_mem _ hx))]
      simp [c]
/-- a comprehension whose element changes the store: Inv, told of the count -/
theorem compL_inv {i : Nat} {e : DenE} {sl : List (Option D)} {b : Nat} (hi : i < sl.length) (Iv : Nat → List SO → Prop) (Q : D → Prop) (he : ∀ (n : Nat) (d : D) (st : List SO), Iv n st → ∃ y st', e ⟨sl.set i (some d), st, b⟩ = .ok y ⟨sl.set i (some d), st', b⟩ ∧ Q y ∧ Iv (n + 1) st') :
    ∀ (ds acc : List D) (n : Nat) (st : List SO), acc.length + ds.length ≤ sizeLine → Iv n st →
    ∃ ys st', compL [] [i] (gNm i) tTrue e ds acc ⟨sl.set i none, st, b⟩ = .ok (acc ++ ys) ⟨sl.set i none, st', b⟩ ∧ ys.length = ds.length ∧ (∀ y ∈ ys, Q y) ∧ Iv (n + ds.length) st'
  | [], acc, n, st, _, hv => by
    refine ⟨[], st, ?_, rfl, by simp, hv⟩
    unfold compL
    rw [if_pos (lockOk_nil _)]
    simp
  | d :: ds, acc, n, st, hz, hv => by
    have hz' : acc.length + (ds.length + 1) ≤ sizeLine := hz
    obtain ⟨y, st1, e1, q1, v1⟩ := he n d st hv
    obtain ⟨ys, st', e2, l2, q2, v2⟩ := compL_inv hi Iv Q he ds (acc ++ [y]) (n + 1) st1 (by simp; omega) v1
    refine ⟨y :: ys, st', ?_, by simp [l2], fun z hz => ?_, by simpa [Nat.add_assoc, Nat.add_comm 1] using v2⟩
    · unfold compL
      rw [if_pos (lockOk_nil _)]
      have h1 : gNm i d ⟨sl.set i none, st, b⟩ = .ok () ⟨sl.set i (some d), st, b⟩ := by simp [gNm, hi]
      rw [h1, bU, tT, bN, if_pos rfl, e1, bN]
      show (if acc.length < sizeLine then compL [] [i] (gNm i) tTrue e ds (acc ++ [y]) ⟨wipeS (sl.set i (some d)) [i], st1, b⟩ else .no) = _
      have h2 : wipeS (sl.set i (some d)) [i] = sl.set i none := by simp [wipeS, List.set_set]
      rw [if_pos (by omega), h2, e2]
      simp
    · rcases List.mem_cons.mp hz with rfl | hz
      · exact q1
      · exact q2 z hz
theorem dComp_map {src : DenI} {i : Nat} {f : D → D} {e : DenE} {s s1 : S} {ds : List D} (hsrc : src s = .ok ⟨ds, []⟩ s1) (hi : i < s1.sl.length) (hz : ds.length ≤ sizeLine) (he : ∀ d ∈ ds, e ⟨s1.sl.set i (some d), s1.st, s1.b⟩ = .ok (f d) ⟨s1.sl.set i (some d), s1.st, s1.b⟩) :
    dComp src [i] (gNm i) tTrue e s = .ok (ds.map f) s1 := by
  unfold dComp
  rw [hsrc]
  show (compL [] [i] (gNm i) tTrue e ds [] ⟨s1.sl.set i none, s1.st, s1.b⟩).bind _ = _
  rw [compL_map hi ds [] (by simpa using hz) he]
  rfl
theorem dComp_filter {src : DenI} {i : Nat} {f : D → D} {p : D → Bool} {t : DenT} {e : DenE} {s s1 : S} {ds : List D} (hsrc : src s = .ok ⟨ds, []⟩ s1) (hi : i < s1.sl.length) (hz : ds.length ≤ sizeLine) (ht : ∀ d ∈ ds, t ⟨s1.sl.set i (some d), s1.st, s1.b⟩ = .ok (p d) ⟨s1.sl.set i (some d), s1.st, s1.b⟩)
    (he : ∀ d ∈ ds, e ⟨s1.sl.set i (some d), s1.st, s1.b⟩ = .ok (f d) ⟨s1.sl.set i (some d), s1.st, s1.b⟩) : dComp src [i] (gNm i) t e s = .ok ((ds.filter p).map f) s1 := by
  unfold dComp
  rw [hsrc]
  show (compL [] [i] (gNm i) t e ds [] ⟨s1.sl.set i none, s1.st, s1.b⟩).bind _ = _
  rw [compL_filter hi ds [] (by simpa using hz) ht he]
  rfl
theorem dComp_inv {src : DenI} {i : Nat} {e : DenE} {s s1 : S} {ds : List D} (hsrc : src s = .ok ⟨ds, []⟩ s1) (hi : i < s1.sl.length) (hz : ds.length ≤ sizeLine) (Iv : Nat → List SO → Prop) (Q : D → Prop) (h0 : Iv 0 s1.st)
    (he : ∀ (n : Nat) (d : D) (st : List SO), Iv n st → ∃ y st', e ⟨s1.sl.set i (some d), st, s1.b⟩ = .ok y ⟨s1.sl.set i (some d), st', s1.b⟩ ∧ Q y ∧ Iv (n + 1) st') :
    ∃ ys st', dComp src [i] (gNm i) tTrue e s = .ok ys ⟨s1.sl, st', s1.b⟩ ∧ ys.length = ds.length ∧ (∀ y ∈ ys, Q y) ∧ Iv ds.length st' := by
  obtain ⟨ys, st', h1, h2, h3, h4⟩ := compL_inv hi Iv Q he ds [] 0 s1.st (by simpa using hz) h0
  refine ⟨ys, st', ?_, h2, h3, by simpa using h4⟩
  unfold dComp
  rw [hsrc]
  show (compL [] [i] (gNm i) tTrue e ds [] ⟨s1.sl.set i none, s1.st, s1.b⟩).bind _ = _
  rw [h1]
  rfl
theorem sFor_inv {src : DenI} {g : DenG} {body : DenS} {s s1 : S} {ds : List D} (hsrc : src s = .ok ⟨ds, []⟩ s1) (P : Nat → S → Prop) (h0 : P 0 s1) (hs : ∀ (n : Nat) (h : n < ds.length) (s : S), P n s → ∃ s1 s2, g ds[n] s = .ok () s1 ∧ body s1 = .ok .nx s2 ∧ P (n + 1) s2) :
    ∃ s', sFor src g body s = .ok .nx s' ∧ P ds.length s' := by
  obtain ⟨s', h1, h2⟩ := forL_inv P h0 hs
  refine ⟨s', ?_, h2⟩
  unfold sFor
  rw [hsrc]
  exact h1
theorem compL_pure {vs : List Nat} {g : DenG} {e : DenE} {f : D → D} {W : S} : ∀ (ds acc : List D), acc.length + ds.length ≤ sizeLine → (∀ d ∈ ds, ∃ s1 s2, g d W = .ok () s1 ∧ e s1 = .ok (f d) s2 ∧ (⟨wipeS s2.sl vs, s2.st, s2.b⟩ : S) = W) → compL [] vs g tTrue e ds acc W = .ok (acc ++ ds.map f) W
  | [], acc, _, _ => by
    unfold compL
    rw [if_pos (lockOk_nil _)]
    simp
  | d :: ds, acc, hz, he => by
    have hz' : acc.length + (ds.length + 1) ≤ sizeLine := hz
    obtain ⟨s1, s2, h1, h2, h3⟩ := he d List.mem_cons_self
    unfold compL
    rw [if_pos (lockOk_nil _), h1, bU, tT, bN, if_pos rfl, h2, bN]
    show (if acc.length < sizeLine then compL [] vs g tTrue e ds (acc ++ [f d]) ⟨wipeS s2.sl vs, s2.st, s2.b⟩ else .no) = _
    rw [if_pos (by omega), h3, compL_pure ds (acc ++ [f d]) (by simp; omega) (fun x hx => he x (List.mem_cons_of_mem _ hx))]
    simp
theorem dComp_pure {src : DenI} {vs : List Nat} {g : DenG} {f : D → D} {e : DenE} {s s1 : S} {ds : List D} (hsrc : src s = .ok ⟨ds, []⟩ s1) (hz : ds.length ≤ sizeLine) (he : ∀ d ∈ ds, ∃ s3 s4, g d ⟨wipeS s1.sl vs, s1.st, s1.b⟩ = .ok () s3 ∧ e s3 = .ok (f d) s4 ∧ (⟨wipeS s4.sl vs, s4.st, s4.b⟩ : S) = ⟨wipeS s1.sl vs, s1.st, s1.b⟩) :
    dComp src vs g tTrue e s = .ok (ds.map f) s1 := by
  unfold dComp
  rw [hsrc]
  show (compL [] vs g tTrue e ds [] ⟨wipeS s1.sl vs, s1.st, s1.b⟩).bind _ = _
  rw [compL_pure ds [] (by simpa using hz) he]
  rfl
end DL
end

section
set_option maxHeartbeats 0
namespace K75
open PySem PySem.Spec PyProof.Rows L2 DL
abbrev PR : Program := PySem.Challenge.pw_sevensights_k75_signs_of_surds
def top (i : Nat) : Stmt := PR.main.body.getD i (.Pass ⟨0, 0, 0, 0⟩)
def dd (x : Str) (i : Nat) : He.DefD := ⟨(x, none), x, x, defArgs (top i), defBody (top i), defScope (top i), [], []⟩
def clsBody : Stmt → List Stmt
  | .ClassDef _ _ _ b _ _ _ _ _ _ _ => b
  | _ => []
def sub (i k : Nat) : Stmt := (clsBody (top i)).getD k (.Pass ⟨0, 0, 0, 0⟩)
def ii (x q : Str) (i : Nat) : InD := ⟨x, "__init__", q, defArgs (sub i 0), defBody (sub i 0), defScope (sub i 0)⟩
def fn : List He.DefD := [dd "is_integer" 6, dd "is_within" 7, dd "is_listed" 8, dd "are_integers" 9, dd "is_row" 10, dd "need_integer" 11, dd "shrunk" 13, dd "plain_of" 14, dd "row_told" 15, dd "dot_of" 17, dd "sign_of" 20, dd "surd_sign_of" 21, dd "sign_there" 22, dd "is_place" 23, dd "surd_sign" 24, dd "sign_at" 25,
  dd "_law_pen" 27, dd "_law_draw" 28, dd "_law_pick" 29, dd "_law_sign" 30, dd "_law_number" 31, dd "_law_near" 32, dd "_law_heard" 33, dd "_law_refused_right" 34, dd "law" 35]
def cn : List InD := [ii "BadNumber" "BadNumber.__init__" 3, ii "BadRow" "BadRow.__init__" 4]
def gs : List Str := ["is_integer", "is_within", "is_listed", "are_integers", "is_row", "need_integer", "shrunk", "plain_of", "row_told", "dot_of", "sign_of", "surd_sign_of", "sign_there", "is_place", "surd_sign", "sign_at", "_law_pen", "_law_draw", "_law_pick", "_law_sign", "_law_number", "_law_near", "_law_heard", "_law_refused_right", "law", "SightError", "BadNumber", "BadRow"]
def fs : List Str := ["isinstance", "int", "bool", "list", "tuple", "len", "all", "any", "sum", "zip", "abs", "range", "repr", "super", "ValueError"]
def fa : List He.Fa := gs.map He.Fa.glo ++ fs.map He.Fa.free ++ [.int "WIDE" 3]
def T : IsTab := ⟨["SightError", "BadNumber", "BadRow"], ["SightError", "BadNumber", "BadRow"], fun x => if x = "BadNumber" then ["BadNumber", "SightError"] else if x = "BadRow" then ["BadRow", "SightError"] else ["SightError"]⟩
def inits (K : PySem.W.Frag) (x q : Str) : Bool := initB PR K (He.ga K x) (He.ga K x) (He.ma K (He.ga K x) "__init__") q && (eqF (PySem.W.findIn K (.ref (He.ga K x)) "__init__") (some (some (.ref (He.ma K (He.ga K x) "__init__")))) && (decide (PySem.W.typeIn K (.ref (He.ma K (He.ga K x) "__init__")) = some (.type "function")) && eqF (PySem.W.findIn K (.ref (He.ga K x)) "part") (some none)))
def ex (K : PySem.W.Frag) : Bool := eqF (PySem.W.nsIn K mainGlobals "gcd") (some (some (.builtin "math.gcd"))) && (isOkB K (He.ga K) T && (inits K "BadNumber" "BadNumber.__init__" && (inits K "BadRow" "BadRow.__init__" &&
  (T.names.all fun x => decide (PySem.W.exmOne K (.ref (He.ga K x)) (.ref (He.ga K "SightError")) = some true)))))
def tf : List He.Defn := [("_law_refused_right", none)]
abbrev R : PySem.W.OpenRow := PySem.W.OpenLaw.row PySem.Challenge.rw_sevensights_k75_signs_of_surds
abbrev hk : PySem.W.Hook := hookL 7 fa fn cn tf ex
def ob (s : PySem.W.SharedT) : AlL := obsL 7 fa fn cn tf ex (HandSHeadRun.getT s)
theorem ob_eq (s : PySem.W.SharedT) : ob s = hk.obs s.abs := obsL_eq (HandSHeadRun.getT_eq s)
def names : List Str := ["__name__", "SightError", "BadNumber", "BadRow", "is_integer", "is_within", "is_listed", "are_integers", "is_row", "need_integer", "shrunk", "plain_of", "row_told", "dot_of", "WIDE", "sign_of", "surd_sign_of", "sign_there", "is_place", "surd_sign", "sign_at", "_law_pen", "_law_draw", "_law_pick", "_law_sign", "_law_number", "_law_near", "_law_heard", "_law_refused_right"]
theorem run (w : World) : HandSHeadRun.RunEqI R (PySem.W.view R.prog [0, 35]) hk ob 30000 names w := by
  unfold HandSHeadRun.RunEqI
  kernel_rfl
end K75
end

section
set_option maxHeartbeats 4000000
namespace K75
open PySem PySem.Spec PyProof.Rows L2 DL NdefX LamX
def bg (K : PySem.W.Frag) (o : Option Addr) : Bg := ⟨K, He.ga K, [((He.cT K ("_law_refused_right", none)).2, "_law_refused_right.<locals>.<lambda>")], o⟩
theorem lam_in {K : PySem.W.Frag} {o : Option Addr} (q : Str) (h : q = "_law_refused_right.<locals>.<lambda>") : ((He.cT K ("_law_refused_right", none)).2, q) ∈ (bg K o).T := by
  rw [h]
  exact List.mem_singleton.mpr rfl
theorem lam_un {K : PySem.W.Frag} {o : Option Addr} (q : Str) (h : q = "_law_refused_right.<locals>.<lambda>") : ∀ p ∈ (bg K o).T, p.1 = (He.cT K ("_law_refused_right", none)).2 → p.2 = q := by
  intro p hp _
  rw [List.mem_singleton.mp hp, h]
/-- what the head tells -/
structure MF (K : PySem.W.Frag) (mg : Str → Option Value) (base : Heap) : Prop where
  KI : K.In base
  ns : base.Ns mainGlobals mg
  says : ∃ h, SaysL fa fn cn tf ex h K
  tb_ : ∀ p ∈ tf, TabB base mg (He.cT K p).1 (He.cT K p).2
theorem hu_of {k : Nat} {A : Around} (r : Room k A) : A.units + 64 < cLine := by have := r.un; omega
section
variable {K : PySem.W.Frag} {mg : Str → Option Value} {base : Heap} {w : World}
theorem MF.d (M : MF K mg base) : He.SaysD fa fn K := (let ⟨_, s⟩ := M.says; s.d)
theorem MF.exB (M : MF K mg base) : ex K = true := (let ⟨_, s⟩ := M.says; s.more)
theorem MF.def_ (M : MF K mg base) (i : Nat) {d : He.DefD} (h : fn[i]? = some d := by rfl) : ∃ fd, FunD K d.name d.qual d.params d.body d.scope (d.dvs K) (d.kws K) (He.fAd K d.at_) fd := M.d.def_ i h
theorem MF.glo (M : MF K mg base) (x : Str) (h : x ∈ gs := by decide +kernel) : mg x = some (.ref (He.ga K x)) :=
  He.glo_ok M.KI M.ns (He.SaysD.facts M.d (f := .glo x) (List.mem_append_left _ (List.mem_append_left _ (List.mem_map.mpr ⟨x, h, rfl⟩))))
theorem MF.free (M : MF K mg base) (x : Str) (h : x ∈ fs := by decide +kernel) : mg x = none :=
  He.free_ok M.KI M.ns (He.SaysD.facts M.d (f := .free x) (List.mem_append_left _ (List.mem_append_right _ (List.mem_map.mpr ⟨x, h, rfl⟩))))
theorem MF.int_WIDE (M : MF K mg base) : ∃ t, mg "WIDE" = some (.int 3 t) := He.int_ok M.KI M.ns (He.SaysD.facts M.d (f := .int "WIDE" 3) (List.mem_append_right _ (by simp)))
theorem MF.gcd (M : MF K mg base) : mg "gcd" = some (.builtin "math.gcd") := PySem.W.mg_of M.KI M.ns (eqF_ok (bA M.exB).1)
theorem MF.is (M : MF K mg base) : IsOk K (He.ga K) T := isOkB_ok (bA (bA M.exB).2).1
structure ExF (K : PySem.W.Frag) (x q : Str) (i : Nat) : Prop where
  init : InitK PR K (He.ga K x) (He.ga K x) (He.ma K (He.ga K x) "__init__") (ccOf K (He.ma K (He.ga K x) "__init__")) ((ii x q i).nf K (He.ma K (He.ga K x) "__init__"))
  ini : PySem.W.findIn K (.ref (He.ga K x)) "__init__" = some (some (.ref (He.ma K (He.ga K x) "__init__")))
  typ : PySem.W.typeIn K (.ref (He.ma K (He.ga K x) "__init__")) = some (.type "function")
  noat : PySem.W.findIn K (.ref (He.ga K x)) "part" = some none
theorem ExF.oex {x q : Str} {i : Nat} (e : ExF K x q i) : OexC K (He.ga K x) := e.init.oex
theorem exF {x q : Str} {i : Nat} (h : inits K x q = true) (e : fnC K (He.ma K (He.ga K x) "__init__") = (ii x q i).val) : ExF K x q i := by
  obtain ⟨h1, h⟩ := bA h
  obtain ⟨h2, h⟩ := bA h
  obtain ⟨h3, h4⟩ := bA h
  exact ⟨initB_ok (d := ii x q i) h1 e, eqF_ok h2, of_decide_eq_true h3, eqF_ok h4⟩
theorem MF.exc_BadNumber (M : MF K mg base) : ExF K "BadNumber" "BadNumber.__init__" 3 := exF (bA (bA (bA M.exB).2).2).1 (let ⟨_, s⟩ := M.says; s.init 0 (d := ii "BadNumber" "BadNumber.__init__" 3))
theorem MF.exc_BadRow (M : MF K mg base) : ExF K "BadRow" "BadRow.__init__" 4 := exF (bA (bA (bA (bA M.exB).2).2).2).1 (let ⟨_, s⟩ := M.says; s.init 1 (d := ii "BadRow" "BadRow.__init__" 4))
theorem MF.noat_part (M : MF K mg base) : ∀ c ∈ ([("BadNumber" : Str), "BadRow"] : List Str), NoAttr K (He.ga K c) "part" := by
  intro c hc
  simp only [List.mem_cons, List.mem_singleton, List.not_mem_nil, or_false] at hc
  rcases hc with rfl | rfl
  · exact M.exc_BadNumber.noat
  · exact M.exc_BadRow.noat
def catches (cl : Str) : Str → Option Bool := fun y => if y ∈ T.names ∧ cl = ("SightError" : Str) then some true else none
theorem MF.caught (M : MF K mg base) (cl : Str) : ∀ y b, catches cl y = some b → PySem.W.exmOne K (.ref (He.ga K y)) (.ref (He.ga K cl)) = some b := by
  intro y b h
  unfold catches at h
  split at h
  · rename_i c
    cases h
    have z := of_decide_eq_true (List.all_eq_true.mp (bA (bA (bA (bA M.exB).2).2).2).2 y c.1)
    rw [c.2]
    exact z
  · cases h
theorem in_ (M : MF K mg base) {x q m : Str} {i n : Nat} {p0 p1 p2 p3 p4 p5 q1 q2 q3 q4 : Pos} {pl : Sem Bool} (e : ExF K x q i) (S : NScope ["self", "part", "__class__"] ["self", "part"] ["__class__"] (defScope (sub i 0))) (har : ((defArgs (sub i 0)).posonlyargs ++ (defArgs (sub i 0)).args).head?.map (·.arg) = some ("self" : Str)) (hsu : (defScope (sub i 0)).names.lookup ("super" : Str) = some .globalImplicit)
    (hbody : defBody (sub i 0) = [.Expr (.Call (.Attribute (.Call (.Name "super" p0) [] [] p1) "__init__" p2) [.Constant (.str m) n p3] [] p4) p5, .Assign [.Attribute (.Name "self" q1) "part" q2] (.Name "part" q3) q4])
    (hev : ∀ (f L : Addr) (cl : List (Str × Addr)) (c : Addr), eval (.Call (.Attribute (.Call (.Name "super" p0) [] [] p1) "__init__" p2) [.Constant (.str m) n p3] [] p4) (PySem.W.envX q (defScope (sub i 0)) L f (.ref c) cl) = (do let ov ← attributeBase (.Call (.Name "super" p0) [] [] p1) "__init__" (PySem.W.envX q (defScope (sub i 0)) L f (.ref c) cl) (eval (.Call (.Name "super" p0) [] [] p1) (PySem.W.envX q (defScope (sub i 0)) L f (.ref c) cl)); standAt p2.atName; let (g, first) ← holding [ov] (getMethod ov "__init__" pl); callWith p4 g first (backTo p4 (starEach [.Constant (.str m) n p3] (PySem.W.envX q (defScope (sub i 0)) L f (.ref c) cl))) []))
    (hsw : ∀ (f L : Addr) (cl : List (Str × Addr)) (c : Addr), swapsWith (.Call (.Attribute (.Call (.Name "super" p0) [] [] p1) "__init__" p2) [.Constant (.str m) n p3] [] p4) none p5.line (PySem.W.envX q (defScope (sub i 0)) L f (.ref c) cl) = pure false)
    (hsw2 : ∀ (f L : Addr) (cl : List (Str × Addr)) (c : Addr), swapsWith (.Name "part" q3) (some (.Attribute (.Name "self" q1) "part" q2)) q4.line (PySem.W.envX q (defScope (sub i 0)) L f (.ref c) cl) = pure false)
    (hbi : ∀ (doc pm cdv ctv : Value) (cl : List (Str × Addr)) (us : List Value), us.length = 2 → bindArgs (PySem.W.fnX "__init__" q (defArgs (sub i 0)) (defBody (sub i 0)) (defScope (sub i 0)) cl .none .none doc pm none cdv ctv) ⟨us, []⟩ = pure ((["self", "part"] : List Str).zip us)) :
    ∃ fd, FnOk PR w K mg base (L2.CX PR w) 1 (He.ma K (He.ga K x) "__init__") fd ["self", "part"] (spInit1 (He.ga K x) "part") ∧ Binds K fd ["self", "part"] [] := by
  obtain ⟨oc, od, sl, doc, pm, ctv, lk⟩ := e.init.lk
  obtain ⟨ar, ha1, ha2⟩ := Option.map_eq_some_iff.mp har
  exact ⟨_, init1_ok (k := 0) e.init ⟨oc, od, sl, doc, pm, ctv, rfl, lk⟩ S ha1 ha2.symm hsu hbody (fun L => hev _ L _ _) (fun L => hsw _ L _ _) (fun L => hsw2 _ L _ _) e.noat, .all fun us hl => hbi _ _ _ _ _ us hl⟩
theorem in_BadNumber (M : MF K mg base) : ∃ fd, FnOk PR w K mg base (L2.CX PR w) 1 (He.ma K (He.ga K "BadNumber") "__init__") fd ["self", "part"] (spInit1 (He.ga K "BadNumber") "part") ∧ Binds K fd ["self", "part"] [] :=
  in_ M M.exc_BadNumber (nscope_by (by decide +kernel)) rfl rfl rfl (fun _ _ _ _ => rfl) (fun _ _ _ _ => rfl) (fun _ _ _ _ => rfl) (fun _ _ _ _ _ us hl => match us, hl with | [_, _], _ => rfl)
theorem in_BadRow (M : MF K mg base) : ∃ fd, FnOk PR w K mg base (L2.CX PR w) 1 (He.ma K (He.ga K "BadRow") "__init__") fd ["self", "part"] (spInit1 (He.ga K "BadRow") "part") ∧ Binds K fd ["self", "part"] [] :=
  in_ M M.exc_BadRow (nscope_by (by decide +kernel)) rfl rfl rfl (fun _ _ _ _ => rfl) (fun _ _ _ _ => rfl) (fun _ _ _ _ => rfl) (fun _ _ _ _ _ us hl => match us, hl with | [_, _], _ => rfl)
/-- a def of the text keeps its promise -/
structure Df (K : PySem.W.Frag) (mg : Str → Option Value) (base : Heap) (w : World) (o : Option Addr) (k : Nat) (x : Str) (i : Nat) (ps : List Str) (F : FD) : Prop where
  ex : ∃ fd, FunD K x x (defArgs (top i)) (defBody (top i)) (defScope (top i)) [] [] (He.ga K x) fd ∧ FnOk PR w K mg base (L2.CX PR w) k (He.ga K x) fd ps (spD (bg K o) ps.length F) ∧ Binds K fd ps []
end
end K75
end

section
set_option maxHeartbeats 4000000
namespace K75
open PySem PySem.Spec PyProof.Rows L2 DL NdefX LamX
noncomputable section
theorem S_is_integer : FnScope ["value"] ["value"] (defScope (top 6)) := ⟨rfl, rfl, rfl, by decide +kernel, rfl, by decide +kernel, by decide +kernel⟩
def den_is_integer : DenS :=
    sRet (dAndV (dCB (cIsi T) (aCons (dVar 0) (aCons (dC (.ty "int")) (aNil)))) (dNotV (dCB (cIsi T) (aCons (dVar 0) (aCons (dC (.ty "bool")) (aNil))))))
def F_is_integer : FD := runF 1 den_is_integer
theorem ok_is_integer {w : World} {K : PySem.W.Frag} {mg : Str → Option Value} {base : Heap} (M : MF K mg base) (o : Option Addr) : Df K mg base w o 1 "is_integer" 6 ["value"] F_is_integer := by
  obtain ⟨fd, U⟩ := M.def_ 0 (d := dd "is_integer" 6) rfl
  refine ⟨fd, U, fnD U S_is_integer (fun A outer s H E G cdv hr tk own => ?_), U.bindsN fun _ _ _ _ _ _ us hl => match us, hl with | [_], _ => rfl⟩
  exact (dss_one (ds_ret (de_and (de_callB cr_isA (cs_isi rfl M.is) rfl (M.free "isinstance") boot_isinstance (da_cons (de_var (i := 0) rfl (by first | exact Or.inl rfl | exact Or.inr (Or.inl rfl) | exact Or.inr (Or.inr rfl))) (da_cons (de_ty rfl (M.free "int") boot_int) (da_nil)))) (de_one (de_not (de_callB cr_isA (cs_isi rfl M.is) rfl (M.free "isinstance") boot_isinstance (da_cons (de_var (i := 0) rfl (by first | exact Or.inl rfl | exact Or.inr (Or.inl rfl) | exact Or.inr (Or.inr rfl))) (da_cons (de_ty rfl (M.free "bool") boot_bool) (da_nil)))))))))
theorem S_is_within : FnScope ["value", "least", "most"] ["value", "least", "most"] (defScope (top 7)) := ⟨rfl, rfl, rfl, by decide +kernel, rfl, by decide +kernel, by decide +kernel⟩
def den_is_within : DenS :=
    sRet (dAndV (dCall 1 F_is_integer [] (aCons (dVar 0) (aNil))) (dAndV (dOrV (dBin fIsN (dVar 1) (dC .non)) (dBin fGe (dVar 0) (dVar 1))) (dOrV (dBin fIsN (dVar 2) (dC .non)) (dBin fLe (dVar 0) (dVar 2)))))
def F_is_within : FD := runF 3 den_is_within
theorem ok_is_within {w : World} {K : PySem.W.Frag} {mg : Str → Option Value} {base : Heap} (M : MF K mg base) (o : Option Addr) : Df K mg base w o 2 "is_within" 7 ["value", "least", "most"] F_is_within := by
  obtain ⟨fd_is_integer, U_is_integer, C_is_integer, B_is_integer⟩ := (ok_is_integer M o).ex
  obtain ⟨fd, U⟩ := M.def_ 1 (d := dd "is_within" 7) rfl
  refine ⟨fd, U, fnD U S_is_within (fun A outer s H E G cdv hr tk own => ?_), U.bindsN fun _ _ _ _ _ _ us hl => match us, hl with | [_, _, _], _ => rfl⟩
  exact (dss_one (ds_ret (de_and (de_call C_is_integer (hr.mono (by decide)) rfl (M.glo "is_integer") U_is_integer.kp B_is_integer .nil (fun _ => .nil) tk (da_cons (de_var (i := 0) rfl (by first | exact Or.inl rfl | exact Or.inr (Or.inl rfl) | exact Or.inr (Or.inr rfl))) (da_nil))) (de_and (de_or (de_cmp op_isN opS_isN (de_var (i := 1) rfl (by first | exact Or.inl rfl | exact Or.inr (Or.inl rfl) | exact Or.inr (Or.inr rfl))) (de_non) rfl) (de_one (de_cmp op_ge opS_cmp (de_var (i := 0) rfl (by first | exact Or.inl rfl | exact Or.inr (Or.inl rfl) | exact Or.inr (Or.inr rfl))) (de_var (i := 1) rfl (by first | exact Or.inl rfl | exact Or.inr (Or.inl rfl) | exact Or.inr (Or.inr rfl))) rfl))) (de_one (de_or (de_cmp op_isN opS_isN (de_var (i := 2) rfl (by first | exact Or.inl rfl | exact Or.inr (Or.inl rfl) | exact Or.inr (Or.inr rfl))) (de_non) rfl) (de_one (de_cmp op_le opS_cmp (de_var (i := 0) rfl (by first | exact Or.inl rfl | exact Or.inr (Or.inl rfl) | exact Or.inr (Or.inr rfl))) (de_var (i := 2) rfl (by first | exact Or.inl rfl | exact Or.inr (Or.inl rfl) | exact Or.inr (Or.inr rfl))) rfl))))))))
theorem S_is_listed : FnScope ["value"] ["value"] (defScope (top 8)) := ⟨rfl, rfl, rfl, by decide +kernel, rfl, by decide +kernel, by decide +kernel⟩
def den_is_listed : DenS :=
    sRet (dCB (cIsi T) (aCons (dVar 0) (aCons (dTup (aCons (dC (.ty "list")) (aCons (dC (.ty "tuple")) (aNil)))) (aNil))))
def F_is_listed : FD := runF 1 den_is_listed
theorem ok_is_listed {w : World} {K : PySem.W.Frag} {mg : Str → Option Value} {base : Heap} (M : MF K mg base) (o : Option Addr) : Df K mg base w o 1 "is_listed" 8 ["value"] F_is_listed := by
  obtain ⟨fd, U⟩ := M.def_ 2 (d := dd "is_listed" 8) rfl
  refine ⟨fd, U, fnD U S_is_listed (fun A outer s H E G cdv hr tk own => ?_), U.bindsN fun _ _ _ _ _ _ us hl => match us, hl with | [_], _ => rfl⟩
  exact (dss_one (ds_ret (de_callB cr_isA (cs_isi rfl M.is) rfl (M.free "isinstance") boot_isinstance (da_cons (de_var (i := 0) rfl (by first | exact Or.inl rfl | exact Or.inr (Or.inl rfl) | exact Or.inr (Or.inr rfl))) (da_cons (de_tup (da_cons (de_ty rfl (M.free "list") boot_list) (da_cons (de_ty rfl (M.free "tuple") boot_tuple) (da_nil)))) (da_nil))))))
theorem S_are_integers : FnScope ["value", "many", "part"] ["value", "many"] (defScope (top 9)) := ⟨rfl, rfl, rfl, by decide +kernel, rfl, by decide +kernel, by decide +kernel⟩
def den_are_integers : DenS :=
    sRet (dAndV (dCall 1 F_is_listed [] (aCons (dVar 0) (aNil))) (dAndV (dBin fEq (dCB cLen (aCons (dVar 0) (aNil))) (dVar 1)) (dCB cAll (aCons (dFz (dComp (iSeq (dVar 0)) [2] (gNm 2) (tTrue) (dCall 1 F_is_integer [] (aCons (dVar 2) (aNil))))) (aNil)))))
def F_are_integers : FD := runF 3 den_are_integers
theorem ok_are_integers {w : World} {K : PySem.W.Frag} {mg : Str → Option Value} {base : Heap} (M : MF K mg base) (o : Option Addr) : Df K mg base w o 2 "are_integers" 9 ["value", "many"] F_are_integers := by
  obtain ⟨fd_is_integer, U_is_integer, C_is_integer, B_is_integer⟩ := (ok_is_integer M o).ex
  obtain ⟨fd_is_listed, U_is_listed, C_is_listed, B_is_listed⟩ := (ok_is_listed M o).ex
  obtain ⟨fd, U⟩ := M.def_ 3 (d := dd "are_integers" 9) rfl
  refine ⟨fd, U, fnD U S_are_integers (fun A outer s H E G cdv hr tk own => ?_), U.bindsN fun _ _ _ _ _ _ us hl => match us, hl with | [_, _], _ => rfl⟩
  exact (dss_one (ds_ret (de_and (de_call C_is_listed (hr.mono (by decide)) rfl (M.glo "is_listed") U_is_listed.kp B_is_listed .nil (fun _ => .nil) tk (da_cons (de_var (i := 0) rfl (by first | exact Or.inl rfl | exact Or.inr (Or.inl rfl) | exact Or.inr (Or.inr rfl))) (da_nil))) (de_and (de_cmp (op_eqA (hu_of hr)) (opS_eq rfl) (de_callB cr_lenA (cs_len rfl) rfl (M.free "len") boot_len (da_cons (de_var (i := 0) rfl (by first | exact Or.inl rfl | exact Or.inr (Or.inl rfl) | exact Or.inr (Or.inr rfl))) (da_nil))) (de_var (i := 1) rfl (by first | exact Or.inl rfl | exact Or.inr (Or.inl rfl) | exact Or.inr (Or.inr rfl))) rfl) (de_one (de_callB (cr_all rfl) (cs_all rfl) rfl (M.free "all") boot_all (da_cons (de_fz (df_lc (own := [("part", 2)]) rfl S_are_integers.nd (di_seq rfl (de_var (i := 0) rfl (by first | exact Or.inl rfl | exact Or.inr (Or.inl rfl) | exact Or.inr (Or.inr rfl)))) (blkOk_by (by kernel_rfl)) (fun _ _ _ _ _ => dgt_name (i := 2) S_are_integers.nd rfl (by first | exact Or.inl rfl | exact Or.inr rfl) (by intro l h; cases h; decide)) (fun _ _ _ _ _ => dts_nil) (fun _ _ _ _ _ => de_call C_is_integer (hr.mono (by decide)) rfl (M.glo "is_integer") U_is_integer.kp B_is_integer .nil (fun _ => .nil) L2.takes0 (da_cons (de_var (i := 2) rfl (by first | exact Or.inl rfl | exact Or.inr (Or.inl rfl) | exact Or.inr (Or.inr rfl))) (da_nil))))) (da_nil))))))))
theorem S_is_row : FnScope ["value", "many", "part"] ["value", "many"] (defScope (top 10)) := ⟨rfl, rfl, rfl, by decide +kernel, rfl, by decide +kernel, by decide +kernel⟩
def den_is_row : DenS :=
    sRet (dAndV (dCall 2 F_are_integers [] (aCons (dVar 0) (aCons (dVar 1) (aNil)))) (dCB cAny (aCons (dFz (dComp (iSeq (dVar 0)) [2] (gNm 2) (tTrue) (dBin fNe (dVar 2) (dC (.int 0))))) (aNil))))
def F_is_row : FD := runF 3 den_is_row
theorem ok_is_row {w : World} {K : PySem.W.Frag} {mg : Str → Option Value} {base : Heap} (M : MF K mg base) (o : Option Addr) : Df K mg base w o 3 "is_row" 10 ["value", "many"] F_is_row := by
  obtain ⟨fd_are_integers, U_are_integers, C_are_integers, B_are_integers⟩ := (ok_are_integers M o).ex
  obtain ⟨fd, U⟩ := M.def_ 4 (d := dd "is_row" 10) rfl
  refine ⟨fd, U, fnD U S_is_row (fun A outer s H E G cdv hr tk own => ?_), U.bindsN fun _ _ _ _ _ _ us hl => match us, hl with | [_, _], _ => rfl⟩
  exact (dss_one (ds_ret (de_and (de_call C_are_integers (hr.mono (by decide)) rfl (M.glo "are_integers") U_are_integers.kp B_are_integers .nil (fun _ => .nil) tk (da_cons (de_var (i := 0) rfl (by first | exact Or.inl rfl | exact Or.inr (Or.inl rfl) | exact Or.inr (Or.inr rfl))) (da_cons (de_var (i := 1) rfl (by first | exact Or.inl rfl | exact Or.inr (Or.inl rfl) | exact Or.inr (Or.inr rfl))) (da_nil)))) (de_one (de_callB (cr_any rfl) (cs_any rfl) rfl (M.free "any") boot_any (da_cons (de_fz (df_lc (own := [("part", 2)]) rfl S_is_row.nd (di_seq rfl (de_var (i := 0) rfl (by first | exact Or.inl rfl | exact Or.inr (Or.inl rfl) | exact Or.inr (Or.inr rfl)))) (blkOk_by (by kernel_rfl)) (fun _ _ _ _ _ => dgt_name (i := 2) S_is_row.nd rfl (by first | exact Or.inl rfl | exact Or.inr rfl) (by intro l h; cases h; decide)) (fun _ _ _ _ _ => dts_nil) (fun _ _ _ _ _ => de_cmp (op_neA (hu_of hr)) (opS_ne rfl) (de_var (i := 2) rfl (by first | exact Or.inl rfl | exact Or.inr (Or.inl rfl) | exact Or.inr (Or.inr rfl))) (de_int) rfl))) (da_nil)))))))
theorem S_need_integer : FnScope ["value", "part", "least", "most"] ["value", "part", "least", "most"] (defScope (top 11)) := ⟨rfl, rfl, rfl, by decide +kernel, rfl, by decide +kernel, by decide +kernel⟩
def den_need_integer : DenS :=
    sIf (dNot (dTest (dCall 3 F_is_within [] (aCons (dVar 0) (aCons (dVar 2) (aCons (dVar 3) (aNil))))))) (sRaise1 "BadNumber" "part" (dVar 1)) (sNil)
def F_need_integer : FD := runF 4 den_need_integer
theorem ok_need_integer {w : World} {K : PySem.W.Frag} {mg : Str → Option Value} {base : Heap} (M : MF K mg base) (o : Option Addr) : Df K mg base w o 3 "need_integer" 11 ["value", "part", "least", "most"] F_need_integer := by
  obtain ⟨fd_is_within, U_is_within, C_is_within, B_is_within⟩ := (ok_is_within M o).ex
  have O_BadNumber := M.exc_BadNumber
  obtain ⟨fi_BadNumber, N_BadNumber, D_BadNumber⟩ := in_BadNumber (w := w) M
  obtain ⟨fd, U⟩ := M.def_ 5 (d := dd "need_integer" 11) rfl
  refine ⟨fd, U, fnD U S_need_integer (fun A outer s H E G cdv hr tk own => ?_), U.bindsN fun _ _ _ _ _ _ us hl => match us, hl with | [_, _, _, _], _ => rfl⟩
  exact (dss_one (ds_if (dt_not (dt_val (de_call C_is_within (hr.mono (by decide)) rfl (M.glo "is_within") U_is_within.kp B_is_within .nil (fun _ => .nil) tk (da_cons (de_var (i := 0) rfl (by first | exact Or.inl rfl | exact Or.inr (Or.inl rfl) | exact Or.inr (Or.inr rfl))) (da_cons (de_var (i := 2) rfl (by first | exact Or.inl rfl | exact Or.inr (Or.inl rfl) | exact Or.inr (Or.inr rfl))) (da_cons (de_var (i := 3) rfl (by first | exact Or.inl rfl | exact Or.inr (Or.inl rfl) | exact Or.inr (Or.inr rfl))) (da_nil))))))) (dss_one (ds_raise1 tk rfl O_BadNumber.oex O_BadNumber.ini O_BadNumber.typ N_BadNumber (hr.mono (by decide)) D_BadNumber rfl (M.glo "BadNumber") (de_var (i := 1) rfl (by first | exact Or.inl rfl | exact Or.inr (Or.inl rfl) | exact Or.inr (Or.inr rfl))))) (dss_nil)))
theorem S_shrunk : FnScope ["row", "shared", "part"] ["row"] (defScope (top 13)) := ⟨rfl, rfl, rfl, by decide +kernel, rfl, by decide +kernel, by decide +kernel⟩
def den_shrunk : DenS :=
    sSeq (sSet 1 (dC (.int 0)))
    (sSeq (sFor (iSeq (dVar 0)) (gNm 2) (sSet 1 (dCB cGcd (aCons (dVar 1) (aCons (dVar 2) (aNil))))))
    (sRet (dIf (dTest (dBin fGt (dVar 1) (dC (.int 1)))) (dCB cTuple (aCons (dFz (dComp (iSeq (dVar 0)) [2] (gNm 2) (tTrue) (dBin fDiv (dVar 2) (dVar 1)))) (aNil))) (dCB cTuple (aCons (dVar 0) (aNil))))))
def F_shrunk : FD := runF 3 den_shrunk
theorem ok_shrunk {w : World} {K : PySem.W.Frag} {mg : Str → Option Value} {base : Heap} (M : MF K mg base) (o : Option Addr) : Df K mg base w o 1 "shrunk" 13 ["row"] F_shrunk := by
  obtain ⟨fd, U⟩ := M.def_ 6 (d := dd "shrunk" 13) rfl
  refine ⟨fd, U, fnD U S_shrunk (fun A outer s H E G cdv hr tk own => ?_), U.bindsN fun _ _ _ _ _ _ us hl => match us, hl with | [_], _ => rfl⟩
  exact (dss_cons (ds_set (i := 1) S_shrunk.nd rfl (by first | exact Or.inl rfl | exact Or.inr rfl) (de_int))
    (dss_cons (ds_for own rfl (di_seq rfl (de_var (i := 0) rfl (by first | exact Or.inl rfl | exact Or.inr (Or.inl rfl) | exact Or.inr (Or.inr rfl)))) (dgt_name (i := 2) S_shrunk.nd rfl (by first | exact Or.inl rfl | exact Or.inr rfl) (by intro l h; cases h)) (dss_one (ds_set (i := 1) S_shrunk.nd rfl (by first | exact Or.inl rfl | exact Or.inr rfl) (de_callBf cr_gcd cs_gcd rfl M.gcd (da_cons (de_var (i := 1) rfl (by first | exact Or.inl rfl | exact Or.inr (Or.inl rfl) | exact Or.inr (Or.inr rfl))) (da_cons (de_var (i := 2) rfl (by first | exact Or.inl rfl | exact Or.inr (Or.inl rfl) | exact Or.inr (Or.inr rfl))) (da_nil)))))))
    (dss_one (ds_ret (de_if (dt_cmp op_gt opS_cmp (de_var (i := 1) rfl (by first | exact Or.inl rfl | exact Or.inr (Or.inl rfl) | exact Or.inr (Or.inr rfl))) (de_int) rfl) (de_callTy call_tuple_of (cs_tuple rfl) rfl (M.free "tuple") boot_tuple (da_cons (de_fz (df_lc (own := [("part", 2)]) rfl S_shrunk.nd (di_seq rfl (de_var (i := 0) rfl (by first | exact Or.inl rfl | exact Or.inr (Or.inl rfl) | exact Or.inr (Or.inr rfl)))) (blkOk_by (by kernel_rfl)) (fun _ _ _ _ _ => dgt_name (i := 2) S_shrunk.nd rfl (by first | exact Or.inl rfl | exact Or.inr rfl) (by intro l h; cases h; decide)) (fun _ _ _ _ _ => dts_nil) (fun _ _ _ _ _ => de_div (de_var (i := 2) rfl (by first | exact Or.inl rfl | exact Or.inr (Or.inl rfl) | exact Or.inr (Or.inr rfl))) (de_var (i := 1) rfl (by first | exact Or.inl rfl | exact Or.inr (Or.inl rfl) | exact Or.inr (Or.inr rfl)))))) (da_nil))) (de_callTy call_tuple_of (cs_tuple rfl) rfl (M.free "tuple") boot_tuple (da_cons (de_var (i := 0) rfl (by first | exact Or.inl rfl | exact Or.inr (Or.inl rfl) | exact Or.inr (Or.inr rfl))) (da_nil))))))))
theorem S_plain_of : FnScope ["row", "found", "part"] ["row"] (defScope (top 14)) := ⟨rfl, rfl, rfl, by decide +kernel, rfl, by decide +kernel, by decide +kernel⟩
def den_plain_of : DenS :=
    sSeq (sSet 1 (dCall 1 F_shrunk [] (aCons (dVar 0) (aNil))))
    (sRet (dIf (dTest (dBin fGt (dBin fIx (dFz (dComp (iSeq (dVar 1)) [2] (gNm 2) (dTest (dBin fNe (dVar 2) (dC (.int 0)))) (dVar 2))) (dC (.int 0))) (dC (.int 0)))) (dVar 1) (dCB cTuple (aCons (dFz (dComp (iSeq (dVar 1)) [2] (gNm 2) (tTrue) (dUn fNeg (dVar 2)))) (aNil)))))
def F_plain_of : FD := runF 3 den_plain_of
theorem ok_plain_of {w : World} {K : PySem.W.Frag} {mg : Str → Option Value} {base : Heap} (M : MF K mg base) (o : Option Addr) : Df K mg base w o 2 "plain_of" 14 ["row"] F_plain_of := by
  obtain ⟨fd_shrunk, U_shrunk, C_shrunk, B_shrunk⟩ := (ok_shrunk M o).ex
  obtain ⟨fd, U⟩ := M.def_ 7 (d := dd "plain_of" 14) rfl
  refine ⟨fd, U, fnD U S_plain_of (fun A outer s H E G cdv hr tk own => ?_), U.bindsN fun _ _ _ _ _ _ us hl => match us, hl with | [_], _ => rfl⟩
  exact (dss_cons (ds_set (i := 1) S_plain_of.nd rfl (by first | exact Or.inl rfl | exact Or.inr rfl) (de_call C_shrunk (hr.mono (by decide)) rfl (M.glo "shrunk") U_shrunk.kp B_shrunk .nil (fun _ => .nil) tk (da_cons (de_var (i := 0) rfl (by first | exact Or.inl rfl | exact Or.inr (Or.inl rfl) | exact Or.inr (Or.inr rfl))) (da_nil))))
    (dss_one (ds_ret (de_if (dt_cmp op_gt opS_cmp (de_ix rfl (de_fz (df_lc (own := [("part", 2)]) rfl S_plain_of.nd (di_seq rfl (de_var (i := 1) rfl (by first | exact Or.inl rfl | exact Or.inr (Or.inl rfl) | exact Or.inr (Or.inr rfl)))) (blkOk_by (by kernel_rfl)) (fun _ _ _ _ _ => dgt_name (i := 2) S_plain_of.nd rfl (by first | exact Or.inl rfl | exact Or.inr rfl) (by intro l h; cases h; decide)) (fun _ _ _ _ _ => dts_one (dt_cmp (op_neA (hu_of hr)) (opS_ne rfl) (de_var (i := 2) rfl (by first | exact Or.inl rfl | exact Or.inr (Or.inl rfl) | exact Or.inr (Or.inr rfl))) (de_int) rfl)) (fun _ _ _ _ _ => de_var (i := 2) rfl (by first | exact Or.inl rfl | exact Or.inr (Or.inl rfl) | exact Or.inr (Or.inr rfl))))) (de_int)) (de_int) rfl) (de_var (i := 1) rfl (by first | exact Or.inl rfl | exact Or.inr (Or.inl rfl) | exact Or.inr (Or.inr rfl))) (de_callTy call_tuple_of (cs_tuple rfl) rfl (M.free "tuple") boot_tuple (da_cons (de_fz (df_lc (own := [("part", 2)]) rfl S_plain_of.nd (di_seq rfl (de_var (i := 1) rfl (by first | exact Or.inl rfl | exact Or.inr (Or.inl rfl) | exact Or.inr (Or.inr rfl)))) (blkOk_by (by kernel_rfl)) (fun _ _ _ _ _ => dgt_name (i := 2) S_plain_of.nd rfl (by first | exact Or.inl rfl | exact Or.inr rfl) (by intro l h; cases h; decide)) (fun _ _ _ _ _ => dts_nil) (fun _ _ _ _ _ => de_neg (de_var (i := 2) rfl (by first | exact Or.inl rfl | exact Or.inr (Or.inl rfl) | exact Or.inr (Or.inr rfl)))))) (da_nil)))))))
theorem S_row_told : FnScope ["value", "many", "part"] ["value", "many", "part"] (defScope (top 15)) := ⟨rfl, rfl, rfl, by decide +kernel, rfl, by decide +kernel, by decide +kernel⟩
def den_row_told : DenS :=
    sSeq (sIf (dNot (dTest (dCall 2 F_is_row [] (aCons (dVar 0) (aCons (dVar 1) (aNil)))))) (sRaise1 "BadRow" "part" (dVar 2)) (sNil))
    (sRet (dCall 1 F_plain_of [] (aCons (dVar 0) (aNil))))
def F_row_told : FD := runF 3 den_row_told
theorem ok_row_told {w : World} {K : PySem.W.Frag} {mg : Str → Option Value} {base : Heap} (M : MF K mg base) (o : Option Addr) : Df K mg base w o 4 "row_told" 15 ["value", "many", "part"] F_row_told := by
  obtain ⟨fd_is_row, U_is_row, C_is_row, B_is_row⟩ := (ok_is_row M o).ex
  obtain ⟨fd_plain_of, U_plain_of, C_plain_of, B_plain_of⟩ := (ok_plain_of M o).ex
  have O_BadRow := M.exc_BadRow
  obtain ⟨fi_BadRow, N_BadRow, D_BadRow⟩ := in_BadRow (w := w) M
  obtain ⟨fd, U⟩ := M.def_ 8 (d := dd "row_told" 15) rfl
  refine ⟨fd, U, fnD U S_row_told (fun A outer s H E G cdv hr tk own => ?_), U.bindsN fun _ _ _ _ _ _ us hl => match us, hl with | [_, _, _], _ => rfl⟩
  exact (dss_cons (ds_if (dt_not (dt_val (de_call C_is_row (hr.mono (by decide)) rfl (M.glo "is_row") U_is_row.kp B_is_row .nil (fun _ => .nil) tk (da_cons (de_var (i := 0) rfl (by first | exact Or.inl rfl | exact Or.inr (Or.inl rfl) | exact Or.inr (Or.inr rfl))) (da_cons (de_var (i := 1) rfl (by first | exact Or.inl rfl | exact Or.inr (Or.inl rfl) | exact Or.inr (Or.inr rfl))) (da_nil)))))) (dss_one (ds_raise1 tk rfl O_BadRow.oex O_BadRow.ini O_BadRow.typ N_BadRow (hr.mono (by decide)) D_BadRow rfl (M.glo "BadRow") (de_var (i := 2) rfl (by first | exact Or.inl rfl | exact Or.inr (Or.inl rfl) | exact Or.inr (Or.inr rfl))))) (dss_nil))
    (dss_one (ds_ret (de_call C_plain_of (hr.mono (by decide)) rfl (M.glo "plain_of") U_plain_of.kp B_plain_of .nil (fun _ => .nil) tk (da_cons (de_var (i := 0) rfl (by first | exact Or.inl rfl | exact Or.inr (Or.inl rfl) | exact Or.inr (Or.inr rfl))) (da_nil))))))
theorem S_dot_of : FnScope ["one", "other", "mine", "its"] ["one", "other"] (defScope (top 17)) := ⟨rfl, rfl, rfl, by decide +kernel, rfl, by decide +kernel, by decide +kernel⟩
def den_dot_of : DenS :=
    sRet (dCB cSum (aCons (dFz (dComp (iZip (aCons (dVar 0) (aCons (dVar 1) (aNil)))) [2, 3] (gTp 2 (gsCons (gNm 2) (gsCons (gNm 3) (gsNil)))) (tTrue) (dBin fMul (dVar 2) (dVar 3)))) (aNil)))
def F_dot_of : FD := runF 4 den_dot_of
theorem ok_dot_of {w : World} {K : PySem.W.Frag} {mg : Str → Option Value} {base : Heap} (M : MF K mg base) (o : Option Addr) : Df K mg base w o 1 "dot_of" 17 ["one", "other"] F_dot_of := by
  obtain ⟨fd, U⟩ := M.def_ 9 (d := dd "dot_of" 17) rfl
  refine ⟨fd, U, fnD U S_dot_of (fun A outer s H E G cdv hr tk own => ?_), U.bindsN fun _ _ _ _ _ _ us hl => match us, hl with | [_, _], _ => rfl⟩
  exact (dss_one (ds_ret (de_callB (cr_sum rfl) (cs_sum rfl) rfl (M.free "sum") boot_sum (da_cons (de_fz (df_lc (own := [("mine", 2), ("its", 3)]) rfl S_dot_of.nd (di_zip rfl rfl (M.free "zip") (da_cons (de_var (i := 0) rfl (by first | exact Or.inl rfl | exact Or.inr (Or.inl rfl) | exact Or.inr (Or.inr rfl))) (da_cons (de_var (i := 1) rfl (by first | exact Or.inl rfl | exact Or.inr (Or.inl rfl) | exact Or.inr (Or.inr rfl))) (da_nil)))) (blkOk_by (by kernel_rfl)) (fun _ _ _ _ _ => dgt_tup rfl rfl (dgs_cons (dgt_name (i := 2) S_dot_of.nd rfl (by first | exact Or.inl rfl | exact Or.inr rfl) (by intro l h; cases h; decide)) (dgs_cons (dgt_name (i := 3) S_dot_of.nd rfl (by first | exact Or.inl rfl | exact Or.inr rfl) (by intro l h; cases h; decide)) (dgs_nil)))) (fun _ _ _ _ _ => dts_nil) (fun _ _ _ _ _ => de_mul (de_var (i := 2) rfl (by first | exact Or.inl rfl | exact Or.inr (Or.inl rfl) | exact Or.inr (Or.inr rfl))) (de_var (i := 3) rfl (by first | exact Or.inl rfl | exact Or.inr (Or.inl rfl) | exact Or.inr (Or.inr rfl)))))) (da_nil)))))
theorem S_sign_of : FnScope ["number"] ["number"] (defScope (top 20)) := ⟨rfl, rfl, rfl, by decide +kernel, rfl, by decide +kernel, by decide +kernel⟩
def den_sign_of : DenS :=
    sRet (dBin fSub (dCB cInt (aCons (dBin fGt (dVar 0) (dC (.int 0))) (aNil))) (dCB cInt (aCons (dBin fLt (dVar 0) (dC (.int 0))) (aNil))))
def F_sign_of : FD := runF 1 den_sign_of
theorem ok_sign_of {w : World} {K : PySem.W.Frag} {mg : Str → Option Value} {base : Heap} (M : MF K mg base) (o : Option Addr) : Df K mg base w o 1 "sign_of" 20 ["number"] F_sign_of := by
  obtain ⟨fd, U⟩ := M.def_ 10 (d := dd "sign_of" 20) rfl
  refine ⟨fd, U, fnD U S_sign_of (fun A outer s H E G cdv hr tk own => ?_), U.bindsN fun _ _ _ _ _ _ us hl => match us, hl with | [_], _ => rfl⟩
  exact (dss_one (ds_ret (de_sub (de_callTy call_int1 cs_int rfl (M.free "int") boot_int (da_cons (de_cmp op_gt opS_cmp (de_var (i := 0) rfl (by first | exact Or.inl rfl | exact Or.inr (Or.inl rfl) | exact Or.inr (Or.inr rfl))) (de_int) rfl) (da_nil))) (de_callTy call_int1 cs_int rfl (M.free "int") boot_int (da_cons (de_cmp op_lt opS_cmp (de_var (i := 0) rfl (by first | exact Or.inl rfl | exact Or.inr (Or.inl rfl) | exact Or.inr (Or.inr rfl))) (de_int) rfl) (da_nil))))))
theorem S_surd_sign_of : FnScope ["one", "other", "under", "mine", "its"] ["one", "other", "under"] (defScope (top 21)) := ⟨rfl, rfl, rfl, by decide +kernel, rfl, by decide +kernel, by decide +kernel⟩
def den_surd_sign_of : DenS :=
    sSeq (sPar [3, 4] (aCons (dCall 1 F_sign_of [] (aCons (dVar 0) (aNil))) (aCons (dBin fMul (dCall 1 F_sign_of [] (aCons (dVar 1) (aNil))) (dCall 1 F_sign_of [] (aCons (dVar 2) (aNil)))) (aNil))))
    (sSeq (sIf (dOr (dTest (dBin fEq (dVar 3) (dVar 4))) (dTest (dBin fEq (dVar 4) (dC (.int 0))))) (sRet (dVar 3)) (sNil))
    (sSeq (sIf (dTest (dBin fEq (dVar 3) (dC (.int 0)))) (sRet (dVar 4)) (sNil))
    (sRet (dBin fMul (dVar 3) (dCall 1 F_sign_of [] (aCons (dBin fSub (dBin fMul (dVar 0) (dVar 0)) (dBin fMul (dBin fMul (dVar 1) (dVar 1)) (dVar 2))) (aNil)))))))
def F_surd_sign_of : FD := runF 5 den_surd_sign_of
theorem ok_surd_sign_of {w : World} {K : PySem.W.Frag} {mg : Str → Option Value} {base : Heap} (M : MF K mg base) (o : Option Addr) : Df K mg base w o 2 "surd_sign_of" 21 ["one", "other", "under"] F_surd_sign_of := by
  obtain ⟨fd_sign_of, U_sign_of, C_sign_of, B_sign_of⟩ := (ok_sign_of M o).ex
  obtain ⟨fd, U⟩ := M.def_ 11 (d := dd "surd_sign_of" 21) rfl
  refine ⟨fd, U, fnD U S_surd_sign_of (fun A outer s H E G cdv hr tk own => ?_), U.bindsN fun _ _ _ _ _ _ us hl => match us, hl with | [_, _, _], _ => rfl⟩
  exact (dss_cons (ds_par (i := 3) (k := 4) rfl S_surd_sign_of.nd rfl rfl (by decide) rfl rfl (da_cons (de_call C_sign_of (hr.mono (by decide)) rfl (M.glo "sign_of") U_sign_of.kp B_sign_of .nil (fun _ => .nil) tk (da_cons (de_var (i := 0) rfl (by first | exact Or.inl rfl | exact Or.inr (Or.inl rfl) | exact Or.inr (Or.inr rfl))) (da_nil))) (da_cons (de_mul (de_call C_sign_of (hr.mono (by decide)) rfl (M.glo "sign_of") U_sign_of.kp B_sign_of .nil (fun _ => .nil) tk (da_cons (de_var (i := 1) rfl (by first | exact Or.inl rfl | exact Or.inr (Or.inl rfl) | exact Or.inr (Or.inr rfl))) (da_nil))) (de_call C_sign_of (hr.mono (by decide)) rfl (M.glo "sign_of") U_sign_of.kp B_sign_of .nil (fun _ => .nil) tk (da_cons (de_var (i := 2) rfl (by first | exact Or.inl rfl | exact Or.inr (Or.inl rfl) | exact Or.inr (Or.inr rfl))) (da_nil)))) (da_nil))))
    (dss_cons (ds_if (dt_w (dw_or (dt_cmp (op_eqA (hu_of hr)) (opS_eq rfl) (de_var (i := 3) rfl (by first | exact Or.inl rfl | exact Or.inr (Or.inl rfl) | exact Or.inr (Or.inr rfl))) (de_var (i := 4) rfl (by first | exact Or.inl rfl | exact Or.inr (Or.inl rfl) | exact Or.inr (Or.inr rfl))) rfl) (dw_or1 (dt_cmp (op_eqA (hu_of hr)) (opS_eq rfl) (de_var (i := 4) rfl (by first | exact Or.inl rfl | exact Or.inr (Or.inl rfl) | exact Or.inr (Or.inr rfl))) (de_int) rfl)))) (dss_one (ds_ret (de_var (i := 3) rfl (by first | exact Or.inl rfl | exact Or.inr (Or.inl rfl) | exact Or.inr (Or.inr rfl))))) (dss_nil))
    (dss_cons (ds_if (dt_cmp (op_eqA (hu_of hr)) (opS_eq rfl) (de_var (i := 3) rfl (by first | exact Or.inl rfl | exact Or.inr (Or.inl rfl) | exact Or.inr (Or.inr rfl))) (de_int) rfl) (dss_one (ds_ret (de_var (i := 4) rfl (by first | exact Or.inl rfl | exact Or.inr (Or.inl rfl) | exact Or.inr (Or.inr rfl))))) (dss_nil))
    (dss_one (ds_ret (de_mul (de_var (i := 3) rfl (by first | exact Or.inl rfl | exact Or.inr (Or.inl rfl) | exact Or.inr (Or.inr rfl))) (de_call C_sign_of (hr.mono (by decide)) rfl (M.glo "sign_of") U_sign_of.kp B_sign_of .nil (fun _ => .nil) tk (da_cons (de_sub (de_mul (de_var (i := 0) rfl (by first | exact Or.inl rfl | exact Or.inr (Or.inl rfl) | exact Or.inr (Or.inr rfl))) (de_var (i := 0) rfl (by first | exact Or.inl rfl | exact Or.inr (Or.inl rfl) | exact Or.inr (Or.inr rfl)))) (de_mul (de_mul (de_var (i := 1) rfl (by first | exact Or.inl rfl | exact Or.inr (Or.inl rfl) | exact Or.inr (Or.inr rfl))) (de_var (i := 1) rfl (by first | exact Or.inl rfl | exact Or.inr (Or.inl rfl) | exact Or.inr (Or.inr rfl)))) (de_var (i := 2) rfl (by first | exact Or.inl rfl | exact Or.inr (Or.inl rfl) | exact Or.inr (Or.inr rfl))))) (da_nil)))))))))
theorem S_sign_there : FnScope ["place", "row", "start", "step", "under"] ["place", "row"] (defScope (top 22)) := ⟨rfl, rfl, rfl, by decide +kernel, rfl, by decide +kernel, by decide +kernel⟩
def den_sign_there : DenS :=
    sSeq (sAsg (dVar 0) (gTp 3 (gsCons (gNm 2) (gsCons (gNm 3) (gsCons (gNm 4) (gsNil))))))
    (sRet (dCall 3 F_surd_sign_of [] (aCons (dCall 2 F_dot_of [] (aCons (dVar 1) (aCons (dVar 2) (aNil)))) (aCons (dCall 2 F_dot_of [] (aCons (dVar 1) (aCons (dVar 3) (aNil)))) (aCons (dVar 4) (aNil))))))
def F_sign_there : FD := runF 5 den_sign_there
theorem ok_sign_there {w : World} {K : PySem.W.Frag} {mg : Str → Option Value} {base : Heap} (M : MF K mg base) (o : Option Addr) : Df K mg base w o 3 "sign_there" 22 ["place", "row"] F_sign_there := by
  obtain ⟨fd_dot_of, U_dot_of, C_dot_of, B_dot_of⟩ := (ok_dot_of M o).ex
  obtain ⟨fd_surd_sign_of, U_surd_sign_of, C_surd_sign_of, B_surd_sign_of⟩ := (ok_surd_sign_of M o).ex
  obtain ⟨fd, U⟩ := M.def_ 12 (d := dd "sign_there" 22) rfl
  refine ⟨fd, U, fnD U S_sign_there (fun A outer s H E G cdv hr tk own => ?_), U.bindsN fun _ _ _ _ _ _ us hl => match us, hl with | [_, _], _ => rfl⟩
  exact (dss_cons (ds_asg (de_var (i := 0) rfl (by first | exact Or.inl rfl | exact Or.inr (Or.inl rfl) | exact Or.inr (Or.inr rfl))) (dgt_tup rfl rfl (dgs_cons (dgt_name (i := 2) S_sign_there.nd rfl (by first | exact Or.inl rfl | exact Or.inr rfl) (by intro l h; cases h)) (dgs_cons (dgt_name (i := 3) S_sign_there.nd rfl (by first | exact Or.inl rfl | exact Or.inr rfl) (by intro l h; cases h)) (dgs_cons (dgt_name (i := 4) S_sign_there.nd rfl (by first | exact Or.inl rfl | exact Or.inr rfl) (by intro l h; cases h)) (dgs_nil))))))
    (dss_one (ds_ret (de_call C_surd_sign_of (hr.mono (by decide)) rfl (M.glo "surd_sign_of") U_surd_sign_of.kp B_surd_sign_of .nil (fun _ => .nil) tk (da_cons (de_call C_dot_of (hr.mono (by decide)) rfl (M.glo "dot_of") U_dot_of.kp B_dot_of .nil (fun _ => .nil) tk (da_cons (de_var (i := 1) rfl (by first | exact Or.inl rfl | exact Or.inr (Or.inl rfl) | exact Or.inr (Or.inr rfl))) (da_cons (de_var (i := 2) rfl (by first | exact Or.inl rfl | exact Or.inr (Or.inl rfl) | exact Or.inr (Or.inr rfl))) (da_nil)))) (da_cons (de_call C_dot_of (hr.mono (by decide)) rfl (M.glo "dot_of") U_dot_of.kp B_dot_of .nil (fun _ => .nil) tk (da_cons (de_var (i := 1) rfl (by first | exact Or.inl rfl | exact Or.inr (Or.inl rfl) | exact Or.inr (Or.inr rfl))) (da_cons (de_var (i := 3) rfl (by first | exact Or.inl rfl | exact Or.inr (Or.inl rfl) | exact Or.inr (Or.inr rfl))) (da_nil)))) (da_cons (de_var (i := 4) rfl (by first | exact Or.inl rfl | exact Or.inr (Or.inl rfl) | exact Or.inr (Or.inr rfl))) (da_nil))))))))
theorem S_is_place : FnScope ["value", "row"] ["value"] (defScope (top 23)) := ⟨rfl, rfl, rfl, by decide +kernel, rfl, by decide +kernel, by decide +kernel⟩
def den_is_place : DenS :=
    sSeq (sIf (dOr (dNot (dTest (dCall 1 F_is_listed [] (aCons (dVar 0) (aNil))))) (dOr (dTest (dBin fNe (dCB cLen (aCons (dVar 0) (aNil))) (dC (.int 3)))) (dNot (dTest (dCB cAll (aCons (dFz (dComp (iSeq (dSl (dVar 0) (oNone) (oSome (dC (.int 2))))) [1] (gNm 1) (tTrue) (dCall 2 F_are_integers [] (aCons (dVar 1) (aCons (dC (.int 3)) (aNil)))))) (aNil))))))) (sRet (dC (.bl false))) (sNil))
    (sRet (dAndV (dCB (cIsi T) (aCons (dBin fIx (dVar 0) (dC (.int 2))) (aCons (dC (.ty "int")) (aNil)))) (dAndV (dNotV (dCB (cIsi T) (aCons (dBin fIx (dVar 0) (dC (.int 2))) (aCons (dC (.ty "bool")) (aNil))))) (dBin fGe (dBin fIx (dVar 0) (dC (.int 2))) (dC (.int 0))))))
def F_is_place : FD := runF 2 den_is_place
theorem ok_is_place {w : World} {K : PySem.W.Frag} {mg : Str → Option Value} {base : Heap} (M : MF K mg base) (o : Option Addr) : Df K mg base w o 3 "is_place" 23 ["value"] F_is_place := by
  obtain ⟨fd_are_integers, U_are_integers, C_are_integers, B_are_integers⟩ := (ok_are_integers M o).ex
  obtain ⟨fd_is_listed, U_is_listed, C_is_listed, B_is_listed⟩ := (ok_is_listed M o).ex
  obtain ⟨t_WIDE, h_WIDE⟩ := M.int_WIDE
  obtain ⟨fd, U⟩ := M.def_ 13 (d := dd "is_place" 23) rfl
  refine ⟨fd, U, fnD U S_is_place (fun A outer s H E G cdv hr tk own => ?_), U.bindsN fun _ _ _ _ _ _ us hl => match us, hl with | [_], _ => rfl⟩
  exact (dss_cons (ds_if (dt_w (dw_or (dt_not (dt_val (de_call C_is_listed (hr.mono (by decide)) rfl (M.glo "is_listed") U_is_listed.kp B_is_listed .nil (fun _ => .nil) tk (da_cons (de_var (i := 0) rfl (by first | exact Or.inl rfl | exact Or.inr (Or.inl rfl) | exact Or.inr (Or.inr rfl))) (da_nil))))) (dw_or (dt_cmp (op_neA (hu_of hr)) (opS_ne rfl) (de_callB cr_lenA (cs_len rfl) rfl (M.free "len") boot_len (da_cons (de_var (i := 0) rfl (by first | exact Or.inl rfl | exact Or.inr (Or.inl rfl) | exact Or.inr (Or.inr rfl))) (da_nil))) (de_gint rfl h_WIDE) rfl) (dw_or1 (dt_not (dt_val (de_callB (cr_all rfl) (cs_all rfl) rfl (M.free "all") boot_all (da_cons (de_fz (df_lc (own := [("row", 1)]) rfl S_is_place.nd (di_seq rfl (de_slice rfl (de_var (i := 0) rfl (by first | exact Or.inl rfl | exact Or.inr (Or.inl rfl) | exact Or.inr (Or.inr rfl))) (do_none) (do_some (de_int)))) (blkOk_by (by kernel_rfl)) (fun _ _ _ _ _ => dgt_name (i := 1) S_is_place.nd rfl (by first | exact Or.inl rfl | exact Or.inr rfl) (by intro l h; cases h; decide)) (fun _ _ _ _ _ => dts_nil) (fun _ _ _ _ _ => de_call C_are_integers (hr.mono (by decide)) rfl (M.glo "are_integers") U_are_integers.kp B_are_integers .nil (fun _ => .nil) L2.takes0 (da_cons (de_var (i := 1) rfl (by first | exact Or.inl rfl | exact Or.inr (Or.inl rfl) | exact Or.inr (Or.inr rfl))) (da_cons (de_gint rfl h_WIDE) (da_nil)))))) (da_nil))))))))) (dss_one (ds_ret (de_bl))) (dss_nil))
    (dss_one (ds_ret (de_and (de_callB cr_isA (cs_isi rfl M.is) rfl (M.free "isinstance") boot_isinstance (da_cons (de_ix rfl (de_var (i := 0) rfl (by first | exact Or.inl rfl | exact Or.inr (Or.inl rfl) | exact Or.inr (Or.inr rfl))) (de_int)) (da_cons (de_ty rfl (M.free "int") boot_int) (da_nil)))) (de_and (de_not (de_callB cr_isA (cs_isi rfl M.is) rfl (M.free "isinstance") boot_isinstance (da_cons (de_ix rfl (de_var (i := 0) rfl (by first | exact Or.inl rfl | exact Or.inr (Or.inl rfl) | exact Or.inr (Or.inr rfl))) (de_int)) (da_cons (de_ty rfl (M.free "bool") boot_bool) (da_nil))))) (de_one (de_cmp op_ge opS_cmp (de_ix rfl (de_var (i := 0) rfl (by first | exact Or.inl rfl | exact Or.inr (Or.inl rfl) | exact Or.inr (Or.inr rfl))) (de_int)) (de_int) rfl)))))))
theorem S_surd_sign : FnScope ["one", "other", "under"] ["one", "other", "under"] (defScope (top 24)) := ⟨rfl, rfl, rfl, by decide +kernel, rfl, by decide +kernel, by decide +kernel⟩
def den_surd_sign : DenS :=
    sSeq (sDrop (dCall 4 F_need_integer [] (aCons (dVar 0) (aCons (dC (.str "one")) (aCons (dC .non) (aCons (dC .non) (aNil)))))))
    (sSeq (sDrop (dCall 4 F_need_integer [] (aCons (dVar 1) (aCons (dC (.str "other")) (aCons (dC .non) (aCons (dC .non) (aNil)))))))
    (sSeq (sDrop (dCall 4 F_need_integer [] (aCons (dVar 2) (aCons (dC (.str "under")) (aCons (dC (.int 0)) (aCons (dC .non) (aNil)))))))
    (sRet (dCall 3 F_surd_sign_of [] (aCons (dVar 0) (aCons (dVar 1) (aCons (dVar 2) (aNil))))))))
def F_surd_sign : FD := runF 3 den_surd_sign
theorem ok_surd_sign {w : World} {K : PySem.W.Frag} {mg : Str → Option Value} {base : Heap} (M : MF K mg base) (o : Option Addr) : Df K mg base w o 4 "surd_sign" 24 ["one", "other", "under"] F_surd_sign := by
  obtain ⟨fd_need_integer, U_need_integer, C_need_integer, B_need_integer⟩ := (ok_need_integer M o).ex
  obtain ⟨fd_surd_sign_of, U_surd_sign_of, C_surd_sign_of, B_surd_sign_of⟩ := (ok_surd_sign_of M o).ex
  obtain ⟨fd, U⟩ := M.def_ 14 (d := dd "surd_sign" 24) rfl
  refine ⟨fd, U, fnD U S_surd_sign (fun A outer s H E G cdv hr tk own => ?_), U.bindsN fun _ _ _ _ _ _ us hl => match us, hl with | [_, _, _], _ => rfl⟩
  exact (dss_cons (ds_expr (de_call C_need_integer (hr.mono (by decide)) rfl (M.glo "need_integer") U_need_integer.kp B_need_integer .nil (fun _ => .nil) tk (da_cons (de_var (i := 0) rfl (by first | exact Or.inl rfl | exact Or.inr (Or.inl rfl) | exact Or.inr (Or.inr rfl))) (da_cons (de_str) (da_cons (de_non) (da_cons (de_non) (da_nil)))))))
    (dss_cons (ds_expr (de_call C_need_integer (hr.mono (by decide)) rfl (M.glo "need_integer") U_need_integer.kp B_need_integer .nil (fun _ => .nil) tk (da_cons (de_var (i := 1) rfl (by first | exact Or.inl rfl | exact Or.inr (Or.inl rfl) | exact Or.inr (Or.inr rfl))) (da_cons (de_str) (da_cons (de_non) (da_cons (de_non) (da_nil)))))))
    (dss_cons (ds_expr (de_call C_need_integer (hr.mono (by decide)) rfl (M.glo "need_integer") U_need_integer.kp B_need_integer .nil (fun _ => .nil) tk (da_cons (de_var (i := 2) rfl (by first | exact Or.inl rfl | exact Or.inr (Or.inl rfl) | exact Or.inr (Or.inr rfl))) (da_cons (de_str) (da_cons (de_int) (da_cons (de_non) (da_nil)))))))
    (dss_one (ds_ret (de_call C_surd_sign_of (hr.mono (by decide)) rfl (M.glo "surd_sign_of") U_surd_sign_of.kp B_surd_sign_of .nil (fun _ => .nil) tk (da_cons (de_var (i := 0) rfl (by first | exact Or.inl rfl | exact Or.inr (Or.inl rfl) | exact Or.inr (Or.inr rfl))) (da_cons (de_var (i := 1) rfl (by first | exact Or.inl rfl | exact Or.inr (Or.inl rfl) | exact Or.inr (Or.inr rfl))) (da_cons (de_var (i := 2) rfl (by first | exact Or.inl rfl | exact Or.inr (Or.inl rfl) | exact Or.inr (Or.inr rfl))) (da_nil))))))))))
theorem S_sign_at : FnScope ["place", "row"] ["place", "row"] (defScope (top 25)) := ⟨rfl, rfl, rfl, by decide +kernel, rfl, by decide +kernel, by decide +kernel⟩
def den_sign_at : DenS :=
    sSeq (sIf (dNot (dTest (dCall 1 F_is_place [] (aCons (dVar 0) (aNil))))) (sRaise1 "BadRow" "part" (dC (.str "place"))) (sNil))
    (sRet (dCall 2 F_sign_there [] (aCons (dVar 0) (aCons (dCall 3 F_row_told [] (aCons (dVar 1) (aCons (dC (.int 3)) (aCons (dC (.str "row")) (aNil))))) (aNil)))))
def F_sign_at : FD := runF 2 den_sign_at
theorem ok_sign_at {w : World} {K : PySem.W.Frag} {mg : Str → Option Value} {base : Heap} (M : MF K mg base) (o : Option Addr) : Df K mg base w o 5 "sign_at" 25 ["place", "row"] F_sign_at := by
  obtain ⟨fd_is_place, U_is_place, C_is_place, B_is_place⟩ := (ok_is_place M o).ex
  obtain ⟨fd_row_told, U_row_told, C_row_told, B_row_told⟩ := (ok_row_told M o).ex
  obtain ⟨fd_sign_there, U_sign_there, C_sign_there, B_sign_there⟩ := (ok_sign_there M o).ex
  obtain ⟨t_WIDE, h_WIDE⟩ := M.int_WIDE
  have O_BadRow := M.exc_BadRow
  obtain ⟨fi_BadRow, N_BadRow, D_BadRow⟩ := in_BadRow (w := w) M
  obtain ⟨fd, U⟩ := M.def_ 15 (d := dd "sign_at" 25) rfl
  refine ⟨fd, U, fnD U S_sign_at (fun A outer s H E G cdv hr tk own => ?_), U.bindsN fun _ _ _ _ _ _ us hl => match us, hl with | [_, _], _ => rfl⟩
  exact (dss_cons (ds_if (dt_not (dt_val (de_call C_is_place (hr.mono (by decide)) rfl (M.glo "is_place") U_is_place.kp B_is_place .nil (fun _ => .nil) tk (da_cons (de_var (i := 0) rfl (by first | exact Or.inl rfl | exact Or.inr (Or.inl rfl) | exact Or.inr (Or.inr rfl))) (da_nil))))) (dss_one (ds_raise1 tk rfl O_BadRow.oex O_BadRow.ini O_BadRow.typ N_BadRow (hr.mono (by decide)) D_BadRow rfl (M.glo "BadRow") (de_str))) (dss_nil))
    (dss_one (ds_ret (de_call C_sign_there (hr.mono (by decide)) rfl (M.glo "sign_there") U_sign_there.kp B_sign_there .nil (fun _ => .nil) tk (da_cons (de_var (i := 0) rfl (by first | exact Or.inl rfl | exact Or.inr (Or.inl rfl) | exact Or.inr (Or.inr rfl))) (da_cons (de_call C_row_told (hr.mono (by decide)) rfl (M.glo "row_told") U_row_told.kp B_row_told .nil (fun _ => .nil) tk (da_cons (de_var (i := 1) rfl (by first | exact Or.inl rfl | exact Or.inr (Or.inl rfl) | exact Or.inr (Or.inr rfl))) (da_cons (de_gint rfl h_WIDE) (da_cons (de_str) (da_nil))))) (da_nil)))))))
theorem S__law_pen : FnScope ["script"] ["script"] (defScope (top 27)) := ⟨rfl, rfl, rfl, by decide +kernel, rfl, by decide +kernel, by decide +kernel⟩
def den__law_pen : DenS :=
    sRet (dNew (fun s => ((aCons (dCB cList (aCons (dSl (dVar 0) (oNone) (oSome (dC (.int 63)))) (aNil))) (aCons (dC (.int 0)) (aCons (dC (.int 0)) (aNil)))) s).bind fun ds s1 => if ds.length ≤ sizeLine then .ok ds s1 else .no))
def F__law_pen : FD := runF 1 den__law_pen
theorem ok__law_pen {w : World} {K : PySem.W.Frag} {mg : Str → Option Value} {base : Heap} (M : MF K mg base) (o : Option Addr) : Df K mg base w o 1 "_law_pen" 27 ["script"] F__law_pen := by
  obtain ⟨fd, U⟩ := M.def_ 16 (d := dd "_law_pen" 27) rfl
  refine ⟨fd, U, fnD U S__law_pen (fun A outer s H E G cdv hr tk own => ?_), U.bindsN fun _ _ _ _ _ _ us hl => match us, hl with | [_], _ => rfl⟩
  exact (dss_one (ds_ret (de_new (df_lst (da_cons (de_callTy call_list_of (cs_list rfl) rfl (M.free "list") boot_list (da_cons (de_slice rfl (de_var (i := 0) rfl (by first | exact Or.inl rfl | exact Or.inr (Or.inl rfl) | exact Or.inr (Or.inr rfl))) (do_none) (do_some (de_int))) (da_nil))) (da_cons (de_int) (da_cons (de_int) (da_nil))))))))
theorem S__law_draw : FnScope ["pen", "bound", "digit", "at", "cell", "great", "mixed"] ["pen", "bound"] (defScope (top 28)) := ⟨rfl, rfl, rfl, by decide +kernel, rfl, by decide +kernel, by decide +kernel⟩
def den__law_draw : DenS :=
    sSeq (sIf (dTest (dBin fGt (dBin fIx (dVar 0) (dC (.int 2))) (dC (.int 0)))) (sSeq (sSet 2 (dBin fMod (dCB cInt (aCons (dBin fIx (dVar 0) (dC (.int 2))) (aNil))) (dVar 1)))
    (sSeq (sAsg (dBin fDiv (dCB cInt (aCons (dBin fIx (dVar 0) (dC (.int 2))) (aNil))) (dVar 1)) (gSt (dVar 0) (dC (.int 2))))
    (sRet (dVar 2)))) (sNil))
    (sSeq (sSet 3 (dBin fIx (dVar 0) (dC (.int 1))))
    (sSeq (sAsg (dBin fAdd (dVar 3) (dC (.int 1))) (gSt (dVar 0) (dC (.int 1))))
    (sSeq (sSet 4 (dBin fAdd (dBin fMul (dC (.int 55982)) (dVar 3)) (dC (.int 23326))))
    (sSeq (sIf (dTest (dBin fNe (dBin fIx (dVar 0) (dC (.int 0))) (dLst (aNil)))) (sSet 4 (dBin fIx (dBin fIx (dVar 0) (dC (.int 0))) (dBin fMod (dCB cInt (aCons (dVar 3) (aNil))) (dCB cLen (aCons (dBin fIx (dVar 0) (dC (.int 0))) (aNil)))))) (sNil))
    (sSeq (sIf (dAnd (dTest (dBin fLt (dVar 3) (dCB cLen (aCons (dBin fIx (dVar 0) (dC (.int 0))) (aNil))))) (dTest (dBin fGe (dCB cAbs (aCons (dVar 4) (aNil))) (dBin fPow (dC (.int 10)) (dC (.int 18)))))) (sSeq (sSet 5 (dBin fAdd (dBin fMul (dC (.int 2)) (dBin fSub (dCB cAbs (aCons (dVar 4) (aNil))) (dBin fPow (dC (.int 10)) (dC (.int 18))))) (dCB cInt (aCons (dBin fLt (dVar 4) (dC (.int 0))) (aNil)))))
    (sSeq (sAsg (dBin fDiv (dCB cInt (aCons (dVar 5) (aNil))) (dVar 1)) (gSt (dVar 0) (dC (.int 2))))
    (sRet (dBin fMod (dCB cInt (aCons (dVar 5) (aNil))) (dVar 1))))) (sNil))
    (sSeq (sSet 6 (dBin fMod (dCB cInt (aCons (dBin fPow (dBin fAdd (dBin fAdd (dBin fMod (dCB cInt (aCons (dVar 4) (aNil))) (dC (.int 2147483563))) (dBin fMul (dC (.int 55982)) (dVar 3))) (dC (.int 23326))) (dC (.int 5))) (aNil))) (dC (.int 2147483587))))
    (sSeq (sSet 6 (dBin fMod (dCB cInt (aCons (dBin fPow (dBin fAdd (dBin fAdd (dBin fMul (dVar 6) (dBin fAdd (dBin fMul (dC (.int 2)) (dVar 3)) (dC (.int 1486)))) (dBin fMul (dBin fMul (dC (.int 23326)) (dVar 3)) (dVar 3))) (dC (.int 23))) (dC (.int 3))) (aNil))) (dC (.int 2147483563))))
    (sRet (dBin fMod (dCB cInt (aCons (dBin fDiv (dVar 6) (dC (.int 16))) (aNil))) (dVar 1))))))))))
def F__law_draw : FD := runF 7 den__law_draw
theorem ok__law_draw {w : World} {K : PySem.W.Frag} {mg : Str → Option Value} {base : Heap} (M : MF K mg base) (o : Option Addr) : Df K mg base w o 1 "_law_draw" 28 ["pen", "bound"] F__law_draw := by
  obtain ⟨fd, U⟩ := M.def_ 17 (d := dd "_law_draw" 28) rfl
  refine ⟨fd, U, fnD U S__law_draw (fun A outer s H E G cdv hr tk own => ?_), U.bindsN fun _ _ _ _ _ _ us hl => match us, hl with | [_, _], _ => rfl⟩
  exact (dss_cons (ds_if (dt_cmp op_gt opS_cmp (de_ix rfl (de_var (i := 0) rfl (by first | exact Or.inl rfl | exact Or.inr (Or.inl rfl) | exact Or.inr (Or.inr rfl))) (de_int)) (de_int) rfl) (dss_cons (ds_set (i := 2) S__law_draw.nd rfl (by first | exact Or.inl rfl | exact Or.inr rfl) (de_mod (de_callTy call_int1 cs_int rfl (M.free "int") boot_int (da_cons (de_ix rfl (de_var (i := 0) rfl (by first | exact Or.inl rfl | exact Or.inr (Or.inl rfl) | exact Or.inr (Or.inr rfl))) (de_int)) (da_nil))) (de_var (i := 1) rfl (by first | exact Or.inl rfl | exact Or.inr (Or.inl rfl) | exact Or.inr (Or.inr rfl)))))
    (dss_cons (ds_asg (de_div (de_callTy call_int1 cs_int rfl (M.free "int") boot_int (da_cons (de_ix rfl (de_var (i := 0) rfl (by first | exact Or.inl rfl | exact Or.inr (Or.inl rfl) | exact Or.inr (Or.inr rfl))) (de_int)) (da_nil))) (de_var (i := 1) rfl (by first | exact Or.inl rfl | exact Or.inr (Or.inl rfl) | exact Or.inr (Or.inr rfl)))) (dgt_sub (de_var (i := 0) rfl (by first | exact Or.inl rfl | exact Or.inr (Or.inl rfl) | exact Or.inr (Or.inr rfl))) (de_int)))
    (dss_one (ds_ret (de_var (i := 2) rfl (by first | exact Or.inl rfl | exact Or.inr (Or.inl rfl) | exact Or.inr (Or.inr rfl))))))) (dss_nil))
    (dss_cons (ds_set (i := 3) S__law_draw.nd rfl (by first | exact Or.inl rfl | exact Or.inr rfl) (de_ix rfl (de_var (i := 0) rfl (by first | exact Or.inl rfl | exact Or.inr (Or.inl rfl) | exact Or.inr (Or.inr rfl))) (de_int)))
    (dss_cons (ds_asg (de_add rfl (de_var (i := 3) rfl (by first | exact Or.inl rfl | exact Or.inr (Or.inl rfl) | exact Or.inr (Or.inr rfl))) (de_int)) (dgt_sub (de_var (i := 0) rfl (by first | exact Or.inl rfl | exact Or.inr (Or.inl rfl) | exact Or.inr (Or.inr rfl))) (de_int)))
    (dss_cons (ds_set (i := 4) S__law_draw.nd rfl (by first | exact Or.inl rfl | exact Or.inr rfl) (de_add rfl (de_mul (de_int) (de_var (i := 3) rfl (by first | exact Or.inl rfl | exact Or.inr (Or.inl rfl) | exact Or.inr (Or.inr rfl)))) (de_int)))
    (dss_cons (ds_if (dt_cmp (op_neA (hu_of hr)) (opS_ne rfl) (de_ix rfl (de_var (i := 0) rfl (by first | exact Or.inl rfl | exact Or.inr (Or.inl rfl) | exact Or.inr (Or.inr rfl))) (de_int)) (de_lst (da_nil)) rfl) (dss_one (ds_set (i := 4) S__law_draw.nd rfl (by first | exact Or.inl rfl | exact Or.inr rfl) (de_ix rfl (de_ix rfl (de_var (i := 0) rfl (by first | exact Or.inl rfl | exact Or.inr (Or.inl rfl) | exact Or.inr (Or.inr rfl))) (de_int)) (de_mod (de_callTy call_int1 cs_int rfl (M.free "int") boot_int (da_cons (de_var (i := 3) rfl (by first | exact Or.inl rfl | exact Or.inr (Or.inl rfl) | exact Or.inr (Or.inr rfl))) (da_nil))) (de_callB cr_lenA (cs_len rfl) rfl (M.free "len") boot_len (da_cons (de_ix rfl (de_var (i := 0) rfl (by first | exact Or.inl rfl | exact Or.inr (Or.inl rfl) | exact Or.inr (Or.inr rfl))) (de_int)) (da_nil))))))) (dss_nil))
    (dss_cons (ds_if (dt_w (dw_and (dt_cmp op_lt opS_cmp (de_var (i := 3) rfl (by first | exact Or.inl rfl | exact Or.inr (Or.inl rfl) | exact Or.inr (Or.inr rfl))) (de_callB cr_lenA (cs_len rfl) rfl (M.free "len") boot_len (da_cons (de_ix rfl (de_var (i := 0) rfl (by first | exact Or.inl rfl | exact Or.inr (Or.inl rfl) | exact Or.inr (Or.inr rfl))) (de_int)) (da_nil))) rfl) (dw_and1 (dt_cmp op_ge opS_cmp (de_callB call_abs cs_abs rfl (M.free "abs") boot_abs (da_cons (de_var (i := 4) rfl (by first | exact Or.inl rfl | exact Or.inr (Or.inl rfl) | exact Or.inr (Or.inr rfl))) (da_nil))) (de_pow (de_int) (de_int)) rfl)))) (dss_cons (ds_set (i := 5) S__law_draw.nd rfl (by first | exact Or.inl rfl | exact Or.inr rfl) (de_add rfl (de_mul (de_int) (de_sub (de_callB call_abs cs_abs rfl (M.free "abs") boot_abs (da_cons (de_var (i := 4) rfl (by first | exact Or.inl rfl | exact Or.inr (Or.inl rfl) | exact Or.inr (Or.inr rfl))) (da_nil))) (de_pow (de_int) (de_int)))) (de_callTy call_int1 cs_int rfl (M.free "int") boot_int (da_cons (de_cmp op_lt opS_cmp (de_var (i := 4) rfl (by first | exact Or.inl rfl | exact Or.inr (Or.inl rfl) | exact Or.inr (Or.inr rfl))) (de_int) rfl) (da_nil)))))
    (dss_cons (ds_asg (de_div (de_callTy call_int1 cs_int rfl (M.free "int") boot_int (da_cons (de_var (i := 5) rfl (by first | exact Or.inl rfl | exact Or.inr (Or.inl rfl) | exact Or.inr (Or.inr rfl))) (da_nil))) (de_var (i := 1) rfl (by first | exact Or.inl rfl | exact Or.inr (Or.inl rfl) | exact Or.inr (Or.inr rfl)))) (dgt_sub (de_var (i := 0) rfl (by first | exact Or.inl rfl | exact Or.inr (Or.inl rfl) | exact Or.inr (Or.inr rfl))) (de_int)))
    (dss_one (ds_ret (de_mod (de_callTy call_int1 cs_int rfl (M.free "int") boot_int (da_cons (de_var (i := 5) rfl (by first | exact Or.inl rfl | exact Or.inr (Or.inl rfl) | exact Or.inr (Or.inr rfl))) (da_nil))) (de_var (i := 1) rfl (by first | exact Or.inl rfl | exact Or.inr (Or.inl rfl) | exact Or.inr (Or.inr rfl)))))))) (dss_nil))
    (dss_cons (ds_set (i := 6) S__law_draw.nd rfl (by first | exact Or.inl rfl | exact Or.inr rfl) (de_mod (de_callTy call_int1 cs_int rfl (M.free "int") boot_int (da_cons (de_pow (de_add rfl (de_add rfl (de_mod (de_callTy call_int1 cs_int rfl (M.free "int") boot_int (da_cons (de_var (i := 4) rfl (by first | exact Or.inl rfl | exact Or.inr (Or.inl rfl) | exact Or.inr (Or.inr rfl))) (da_nil))) (de_int)) (de_mul (de_int) (de_var (i := 3) rfl (by first | exact Or.inl rfl | exact Or.inr (Or.inl rfl) | exact Or.inr (Or.inr rfl))))) (de_int)) (de_int)) (da_nil))) (de_int)))
    (dss_cons (ds_set (i := 6) S__law_draw.nd rfl (by first | exact Or.inl rfl | exact Or.inr rfl) (de_mod (de_callTy call_int1 cs_int rfl (M.free "int") boot_int (da_cons (de_pow (de_add rfl (de_add rfl (de_mul (de_var (i := 6) rfl (by first | exact Or.inl rfl | exact Or.inr (Or.inl rfl) | exact Or.inr (Or.inr rfl))) (de_add rfl (de_mul (de_int) (de_var (i := 3) rfl (by first | exact Or.inl rfl | exact Or.inr (Or.inl rfl) | exact Or.inr (Or.inr rfl)))) (de_int))) (de_mul (de_mul (de_int) (de_var (i := 3) rfl (by first | exact Or.inl rfl | exact Or.inr (Or.inl rfl) | exact Or.inr (Or.inr rfl)))) (de_var (i := 3) rfl (by first | exact Or.inl rfl | exact Or.inr (Or.inl rfl) | exact Or.inr (Or.inr rfl))))) (de_int)) (de_int)) (da_nil))) (de_int)))
    (dss_one (ds_ret (de_mod (de_callTy call_int1 cs_int rfl (M.free "int") boot_int (da_cons (de_div (de_var (i := 6) rfl (by first | exact Or.inl rfl | exact Or.inr (Or.inl rfl) | exact Or.inr (Or.inr rfl))) (de_int)) (da_nil))) (de_var (i := 1) rfl (by first | exact Or.inl rfl | exact Or.inr (Or.inl rfl) | exact Or.inr (Or.inr rfl))))))))))))))
theorem S__law_pick : FnScope ["pen", "some"] ["pen", "some"] (defScope (top 29)) := ⟨rfl, rfl, rfl, by decide +kernel, rfl, by decide +kernel, by decide +kernel⟩
def den__law_pick : DenS :=
    sRet (dBin fIx (dVar 1) (dCall 2 F__law_draw [] (aCons (dVar 0) (aCons (dCB cLen (aCons (dVar 1) (aNil))) (aNil)))))
def F__law_pick : FD := runF 2 den__law_pick
theorem ok__law_pick {w : World} {K : PySem.W.Frag} {mg : Str → Option Value} {base : Heap} (M : MF K mg base) (o : Option Addr) : Df K mg base w o 2 "_law_pick" 29 ["pen", "some"] F__law_pick := by
  obtain ⟨fd__law_draw, U__law_draw, C__law_draw, B__law_draw⟩ := (ok__law_draw M o).ex
  obtain ⟨fd, U⟩ := M.def_ 18 (d := dd "_law_pick" 29) rfl
  refine ⟨fd, U, fnD U S__law_pick (fun A outer s H E G cdv hr tk own => ?_), U.bindsN fun _ _ _ _ _ _ us hl => match us, hl with | [_, _], _ => rfl⟩
  exact (dss_one (ds_ret (de_ix rfl (de_var (i := 1) rfl (by first | exact Or.inl rfl | exact Or.inr (Or.inl rfl) | exact Or.inr (Or.inr rfl))) (de_call C__law_draw (hr.mono (by decide)) rfl (M.glo "_law_draw") U__law_draw.kp B__law_draw .nil (fun _ => .nil) tk (da_cons (de_var (i := 0) rfl (by first | exact Or.inl rfl | exact Or.inr (Or.inl rfl) | exact Or.inr (Or.inr rfl))) (da_cons (de_callB cr_lenA (cs_len rfl) rfl (M.free "len") boot_len (da_cons (de_var (i := 1) rfl (by first | exact Or.inl rfl | exact Or.inr (Or.inl rfl) | exact Or.inr (Or.inr rfl))) (da_nil))) (da_nil)))))))
theorem S__law_sign : FnScope ["one", "other", "under", "mine", "its"] ["one", "other", "under"] (defScope (top 30)) := ⟨rfl, rfl, rfl, by decide +kernel, rfl, by decide +kernel, by decide +kernel⟩
def den__law_sign : DenS :=
    sSeq (sPar [3, 4] (aCons (dBin fMul (dVar 0) (dCB cAbs (aCons (dVar 0) (aNil)))) (aCons (dBin fMul (dBin fMul (dUn fNeg (dVar 1)) (dCB cAbs (aCons (dVar 1) (aNil)))) (dVar 2)) (aNil))))
    (sRet (dBin fSub (dCB cInt (aCons (dBin fGt (dVar 3) (dVar 4)) (aNil))) (dCB cInt (aCons (dBin fLt (dVar 3) (dVar 4)) (aNil)))))
def F__law_sign : FD := runF 5 den__law_sign
theorem ok__law_sign {w : World} {K : PySem.W.Frag} {mg : Str → Option Value} {base : Heap} (M : MF K mg base) (o : Option Addr) : Df K mg base w o 1 "_law_sign" 30 ["one", "other", "under"] F__law_sign := by
  obtain ⟨fd, U⟩ := M.def_ 19 (d := dd "_law_sign" 30) rfl
  refine ⟨fd, U, fnD U S__law_sign (fun A outer s H E G cdv hr tk own => ?_), U.bindsN fun _ _ _ _ _ _ us hl => match us, hl with | [_, _, _], _ => rfl⟩
  exact (dss_cons (ds_par (i := 3) (k := 4) rfl S__law_sign.nd rfl rfl (by decide) rfl rfl (da_cons (de_mul (de_var (i := 0) rfl (by first | exact Or.inl rfl | exact Or.inr (Or.inl rfl) | exact Or.inr (Or.inr rfl))) (de_callB call_abs cs_abs rfl (M.free "abs") boot_abs (da_cons (de_var (i := 0) rfl (by first | exact Or.inl rfl | exact Or.inr (Or.inl rfl) | exact Or.inr (Or.inr rfl))) (da_nil)))) (da_cons (de_mul (de_mul (de_neg (de_var (i := 1) rfl (by first | exact Or.inl rfl | exact Or.inr (Or.inl rfl) | exact Or.inr (Or.inr rfl)))) (de_callB call_abs cs_abs rfl (M.free "abs") boot_abs (da_cons (de_var (i := 1) rfl (by first | exact Or.inl rfl | exact Or.inr (Or.inl rfl) | exact Or.inr (Or.inr rfl))) (da_nil)))) (de_var (i := 2) rfl (by first | exact Or.inl rfl | exact Or.inr (Or.inl rfl) | exact Or.inr (Or.inr rfl)))) (da_nil))))
    (dss_one (ds_ret (de_sub (de_callTy call_int1 cs_int rfl (M.free "int") boot_int (da_cons (de_cmp op_gt opS_cmp (de_var (i := 3) rfl (by first | exact Or.inl rfl | exact Or.inr (Or.inl rfl) | exact Or.inr (Or.inr rfl))) (de_var (i := 4) rfl (by first | exact Or.inl rfl | exact Or.inr (Or.inl rfl) | exact Or.inr (Or.inr rfl))) rfl) (da_nil))) (de_callTy call_int1 cs_int rfl (M.free "int") boot_int (da_cons (de_cmp op_lt opS_cmp (de_var (i := 3) rfl (by first | exact Or.inl rfl | exact Or.inr (Or.inl rfl) | exact Or.inr (Or.inr rfl))) (de_var (i := 4) rfl (by first | exact Or.inl rfl | exact Or.inr (Or.inl rfl) | exact Or.inr (Or.inr rfl))) rfl) (da_nil)))))))
theorem S__law_number : FnScope ["pen", "most"] ["pen"] (defScope (top 31)) := ⟨rfl, rfl, rfl, by decide +kernel, rfl, by decide +kernel, by decide +kernel⟩
def den__law_number : DenS :=
    sSeq (sSet 1 (dCall 2 F__law_pick [] (aCons (dVar 0) (aCons (dLst (aCons (dC (.int 2)) (aCons (dC (.int 5)) (aCons (dC (.int 40)) (aCons (dBin fPow (dC (.int 10)) (dC (.int 9))) (aCons (dBin fPow (dC (.int 10)) (dC (.int 30))) (aCons (dBin fPow (dC (.int 10)) (dC (.int 60))) (aNil)))))))) (aNil)))))
    (sRet (dBin fSub (dCall 2 F__law_draw [] (aCons (dVar 0) (aCons (dBin fAdd (dBin fMul (dC (.int 2)) (dVar 1)) (dC (.int 1))) (aNil)))) (dVar 1)))
def F__law_number : FD := runF 2 den__law_number
theorem ok__law_number {w : World} {K : PySem.W.Frag} {mg : Str → Option Value} {base : Heap} (M : MF K mg base) (o : Option Addr) : Df K mg base w o 3 "_law_number" 31 ["pen"] F__law_number := by
  obtain ⟨fd__law_draw, U__law_draw, C__law_draw, B__law_draw⟩ := (ok__law_draw M o).ex
  obtain ⟨fd__law_pick, U__law_pick, C__law_pick, B__law_pick⟩ := (ok__law_pick M o).ex
  obtain ⟨fd, U⟩ := M.def_ 20 (d := dd "_law_number" 31) rfl
  refine ⟨fd, U, fnD U S__law_number (fun A outer s H E G cdv hr tk own => ?_), U.bindsN fun _ _ _ _ _ _ us hl => match us, hl with | [_], _ => rfl⟩
  exact (dss_cons (ds_set (i := 1) S__law_number.nd rfl (by first | exact Or.inl rfl | exact Or.inr rfl) (de_call C__law_pick (hr.mono (by decide)) rfl (M.glo "_law_pick") U__law_pick.kp B__law_pick .nil (fun _ => .nil) tk (da_cons (de_var (i := 0) rfl (by first | exact Or.inl rfl | exact Or.inr (Or.inl rfl) | exact Or.inr (Or.inr rfl))) (da_cons (de_lst (da_cons (de_int) (da_cons (de_int) (da_cons (de_int) (da_cons (de_pow (de_int) (de_int)) (da_cons (de_pow (de_int) (de_int)) (da_cons (de_pow (de_int) (de_int)) (da_nil)))))))) (da_nil)))))
    (dss_one (ds_ret (de_sub (de_call C__law_draw (hr.mono (by decide)) rfl (M.glo "_law_draw") U__law_draw.kp B__law_draw .nil (fun _ => .nil) tk (da_cons (de_var (i := 0) rfl (by first | exact Or.inl rfl | exact Or.inr (Or.inl rfl) | exact Or.inr (Or.inr rfl))) (da_cons (de_add rfl (de_mul (de_int) (de_var (i := 1) rfl (by first | exact Or.inl rfl | exact Or.inr (Or.inl rfl) | exact Or.inr (Or.inr rfl)))) (de_int)) (da_nil)))) (de_var (i := 1) rfl (by first | exact Or.inl rfl | exact Or.inr (Or.inl rfl) | exact Or.inr (Or.inr rfl)))))))
theorem S__law_near : FnScope ["pen", "way", "one", "other", "turn", "side"] ["pen"] (defScope (top 32)) := ⟨rfl, rfl, rfl, by decide +kernel, rfl, by decide +kernel, by decide +kernel⟩
def den__law_near : DenS :=
    sSeq (sSet 1 (dCall 2 F__law_draw [] (aCons (dVar 0) (aCons (dC (.int 3)) (aNil)))))
    (sSeq (sIf (dTest (dBin fEq (dVar 1) (dC (.int 0)))) (sSeq (sAsg (dTup (aCons (dC (.int 1)) (aCons (dC (.int 1)) (aNil)))) (gTp 2 (gsCons (gNm 2) (gsCons (gNm 3) (gsNil)))))
    (sSeq (sFor (iRange1 (aCons (dCall 2 F__law_draw [] (aCons (dVar 0) (aCons (dC (.int 40)) (aNil)))) (aNil))) (gNm 4) (sPar [2, 3] (aCons (dBin fAdd (dVar 2) (dBin fMul (dC (.int 2)) (dVar 3))) (aCons (dBin fAdd (dVar 2) (dVar 3)) (aNil)))))
    (sRet (dTup (aCons (dVar 2) (aCons (dUn fNeg (dVar 3)) (aCons (dC (.int 2)) (aNil)))))))) (sNil))
    (sSeq (sPar [5, 3] (aCons (dBin fAdd (dC (.int 1)) (dCall 2 F__law_draw [] (aCons (dVar 0) (aCons (dBin fPow (dC (.int 10)) (dC (.int 20))) (aNil))))) (aCons (dBin fAdd (dC (.int 1)) (dCall 2 F__law_draw [] (aCons (dVar 0) (aCons (dBin fPow (dC (.int 10)) (dC (.int 15))) (aNil))))) (aNil))))
    (sSeq (sIf (dTest (dBin fEq (dVar 1) (dC (.int 1)))) (sRet (dTup (aCons (dBin fMul (dVar 5) (dVar 3)) (aCons (dUn fNeg (dVar 3)) (aCons (dBin fSub (dBin fAdd (dBin fMul (dVar 5) (dVar 5)) (dCall 2 F__law_draw [] (aCons (dVar 0) (aCons (dC (.int 3)) (aNil))))) (dC (.int 1))) (aNil)))))) (sNil))
    (sRet (dTup (aCons (dUn fNeg (dVar 5)) (aCons (dCall 2 F__law_pick [] (aCons (dVar 0) (aCons (dLst (aCons (dC (.int 1)) (aCons (dUn fNeg (dC (.int 1))) (aNil)))) (aNil)))) (aCons (dBin fSub (dBin fAdd (dBin fMul (dVar 5) (dVar 5)) (dCall 2 F__law_draw [] (aCons (dVar 0) (aCons (dC (.int 3)) (aNil))))) (dC (.int 1))) (aNil)))))))))
def F__law_near : FD := runF 6 den__law_near
theorem ok__law_near {w : World} {K : PySem.W.Frag} {mg : Str → Option Value} {base : Heap} (M : MF K mg base) (o : Option Addr) : Df K mg base w o 3 "_law_near" 32 ["pen"] F__law_near := by
  obtain ⟨fd__law_draw, U__law_draw, C__law_draw, B__law_draw⟩ := (ok__law_draw M o).ex
  obtain ⟨fd__law_pick, U__law_pick, C__law_pick, B__law_pick⟩ := (ok__law_pick M o).ex
  obtain ⟨fd, U⟩ := M.def_ 21 (d := dd "_law_near" 32) rfl
  refine ⟨fd, U, fnD U S__law_near (fun A outer s H E G cdv hr tk own => ?_), U.bindsN fun _ _ _ _ _ _ us hl => match us, hl with | [_], _ => rfl⟩
  exact (dss_cons (ds_set (i := 1) S__law_near.nd rfl (by first | exact Or.inl rfl | exact Or.inr rfl) (de_call C__law_draw (hr.mono (by decide)) rfl (M.glo "_law_draw") U__law_draw.kp B__law_draw .nil (fun _ => .nil) tk (da_cons (de_var (i := 0) rfl (by first | exact Or.inl rfl | exact Or.inr (Or.inl rfl) | exact Or.inr (Or.inr rfl))) (da_cons (de_int) (da_nil)))))
    (dss_cons (ds_if (dt_cmp (op_eqA (hu_of hr)) (opS_eq rfl) (de_var (i := 1) rfl (by first | exact Or.inl rfl | exact Or.inr (Or.inl rfl) | exact Or.inr (Or.inr rfl))) (de_int) rfl) (dss_cons (ds_asg (de_tup (da_cons (de_int) (da_cons (de_int) (da_nil)))) (dgt_tup rfl rfl (dgs_cons (dgt_name (i := 2) S__law_near.nd rfl (by first | exact Or.inl rfl | exact Or.inr rfl) (by intro l h; cases h)) (dgs_cons (dgt_name (i := 3) S__law_near.nd rfl (by first | exact Or.inl rfl | exact Or.inr rfl) (by intro l h; cases h)) (dgs_nil)))))
    (dss_cons (ds_for own rfl (di_range1 rfl (M.free "range") (da_cons (de_call C__law_draw (hr.mono (by decide)) rfl (M.glo "_law_draw") U__law_draw.kp B__law_draw .nil (fun _ => .nil) tk (da_cons (de_var (i := 0) rfl (by first | exact Or.inl rfl | exact Or.inr (Or.inl rfl) | exact Or.inr (Or.inr rfl))) (da_cons (de_int) (da_nil)))) (da_nil))) (dgt_name (i := 4) S__law_near.nd rfl (by first | exact Or.inl rfl | exact Or.inr rfl) (by intro l h; cases h)) (dss_one (ds_par (i := 2) (k := 3) rfl S__law_near.nd rfl rfl (by decide) rfl rfl (da_cons (de_add rfl (de_var (i := 2) rfl (by first | exact Or.inl rfl | exact Or.inr (Or.inl rfl) | exact Or.inr (Or.inr rfl))) (de_mul (de_int) (de_var (i := 3) rfl (by first | exact Or.inl rfl | exact Or.inr (Or.inl rfl) | exact Or.inr (Or.inr rfl))))) (da_cons (de_add rfl (de_var (i := 2) rfl (by first | exact Or.inl rfl | exact Or.inr (Or.inl rfl) | exact Or.inr (Or.inr rfl))) (de_var (i := 3) rfl (by first | exact Or.inl rfl | exact Or.inr (Or.inl rfl) | exact Or.inr (Or.inr rfl)))) (da_nil))))))
    (dss_one (ds_ret (de_tup (da_cons (de_var (i := 2) rfl (by first | exact Or.inl rfl | exact Or.inr (Or.inl rfl) | exact Or.inr (Or.inr rfl))) (da_cons (de_neg (de_var (i := 3) rfl (by first | exact Or.inl rfl | exact Or.inr (Or.inl rfl) | exact Or.inr (Or.inr rfl)))) (da_cons (de_int) (da_nil))))))))) (dss_nil))
    (dss_cons (ds_par (i := 5) (k := 3) rfl S__law_near.nd rfl rfl (by decide) rfl rfl (da_cons (de_add rfl (de_int) (de_call C__law_draw (hr.mono (by decide)) rfl (M.glo "_law_draw") U__law_draw.kp B__law_draw .nil (fun _ => .nil) tk (da_cons (de_var (i := 0) rfl (by first | exact Or.inl rfl | exact Or.inr (Or.inl rfl) | exact Or.inr (Or.inr rfl))) (da_cons (de_pow (de_int) (de_int)) (da_nil))))) (da_cons (de_add rfl (de_int) (de_call C__law_draw (hr.mono (by decide)) rfl (M.glo "_law_draw") U__law_draw.kp B__law_draw .nil (fun _ => .nil) tk (da_cons (de_var (i := 0) rfl (by first | exact Or.inl rfl | exact Or.inr (Or.inl rfl) | exact Or.inr (Or.inr rfl))) (da_cons (de_pow (de_int) (de_int)) (da_nil))))) (da_nil))))
    (dss_cons (ds_if (dt_cmp (op_eqA (hu_of hr)) (opS_eq rfl) (de_var (i := 1) rfl (by first | exact Or.inl rfl | exact Or.inr (Or.inl rfl) | exact Or.inr (Or.inr rfl))) (de_int) rfl) (dss_one (ds_ret (de_tup (da_cons (de_mul (de_var (i := 5) rfl (by first | exact Or.inl rfl | exact Or.inr (Or.inl rfl) | exact Or.inr (Or.inr rfl))) (de_var (i := 3) rfl (by first | exact Or.inl rfl | exact Or.inr (Or.inl rfl) | exact Or.inr (Or.inr rfl)))) (da_cons (de_neg (de_var (i := 3) rfl (by first | exact Or.inl rfl | exact Or.inr (Or.inl rfl) | exact Or.inr (Or.inr rfl)))) (da_cons (de_sub (de_add rfl (de_mul (de_var (i := 5) rfl (by first | exact Or.inl rfl | exact Or.inr (Or.inl rfl) | exact Or.inr (Or.inr rfl))) (de_var (i := 5) rfl (by first | exact Or.inl rfl | exact Or.inr (Or.inl rfl) | exact Or.inr (Or.inr rfl)))) (de_call C__law_draw (hr.mono (by decide)) rfl (M.glo "_law_draw") U__law_draw.kp B__law_draw .nil (fun _ => .nil) tk (da_cons (de_var (i := 0) rfl (by first | exact Or.inl rfl | exact Or.inr (Or.inl rfl) | exact Or.inr (Or.inr rfl))) (da_cons (de_int) (da_nil))))) (de_int)) (da_nil))))))) (dss_nil))
    (dss_one (ds_ret (de_tup (da_cons (de_neg (de_var (i := 5) rfl (by first | exact Or.inl rfl | exact Or.inr (Or.inl rfl) | exact Or.inr (Or.inr rfl)))) (da_cons (de_call C__law_pick (hr.mono (by decide)) rfl (M.glo "_law_pick") U__law_pick.kp B__law_pick .nil (fun _ => .nil) tk (da_cons (de_var (i := 0) rfl (by first | exact Or.inl rfl | exact Or.inr (Or.inl rfl) | exact Or.inr (Or.inr rfl))) (da_cons (de_lst (da_cons (de_int) (da_cons (de_neg (de_int)) (da_nil)))) (da_nil)))) (da_cons (de_sub (de_add rfl (de_mul (de_var (i := 5) rfl (by first | exact Or.inl rfl | exact Or.inr (Or.inl rfl) | exact Or.inr (Or.inr rfl))) (de_var (i := 5) rfl (by first | exact Or.inl rfl | exact Or.inr (Or.inl rfl) | exact Or.inr (Or.inr rfl)))) (de_call C__law_draw (hr.mono (by decide)) rfl (M.glo "_law_draw") U__law_draw.kp B__law_draw .nil (fun _ => .nil) tk (da_cons (de_var (i := 0) rfl (by first | exact Or.inl rfl | exact Or.inr (Or.inl rfl) | exact Or.inr (Or.inr rfl))) (da_cons (de_int) (da_nil))))) (de_int)) (da_nil)))))))))))
theorem S__law_heard : FnScope ["ask", "caught", "error", "found"] ["ask"] (defScope (top 33)) := ⟨rfl, rfl, rfl, by decide +kernel, rfl, by decide +kernel, by decide +kernel⟩
def denH__law_heard (AF : List SO → OutF) : DenS :=
    sSeq (sSet 1 (dC .non))
    (sSeq (sTryK 2 (catches "SightError") (sRet (dLst (aCons (dAsk 0 AF) (aNil)))) (sSet 1 (dVar 2)))
    (sSeq (sSet 3 (dIf (dTest (dCB (cIsi T) (aCons (dVar 1) (aCons (dC (.gl "BadNumber")) (aNil))))) (dLst (aCons (dTup (aCons (dC (.str "number")) (aCons (dAttr T ["BadNumber", "BadRow"] "part" (dVar 1)) (aNil)))) (aNil))) (dLst (aNil))))
    (sSeq (sSet 3 (dBin fAdd (dVar 3) (dIf (dTest (dCB (cIsi T) (aCons (dVar 1) (aCons (dC (.gl "BadRow")) (aNil))))) (dLst (aCons (dTup (aCons (dC (.str "row")) (aCons (dAttr T ["BadNumber", "BadRow"] "part" (dVar 1)) (aNil)))) (aNil))) (dLst (aNil)))))
    (sRet (dIf (dTest (dBin fEq (dCB cLen (aCons (dVar 3) (aNil))) (dC (.int 1)))) (dBin fIx (dVar 3) (dC (.int 0))) (dTup (aCons (dC (.str "other")) (aCons (dC (.str "")) (aNil)))))))))
theorem MF.hears {K : PySem.W.Frag} {mg : Str → Option Value} {base : Heap} {k : Nat} (M : MF K mg base) (w : World) : Hears PR w K mg base (bg K none) k "_law_heard" "ask" (He.ga K "_law_heard") ["ask", "caught", "error", "found"] (defBody (top 33)) (defScope (top 33)) denH__law_heard := by
  obtain ⟨fd, U⟩ := M.def_ 22 (d := dd "_law_heard" 33) rfl
  have hb := U.bindsN (ps := ["ask"]) fun _ _ _ _ _ _ us hl => match us, hl with | [_], _ => rfl
  have kp := U.kp
  obtain ⟨oc, od, dV, kV, doc, pm, an, cdv, ct, osl, rfl, lk, hcd, hD, hK⟩ := U.ex
  refine ⟨⟨_, _, _, _, _, _, _, _, _, _, _, lk, hcd, hb⟩, kp, S__law_heard, rfl, .inl rfl, fun f A outer s H E G cdv AF hr tk own hAsk => ?_⟩
  exact (dss_cons (ds_set (i := 1) S__law_heard.nd rfl (by first | exact Or.inl rfl | exact Or.inr rfl) (de_non))
    (dss_cons (ds_try rfl rfl S__law_heard.nd (i := 2) rfl rfl ⟨rfl, by decide, .inl (M.glo "SightError")⟩ tk (M.caught "SightError") (fun W pn xe tkT ownT => dss_one (ds_ret (de_lst (da_cons (hAsk W pn xe _ _ tkT) (da_nil))))) (fun a => dss_one (ds_set (i := 1) S__law_heard.nd rfl (by first | exact Or.inl rfl | exact Or.inr rfl) (de_var (i := 2) rfl (by first | exact Or.inl rfl | exact Or.inr (Or.inl rfl) | exact Or.inr (Or.inr rfl))))))
    (dss_cons (ds_set (i := 3) S__law_heard.nd rfl (by first | exact Or.inl rfl | exact Or.inr rfl) (de_if (dt_val (de_callB cr_isA (cs_isi rfl M.is) rfl (M.free "isinstance") boot_isinstance (da_cons (de_var (i := 1) rfl (by first | exact Or.inl rfl | exact Or.inr (Or.inl rfl) | exact Or.inr (Or.inr rfl))) (da_cons (de_gl rfl (M.glo "BadNumber")) (da_nil))))) (de_lst (da_cons (de_tup (da_cons (de_str) (da_cons (de_attr rfl M.is (M.noat_part) (de_var (i := 1) rfl (by first | exact Or.inl rfl | exact Or.inr (Or.inl rfl) | exact Or.inr (Or.inr rfl)))) (da_nil)))) (da_nil))) (de_lst (da_nil))))
    (dss_cons (ds_set (i := 3) S__law_heard.nd rfl (by first | exact Or.inl rfl | exact Or.inr rfl) (de_add rfl (de_var (i := 3) rfl (by first | exact Or.inl rfl | exact Or.inr (Or.inl rfl) | exact Or.inr (Or.inr rfl))) (de_if (dt_val (de_callB cr_isA (cs_isi rfl M.is) rfl (M.free "isinstance") boot_isinstance (da_cons (de_var (i := 1) rfl (by first | exact Or.inl rfl | exact Or.inr (Or.inl rfl) | exact Or.inr (Or.inr rfl))) (da_cons (de_gl rfl (M.glo "BadRow")) (da_nil))))) (de_lst (da_cons (de_tup (da_cons (de_str) (da_cons (de_attr rfl M.is (M.noat_part) (de_var (i := 1) rfl (by first | exact Or.inl rfl | exact Or.inr (Or.inl rfl) | exact Or.inr (Or.inr rfl)))) (da_nil)))) (da_nil))) (de_lst (da_nil)))))
    (dss_one (ds_ret (de_if (dt_cmp (op_eqA (hu_of hr)) (opS_eq rfl) (de_callB cr_lenA (cs_len rfl) rfl (M.free "len") boot_len (da_cons (de_var (i := 3) rfl (by first | exact Or.inl rfl | exact Or.inr (Or.inl rfl) | exact Or.inr (Or.inr rfl))) (da_nil))) (de_int) rfl) (de_ix rfl (de_var (i := 3) rfl (by first | exact Or.inl rfl | exact Or.inr (Or.inl rfl) | exact Or.inr (Or.inr rfl))) (de_int)) (de_tup (da_cons (de_str) (da_cons (de_str) (da_nil)))))))))))
theorem S__law_refused_right : FnScope ["pen", "odd", "bad", "wrong", "heard", "some", "place", "row", "turn"] ["pen"] (defScope (top 34)) := ⟨rfl, rfl, rfl, by decide +kernel, rfl, by decide +kernel, by decide +kernel⟩
def den__law_refused_right : DenS :=
    sSeq (sAsg (dFz (dComp (iRange1 (aCons (dC (.int 3)) (aNil))) [8] (gNm 8) (tTrue) (dCall 2 F__law_pick [] (aCons (dVar 0) (aCons (dLst (aCons (dC .non) (aCons (dC (.str "1")) (aCons (dC (.bl true)) (aCons (dTup (aCons (dC (.int 1)) (aCons (dC (.int 1)) (aNil)))) (aCons (dLst (aCons (dC (.int 2)) (aNil))) (aNil))))))) (aNil)))))) (gTp 3 (gsCons (gNm 1) (gsCons (gNm 2) (gsCons (gNm 3) (gsNil))))))
    (sSeq (sSet 4 (dNew (fun s => ((aCons (dHeard 4 denH__law_heard (dCall 3 F_surd_sign [] (aCons (dVar 1) (aCons (dVar 2) (aCons (dVar 3) (aNil)))))) (aCons (dHeard 4 denH__law_heard (dCall 3 F_surd_sign [] (aCons (dC (.int 3)) (aCons (dVar 2) (aCons (dVar 3) (aNil)))))) (aNil))) s).bind fun ds s1 => if ds.length ≤ sizeLine then .ok ds s1 else .no)))
    (sSeq (sDrop (dBM "list" mAppend (dVar 4) (aCons (dHeard 4 denH__law_heard (dCall 3 F_surd_sign [] (aCons (dC (.int 3)) (aCons (dUn fNeg (dC (.int 2))) (aCons (dCall 2 F__law_pick [] (aCons (dVar 0) (aCons (dLst (aCons (dVar 3) (aCons (dUn fNeg (dC (.int 1))) (aNil)))) (aNil)))) (aNil)))))) (aNil))))
    (sSeq (sIf (dTest (dBin fNe (dVar 4) (dLst (aCons (dTup (aCons (dC (.str "number")) (aCons (dC (.str "one")) (aNil)))) (aCons (dTup (aCons (dC (.str "number")) (aCons (dC (.str "other")) (aNil)))) (aCons (dTup (aCons (dC (.str "number")) (aCons (dC (.str "under")) (aNil)))) (aNil))))))) (sRet (dC (.bl false))) (sNil))
    (sSeq (sSet 5 (dLst (aCons (dC .non) (aCons (dC (.int 5)) (aCons (dTup (aNil)) (aCons (dTup (aCons (dTup (aCons (dC (.int 1)) (aCons (dC (.int 0)) (aCons (dC (.int 0)) (aNil))))) (aCons (dTup (aCons (dC (.int 0)) (aCons (dC (.int 0)) (aCons (dC (.int 0)) (aNil))))) (aNil)))) (aCons (dTup (aCons (dTup (aCons (dC (.int 1)) (aCons (dC (.int 0)) (aCons (dC (.int 0)) (aNil))))) (aCons (dTup (aCons (dC (.int 0)) (aCons (dC (.int 0)) (aCons (dC (.int 0)) (aNil))))) (aCons (dUn fNeg (dC (.int 1))) (aNil))))) (aCons (dTup (aCons (dTup (aCons (dC (.int 1)) (aCons (dC (.int 0)) (aCons (dC (.int 0)) (aNil))))) (aCons (dTup (aCons (dC (.int 0)) (aCons (dC (.int 0)) (aCons (dC (.int 0)) (aNil))))) (aCons (dC (.bl true)) (aNil))))) (aCons (dTup (aCons (dTup (aCons (dC (.int 1)) (aCons (dC (.int 0)) (aNil)))) (aCons (dTup (aCons (dC (.int 0)) (aCons (dC (.int 0)) (aCons (dC (.int 0)) (aNil))))) (aCons (dC (.int 2)) (aNil))))) (aNil))))))))))
    (sSeq (sSet 6 (dCall 2 F__law_pick [] (aCons (dVar 0) (aCons (dBin fAdd (dVar 5) (dLst (aCons (dTup (aCons (dTup (aCons (dC (.int 1)) (aCons (dC (.int 0)) (aCons (dC (.int 0)) (aNil))))) (aCons (dTup (aCons (dC (.int 0)) (aCons (dC (.int 0)) (aCons (dC .non) (aNil))))) (aCons (dC (.int 2)) (aNil))))) (aCons (dTup (aCons (dTup (aCons (dC (.int 1)) (aCons (dC (.int 0)) (aCons (dC (.int 0)) (aNil))))) (aCons (dC (.int 0)) (aCons (dC (.int 2)) (aNil))))) (aCons (dTup (aCons (dTup (aCons (dC (.int 1)) (aCons (dC (.int 0)) (aCons (dC (.int 0)) (aNil))))) (aCons (dTup (aCons (dC (.int 0)) (aCons (dC (.int 0)) (aCons (dC (.int 0)) (aNil))))) (aCons (dC (.int 2)) (aCons (dC (.int 0)) (aNil)))))) (aNil)))))) (aNil)))))
    (sSeq (sSet 7 (dCall 2 F__law_pick [] (aCons (dVar 0) (aCons (dLst (aCons (dC .non) (aCons (dTup (aCons (dC (.int 0)) (aCons (dC (.int 0)) (aCons (dC (.int 0)) (aNil))))) (aCons (dTup (aCons (dC (.int 1)) (aCons (dC (.int 2)) (aNil)))) (aCons (dLst (aCons (dC (.int 1)) (aCons (dC (.int 2)) (aCons (dC (.str "3")) (aNil))))) (aCons (dC (.int 7)) (aCons (dTup (aCons (dC (.bl true)) (aCons (dC (.int 0)) (aCons (dC (.int 0)) (aNil))))) (aNil)))))))) (aNil)))))
    (sSeq (sSet 4 (dNew (fun s => ((aCons (dHeard 4 denH__law_heard (dCall 2 F_sign_at [] (aCons (dVar 6) (aCons (dVar 7) (aNil))))) (aCons (dHeard 4 denH__law_heard (dCall 2 F_sign_at [] (aCons (dLst (aCons (dLst (aCons (dC (.int 1)) (aCons (dC (.int 0)) (aCons (dC (.int 2)) (aNil))))) (aCons (dLst (aCons (dC (.int 0)) (aCons (dC (.int 1)) (aCons (dC (.int 0)) (aNil))))) (aCons (dC (.int 3)) (aNil))))) (aCons (dVar 7) (aNil))))) (aNil))) s).bind fun ds s1 => if ds.length ≤ sizeLine then .ok ds s1 else .no)))
    (sRet (dBin fEq (dVar 4) (dLst (aCons (dTup (aCons (dC (.str "row")) (aCons (dC (.str "place")) (aNil)))) (aCons (dTup (aCons (dC (.str "row")) (aCons (dC (.str "row")) (aNil)))) (aNil)))))))))))))
def F__law_refused_right : FD := runF 9 den__law_refused_right
theorem ok__law_refused_right {w : World} {K : PySem.W.Frag} {mg : Str → Option Value} {base : Heap} (M : MF K mg base) : Df K mg base w none 9 "_law_refused_right" 34 ["pen"] F__law_refused_right := by
  obtain ⟨fd__law_pick, U__law_pick, C__law_pick, B__law_pick⟩ := (ok__law_pick M none).ex
  obtain ⟨fd, U⟩ := M.def_ 23 (d := dd "_law_refused_right" 34) rfl
  refine ⟨fd, U, fnDC (p := ("_law_refused_right", none)) U rfl S__law_refused_right (fun A outer s H E G cdv hco hr tk own => ?_), U.bindsN fun _ _ _ _ _ _ us hl => match us, hl with | [_], _ => rfl⟩
  exact (dss_cons (ds_asg (de_fz (df_lc (own := [("turn", 8)]) rfl S__law_refused_right.nd (di_range1 rfl (M.free "range") (da_cons (de_int) (da_nil))) (blkOk_by (by kernel_rfl)) (fun _ _ _ _ _ => dgt_name (i := 8) S__law_refused_right.nd rfl (by first | exact Or.inl rfl | exact Or.inr rfl) (by intro l h; cases h; decide)) (fun _ _ _ _ _ => dts_nil) (fun _ _ _ _ _ => de_call C__law_pick (hr.mono (by decide)) rfl (M.glo "_law_pick") U__law_pick.kp B__law_pick .nil (fun _ => .nil) L2.takes0 (da_cons (de_var (i := 0) rfl (by first | exact Or.inl rfl | exact Or.inr (Or.inl rfl) | exact Or.inr (Or.inr rfl))) (da_cons (de_lst (da_cons (de_non) (da_cons (de_str) (da_cons (de_bl) (da_cons (de_tup (da_cons (de_int) (da_cons (de_int) (da_nil)))) (da_cons (de_lst (da_cons (de_int) (da_nil))) (da_nil))))))) (da_nil)))))) (dgt_tup rfl rfl (dgs_cons (dgt_name (i := 1) S__law_refused_right.nd rfl (by first | exact Or.inl rfl | exact Or.inr rfl) (by intro l h; cases h)) (dgs_cons (dgt_name (i := 2) S__law_refused_right.nd rfl (by first | exact Or.inl rfl | exact Or.inr rfl) (by intro l h; cases h)) (dgs_cons (dgt_name (i := 3) S__law_refused_right.nd rfl (by first | exact Or.inl rfl | exact Or.inr rfl) (by intro l h; cases h)) (dgs_nil))))))
    (dss_cons (ds_set (i := 4) S__law_refused_right.nd rfl (by first | exact Or.inl rfl | exact Or.inr rfl) (de_new (df_lst (da_cons (de_heard (k := 6) (c := (He.cT K ("_law_refused_right", none)).1) (P := (He.cT K ("_law_refused_right", none)).2) (M.hears w) tk (hr.mono (by decide)) rfl rfl (M.glo "_law_heard") (lamS2_by (by kernel_rfl)) (M.tb_ ("_law_refused_right", none) (by simp [tf])) hco (lam_in _ (by kernel_rfl)) (lam_un _ (by kernel_rfl)) rfl (fun _ _ _ _ _ _ => rfl) (fun f c' A outer s H E G hr2 tk2 => by obtain ⟨fd_surd_sign, U_surd_sign, C_surd_sign, B_surd_sign⟩ := (ok_surd_sign M (some f)).ex; exact (de_call C_surd_sign (hr2.mono (by decide)) rfl (M.glo "surd_sign") U_surd_sign.kp B_surd_sign .nil (fun _ => .nil) tk2 (da_cons (de_var (i := 1) rfl (by first | exact Or.inl rfl | exact Or.inr (Or.inl rfl) | exact Or.inr (Or.inr rfl))) (da_cons (de_var (i := 2) rfl (by first | exact Or.inl rfl | exact Or.inr (Or.inl rfl) | exact Or.inr (Or.inr rfl))) (da_cons (de_var (i := 3) rfl (by first | exact Or.inl rfl | exact Or.inr (Or.inl rfl) | exact Or.inr (Or.inr rfl))) (da_nil))))))) (da_cons (de_heardD (v := "a1") (k := 6) (c := (He.cT K ("_law_refused_right", none)).1) (P := (He.cT K ("_law_refused_right", none)).2) (M.hears w) tk (hr.mono (by decide)) rfl rfl (M.glo "_law_heard") (lamS2_by (by kernel_rfl)) (M.tb_ ("_law_refused_right", none) (by simp [tf])) hco (lam_in _ (by kernel_rfl)) (lam_un _ (by kernel_rfl)) rfl rfl rfl (fun _ _ _ _ _ _ _ _ => ⟨_, rfl, rfl⟩) (fun f c' A outer s H E G hr2 tk2 => by obtain ⟨fd_surd_sign, U_surd_sign, C_surd_sign, B_surd_sign⟩ := (ok_surd_sign M (some f)).ex; exact (de_call C_surd_sign (hr2.mono (by decide)) rfl (M.glo "surd_sign") U_surd_sign.kp B_surd_sign .nil (fun _ => .nil) tk2 (da_cons (de_int) (da_cons (de_var (i := 2) rfl (by first | exact Or.inl rfl | exact Or.inr (Or.inl rfl) | exact Or.inr (Or.inr rfl))) (da_cons (de_var (i := 3) rfl (by first | exact Or.inl rfl | exact Or.inr (Or.inl rfl) | exact Or.inr (Or.inr rfl))) (da_nil))))))) (da_nil))))))
    (dss_cons (ds_expr (de_bm F.plainAttrs_list F.slot_list_append F.type_list_append mt_append ms_append (de_var (i := 4) rfl (by first | exact Or.inl rfl | exact Or.inr (Or.inl rfl) | exact Or.inr (Or.inr rfl))) (da_cons (de_heard (k := 6) (c := (He.cT K ("_law_refused_right", none)).1) (P := (He.cT K ("_law_refused_right", none)).2) (M.hears w) tk (hr.mono (by decide)) rfl rfl (M.glo "_law_heard") (lamS2_by (by kernel_rfl)) (M.tb_ ("_law_refused_right", none) (by simp [tf])) hco (lam_in _ (by kernel_rfl)) (lam_un _ (by kernel_rfl)) rfl (fun _ _ _ _ _ _ => rfl) (fun f c' A outer s H E G hr2 tk2 => by obtain ⟨fd__law_pick, U__law_pick, C__law_pick, B__law_pick⟩ := (ok__law_pick M (some f)).ex; obtain ⟨fd_surd_sign, U_surd_sign, C_surd_sign, B_surd_sign⟩ := (ok_surd_sign M (some f)).ex; exact (de_call C_surd_sign (hr2.mono (by decide)) rfl (M.glo "surd_sign") U_surd_sign.kp B_surd_sign .nil (fun _ => .nil) tk2 (da_cons (de_int) (da_cons (de_neg (de_int)) (da_cons (de_call C__law_pick (hr2.mono (by decide)) rfl (M.glo "_law_pick") U__law_pick.kp B__law_pick .nil (fun _ => .nil) tk2 (da_cons (de_var (i := 0) rfl (by first | exact Or.inl rfl | exact Or.inr (Or.inl rfl) | exact Or.inr (Or.inr rfl))) (da_cons (de_lst (da_cons (de_var (i := 3) rfl (by first | exact Or.inl rfl | exact Or.inr (Or.inl rfl) | exact Or.inr (Or.inr rfl))) (da_cons (de_neg (de_int)) (da_nil)))) (da_nil)))) (da_nil))))))) (da_nil))))
    (dss_cons (ds_if (dt_cmp (op_neA (hu_of hr)) (opS_ne rfl) (de_var (i := 4) rfl (by first | exact Or.inl rfl | exact Or.inr (Or.inl rfl) | exact Or.inr (Or.inr rfl))) (de_lst (da_cons (de_tup (da_cons (de_str) (da_cons (de_str) (da_nil)))) (da_cons (de_tup (da_cons (de_str) (da_cons (de_str) (da_nil)))) (da_cons (de_tup (da_cons (de_str) (da_cons (de_str) (da_nil)))) (da_nil))))) rfl) (dss_one (ds_ret (de_bl))) (dss_nil))
    (dss_cons (ds_set (i := 5) S__law_refused_right.nd rfl (by first | exact Or.inl rfl | exact Or.inr rfl) (de_lst (da_cons (de_non) (da_cons (de_int) (da_cons (de_tup (da_nil)) (da_cons (de_tup (da_cons (de_tup (da_cons (de_int) (da_cons (de_int) (da_cons (de_int) (da_nil))))) (da_cons (de_tup (da_cons (de_int) (da_cons (de_int) (da_cons (de_int) (da_nil))))) (da_nil)))) (da_cons (de_tup (da_cons (de_tup (da_cons (de_int) (da_cons (de_int) (da_cons (de_int) (da_nil))))) (da_cons (de_tup (da_cons (de_int) (da_cons (de_int) (da_cons (de_int) (da_nil))))) (da_cons (de_neg (de_int)) (da_nil))))) (da_cons (de_tup (da_cons (de_tup (da_cons (de_int) (da_cons (de_int) (da_cons (de_int) (da_nil))))) (da_cons (de_tup (da_cons (de_int) (da_cons (de_int) (da_cons (de_int) (da_nil))))) (da_cons (de_bl) (da_nil))))) (da_cons (de_tup (da_cons (de_tup (da_cons (de_int) (da_cons (de_int) (da_nil)))) (da_cons (de_tup (da_cons (de_int) (da_cons (de_int) (da_cons (de_int) (da_nil))))) (da_cons (de_int) (da_nil))))) (da_nil))))))))))
    (dss_cons (ds_set (i := 6) S__law_refused_right.nd rfl (by first | exact Or.inl rfl | exact Or.inr rfl) (de_call C__law_pick (hr.mono (by decide)) rfl (M.glo "_law_pick") U__law_pick.kp B__law_pick .nil (fun _ => .nil) tk (da_cons (de_var (i := 0) rfl (by first | exact Or.inl rfl | exact Or.inr (Or.inl rfl) | exact Or.inr (Or.inr rfl))) (da_cons (de_add rfl (de_var (i := 5) rfl (by first | exact Or.inl rfl | exact Or.inr (Or.inl rfl) | exact Or.inr (Or.inr rfl))) (de_lst (da_cons (de_tup (da_cons (de_tup (da_cons (de_int) (da_cons (de_int) (da_cons (de_int) (da_nil))))) (da_cons (de_tup (da_cons (de_int) (da_cons (de_int) (da_cons (de_non) (da_nil))))) (da_cons (de_int) (da_nil))))) (da_cons (de_tup (da_cons (de_tup (da_cons (de_int) (da_cons (de_int) (da_cons (de_int) (da_nil))))) (da_cons (de_int) (da_cons (de_int) (da_nil))))) (da_cons (de_tup (da_cons (de_tup (da_cons (de_int) (da_cons (de_int) (da_cons (de_int) (da_nil))))) (da_cons (de_tup (da_cons (de_int) (da_cons (de_int) (da_cons (de_int) (da_nil))))) (da_cons (de_int) (da_cons (de_int) (da_nil)))))) (da_nil)))))) (da_nil)))))
    (dss_cons (ds_set (i := 7) S__law_refused_right.nd rfl (by first | exact Or.inl rfl | exact Or.inr rfl) (de_call C__law_pick (hr.mono (by decide)) rfl (M.glo "_law_pick") U__law_pick.kp B__law_pick .nil (fun _ => .nil) tk (da_cons (de_var (i := 0) rfl (by first | exact Or.inl rfl | exact Or.inr (Or.inl rfl) | exact Or.inr (Or.inr rfl))) (da_cons (de_lst (da_cons (de_non) (da_cons (de_tup (da_cons (de_int) (da_cons (de_int) (da_cons (de_int) (da_nil))))) (da_cons (de_tup (da_cons (de_int) (da_cons (de_int) (da_nil)))) (da_cons (de_lst (da_cons (de_int) (da_cons (de_int) (da_cons (de_str) (da_nil))))) (da_cons (de_int) (da_cons (de_tup (da_cons (de_bl) (da_cons (de_int) (da_cons (de_int) (da_nil))))) (da_nil)))))))) (da_nil)))))
    (dss_cons (ds_set (i := 4) S__law_refused_right.nd rfl (by first | exact Or.inl rfl | exact Or.inr rfl) (de_new (df_lst (da_cons (de_heard (k := 6) (c := (He.cT K ("_law_refused_right", none)).1) (P := (He.cT K ("_law_refused_right", none)).2) (M.hears w) tk (hr.mono (by decide)) rfl rfl (M.glo "_law_heard") (lamS2_by (by kernel_rfl)) (M.tb_ ("_law_refused_right", none) (by simp [tf])) hco (lam_in _ (by kernel_rfl)) (lam_un _ (by kernel_rfl)) rfl (fun _ _ _ _ _ _ => rfl) (fun f c' A outer s H E G hr2 tk2 => by obtain ⟨fd_sign_at, U_sign_at, C_sign_at, B_sign_at⟩ := (ok_sign_at M (some f)).ex; exact (de_call C_sign_at (hr2.mono (by decide)) rfl (M.glo "sign_at") U_sign_at.kp B_sign_at .nil (fun _ => .nil) tk2 (da_cons (de_var (i := 6) rfl (by first | exact Or.inl rfl | exact Or.inr (Or.inl rfl) | exact Or.inr (Or.inr rfl))) (da_cons (de_var (i := 7) rfl (by first | exact Or.inl rfl | exact Or.inr (Or.inl rfl) | exact Or.inr (Or.inr rfl))) (da_nil)))))) (da_cons (de_heardD (v := "a1") (k := 6) (c := (He.cT K ("_law_refused_right", none)).1) (P := (He.cT K ("_law_refused_right", none)).2) (M.hears w) tk (hr.mono (by decide)) rfl rfl (M.glo "_law_heard") (lamS2_by (by kernel_rfl)) (M.tb_ ("_law_refused_right", none) (by simp [tf])) hco (lam_in _ (by kernel_rfl)) (lam_un _ (by kernel_rfl)) rfl rfl rfl (fun _ _ _ _ _ _ _ _ => ⟨_, rfl, rfl⟩) (fun f c' A outer s H E G hr2 tk2 => by obtain ⟨fd_sign_at, U_sign_at, C_sign_at, B_sign_at⟩ := (ok_sign_at M (some f)).ex; exact (de_call C_sign_at (hr2.mono (by decide)) rfl (M.glo "sign_at") U_sign_at.kp B_sign_at .nil (fun _ => .nil) tk2 (da_cons (de_lst (da_cons (de_lst (da_cons (de_int) (da_cons (de_int) (da_cons (de_int) (da_nil))))) (da_cons (de_lst (da_cons (de_int) (da_cons (de_int) (da_cons (de_int) (da_nil))))) (da_cons (de_int) (da_nil))))) (da_cons (de_var (i := 7) rfl (by first | exact Or.inl rfl | exact Or.inr (Or.inl rfl) | exact Or.inr (Or.inr rfl))) (da_nil)))))) (da_nil))))))
    (dss_one (ds_ret (de_cmp (op_eqA (hu_of hr)) (opS_eq rfl) (de_var (i := 4) rfl (by first | exact Or.inl rfl | exact Or.inr (Or.inl rfl) | exact Or.inr (Or.inr rfl))) (de_lst (da_cons (de_tup (da_cons (de_str) (da_cons (de_str) (da_nil)))) (da_cons (de_tup (da_cons (de_str) (da_cons (de_str) (da_nil)))) (da_nil)))) rfl)))))))))))
theorem S_law : FnScope ["script", "pen", "turn", "one", "other", "under", "due", "start", "step", "row", "shared", "part", "lap", "a", "b"] ["script"] (defScope (top 35)) := ⟨rfl, rfl, rfl, by decide +kernel, rfl, by decide +kernel, by decide +kernel⟩
def den_law : DenS :=
    sSeq (sSet 1 (dCall 1 F__law_pen [] (aCons (dVar 0) (aNil))))
    (sSeq (sFor (iRange1 (aCons (dC (.int 12)) (aNil))) (gNm 2) (sSeq (sAsg (dIf (dTest (dBin fEq (dCall 2 F__law_draw [] (aCons (dVar 1) (aCons (dC (.int 2)) (aNil)))) (dC (.int 0)))) (dCall 1 F__law_near [] (aCons (dVar 1) (aNil))) (dTup (aCons (dCall 1 F__law_number [] (aCons (dVar 1) (aNil))) (aCons (dCall 1 F__law_number [] (aCons (dVar 1) (aNil))) (aCons (dCB cAbs (aCons (dCall 1 F__law_number [] (aCons (dVar 1) (aNil))) (aNil))) (aNil)))))) (gTp 3 (gsCons (gNm 3) (gsCons (gNm 4) (gsCons (gNm 5) (gsNil))))))
    (sSeq (sSet 6 (dCall 3 F__law_sign [] (aCons (dVar 3) (aCons (dVar 4) (aCons (dVar 5) (aNil))))))
    (sSeq (sIf (dOr (dTest (dBin fNe (dCB cRepr (aCons (dCall 3 F_surd_sign [] (aCons (dVar 3) (aCons (dVar 4) (aCons (dVar 5) (aNil))))) (aNil))) (dCB cRepr (aCons (dVar 6) (aNil))))) (dTest (dBin fNe (dCallK 3 3 F_surd_sign [2, 1, 0] (aCons (dVar 5) (aCons (dVar 4) (aCons (dVar 3) (aNil))))) (dVar 6)))) (sRet (dC (.bl false))) (sNil))
    (sIf (dOr (dTest (dBin fNe (dCall 3 F_surd_sign [] (aCons (dUn fNeg (dVar 3)) (aCons (dUn fNeg (dVar 4)) (aCons (dVar 5) (aNil))))) (dUn fNeg (dVar 6)))) (dOr (dTest (dBin fNe (dCall 3 F_surd_sign [] (aCons (dBin fMul (dC (.int 3)) (dVar 3)) (aCons (dVar 4) (aCons (dBin fMul (dC (.int 9)) (dVar 5)) (aNil))))) (dVar 6))) (dTest (dBin fNe (dCall 3 F_surd_sign [] (aCons (dVar 3) (aCons (dC (.int 0)) (aCons (dVar 5) (aNil))))) (dCall 3 F__law_sign [] (aCons (dVar 3) (aCons (dC (.int 0)) (aCons (dC (.int 0)) (aNil))))))))) (sRet (dC (.bl false))) (sNil))))))
    (sSeq (sFor (iRange1 (aCons (dC (.int 6)) (aNil))) (gNm 2) (sSeq (sAsg (dFz (dComp (iRange1 (aCons (dC (.int 2)) (aNil))) [12] (gNm 12) (tTrue) (dCB cTuple (aCons (dFz (dComp (iRange1 (aCons (dC (.int 3)) (aNil))) [11] (gNm 11) (tTrue) (dBin fSub (dCall 2 F__law_draw [] (aCons (dVar 1) (aCons (dC (.int 2001)) (aNil)))) (dC (.int 1000))))) (aNil))))) (gTp 2 (gsCons (gNm 7) (gsCons (gNm 8) (gsNil)))))
    (sSeq (sPar [9, 5] (aCons (dTup (aCons (dBin fAdd (dC (.int 1)) (dCall 2 F__law_draw [] (aCons (dVar 1) (aCons (dC (.int 9)) (aNil))))) (aCons (dBin fSub (dCall 2 F__law_draw [] (aCons (dVar 1) (aCons (dC (.int 19)) (aNil)))) (dC (.int 9))) (aCons (dBin fSub (dCall 2 F__law_draw [] (aCons (dVar 1) (aCons (dC (.int 19)) (aNil)))) (dC (.int 9))) (aNil))))) (aCons (dCall 2 F__law_draw [] (aCons (dVar 1) (aCons (dBin fPow (dC (.int 10)) (dC (.int 6))) (aNil)))) (aNil))))
    (sSeq (sSet 10 (dC (.int 1)))
    (sSeq (sFor (iRange2 (aCons (dC (.int 2)) (aCons (dC (.int 10)) (aNil)))) (gNm 11) (sIf (dAnd (dTest (dBin fEq (dBin fMod (dCB cInt (aCons (dBin fIx (dVar 9) (dC (.int 0))) (aNil))) (dVar 11)) (dC (.int 0)))) (dAnd (dTest (dBin fEq (dBin fMod (dCB cInt (aCons (dBin fIx (dVar 9) (dC (.int 1))) (aNil))) (dVar 11)) (dC (.int 0)))) (dTest (dBin fEq (dBin fMod (dCB cInt (aCons (dBin fIx (dVar 9) (dC (.int 2))) (aNil))) (dVar 11)) (dC (.int 0)))))) (sSet 10 (dVar 11)) (sNil)))
    (sSeq (sSet 6 (dCall 3 F__law_sign [] (aCons (dCB cSum (aCons (dFz (dComp (iZip (aCons (dVar 9) (aCons (dVar 7) (aNil)))) [13, 14] (gTp 2 (gsCons (gNm 13) (gsCons (gNm 14) (gsNil)))) (tTrue) (dBin fMul (dVar 13) (dVar 14)))) (aNil))) (aCons (dCB cSum (aCons (dFz (dComp (iZip (aCons (dVar 9) (aCons (dVar 8) (aNil)))) [13, 14] (gTp 2 (gsCons (gNm 13) (gsCons (gNm 14) (gsNil)))) (tTrue) (dBin fMul (dVar 13) (dVar 14)))) (aNil))) (aCons (dVar 5) (aNil))))))
    (sSeq (sIf (dOr (dTest (dBin fNe (dCB cRepr (aCons (dCall 2 F_sign_at [] (aCons (dTup (aCons (dVar 7) (aCons (dVar 8) (aCons (dVar 5) (aNil))))) (aCons (dVar 9) (aNil)))) (aNil))) (dCB cRepr (aCons (dVar 6) (aNil))))) (dTest (dBin fNe (dCallK 2 2 F_sign_at [1, 0] (aCons (dFz (dComp (iSeq (dVar 9)) [11] (gNm 11) (tTrue) (dBin fMul (dUn fNeg (dC (.int 7))) (dVar 11)))) (aCons (dLst (aCons (dCB cList (aCons (dVar 7) (aNil))) (aCons (dCB cList (aCons (dVar 8) (aNil))) (aCons (dVar 5) (aNil))))) (aNil)))) (dVar 6)))) (sRet (dC (.bl false))) (sNil))
    (sIf (dAnd (dTest (dBin fGt (dVar 10) (dC (.int 1)))) (dTest (dBin fNe (dCall 2 F_sign_at [] (aCons (dTup (aCons (dVar 7) (aCons (dVar 8) (aCons (dVar 5) (aNil))))) (aCons (dCB cTuple (aCons (dFz (dComp (iSeq (dVar 9)) [11] (gNm 11) (tTrue) (dBin fDiv (dCB cInt (aCons (dVar 11) (aNil))) (dVar 10)))) (aNil))) (aNil)))) (dVar 6)))) (sRet (dC (.bl false))) (sNil)))))))))
    (sRet (dCall 1 F__law_refused_right [] (aCons (dVar 1) (aNil))))))
def F_law : FD := runF 15 den_law
theorem ok_law {w : World} {K : PySem.W.Frag} {mg : Str → Option Value} {base : Heap} (M : MF K mg base) : Df K mg base w none 10 "law" 35 ["script"] F_law := by
  obtain ⟨fd__law_draw, U__law_draw, C__law_draw, B__law_draw⟩ := (ok__law_draw M none).ex
  obtain ⟨fd__law_near, U__law_near, C__law_near, B__law_near⟩ := (ok__law_near M none).ex
  obtain ⟨fd__law_number, U__law_number, C__law_number, B__law_number⟩ := (ok__law_number M none).ex
  obtain ⟨fd__law_pen, U__law_pen, C__law_pen, B__law_pen⟩ := (ok__law_pen M none).ex
  obtain ⟨fd__law_refused_right, U__law_refused_right, C__law_refused_right, B__law_refused_right⟩ := (ok__law_refused_right M).ex
  obtain ⟨fd__law_sign, U__law_sign, C__law_sign, B__law_sign⟩ := (ok__law_sign M none).ex
  obtain ⟨fd_sign_at, U_sign_at, C_sign_at, B_sign_at⟩ := (ok_sign_at M none).ex
  obtain ⟨fd_surd_sign, U_surd_sign, C_surd_sign, B_surd_sign⟩ := (ok_surd_sign M none).ex
  obtain ⟨fd, U⟩ := M.def_ 24 (d := dd "law" 35) rfl
  refine ⟨fd, U, fnD U S_law (fun A outer s H E G cdv hr tk own => ?_), U.bindsN fun _ _ _ _ _ _ us hl => match us, hl with | [_], _ => rfl⟩
  exact (dss_cons (ds_set (i := 1) S_law.nd rfl (by first | exact Or.inl rfl | exact Or.inr rfl) (de_call C__law_pen (hr.mono (by decide)) rfl (M.glo "_law_pen") U__law_pen.kp B__law_pen .nil (fun _ => .nil) tk (da_cons (de_var (i := 0) rfl (by first | exact Or.inl rfl | exact Or.inr (Or.inl rfl) | exact Or.inr (Or.inr rfl))) (da_nil))))
    (dss_cons (ds_for own rfl (di_range1 rfl (M.free "range") (da_cons (de_int) (da_nil))) (dgt_name (i := 2) S_law.nd rfl (by first | exact Or.inl rfl | exact Or.inr rfl) (by intro l h; cases h)) (dss_cons (ds_asg (de_if (dt_cmp (op_eqA (hu_of hr)) (opS_eq rfl) (de_call C__law_draw (hr.mono (by decide)) rfl (M.glo "_law_draw") U__law_draw.kp B__law_draw .nil (fun _ => .nil) tk (da_cons (de_var (i := 1) rfl (by first | exact Or.inl rfl | exact Or.inr (Or.inl rfl) | exact Or.inr (Or.inr rfl))) (da_cons (de_int) (da_nil)))) (de_int) rfl) (de_call C__law_near (hr.mono (by decide)) rfl (M.glo "_law_near") U__law_near.kp B__law_near .nil (fun _ => .nil) tk (da_cons (de_var (i := 1) rfl (by first | exact Or.inl rfl | exact Or.inr (Or.inl rfl) | exact Or.inr (Or.inr rfl))) (da_nil))) (de_tup (da_cons (de_call C__law_number (hr.mono (by decide)) rfl (M.glo "_law_number") U__law_number.kp B__law_number .nil (fun _ => .nil) tk (da_cons (de_var (i := 1) rfl (by first | exact Or.inl rfl | exact Or.inr (Or.inl rfl) | exact Or.inr (Or.inr rfl))) (da_nil))) (da_cons (de_call C__law_number (hr.mono (by decide)) rfl (M.glo "_law_number") U__law_number.kp B__law_number .nil (fun _ => .nil) tk (da_cons (de_var (i := 1) rfl (by first | exact Or.inl rfl | exact Or.inr (Or.inl rfl) | exact Or.inr (Or.inr rfl))) (da_nil))) (da_cons (de_callB call_abs cs_abs rfl (M.free "abs") boot_abs (da_cons (de_call C__law_number (hr.mono (by decide)) rfl (M.glo "_law_number") U__law_number.kp B__law_number .nil (fun _ => .nil) tk (da_cons (de_var (i := 1) rfl (by first | exact Or.inl rfl | exact Or.inr (Or.inl rfl) | exact Or.inr (Or.inr rfl))) (da_nil))) (da_nil))) (da_nil)))))) (dgt_tup rfl rfl (dgs_cons (dgt_name (i := 3) S_law.nd rfl (by first | exact Or.inl rfl | exact Or.inr rfl) (by intro l h; cases h)) (dgs_cons (dgt_name (i := 4) S_law.nd rfl (by first | exact Or.inl rfl | exact Or.inr rfl) (by intro l h; cases h)) (dgs_cons (dgt_name (i := 5) S_law.nd rfl (by first | exact Or.inl rfl | exact Or.inr rfl) (by intro l h; cases h)) (dgs_nil))))))
    (dss_cons (ds_set (i := 6) S_law.nd rfl (by first | exact Or.inl rfl | exact Or.inr rfl) (de_call C__law_sign (hr.mono (by decide)) rfl (M.glo "_law_sign") U__law_sign.kp B__law_sign .nil (fun _ => .nil) tk (da_cons (de_var (i := 3) rfl (by first | exact Or.inl rfl | exact Or.inr (Or.inl rfl) | exact Or.inr (Or.inr rfl))) (da_cons (de_var (i := 4) rfl (by first | exact Or.inl rfl | exact Or.inr (Or.inl rfl) | exact Or.inr (Or.inr rfl))) (da_cons (de_var (i := 5) rfl (by first | exact Or.inl rfl | exact Or.inr (Or.inl rfl) | exact Or.inr (Or.inr rfl))) (da_nil))))))
    (dss_cons (ds_if (dt_w (dw_or (dt_cmp (op_neA (hu_of hr)) (opS_ne rfl) (de_callB SkE.call_repr_int cs_repr rfl (M.free "repr") boot_repr (da_cons (de_call C_surd_sign (hr.mono (by decide)) rfl (M.glo "surd_sign") U_surd_sign.kp B_surd_sign .nil (fun _ => .nil) tk (da_cons (de_var (i := 3) rfl (by first | exact Or.inl rfl | exact Or.inr (Or.inl rfl) | exact Or.inr (Or.inr rfl))) (da_cons (de_var (i := 4) rfl (by first | exact Or.inl rfl | exact Or.inr (Or.inl rfl) | exact Or.inr (Or.inr rfl))) (da_cons (de_var (i := 5) rfl (by first | exact Or.inl rfl | exact Or.inr (Or.inl rfl) | exact Or.inr (Or.inr rfl))) (da_nil))))) (da_nil))) (de_callB SkE.call_repr_int cs_repr rfl (M.free "repr") boot_repr (da_cons (de_var (i := 6) rfl (by first | exact Or.inl rfl | exact Or.inr (Or.inl rfl) | exact Or.inr (Or.inr rfl))) (da_nil))) rfl) (dw_or1 (dt_cmp (op_neA (hu_of hr)) (opS_ne rfl) (de_callK C_surd_sign (hr.mono (by decide)) rfl (M.glo "surd_sign") U_surd_sign.kp (FunD.kwB (ps := ["one", "other", "under"]) (ks := ["under", "other", "one"]) (pm := [2, 1, 0]) U_surd_sign fun _ _ _ _ _ _ ws hl => match ws, hl with | [_, _, _], _ => rfl) tk (dk_cons (de_var (i := 5) rfl (by first | exact Or.inl rfl | exact Or.inr (Or.inl rfl) | exact Or.inr (Or.inr rfl))) (dk_cons (de_var (i := 4) rfl (by first | exact Or.inl rfl | exact Or.inr (Or.inl rfl) | exact Or.inr (Or.inr rfl))) (dk_cons (de_var (i := 3) rfl (by first | exact Or.inl rfl | exact Or.inr (Or.inl rfl) | exact Or.inr (Or.inr rfl))) (dk_nil))))) (de_var (i := 6) rfl (by first | exact Or.inl rfl | exact Or.inr (Or.inl rfl) | exact Or.inr (Or.inr rfl))) rfl)))) (dss_one (ds_ret (de_bl))) (dss_nil))
    (dss_one (ds_if (dt_w (dw_or (dt_cmp (op_neA (hu_of hr)) (opS_ne rfl) (de_call C_surd_sign (hr.mono (by decide)) rfl (M.glo "surd_sign") U_surd_sign.kp B_surd_sign .nil (fun _ => .nil) tk (da_cons (de_neg (de_var (i := 3) rfl (by first | exact Or.inl rfl | exact Or.inr (Or.inl rfl) | exact Or.inr (Or.inr rfl)))) (da_cons (de_neg (de_var (i := 4) rfl (by first | exact Or.inl rfl | exact Or.inr (Or.inl rfl) | exact Or.inr (Or.inr rfl)))) (da_cons (de_var (i := 5) rfl (by first | exact Or.inl rfl | exact Or.inr (Or.inl rfl) | exact Or.inr (Or.inr rfl))) (da_nil))))) (de_neg (de_var (i := 6) rfl (by first | exact Or.inl rfl | exact Or.inr (Or.inl rfl) | exact Or.inr (Or.inr rfl)))) rfl) (dw_or (dt_cmp (op_neA (hu_of hr)) (opS_ne rfl) (de_call C_surd_sign (hr.mono (by decide)) rfl (M.glo "surd_sign") U_surd_sign.kp B_surd_sign .nil (fun _ => .nil) tk (da_cons (de_mul (de_int) (de_var (i := 3) rfl (by first | exact Or.inl rfl | exact Or.inr (Or.inl rfl) | exact Or.inr (Or.inr rfl)))) (da_cons (de_var (i := 4) rfl (by first | exact Or.inl rfl | exact Or.inr (Or.inl rfl) | exact Or.inr (Or.inr rfl))) (da_cons (de_mul (de_int) (de_var (i := 5) rfl (by first | exact Or.inl rfl | exact Or.inr (Or.inl rfl) | exact Or.inr (Or.inr rfl)))) (da_nil))))) (de_var (i := 6) rfl (by first | exact Or.inl rfl | exact Or.inr (Or.inl rfl) | exact Or.inr (Or.inr rfl))) rfl) (dw_or1 (dt_cmp (op_neA (hu_of hr)) (opS_ne rfl) (de_call C_surd_sign (hr.mono (by decide)) rfl (M.glo "surd_sign") U_surd_sign.kp B_surd_sign .nil (fun _ => .nil) tk (da_cons (de_var (i := 3) rfl (by first | exact Or.inl rfl | exact Or.inr (Or.inl rfl) | exact Or.inr (Or.inr rfl))) (da_cons (de_int) (da_cons (de_var (i := 5) rfl (by first | exact Or.inl rfl | exact Or.inr (Or.inl rfl) | exact Or.inr (Or.inr rfl))) (da_nil))))) (de_call C__law_sign (hr.mono (by decide)) rfl (M.glo "_law_sign") U__law_sign.kp B__law_sign .nil (fun _ => .nil) tk (da_cons (de_var (i := 3) rfl (by first | exact Or.inl rfl | exact Or.inr (Or.inl rfl) | exact Or.inr (Or.inr rfl))) (da_cons (de_int) (da_cons (de_int) (da_nil))))) rfl))))) (dss_one (ds_ret (de_bl))) (dss_nil)))))))
    (dss_cons (ds_for own rfl (di_range1 rfl (M.free "range") (da_cons (de_int) (da_nil))) (dgt_name (i := 2) S_law.nd rfl (by first | exact Or.inl rfl | exact Or.inr rfl) (by intro l h; cases h)) (dss_cons (ds_asg (de_fz (df_lc (own := [("lap", 12)]) rfl S_law.nd (di_range1 rfl (M.free "range") (da_cons (de_int) (da_nil))) (blkOk_by (by kernel_rfl)) (fun _ _ _ _ _ => dgt_name (i := 12) S_law.nd rfl (by first | exact Or.inl rfl | exact Or.inr rfl) (by intro l h; cases h; decide)) (fun _ _ _ _ _ => dts_nil) (fun _ _ _ _ _ => de_callTy call_tuple_of (cs_tuple rfl) rfl (M.free "tuple") boot_tuple (da_cons (de_fz (df_lc (own := [("part", 11)]) rfl S_law.nd (di_range1 rfl (M.free "range") (da_cons (de_int) (da_nil))) (blkOk_by (by kernel_rfl)) (fun _ _ _ _ _ => dgt_name (i := 11) S_law.nd rfl (by first | exact Or.inl rfl | exact Or.inr rfl) (by intro l h; cases h; decide)) (fun _ _ _ _ _ => dts_nil) (fun _ _ _ _ _ => de_sub (de_call C__law_draw (hr.mono (by decide)) rfl (M.glo "_law_draw") U__law_draw.kp B__law_draw .nil (fun _ => .nil) L2.takes0 (da_cons (de_var (i := 1) rfl (by first | exact Or.inl rfl | exact Or.inr (Or.inl rfl) | exact Or.inr (Or.inr rfl))) (da_cons (de_int) (da_nil)))) (de_int)))) (da_nil))))) (dgt_tup rfl rfl (dgs_cons (dgt_name (i := 7) S_law.nd rfl (by first | exact Or.inl rfl | exact Or.inr rfl) (by intro l h; cases h)) (dgs_cons (dgt_name (i := 8) S_law.nd rfl (by first | exact Or.inl rfl | exact Or.inr rfl) (by intro l h; cases h)) (dgs_nil)))))
    (dss_cons (ds_par (i := 9) (k := 5) rfl S_law.nd rfl rfl (by decide) rfl rfl (da_cons (de_tup (da_cons (de_add rfl (de_int) (de_call C__law_draw (hr.mono (by decide)) rfl (M.glo "_law_draw") U__law_draw.kp B__law_draw .nil (fun _ => .nil) tk (da_cons (de_var (i := 1) rfl (by first | exact Or.inl rfl | exact Or.inr (Or.inl rfl) | exact Or.inr (Or.inr rfl))) (da_cons (de_int) (da_nil))))) (da_cons (de_sub (de_call C__law_draw (hr.mono (by decide)) rfl (M.glo "_law_draw") U__law_draw.kp B__law_draw .nil (fun _ => .nil) tk (da_cons (de_var (i := 1) rfl (by first | exact Or.inl rfl | exact Or.inr (Or.inl rfl) | exact Or.inr (Or.inr rfl))) (da_cons (de_int) (da_nil)))) (de_int)) (da_cons (de_sub (de_call C__law_draw (hr.mono (by decide)) rfl (M.glo "_law_draw") U__law_draw.kp B__law_draw .nil (fun _ => .nil) tk (da_cons (de_var (i := 1) rfl (by first | exact Or.inl rfl | exact Or.inr (Or.inl rfl) | exact Or.inr (Or.inr rfl))) (da_cons (de_int) (da_nil)))) (de_int)) (da_nil))))) (da_cons (de_call C__law_draw (hr.mono (by decide)) rfl (M.glo "_law_draw") U__law_draw.kp B__law_draw .nil (fun _ => .nil) tk (da_cons (de_var (i := 1) rfl (by first | exact Or.inl rfl | exact Or.inr (Or.inl rfl) | exact Or.inr (Or.inr rfl))) (da_cons (de_pow (de_int) (de_int)) (da_nil)))) (da_nil))))
    (dss_cons (ds_set (i := 10) S_law.nd rfl (by first | exact Or.inl rfl | exact Or.inr rfl) (de_int))
    (dss_cons (ds_for own rfl (di_range2 rfl (M.free "range") (da_cons (de_int) (da_cons (de_int) (da_nil)))) (dgt_name (i := 11) S_law.nd rfl (by first | exact Or.inl rfl | exact Or.inr rfl) (by intro l h; cases h)) (dss_one (ds_if (dt_w (dw_and (dt_cmp (op_eqA (hu_of hr)) (opS_eq rfl) (de_mod (de_callTy call_int1 cs_int rfl (M.free "int") boot_int (da_cons (de_ix rfl (de_var (i := 9) rfl (by first | exact Or.inl rfl | exact Or.inr (Or.inl rfl) | exact Or.inr (Or.inr rfl))) (de_int)) (da_nil))) (de_var (i := 11) rfl (by first | exact Or.inl rfl | exact Or.inr (Or.inl rfl) | exact Or.inr (Or.inr rfl)))) (de_int) rfl) (dw_and (dt_cmp (op_eqA (hu_of hr)) (opS_eq rfl) (de_mod (de_callTy call_int1 cs_int rfl (M.free "int") boot_int (da_cons (de_ix rfl (de_var (i := 9) rfl (by first | exact Or.inl rfl | exact Or.inr (Or.inl rfl) | exact Or.inr (Or.inr rfl))) (de_int)) (da_nil))) (de_var (i := 11) rfl (by first | exact Or.inl rfl | exact Or.inr (Or.inl rfl) | exact Or.inr (Or.inr rfl)))) (de_int) rfl) (dw_and1 (dt_cmp (op_eqA (hu_of hr)) (opS_eq rfl) (de_mod (de_callTy call_int1 cs_int rfl (M.free "int") boot_int (da_cons (de_ix rfl (de_var (i := 9) rfl (by first | exact Or.inl rfl | exact Or.inr (Or.inl rfl) | exact Or.inr (Or.inr rfl))) (de_int)) (da_nil))) (de_var (i := 11) rfl (by first | exact Or.inl rfl | exact Or.inr (Or.inl rfl) | exact Or.inr (Or.inr rfl)))) (de_int) rfl))))) (dss_one (ds_set (i := 10) S_law.nd rfl (by first | exact Or.inl rfl | exact Or.inr rfl) (de_var (i := 11) rfl (by first | exact Or.inl rfl | exact Or.inr (Or.inl rfl) | exact Or.inr (Or.inr rfl))))) (dss_nil))))
    (dss_cons (ds_set (i := 6) S_law.nd rfl (by first | exact Or.inl rfl | exact Or.inr rfl) (de_call C__law_sign (hr.mono (by decide)) rfl (M.glo "_law_sign") U__law_sign.kp B__law_sign .nil (fun _ => .nil) tk (da_cons (de_callB (cr_sum rfl) (cs_sum rfl) rfl (M.free "sum") boot_sum (da_cons (de_fz (df_lc (own := [("a", 13), ("b", 14)]) rfl S_law.nd (di_zip rfl rfl (M.free "zip") (da_cons (de_var (i := 9) rfl (by first | exact Or.inl rfl | exact Or.inr (Or.inl rfl) | exact Or.inr (Or.inr rfl))) (da_cons (de_var (i := 7) rfl (by first | exact Or.inl rfl | exact Or.inr (Or.inl rfl) | exact Or.inr (Or.inr rfl))) (da_nil)))) (blkOk_by (by kernel_rfl)) (fun _ _ _ _ _ => dgt_tup rfl rfl (dgs_cons (dgt_name (i := 13) S_law.nd rfl (by first | exact Or.inl rfl | exact Or.inr rfl) (by intro l h; cases h; decide)) (dgs_cons (dgt_name (i := 14) S_law.nd rfl (by first | exact Or.inl rfl | exact Or.inr rfl) (by intro l h; cases h; decide)) (dgs_nil)))) (fun _ _ _ _ _ => dts_nil) (fun _ _ _ _ _ => de_mul (de_var (i := 13) rfl (by first | exact Or.inl rfl | exact Or.inr (Or.inl rfl) | exact Or.inr (Or.inr rfl))) (de_var (i := 14) rfl (by first | exact Or.inl rfl | exact Or.inr (Or.inl rfl) | exact Or.inr (Or.inr rfl)))))) (da_nil))) (da_cons (de_callB (cr_sum rfl) (cs_sum rfl) rfl (M.free "sum") boot_sum (da_cons (de_fz (df_lc (own := [("a", 13), ("b", 14)]) rfl S_law.nd (di_zip rfl rfl (M.free "zip") (da_cons (de_var (i := 9) rfl (by first | exact Or.inl rfl | exact Or.inr (Or.inl rfl) | exact Or.inr (Or.inr rfl))) (da_cons (de_var (i := 8) rfl (by first | exact Or.inl rfl | exact Or.inr (Or.inl rfl) | exact Or.inr (Or.inr rfl))) (da_nil)))) (blkOk_by (by kernel_rfl)) (fun _ _ _ _ _ => dgt_tup rfl rfl (dgs_cons (dgt_name (i := 13) S_law.nd rfl (by first | exact Or.inl rfl | exact Or.inr rfl) (by intro l h; cases h; decide)) (dgs_cons (dgt_name (i := 14) S_law.nd rfl (by first | exact Or.inl rfl | exact Or.inr rfl) (by intro l h; cases h; decide)) (dgs_nil)))) (fun _ _ _ _ _ => dts_nil) (fun _ _ _ _ _ => de_mul (de_var (i := 13) rfl (by first | exact Or.inl rfl | exact Or.inr (Or.inl rfl) | exact Or.inr (Or.inr rfl))) (de_var (i := 14) rfl (by first | exact Or.inl rfl | exact Or.inr (Or.inl rfl) | exact Or.inr (Or.inr rfl)))))) (da_nil))) (da_cons (de_var (i := 5) rfl (by first | exact Or.inl rfl | exact Or.inr (Or.inl rfl) | exact Or.inr (Or.inr rfl))) (da_nil))))))
    (dss_cons (ds_if (dt_w (dw_or (dt_cmp (op_neA (hu_of hr)) (opS_ne rfl) (de_callB SkE.call_repr_int cs_repr rfl (M.free "repr") boot_repr (da_cons (de_call C_sign_at (hr.mono (by decide)) rfl (M.glo "sign_at") U_sign_at.kp B_sign_at .nil (fun _ => .nil) tk (da_cons (de_tup (da_cons (de_var (i := 7) rfl (by first | exact Or.inl rfl | exact Or.inr (Or.inl rfl) | exact Or.inr (Or.inr rfl))) (da_cons (de_var (i := 8) rfl (by first | exact Or.inl rfl | exact Or.inr (Or.inl rfl) | exact Or.inr (Or.inr rfl))) (da_cons (de_var (i := 5) rfl (by first | exact Or.inl rfl | exact Or.inr (Or.inl rfl) | exact Or.inr (Or.inr rfl))) (da_nil))))) (da_cons (de_var (i := 9) rfl (by first | exact Or.inl rfl | exact Or.inr (Or.inl rfl) | exact Or.inr (Or.inr rfl))) (da_nil)))) (da_nil))) (de_callB SkE.call_repr_int cs_repr rfl (M.free "repr") boot_repr (da_cons (de_var (i := 6) rfl (by first | exact Or.inl rfl | exact Or.inr (Or.inl rfl) | exact Or.inr (Or.inr rfl))) (da_nil))) rfl) (dw_or1 (dt_cmp (op_neA (hu_of hr)) (opS_ne rfl) (de_callK C_sign_at (hr.mono (by decide)) rfl (M.glo "sign_at") U_sign_at.kp (FunD.kwB (ps := ["place", "row"]) (ks := ["row", "place"]) (pm := [1, 0]) U_sign_at fun _ _ _ _ _ _ ws hl => match ws, hl with | [_, _], _ => rfl) tk (dk_cons (de_fz (df_lc (own := [("part", 11)]) rfl S_law.nd (di_seq rfl (de_var (i := 9) rfl (by first | exact Or.inl rfl | exact Or.inr (Or.inl rfl) | exact Or.inr (Or.inr rfl)))) (blkOk_by (by kernel_rfl)) (fun _ _ _ _ _ => dgt_name (i := 11) S_law.nd rfl (by first | exact Or.inl rfl | exact Or.inr rfl) (by intro l h; cases h; decide)) (fun _ _ _ _ _ => dts_nil) (fun _ _ _ _ _ => de_mul (de_neg (de_int)) (de_var (i := 11) rfl (by first | exact Or.inl rfl | exact Or.inr (Or.inl rfl) | exact Or.inr (Or.inr rfl)))))) (dk_cons (de_lst (da_cons (de_callTy call_list_of (cs_list rfl) rfl (M.free "list") boot_list (da_cons (de_var (i := 7) rfl (by first | exact Or.inl rfl | exact Or.inr (Or.inl rfl) | exact Or.inr (Or.inr rfl))) (da_nil))) (da_cons (de_callTy call_list_of (cs_list rfl) rfl (M.free "list") boot_list (da_cons (de_var (i := 8) rfl (by first | exact Or.inl rfl | exact Or.inr (Or.inl rfl) | exact Or.inr (Or.inr rfl))) (da_nil))) (da_cons (de_var (i := 5) rfl (by first | exact Or.inl rfl | exact Or.inr (Or.inl rfl) | exact Or.inr (Or.inr rfl))) (da_nil))))) (dk_nil)))) (de_var (i := 6) rfl (by first | exact Or.inl rfl | exact Or.inr (Or.inl rfl) | exact Or.inr (Or.inr rfl))) rfl)))) (dss_one (ds_ret (de_bl))) (dss_nil))
    (dss_one (ds_if (dt_w (dw_and (dt_cmp op_gt opS_cmp (de_var (i := 10) rfl (by first | exact Or.inl rfl | exact Or.inr (Or.inl rfl) | exact Or.inr (Or.inr rfl))) (de_int) rfl) (dw_and1 (dt_cmp (op_neA (hu_of hr)) (opS_ne rfl) (de_call C_sign_at (hr.mono (by decide)) rfl (M.glo "sign_at") U_sign_at.kp B_sign_at .nil (fun _ => .nil) tk (da_cons (de_tup (da_cons (de_var (i := 7) rfl (by first | exact Or.inl rfl | exact Or.inr (Or.inl rfl) | exact Or.inr (Or.inr rfl))) (da_cons (de_var (i := 8) rfl (by first | exact Or.inl rfl | exact Or.inr (Or.inl rfl) | exact Or.inr (Or.inr rfl))) (da_cons (de_var (i := 5) rfl (by first | exact Or.inl rfl | exact Or.inr (Or.inl rfl) | exact Or.inr (Or.inr rfl))) (da_nil))))) (da_cons (de_callTy call_tuple_of (cs_tuple rfl) rfl (M.free "tuple") boot_tuple (da_cons (de_fz (df_lc (own := [("part", 11)]) rfl S_law.nd (di_seq rfl (de_var (i := 9) rfl (by first | exact Or.inl rfl | exact Or.inr (Or.inl rfl) | exact Or.inr (Or.inr rfl)))) (blkOk_by (by kernel_rfl)) (fun _ _ _ _ _ => dgt_name (i := 11) S_law.nd rfl (by first | exact Or.inl rfl | exact Or.inr rfl) (by intro l h; cases h; decide)) (fun _ _ _ _ _ => dts_nil) (fun _ _ _ _ _ => de_div (de_callTy call_int1 cs_int rfl (M.free "int") boot_int (da_cons (de_var (i := 11) rfl (by first | exact Or.inl rfl | exact Or.inr (Or.inl rfl) | exact Or.inr (Or.inr rfl))) (da_nil))) (de_var (i := 10) rfl (by first | exact Or.inl rfl | exact Or.inr (Or.inl rfl) | exact Or.inr (Or.inr rfl)))))) (da_nil))) (da_nil)))) (de_var (i := 6) rfl (by first | exact Or.inl rfl | exact Or.inr (Or.inl rfl) | exact Or.inr (Or.inr rfl))) rfl)))) (dss_one (ds_ret (de_bl))) (dss_nil))))))))))
    (dss_one (ds_ret (de_call C__law_refused_right (hr.mono (by decide)) rfl (M.glo "_law_refused_right") U__law_refused_right.kp B__law_refused_right .nil (fun _ => .nil) tk (da_cons (de_var (i := 1) rfl (by first | exact Or.inl rfl | exact Or.inr (Or.inl rfl) | exact Or.inr (Or.inr rfl))) (da_nil))))))))
end
end K75
end

section
set_option maxHeartbeats 1000000
namespace K75
open PySem PySem.Spec PyProof.Rows L2 DL
def kAnd (x : D) (k : S → Out D) (s : S) : Out D := match x with
  | .bl true => k s
  | .bl false => .ok (.bl false) s
  | _ => .no
def kOr (x : D) (k : S → Out D) (s : S) : Out D := match x with
  | .bl false => k s
  | .bl true => .ok (.bl true) s
  | _ => .no
theorem dAndV_eq (da db : DenE) : dAndV da db = fun s => (da s).bind fun x s1 => kAnd x db s1 := rfl
theorem dOrV_eq (da db : DenE) : dOrV da db = fun s => (da s).bind fun x s1 => kOr x db s1 := rfl
theorem kAnd_bl (c : Bool) (k : S → Out D) (s : S) : kAnd (.bl c) k s = if c = true then k s else .ok (.bl false) s := by cases c <;> rfl
theorem kOr_bl (c : Bool) (k : S → Out D) (s : S) : kOr (.bl c) k s = if c = true then .ok (.bl true) s else k s := by cases c <;> rfl

/-- what a datum without objects is -/
def pl : D → Bool
  | .non => true | .bl _ => true | .int _ => true | .str _ => true | .tup _ => true | .lst _ => true | _ => false
def isI : D → Bool
  | .int _ => true | _ => false
theorem F_is_integer_ok {d : D} (h : pl d = true) (st : List SO) : F_is_integer [d] st = .ok (.bl (isI d)) st := by
  cases d <;> first | (cases h; done) | simp [runF, endF, finF, sRet, sSeq, sIf, sSet, sNil, sRaise1, sDrop, sRetN, dVar, dC, dBin, dUn, dCB, dCall, dCallK, dTest, dAnd, dOr, dNot, dAndV_eq, dOrV_eq, kAnd_bl, kOr_bl, dNotV, dIf, dTup, dLst, dFz, dSl, oNone, oSome, aNil, aCons, Out.bind, ans, ansF, ansI, f2I, fIsN, fNotN, DL.isNon, dAttr, bindU, iSeq, srcD, F_is_integer, den_is_integer, cIsi, tyW, isIn, isW, tyMs, isB, isI]
def isSq : D → Bool
  | .tup _ => true | .lst _ => true | _ => false
theorem F_is_listed_ok {d : D} (h : pl d = true) (st : List SO) : F_is_listed [d] st = .ok (.bl (isSq d)) st := by
  cases d <;> first | (cases h; done) | simp [runF, endF, finF, sRet, sSeq, sIf, sSet, sNil, sRaise1, sDrop, sRetN, dVar, dC, dBin, dUn, dCB, dCall, dCallK, dTest, dAnd, dOr, dNot, dAndV_eq, dOrV_eq, kAnd_bl, kOr_bl, dNotV, dIf, dTup, dLst, dFz, dSl, oNone, oSome, aNil, aCons, Out.bind, ans, ansF, ansI, f2I, fIsN, fNotN, DL.isNon, dAttr, bindU, iSeq, srcD, isSq, F_is_listed, den_is_listed, cIsi, tyW, isIn, isAny, isW, tyMs, isB, sizeLine_eq]
def oD : Option Int → D
  | none => .non
  | some i => .int i
def wit (d : D) (lo : Option Int) : Bool := match d with
  | .int i => (match lo with
    | none => true
    | some l => decide (l ≤ i))
  | _ => false
theorem F_is_within_ok {d : D} (h : pl d = true) (lo : Option Int) (st : List SO) : F_is_within [d, oD lo, .non] st = .ok (.bl (wit d lo)) st := by
  have e := F_is_integer_ok h st
  cases d <;> first | (cases h; done) | skip
  all_goals cases lo with
    | none => simp [runF, endF, finF, sRet, sSeq, sIf, sSet, sNil, sRaise1, sDrop, sRetN, dVar, dC, dBin, dUn, dCB, dCall, dCallK, dTest, dAnd, dOr, dNot, dAndV_eq, dOrV_eq, kAnd_bl, kOr_bl, dNotV, dIf, dTup, dLst, dFz, dSl, oNone, oSome, aNil, aCons, Out.bind, ans, ansF, ansI, f2I, fIsN, fNotN, DL.isNon, dAttr, bindU, iSeq, srcD, F_is_within, den_is_within, e, isI, oD, wit]
    | some l => first | (simp [runF, endF, finF, sRet, sSeq, sIf, sSet, sNil, sRaise1, sDrop, sRetN, dVar, dC, dBin, dUn, dCB, dCall, dCallK, dTest, dAnd, dOr, dNot, dAndV_eq, dOrV_eq, kAnd_bl, kOr_bl, dNotV, dIf, dTup, dLst, dFz, dSl, oNone, oSome, aNil, aCons, Out.bind, ans, ansF, ansI, f2I, fIsN, fNotN, DL.isNon, dAttr, bindU, iSeq, srcD, F_is_within, den_is_within, e, isI, oD, wit]; done) | (rename_i i; by_cases c : l ≤ i <;> simp [runF, endF, finF, sRet, sSeq, sIf, sSet, sNil, sRaise1, sDrop, sRetN, dVar, dC, dBin, dUn, dCB, dCall, dCallK, dTest, dAnd, dOr, dNot, dAndV_eq, dOrV_eq, kAnd_bl, kOr_bl, dNotV, dIf, dTup, dLst, dFz, dSl, oNone, oSome, aNil, aCons, Out.bind, ans, ansF, ansI, f2I, fIsN, fNotN, DL.isNon, dAttr, bindU, iSeq, srcD, F_is_within, den_is_within, e, isI, oD, wit, c])
theorem F_need_integer_ok {d p : D} (h : pl d = true) (lo : Option Int) (st : List SO) : F_need_integer [d, p, oD lo, .non] st = if wit d lo = true then .ok .non st else .er ⟨"BadNumber", ["part"], [p]⟩ st := by
  have e := F_is_within_ok h lo st
  by_cases c : wit d lo = true <;> simp [runF, endF, finF, sRet, sSeq, sIf, sSet, sNil, sRaise1, sDrop, sRetN, dVar, dC, dBin, dUn, dCB, dCall, dCallK, dTest, dAnd, dOr, dNot, dAndV_eq, dOrV_eq, kAnd_bl, kOr_bl, dNotV, dIf, dTup, dLst, dFz, dSl, oNone, oSome, aNil, aCons, Out.bind, ans, ansF, ansI, f2I, fIsN, fNotN, DL.isNon, dAttr, bindU, iSeq, srcD, F_need_integer, den_need_integer, e, c]
/-- a list or a tuple -/
def seqD : D → Option (List D)
  | .tup ds => some ds
  | .lst ds => some ds
  | _ => none
theorem all_isI (ds : List D) : asBools (ds.map fun d => .bl (isI d)) = some (ds.map isI) := by
  have h := asBools_map (ds.map isI)
  rw [List.map_map] at h
  exact h
def areInts (d : D) (n : Int) : Bool := match seqD d with
  | some ds => decide ((ds.length : Int) = n) && ds.all isI
  | none => false
theorem fEq_int (st : List SO) (i k : Int) : fEq st (.int i) (.int k) = some (.bl (decide (i = k))) := rfl
theorem fNe_int (st : List SO) (i k : Int) : fNe st (.int i) (.int k) = some (.bl !(decide (i = k))) := rfl
theorem F_are_integers_ok {d : D} (h : pl d = true) (n : Int) (st : List SO) (hp : ∀ ds, seqD d = some ds → ds.all pl = true ∧ ds.length ≤ sizeLine) : F_are_integers [d, .int n] st = .ok (.bl (areInts d n)) st := by
  have e := F_is_listed_ok h st
  cases d with
  | tup ds =>
    obtain ⟨h1, h2⟩ := hp ds rfl
    have hm := dComp_map (src := iSeq (dVar 0)) (i := 2) (f := fun d => .bl (isI d)) (e := dCall 1 F_is_integer [] (aCons (dVar 2) aNil)) (s := ⟨[some (.tup ds), some (.int n), none], st, st.length⟩) (s1 := ⟨[some (.tup ds), some (.int n), none], st, st.length⟩) (ds := ds) (by simp [runF, endF, finF, sRet, sSeq, sIf, sSet, sNil, sRaise1, sDrop, sRetN, dVar, dC, dBin, dUn, dCB, dCall, dCallK, dTest, dAnd, dOr, dNot, dAndV_eq, dOrV_eq, kAnd_bl, kOr_bl, dNotV, dIf, dTup, dLst, dFz, dSl, oNone, oSome, aNil, aCons, Out.bind, ans, ansF, ansI, f2I, fIsN, fNotN, DL.isNon, dAttr, bindU, iSeq, srcD, fEq_int, fNe_int, isSq, cLen, getS, getL, getT, cAll]) (by simp [runF, endF, finF, sRet, sSeq, sIf, sSet, sNil, sRaise1, sDrop, sRetN, dVar, dC, dBin, dUn, dCB, dCall, dCallK, dTest, dAnd, dOr, dNot, dAndV_eq, dOrV_eq, kAnd_bl, kOr_bl, dNotV, dIf, dTup, dLst, dFz, dSl, oNone, oSome, aNil, aCons, Out.bind, ans, ansF, ansI, f2I, fIsN, fNotN, DL.isNon, dAttr, bindU, iSeq, srcD, fEq_int, fNe_int, isSq, cLen, getS, getL, getT, cAll]) h2
      (fun d hd => by simp [runF, endF, finF, sRet, sSeq, sIf, sSet, sNil, sRaise1, sDrop, sRetN, dVar, dC, dBin, dUn, dCB, dCall, dCallK, dTest, dAnd, dOr, dNot, dAndV_eq, dOrV_eq, kAnd_bl, kOr_bl, dNotV, dIf, dTup, dLst, dFz, dSl, oNone, oSome, aNil, aCons, Out.bind, ans, ansF, ansI, f2I, fIsN, fNotN, DL.isNon, dAttr, bindU, iSeq, srcD, fEq_int, fNe_int, isSq, cLen, getS, getL, getT, cAll, F_is_integer_ok (List.all_eq_true.mp h1 d hd)])
    by_cases c : (ds.length : Int) = n <;> simp [runF, endF, finF, sRet, sSeq, sIf, sSet, sNil, sRaise1, sDrop, sRetN, dVar, dC, dBin, dUn, dCB, dCall, dCallK, dTest, dAnd, dOr, dNot, dAndV_eq, dOrV_eq, kAnd_bl, kOr_bl, dNotV, dIf, dTup, dLst, dFz, dSl, oNone, oSome, aNil, aCons, Out.bind, ans, ansF, ansI, f2I, fIsN, fNotN, DL.isNon, dAttr, bindU, iSeq, srcD, fEq_int, fNe_int, isSq, cLen, getS, getL, getT, cAll, F_are_integers, den_are_integers, e, hm, areInts, seqD, c, all_isI]
  | lst ds =>
    obtain ⟨h1, h2⟩ := hp ds rfl
    have hm := dComp_map (src := iSeq (dVar 0)) (i := 2) (f := fun d => .bl (isI d)) (e := dCall 1 F_is_integer [] (aCons (dVar 2) aNil)) (s := ⟨[some (.lst ds), some (.int n), none], st, st.length⟩) (s1 := ⟨[some (.lst ds), some (.int n), none], st, st.length⟩) (ds := ds) (by simp [runF, endF, finF, sRet, sSeq, sIf, sSet, sNil, sRaise1, sDrop, sRetN, dVar, dC, dBin, dUn, dCB, dCall, dCallK, dTest, dAnd, dOr, dNot, dAndV_eq, dOrV_eq, kAnd_bl, kOr_bl, dNotV, dIf, dTup, dLst, dFz, dSl, oNone, oSome, aNil, aCons, Out.bind, ans, ansF, ansI, f2I, fIsN, fNotN, DL.isNon, dAttr, bindU, iSeq, srcD, fEq_int, fNe_int, isSq, cLen, getS, getL, getT, cAll]) (by simp [runF, endF, finF, sRet, sSeq, sIf, sSet, sNil, sRaise1, sDrop, sRetN, dVar, dC, dBin, dUn, dCB, dCall, dCallK, dTest, dAnd, dOr, dNot, dAndV_eq, dOrV_eq, kAnd_bl, kOr_bl, dNotV, dIf, dTup, dLst, dFz, dSl, oNone, oSome, aNil, aCons, Out.bind, ans, ansF, ansI, f2I, fIsN, fNotN, DL.isNon, dAttr, bindU, iSeq, srcD, fEq_int, fNe_int, isSq, cLen, getS, getL, getT, cAll]) h2
      (fun d hd => by simp [runF, endF, finF, sRet, sSeq, sIf, sSet, sNil, sRaise1, sDrop, sRetN, dVar, dC, dBin, dUn, dCB, dCall, dCallK, dTest, dAnd, dOr, dNot, dAndV_eq, dOrV_eq, kAnd_bl, kOr_bl, dNotV, dIf, dTup, dLst, dFz, dSl, oNone, oSome, aNil, aCons, Out.bind, ans, ansF, ansI, f2I, fIsN, fNotN, DL.isNon, dAttr, bindU, iSeq, srcD, fEq_int, fNe_int, isSq, cLen, getS, getL, getT, cAll, F_is_integer_ok (List.all_eq_true.mp h1 d hd)])
    by_cases c : (ds.length : Int) = n <;> simp [runF, endF, finF, sRet, sSeq, sIf, sSet, sNil, sRaise1, sDrop, sRetN, dVar, dC, dBin, dUn, dCB, dCall, dCallK, dTest, dAnd, dOr, dNot, dAndV_eq, dOrV_eq, kAnd_bl, kOr_bl, dNotV, dIf, dTup, dLst, dFz, dSl, oNone, oSome, aNil, aCons, Out.bind, ans, ansF, ansI, f2I, fIsN, fNotN, DL.isNon, dAttr, bindU, iSeq, srcD, fEq_int, fNe_int, isSq, cLen, getS, getL, getT, cAll, F_are_integers, den_are_integers, e, hm, areInts, seqD, c, all_isI]
  | _ => first | (cases h; done) | simp [runF, endF, finF, sRet, sSeq, sIf, sSet, sNil, sRaise1, sDrop, sRetN, dVar, dC, dBin, dUn, dCB, dCall, dCallK, dTest, dAnd, dOr, dNot, dAndV_eq, dOrV_eq, kAnd_bl, kOr_bl, dNotV, dIf, dTup, dLst, dFz, dSl, oNone, oSome, aNil, aCons, Out.bind, ans, ansF, ansI, f2I, fIsN, fNotN, DL.isNon, dAttr, bindU, iSeq, srcD, fEq_int, fNe_int, isSq, cLen, getS, getL, getT, cAll, F_are_integers, den_are_integers, e, areInts, seqD]
/-- a list or a tuple of ints -/
def isInts (d : D) (is : List Int) : Prop := seqD d = some (is.map D.int)
theorem isInts.cases {d : D} {is : List Int} (h : isInts d is) : d = .tup (is.map D.int) ∨ d = .lst (is.map D.int) := by
  unfold isInts seqD at h
  split at h
  · cases h; exact .inl rfl
  · cases h; exact .inr rfl
  · cases h
theorem all_pl_ints (is : List Int) : (is.map D.int).all pl = true := by simp [runF, endF, finF, sRet, sSeq, sIf, sSet, sNil, sRaise1, sDrop, sRetN, dVar, dC, dBin, dUn, dCB, dCall, dCallK, dTest, dAnd, dOr, dNot, dAndV_eq, dOrV_eq, kAnd_bl, kOr_bl, dNotV, dIf, dTup, dLst, dFz, dSl, oNone, oSome, aNil, aCons, Out.bind, ans, ansF, ansI, f2I, fIsN, fNotN, DL.isNon, dAttr, bindU, iSeq, srcD, fEq_int, fNe_int, isSq, cLen, getS, getL, getT, cAll, pl]
theorem all_isI_ints (is : List Int) : (is.map D.int).all isI = true := by simp [runF, endF, finF, sRet, sSeq, sIf, sSet, sNil, sRaise1, sDrop, sRetN, dVar, dC, dBin, dUn, dCB, dCall, dCallK, dTest, dAnd, dOr, dNot, dAndV_eq, dOrV_eq, kAnd_bl, kOr_bl, dNotV, dIf, dTup, dLst, dFz, dSl, oNone, oSome, aNil, aCons, Out.bind, ans, ansF, ansI, f2I, fIsN, fNotN, DL.isNon, dAttr, bindU, iSeq, srcD, fEq_int, fNe_int, isSq, cLen, getS, getL, getT, cAll, isI]
theorem asBools_ne (is : List Int) : asBools ((is.map D.int).map fun d => (match d with | .int i => D.bl (decide (i ≠ 0)) | _ => D.non)) = some (is.map fun i => decide (i ≠ 0)) := by
  have h := asBools_map (is.map fun i => decide (i ≠ 0))
  rw [List.map_map] at h ⊢
  exact h
def nz (is : List Int) : Bool := is.any fun i => decide (i ≠ 0)
theorem F_is_row_ints {d : D} {is : List Int} (hd : isInts d is) (hl : is.length ≤ sizeLine) (st : List SO) : F_is_row [d, .int is.length] st = .ok (.bl (nz is)) st := by
  have e := F_are_integers_ok (d := d) (by rcases hd.cases with rfl | rfl <;> rfl) is.length st (fun ds h => by rw [hd] at h; cases h; exact ⟨all_pl_ints is, by simpa [runF, endF, finF, sRet, sSeq, sIf, sSet, sNil, sRaise1, sDrop, sRetN, dVar, dC, dBin, dUn, dCB, dCall, dCallK, dTest, dAnd, dOr, dNot, dAndV_eq, dOrV_eq, kAnd_bl, kOr_bl, dNotV, dIf, dTup, dLst, dFz, dSl, oNone, oSome, aNil, aCons, Out.bind, ans, ansF, ansI, f2I, fIsN, fNotN, DL.isNon, dAttr, bindU, iSeq, srcD, fEq_int, fNe_int, isSq, cLen, getS, getL, getT, cAll] using hl⟩)
  have ha : areInts d is.length = true := by unfold areInts; rw [hd]; simp [runF, endF, finF, sRet, sSeq, sIf, sSet, sNil, sRaise1, sDrop, sRetN, dVar, dC, dBin, dUn, dCB, dCall, dCallK, dTest, dAnd, dOr, dNot, dAndV_eq, dOrV_eq, kAnd_bl, kOr_bl, dNotV, dIf, dTup, dLst, dFz, dSl, oNone, oSome, aNil, aCons, Out.bind, ans, ansF, ansI, f2I, fIsN, fNotN, DL.isNon, dAttr, bindU, iSeq, srcD, fEq_int, fNe_int, isSq, cLen, getS, getL, getT, cAll, isI]
  rw [ha] at e
  have hm := dComp_map (src := iSeq (dVar 0)) (i := 2) (f := fun d => (match d with | .int i => D.bl (decide (i ≠ 0)) | _ => D.non)) (e := dBin fNe (dVar 2) (dC (.int 0))) (s := ⟨[some d, some (.int is.length), none], st, st.length⟩) (s1 := ⟨[some d, some (.int is.length), none], st, st.length⟩) (ds := is.map D.int)
    (by rcases hd.cases with rfl | rfl <;> simp [runF, endF, finF, sRet, sSeq, sIf, sSet, sNil, sRaise1, sDrop, sRetN, dVar, dC, dBin, dUn, dCB, dCall, dCallK, dTest, dAnd, dOr, dNot, dAndV_eq, dOrV_eq, kAnd_bl, kOr_bl, dNotV, dIf, dTup, dLst, dFz, dSl, oNone, oSome, aNil, aCons, Out.bind, ans, ansF, ansI, f2I, fIsN, fNotN, DL.isNon, dAttr, bindU, iSeq, srcD, fEq_int, fNe_int, isSq, cLen, getS, getL, getT, cAll]) (by simp [runF, endF, finF, sRet, sSeq, sIf, sSet, sNil, sRaise1, sDrop, sRetN, dVar, dC, dBin, dUn, dCB, dCall, dCallK, dTest, dAnd, dOr, dNot, dAndV_eq, dOrV_eq, kAnd_bl, kOr_bl, dNotV, dIf, dTup, dLst, dFz, dSl, oNone, oSome, aNil, aCons, Out.bind, ans, ansF, ansI, f2I, fIsN, fNotN, DL.isNon, dAttr, bindU, iSeq, srcD, fEq_int, fNe_int, isSq, cLen, getS, getL, getT, cAll]) (by simpa [runF, endF, finF, sRet, sSeq, sIf, sSet, sNil, sRaise1, sDrop, sRetN, dVar, dC, dBin, dUn, dCB, dCall, dCallK, dTest, dAnd, dOr, dNot, dAndV_eq, dOrV_eq, kAnd_bl, kOr_bl, dNotV, dIf, dTup, dLst, dFz, dSl, oNone, oSome, aNil, aCons, Out.bind, ans, ansF, ansI, f2I, fIsN, fNotN, DL.isNon, dAttr, bindU, iSeq, srcD, fEq_int, fNe_int, isSq, cLen, getS, getL, getT, cAll] using hl) (fun x hx => by
      obtain ⟨i, _, rfl⟩ := List.mem_map.mp hx
      simp [runF, endF, finF, sRet, sSeq, sIf, sSet, sNil, sRaise1, sDrop, sRetN, dVar, dC, dBin, dUn, dCB, dCall, dCallK, dTest, dAnd, dOr, dNot, dAndV_eq, dOrV_eq, kAnd_bl, kOr_bl, dNotV, dIf, dTup, dLst, dFz, dSl, oNone, oSome, aNil, aCons, Out.bind, ans, ansF, ansI, f2I, fIsN, fNotN, DL.isNon, dAttr, bindU, iSeq, srcD, fEq_int, fNe_int, isSq, cLen, getS, getL, getT, cAll])
  have e2 : ((is.map D.int).map fun d => (match d with | .int i => D.bl (decide (i ≠ 0)) | _ => D.non)) = (is.map fun i => decide (i ≠ 0)).map D.bl := by rw [List.map_map, List.map_map]; rfl
  rw [e2] at hm
  have e3 : (is.map fun i => decide (i ≠ 0)).any id = nz is := by simp [runF, endF, finF, sRet, sSeq, sIf, sSet, sNil, sRaise1, sDrop, sRetN, dVar, dC, dBin, dUn, dCB, dCall, dCallK, dTest, dAnd, dOr, dNot, dAndV_eq, dOrV_eq, kAnd_bl, kOr_bl, dNotV, dIf, dTup, dLst, dFz, dSl, oNone, oSome, aNil, aCons, Out.bind, ans, ansF, ansI, f2I, fIsN, fNotN, DL.isNon, dAttr, bindU, iSeq, srcD, fEq_int, fNe_int, isSq, cLen, getS, getL, getT, cAll, nz]
  generalize is.map (fun i => decide (i ≠ 0)) = bs at hm e3
  simp [runF, endF, finF, sRet, sSeq, sIf, sSet, sNil, sRaise1, sDrop, sRetN, dVar, dC, dBin, dUn, dCB, dCall, dCallK, dTest, dAnd, dOr, dNot, dAndV_eq, dOrV_eq, kAnd_bl, kOr_bl, dNotV, dIf, dTup, dLst, dFz, dSl, oNone, oSome, aNil, aCons, Out.bind, ans, ansF, ansI, f2I, fIsN, fNotN, DL.isNon, dAttr, bindU, iSeq, srcD, fEq_int, fNe_int, isSq, cLen, getS, getL, getT, cAll, F_is_row, den_is_row, -List.map_map, e, hm, cAny, asBools_map, ← e3]
theorem F_is_row_bad {d : D} (h : pl d = true) (n : Int) (st : List SO) (hp : ∀ ds, seqD d = some ds → ds.all pl = true ∧ ds.length ≤ sizeLine) (hb : areInts d n = false) : F_is_row [d, .int n] st = .ok (.bl false) st := by
  have e := F_are_integers_ok h n st hp
  rw [hb] at e
  simp [runF, endF, finF, sRet, sSeq, sIf, sSet, sNil, sRaise1, sDrop, sRetN, dVar, dC, dBin, dUn, dCB, dCall, dCallK, dTest, dAnd, dOr, dNot, dAndV_eq, dOrV_eq, kAnd_bl, kOr_bl, dNotV, dIf, dTup, dLst, dFz, dSl, oNone, oSome, aNil, aCons, Out.bind, ans, ansF, ansI, f2I, fIsN, fNotN, DL.isNon, dAttr, bindU, iSeq, srcD, fEq_int, fNe_int, isSq, cLen, getS, getL, getT, cAll, F_is_row, den_is_row, e]
/-! ### shrunk -/
def gf (is : List Int) : Int := is.foldl (fun g i => ((Nat.gcd g.natAbs i.natAbs : Nat) : Int)) 0
def shr (is : List Int) : List Int := if gf is > 1 then is.map (· / gf is) else is
theorem gf_step (is : List Int) (n : Nat) (h : n < is.length) : gf (is.take (n + 1)) = ((Nat.gcd (gf (is.take n)).natAbs (is[n]).natAbs : Nat) : Int) := by
  unfold gf
  rw [List.take_succ_eq_append_getElem h, List.foldl_append]
  rfl
theorem F_shrunk_ok {d : D} {is : List Int} (hd : isInts d is) (hl : is.length ≤ sizeLine) (hg : (gf is).natAbs.log2 < 9000) (st : List SO) : F_shrunk [d] st = .ok (.tup ((shr is).map D.int)) st := by
  obtain ⟨s', h1, h2⟩ := sFor_inv (src := iSeq (dVar 0)) (g := gNm 2) (body := sSet 1 (dCB cGcd (aCons (dVar 1) (aCons (dVar 2) aNil)))) (s := ⟨[some d, some (.int 0), none], st, st.length⟩) (s1 := ⟨[some d, some (.int 0), none], st, st.length⟩) (ds := is.map D.int) (by rcases hd.cases with rfl | rfl <;> simp [runF, endF, finF, sRet, sSeq, sIf, sSet, sNil, sRaise1, sDrop, sRetN, dVar, dC, dBin, dUn, dCB, dCall, dCallK, dTest, dAnd, dOr, dNot, dAndV_eq, dOrV_eq, kAnd_bl, kOr_bl, dNotV, dIf, dTup, dLst, dFz, dSl, oNone, oSome, aNil, aCons, Out.bind, ans, ansF, ansI, f2I, fIsN, fNotN, DL.isNon, dAttr, bindU, iSeq, srcD, fEq_int, fNe_int, isSq, cLen, getS, getL, getT, cAll])
    (fun n s => ∃ x, s = ⟨[some d, some (.int (gf (is.take n))), x], st, st.length⟩) ⟨none, by simp [runF, endF, finF, sRet, sSeq, sIf, sSet, sNil, sRaise1, sDrop, sRetN, dVar, dC, dBin, dUn, dCB, dCall, dCallK, dTest, dAnd, dOr, dNot, dAndV_eq, dOrV_eq, kAnd_bl, kOr_bl, dNotV, dIf, dTup, dLst, dFz, dSl, oNone, oSome, aNil, aCons, Out.bind, ans, ansF, ansI, f2I, fIsN, fNotN, DL.isNon, dAttr, bindU, iSeq, srcD, fEq_int, fNe_int, isSq, cLen, getS, getL, getT, cAll, gf]⟩ (fun n hn s hs => by
      obtain ⟨x, rfl⟩ := hs
      have hn' : n < is.length := by simpa [runF, endF, finF, sRet, sSeq, sIf, sSet, sNil, sRaise1, sDrop, sRetN, dVar, dC, dBin, dUn, dCB, dCall, dCallK, dTest, dAnd, dOr, dNot, dAndV_eq, dOrV_eq, kAnd_bl, kOr_bl, dNotV, dIf, dTup, dLst, dFz, dSl, oNone, oSome, aNil, aCons, Out.bind, ans, ansF, ansI, f2I, fIsN, fNotN, DL.isNon, dAttr, bindU, iSeq, srcD, fEq_int, fNe_int, isSq, cLen, getS, getL, getT, cAll] using hn
      refine ⟨⟨[some d, some (.int (gf (is.take n))), some (.int is[n])], st, st.length⟩, ⟨[some d, some (.int (gf (is.take (n + 1)))), some (.int is[n])], st, st.length⟩, by simp [runF, endF, finF, sRet, sSeq, sIf, sSet, sNil, sRaise1, sDrop, sRetN, dVar, dC, dBin, dUn, dCB, dCall, dCallK, dTest, dAnd, dOr, dNot, dAndV_eq, dOrV_eq, kAnd_bl, kOr_bl, dNotV, dIf, dTup, dLst, dFz, dSl, oNone, oSome, aNil, aCons, Out.bind, ans, ansF, ansI, f2I, fIsN, fNotN, DL.isNon, dAttr, bindU, iSeq, srcD, fEq_int, fNe_int, isSq, cLen, getS, getL, getT, cAll, gNm], by simp [runF, endF, finF, sRet, sSeq, sIf, sSet, sNil, sRaise1, sDrop, sRetN, dVar, dC, dBin, dUn, dCB, dCall, dCallK, dTest, dAnd, dOr, dNot, dAndV_eq, dOrV_eq, kAnd_bl, kOr_bl, dNotV, dIf, dTup, dLst, dFz, dSl, oNone, oSome, aNil, aCons, Out.bind, ans, ansF, ansI, f2I, fIsN, fNotN, DL.isNon, dAttr, bindU, iSeq, srcD, fEq_int, fNe_int, isSq, cLen, getS, getL, getT, cAll, cGcd, gf_step is n hn'], _, rfl⟩)
  obtain ⟨x, rfl⟩ := h2
  have ht : is.take (is.map D.int).length = is := by simp [runF, endF, finF, sRet, sSeq, sIf, sSet, sNil, sRaise1, sDrop, sRetN, dVar, dC, dBin, dUn, dCB, dCall, dCallK, dTest, dAnd, dOr, dNot, dAndV_eq, dOrV_eq, kAnd_bl, kOr_bl, dNotV, dIf, dTup, dLst, dFz, dSl, oNone, oSome, aNil, aCons, Out.bind, ans, ansF, ansI, f2I, fIsN, fNotN, DL.isNon, dAttr, bindU, iSeq, srcD, fEq_int, fNe_int, isSq, cLen, getS, getL, getT, cAll]
  rw [ht] at h1
  by_cases c : 1 < gf is
  · have hdk : divOk (gf is) = true := by unfold divOk; exact decide_eq_true ⟨by omega, hg⟩
    have hm := dComp_map (src := iSeq (dVar 0)) (i := 2) (f := fun d => (match d with | .int i => D.int (i / gf is) | _ => D.non)) (e := dBin fDiv (dVar 2) (dVar 1)) (s := ⟨[some d, some (.int (gf is)), x], st, st.length⟩) (s1 := ⟨[some d, some (.int (gf is)), x], st, st.length⟩) (ds := is.map D.int)
      (by rcases hd.cases with rfl | rfl <;> simp [runF, endF, finF, sRet, sSeq, sIf, sSet, sNil, sRaise1, sDrop, sRetN, dVar, dC, dBin, dUn, dCB, dCall, dCallK, dTest, dAnd, dOr, dNot, dAndV_eq, dOrV_eq, kAnd_bl, kOr_bl, dNotV, dIf, dTup, dLst, dFz, dSl, oNone, oSome, aNil, aCons, Out.bind, ans, ansF, ansI, f2I, fIsN, fNotN, DL.isNon, dAttr, bindU, iSeq, srcD, fEq_int, fNe_int, isSq, cLen, getS, getL, getT, cAll]) (by simp [runF, endF, finF, sRet, sSeq, sIf, sSet, sNil, sRaise1, sDrop, sRetN, dVar, dC, dBin, dUn, dCB, dCall, dCallK, dTest, dAnd, dOr, dNot, dAndV_eq, dOrV_eq, kAnd_bl, kOr_bl, dNotV, dIf, dTup, dLst, dFz, dSl, oNone, oSome, aNil, aCons, Out.bind, ans, ansF, ansI, f2I, fIsN, fNotN, DL.isNon, dAttr, bindU, iSeq, srcD, fEq_int, fNe_int, isSq, cLen, getS, getL, getT, cAll]) (by simpa [runF, endF, finF, sRet, sSeq, sIf, sSet, sNil, sRaise1, sDrop, sRetN, dVar, dC, dBin, dUn, dCB, dCall, dCallK, dTest, dAnd, dOr, dNot, dAndV_eq, dOrV_eq, kAnd_bl, kOr_bl, dNotV, dIf, dTup, dLst, dFz, dSl, oNone, oSome, aNil, aCons, Out.bind, ans, ansF, ansI, f2I, fIsN, fNotN, DL.isNon, dAttr, bindU, iSeq, srcD, fEq_int, fNe_int, isSq, cLen, getS, getL, getT, cAll] using hl) (fun y hy => by
        obtain ⟨i, _, rfl⟩ := List.mem_map.mp hy
        simp [runF, endF, finF, sRet, sSeq, sIf, sSet, sNil, sRaise1, sDrop, sRetN, dVar, dC, dBin, dUn, dCB, dCall, dCallK, dTest, dAnd, dOr, dNot, dAndV_eq, dOrV_eq, kAnd_bl, kOr_bl, dNotV, dIf, dTup, dLst, dFz, dSl, oNone, oSome, aNil, aCons, Out.bind, ans, ansF, ansI, f2I, fIsN, fNotN, DL.isNon, dAttr, bindU, iSeq, srcD, fEq_int, fNe_int, isSq, cLen, getS, getL, getT, cAll, hdk])
    have e2 : ((is.map D.int).map fun d => (match d with | .int i => D.int (i / gf is) | _ => D.non)) = (shr is).map D.int := by
      unfold shr
      rw [if_pos c, List.map_map, List.map_map]
      rfl
    rw [e2] at hm
    simp [runF, endF, finF, sRet, sSeq, sIf, sSet, sNil, sRaise1, sDrop, sRetN, dVar, dC, dBin, dUn, dCB, dCall, dCallK, dTest, dAnd, dOr, dNot, dAndV_eq, dOrV_eq, kAnd_bl, kOr_bl, dNotV, dIf, dTup, dLst, dFz, dSl, oNone, oSome, aNil, aCons, Out.bind, ans, ansF, ansI, f2I, fIsN, fNotN, DL.isNon, dAttr, bindU, iSeq, srcD, fEq_int, fNe_int, isSq, cLen, getS, getL, getT, cAll, F_shrunk, den_shrunk, h1, c, hm, cTuple]
  · have e2 : shr is = is := if_neg c
    rcases hd.cases with rfl | rfl <;> simp [runF, endF, finF, sRet, sSeq, sIf, sSet, sNil, sRaise1, sDrop, sRetN, dVar, dC, dBin, dUn, dCB, dCall, dCallK, dTest, dAnd, dOr, dNot, dAndV_eq, dOrV_eq, kAnd_bl, kOr_bl, dNotV, dIf, dTup, dLst, dFz, dSl, oNone, oSome, aNil, aCons, Out.bind, ans, ansF, ansI, f2I, fIsN, fNotN, DL.isNon, dAttr, bindU, iSeq, srcD, fEq_int, fNe_int, isSq, cLen, getS, getL, getT, cAll, F_shrunk, den_shrunk, h1, c, cTuple, e2]
/-! ### plain_of, row_told -/
def fi (is : List Int) : Int := (is.filter fun i => decide (i ≠ 0)).headD 0
def pln (is : List Int) : List Int := if 0 < fi (shr is) then shr is else (shr is).map (- ·)
theorem atI_zero {α : Type} (x : α) (r : List α) : L2.atI (x :: r) 0 = some x := by simp [runF, endF, finF, sRet, sSeq, sIf, sSet, sNil, sRaise1, sDrop, sRetN, dVar, dC, dBin, dUn, dCB, dCall, dCallK, dTest, dAnd, dOr, dNot, dAndV_eq, dOrV_eq, kAnd_bl, kOr_bl, dNotV, dIf, dTup, dLst, dFz, dSl, oNone, oSome, aNil, aCons, Out.bind, ans, ansF, ansI, f2I, fIsN, fNotN, DL.isNon, dAttr, bindU, iSeq, srcD, fEq_int, fNe_int, isSq, cLen, getS, getL, getT, cAll, L2.atI, L2.ixN]
theorem shr_length (is : List Int) : (shr is).length = is.length := by unfold shr; split <;> simp [runF, endF, finF, sRet, sSeq, sIf, sSet, sNil, sRaise1, sDrop, sRetN, dVar, dC, dBin, dUn, dCB, dCall, dCallK, dTest, dAnd, dOr, dNot, dAndV_eq, dOrV_eq, kAnd_bl, kOr_bl, dNotV, dIf, dTup, dLst, dFz, dSl, oNone, oSome, aNil, aCons, Out.bind, ans, ansF, ansI, f2I, fIsN, fNotN, DL.isNon, dAttr, bindU, iSeq, srcD, fEq_int, fNe_int, isSq, cLen, getS, getL, getT, cAll]
theorem F_plain_of_ok {d : D} {is : List Int} (hd : isInts d is) (hl : is.length ≤ sizeLine) (hg : (gf is).natAbs.log2 < 9000) (hn : nz (shr is) = true) (st : List SO) : F_plain_of [d] st = .ok (.tup ((pln is).map D.int)) st := by
  have e := F_shrunk_ok hd hl hg st
  have hl2 : (shr is).length ≤ sizeLine := by rw [shr_length]; exact hl
  generalize hj : shr is = js at e hl2 hn
  have hf := dComp_filter (src := iSeq (dVar 1)) (i := 2) (f := fun d => d) (p := fun d => (match d with | .int i => decide (i ≠ 0) | _ => false)) (t := dTest (dBin fNe (dVar 2) (dC (.int 0)))) (e := dVar 2) (s := ⟨[some d, some (.tup (js.map D.int)), none], st, st.length⟩) (s1 := ⟨[some d, some (.tup (js.map D.int)), none], st, st.length⟩) (ds := js.map D.int)
    (by simp [runF, endF, finF, sRet, sSeq, sIf, sSet, sNil, sRaise1, sDrop, sRetN, dVar, dC, dBin, dUn, dCB, dCall, dCallK, dTest, dAnd, dOr, dNot, dAndV_eq, dOrV_eq, kAnd_bl, kOr_bl, dNotV, dIf, dTup, dLst, dFz, dSl, oNone, oSome, aNil, aCons, Out.bind, ans, ansF, ansI, f2I, fIsN, fNotN, DL.isNon, dAttr, bindU, iSeq, srcD, fEq_int, fNe_int, isSq, cLen, getS, getL, getT, cAll]) (by simp [runF, endF, finF, sRet, sSeq, sIf, sSet, sNil, sRaise1, sDrop, sRetN, dVar, dC, dBin, dUn, dCB, dCall, dCallK, dTest, dAnd, dOr, dNot, dAndV_eq, dOrV_eq, kAnd_bl, kOr_bl, dNotV, dIf, dTup, dLst, dFz, dSl, oNone, oSome, aNil, aCons, Out.bind, ans, ansF, ansI, f2I, fIsN, fNotN, DL.isNon, dAttr, bindU, iSeq, srcD, fEq_int, fNe_int, isSq, cLen, getS, getL, getT, cAll]) (by simpa [runF, endF, finF, sRet, sSeq, sIf, sSet, sNil, sRaise1, sDrop, sRetN, dVar, dC, dBin, dUn, dCB, dCall, dCallK, dTest, dAnd, dOr, dNot, dAndV_eq, dOrV_eq, kAnd_bl, kOr_bl, dNotV, dIf, dTup, dLst, dFz, dSl, oNone, oSome, aNil, aCons, Out.bind, ans, ansF, ansI, f2I, fIsN, fNotN, DL.isNon, dAttr, bindU, iSeq, srcD, fEq_int, fNe_int, isSq, cLen, getS, getL, getT, cAll] using hl2) (fun y hy => by
      obtain ⟨i, _, rfl⟩ := List.mem_map.mp hy
      simp [runF, endF, finF, sRet, sSeq, sIf, sSet, sNil, sRaise1, sDrop, sRetN, dVar, dC, dBin, dUn, dCB, dCall, dCallK, dTest, dAnd, dOr, dNot, dAndV_eq, dOrV_eq, kAnd_bl, kOr_bl, dNotV, dIf, dTup, dLst, dFz, dSl, oNone, oSome, aNil, aCons, Out.bind, ans, ansF, ansI, f2I, fIsN, fNotN, DL.isNon, dAttr, bindU, iSeq, srcD, fEq_int, fNe_int, isSq, cLen, getS, getL, getT, cAll]) (fun y hy => by simp [runF, endF, finF, sRet, sSeq, sIf, sSet, sNil, sRaise1, sDrop, sRetN, dVar, dC, dBin, dUn, dCB, dCall, dCallK, dTest, dAnd, dOr, dNot, dAndV_eq, dOrV_eq, kAnd_bl, kOr_bl, dNotV, dIf, dTup, dLst, dFz, dSl, oNone, oSome, aNil, aCons, Out.bind, ans, ansF, ansI, f2I, fIsN, fNotN, DL.isNon, dAttr, bindU, iSeq, srcD, fEq_int, fNe_int, isSq, cLen, getS, getL, getT, cAll])
  have e1 : (((js.map D.int).filter fun d => (match d with | .int i => decide (i ≠ 0) | _ => false)).map fun d => d) = (js.filter fun i => decide (i ≠ 0)).map D.int := by
    rw [List.map_id', List.filter_map]; rfl
  rw [e1] at hf
  have hne : js.filter (fun i => decide (i ≠ 0)) ≠ [] := by
    unfold nz at hn
    obtain ⟨i, h1, h2⟩ := List.any_eq_true.mp hn
    exact List.ne_nil_of_mem (List.mem_filter.mpr ⟨h1, h2⟩)
  obtain ⟨q, r, hqr⟩ := List.exists_cons_of_ne_nil hne
  rw [hqr] at hf
  have hq : fi js = q := by unfold fi; rw [hqr]; rfl
  have hm := dComp_map (src := iSeq (dVar 1)) (i := 2) (f := fun d => (match d with | .int i => D.int (-i) | _ => D.non)) (e := dUn fNeg (dVar 2)) (s := ⟨[some d, some (.tup (js.map D.int)), none], st, st.length⟩) (s1 := ⟨[some d, some (.tup (js.map D.int)), none], st, st.length⟩) (ds := js.map D.int)
    (by simp [runF, endF, finF, sRet, sSeq, sIf, sSet, sNil, sRaise1, sDrop, sRetN, dVar, dC, dBin, dUn, dCB, dCall, dCallK, dTest, dAnd, dOr, dNot, dAndV_eq, dOrV_eq, kAnd_bl, kOr_bl, dNotV, dIf, dTup, dLst, dFz, dSl, oNone, oSome, aNil, aCons, Out.bind, ans, ansF, ansI, f2I, fIsN, fNotN, DL.isNon, dAttr, bindU, iSeq, srcD, fEq_int, fNe_int, isSq, cLen, getS, getL, getT, cAll]) (by simp [runF, endF, finF, sRet, sSeq, sIf, sSet, sNil, sRaise1, sDrop, sRetN, dVar, dC, dBin, dUn, dCB, dCall, dCallK, dTest, dAnd, dOr, dNot, dAndV_eq, dOrV_eq, kAnd_bl, kOr_bl, dNotV, dIf, dTup, dLst, dFz, dSl, oNone, oSome, aNil, aCons, Out.bind, ans, ansF, ansI, f2I, fIsN, fNotN, DL.isNon, dAttr, bindU, iSeq, srcD, fEq_int, fNe_int, isSq, cLen, getS, getL, getT, cAll]) (by simpa [runF, endF, finF, sRet, sSeq, sIf, sSet, sNil, sRaise1, sDrop, sRetN, dVar, dC, dBin, dUn, dCB, dCall, dCallK, dTest, dAnd, dOr, dNot, dAndV_eq, dOrV_eq, kAnd_bl, kOr_bl, dNotV, dIf, dTup, dLst, dFz, dSl, oNone, oSome, aNil, aCons, Out.bind, ans, ansF, ansI, f2I, fIsN, fNotN, DL.isNon, dAttr, bindU, iSeq, srcD, fEq_int, fNe_int, isSq, cLen, getS, getL, getT, cAll] using hl2) (fun y hy => by
      obtain ⟨i, _, rfl⟩ := List.mem_map.mp hy
      simp [runF, endF, finF, sRet, sSeq, sIf, sSet, sNil, sRaise1, sDrop, sRetN, dVar, dC, dBin, dUn, dCB, dCall, dCallK, dTest, dAnd, dOr, dNot, dAndV_eq, dOrV_eq, kAnd_bl, kOr_bl, dNotV, dIf, dTup, dLst, dFz, dSl, oNone, oSome, aNil, aCons, Out.bind, ans, ansF, ansI, f2I, fIsN, fNotN, DL.isNon, dAttr, bindU, iSeq, srcD, fEq_int, fNe_int, isSq, cLen, getS, getL, getT, cAll])
  have e2 : ((js.map D.int).map fun d => (match d with | .int i => D.int (-i) | _ => D.non)) = (js.map (- ·)).map D.int := by rw [List.map_map, List.map_map]; rfl
  rw [e2] at hm
  have hp : pln is = if 0 < q then js else js.map (- ·) := by unfold pln; rw [hj, hq]
  rw [hp]
  generalize js.map (- ·) = ms at hm
  by_cases c : 0 < q <;> simp [runF, endF, finF, sRet, sSeq, sIf, sSet, sNil, sRaise1, sDrop, sRetN, dVar, dC, dBin, dUn, dCB, dCall, dCallK, dTest, dAnd, dOr, dNot, dAndV_eq, dOrV_eq, kAnd_bl, kOr_bl, dNotV, dIf, dTup, dLst, dFz, dSl, oNone, oSome, aNil, aCons, Out.bind, ans, ansF, ansI, f2I, fIsN, fNotN, DL.isNon, dAttr, bindU, iSeq, srcD, fEq_int, fNe_int, isSq, cLen, getS, getL, getT, cAll, F_plain_of, den_plain_of, -List.map_map, e, hf, hm, fIx, atI_zero, c, cTuple]
theorem F_row_told_ok {d p : D} {is : List Int} (hd : isInts d is) (hl : is.length ≤ sizeLine) (hg : (gf is).natAbs.log2 < 9000) (hn : nz (shr is) = true) (hn0 : nz is = true) (st : List SO) : F_row_told [d, .int is.length, p] st = .ok (.tup ((pln is).map D.int)) st := by
  simp [runF, endF, finF, sRet, sSeq, sIf, sSet, sNil, sRaise1, sDrop, sRetN, dVar, dC, dBin, dUn, dCB, dCall, dCallK, dTest, dAnd, dOr, dNot, dAndV_eq, dOrV_eq, kAnd_bl, kOr_bl, dNotV, dIf, dTup, dLst, dFz, dSl, oNone, oSome, aNil, aCons, Out.bind, ans, ansF, ansI, f2I, fIsN, fNotN, DL.isNon, dAttr, bindU, iSeq, srcD, fEq_int, fNe_int, isSq, cLen, getS, getL, getT, cAll, F_row_told, den_row_told, F_is_row_ints hd hl, hn0, F_plain_of_ok hd hl hg hn]
theorem F_row_told_bad {d p : D} (h : pl d = true) (n : Int) (st : List SO) (hp : ∀ ds, seqD d = some ds → ds.all pl = true ∧ ds.length ≤ sizeLine) (hb : areInts d n = false) : F_row_told [d, .int n, p] st = .er ⟨"BadRow", ["part"], [p]⟩ st := by
  simp [runF, endF, finF, sRet, sSeq, sIf, sSet, sNil, sRaise1, sDrop, sRetN, dVar, dC, dBin, dUn, dCB, dCall, dCallK, dTest, dAnd, dOr, dNot, dAndV_eq, dOrV_eq, kAnd_bl, kOr_bl, dNotV, dIf, dTup, dLst, dFz, dSl, oNone, oSome, aNil, aCons, Out.bind, ans, ansF, ansI, f2I, fIsN, fNotN, DL.isNon, dAttr, bindU, iSeq, srcD, fEq_int, fNe_int, isSq, cLen, getS, getL, getT, cAll, F_row_told, den_row_told, F_is_row_bad h n st hp hb]
theorem F_row_told_zero {d p : D} {is : List Int} (hd : isInts d is) (hl : is.length ≤ sizeLine) (hn0 : nz is = false) (st : List SO) : F_row_told [d, .int is.length, p] st = .er ⟨"BadRow", ["part"], [p]⟩ st := by
  simp [runF, endF, finF, sRet, sSeq, sIf, sSet, sNil, sRaise1, sDrop, sRetN, dVar, dC, dBin, dUn, dCB, dCall, dCallK, dTest, dAnd, dOr, dNot, dAndV_eq, dOrV_eq, kAnd_bl, kOr_bl, dNotV, dIf, dTup, dLst, dFz, dSl, oNone, oSome, aNil, aCons, Out.bind, ans, ansF, ansI, f2I, fIsN, fNotN, DL.isNon, dAttr, bindU, iSeq, srcD, fEq_int, fNe_int, isSq, cLen, getS, getL, getT, cAll, F_row_told, den_row_told, F_is_row_ints hd hl, hn0]
/-! ### dot_of -/
def dot : List Int → List Int → Int
  | a :: as, b :: bs => a * b + dot as bs
  | _, _ => 0
theorem zip_dot (f : D → D) (hf : ∀ a b, f (.tup [.int a, .int b]) = .int (a * b)) : ∀ (as bs : List Int), (zipD (as.map D.int) (bs.map D.int)).map f = ((as.zip bs).map fun p => p.1 * p.2).map D.int
  | [], _ => by simp [runF, endF, finF, sRet, sSeq, sIf, sSet, sNil, sRaise1, sDrop, sRetN, dVar, dC, dBin, dUn, dCB, dCall, dCallK, dTest, dAnd, dOr, dNot, dAndV_eq, dOrV_eq, kAnd_bl, kOr_bl, dNotV, dIf, dTup, dLst, dFz, dSl, oNone, oSome, aNil, aCons, Out.bind, ans, ansF, ansI, f2I, fIsN, fNotN, DL.isNon, dAttr, bindU, iSeq, srcD, fEq_int, fNe_int, isSq, cLen, getS, getL, getT, cAll, zipD]
  | _ :: _, [] => by simp [runF, endF, finF, sRet, sSeq, sIf, sSet, sNil, sRaise1, sDrop, sRetN, dVar, dC, dBin, dUn, dCB, dCall, dCallK, dTest, dAnd, dOr, dNot, dAndV_eq, dOrV_eq, kAnd_bl, kOr_bl, dNotV, dIf, dTup, dLst, dFz, dSl, oNone, oSome, aNil, aCons, Out.bind, ans, ansF, ansI, f2I, fIsN, fNotN, DL.isNon, dAttr, bindU, iSeq, srcD, fEq_int, fNe_int, isSq, cLen, getS, getL, getT, cAll, zipD]
  | a :: as, b :: bs => by
    have h := zip_dot f hf as bs
    unfold zipD at h ⊢
    simp only [List.map_cons, List.zipWith_cons_cons, List.zip_cons_cons, hf, h]
theorem dot_sum : ∀ (as bs : List Int), ((as.zip bs).map fun p => p.1 * p.2).sum = dot as bs
  | [], _ => by simp [runF, endF, finF, sRet, sSeq, sIf, sSet, sNil, sRaise1, sDrop, sRetN, dVar, dC, dBin, dUn, dCB, dCall, dCallK, dTest, dAnd, dOr, dNot, dAndV_eq, dOrV_eq, kAnd_bl, kOr_bl, dNotV, dIf, dTup, dLst, dFz, dSl, oNone, oSome, aNil, aCons, Out.bind, ans, ansF, ansI, f2I, fIsN, fNotN, DL.isNon, dAttr, bindU, iSeq, srcD, fEq_int, fNe_int, isSq, cLen, getS, getL, getT, cAll, dot]
  | _ :: _, [] => by simp [runF, endF, finF, sRet, sSeq, sIf, sSet, sNil, sRaise1, sDrop, sRetN, dVar, dC, dBin, dUn, dCB, dCall, dCallK, dTest, dAnd, dOr, dNot, dAndV_eq, dOrV_eq, kAnd_bl, kOr_bl, dNotV, dIf, dTup, dLst, dFz, dSl, oNone, oSome, aNil, aCons, Out.bind, ans, ansF, ansI, f2I, fIsN, fNotN, DL.isNon, dAttr, bindU, iSeq, srcD, fEq_int, fNe_int, isSq, cLen, getS, getL, getT, cAll, dot]
  | a :: as, b :: bs => by
    have h := dot_sum as bs
    simp only [List.zip_cons_cons, List.map_cons, List.sum_cons, h, dot]
theorem F_dot_of_ok {d e : D} {is js : List Int} (hd : isInts d is) (he : isInts e js) (hl : is.length ≤ sizeLine) (hb : ∀ i ∈ is, -(2 ^ 64) < i ∧ i < 2 ^ 64) (st : List SO) : F_dot_of [d, e] st = .ok (.int (dot is js)) st := by
  have hm := dComp_pure (src := iZip (aCons (dVar 0) (aCons (dVar 1) aNil))) (vs := [2, 3]) (g := gTp 2 (gsCons (gNm 2) (gsCons (gNm 3) gsNil))) (f := fun d => (match d with | .tup [.int a, .int b] => D.int (a * b) | _ => D.non)) (e := dBin fMul (dVar 2) (dVar 3)) (s := ⟨[some d, some e, none, none], st, st.length⟩) (s1 := ⟨[some d, some e, none, none], st, st.length⟩) (ds := zipD (is.map D.int) (js.map D.int))
    (by rcases hd.cases with rfl | rfl <;> rcases he.cases with rfl | rfl <;> simp [runF, endF, finF, sRet, sSeq, sIf, sSet, sNil, sRaise1, sDrop, sRetN, dVar, dC, dBin, dUn, dCB, dCall, dCallK, dTest, dAnd, dOr, dNot, dAndV_eq, dOrV_eq, kAnd_bl, kOr_bl, dNotV, dIf, dTup, dLst, dFz, dSl, oNone, oSome, aNil, aCons, Out.bind, ans, ansF, ansI, f2I, fIsN, fNotN, DL.isNon, dAttr, bindU, iSeq, srcD, fEq_int, fNe_int, isSq, cLen, getS, getL, getT, cAll, DL.iZip, D.isSeq]) (by simp [runF, endF, finF, sRet, sSeq, sIf, sSet, sNil, sRaise1, sDrop, sRetN, dVar, dC, dBin, dUn, dCB, dCall, dCallK, dTest, dAnd, dOr, dNot, dAndV_eq, dOrV_eq, kAnd_bl, kOr_bl, dNotV, dIf, dTup, dLst, dFz, dSl, oNone, oSome, aNil, aCons, Out.bind, ans, ansF, ansI, f2I, fIsN, fNotN, DL.isNon, dAttr, bindU, iSeq, srcD, fEq_int, fNe_int, isSq, cLen, getS, getL, getT, cAll, zipD]; omega) (fun y hy => by
      obtain ⟨i, hi, rfl⟩ := List.getElem_of_mem hy
      have hq : (zipD (is.map D.int) (js.map D.int))[i]? = some _ := List.getElem?_eq_getElem hi
      obtain ⟨x, y, h1, h2, h3⟩ := zipD_get hq
      rw [List.getElem?_map] at h1 h2
      obtain ⟨a, ha, rfl⟩ := Option.map_eq_some_iff.mp h1
      obtain ⟨b, hb', rfl⟩ := Option.map_eq_some_iff.mp h2
      rw [h3]
      have hm : mulOk a b = true := by
        unfold mulOk
        rw [decide_eq_true (hb a (List.mem_of_getElem? ha)), Bool.true_or, Bool.true_or]
      exact ⟨⟨[some d, some e, some (.int a), some (.int b)], st, st.length⟩, ⟨[some d, some e, some (.int a), some (.int b)], st, st.length⟩, by simp [runF, endF, finF, sRet, sSeq, sIf, sSet, sNil, sRaise1, sDrop, sRetN, dVar, dC, dBin, dUn, dCB, dCall, dCallK, dTest, dAnd, dOr, dNot, dAndV_eq, dOrV_eq, kAnd_bl, kOr_bl, dNotV, dIf, dTup, dLst, dFz, dSl, oNone, oSome, aNil, aCons, Out.bind, ans, ansF, ansI, f2I, fIsN, fNotN, DL.isNon, dAttr, bindU, iSeq, srcD, fEq_int, fNe_int, isSq, cLen, getS, getL, getT, cAll, gTp, gsCons, gsNil, gNm, wipeS], by simp [runF, endF, finF, sRet, sSeq, sIf, sSet, sNil, sRaise1, sDrop, sRetN, dVar, dC, dBin, dUn, dCB, dCall, dCallK, dTest, dAnd, dOr, dNot, dAndV_eq, dOrV_eq, kAnd_bl, kOr_bl, dNotV, dIf, dTup, dLst, dFz, dSl, oNone, oSome, aNil, aCons, Out.bind, ans, ansF, ansI, f2I, fIsN, fNotN, DL.isNon, dAttr, bindU, iSeq, srcD, fEq_int, fNe_int, isSq, cLen, getS, getL, getT, cAll, hm], by simp [runF, endF, finF, sRet, sSeq, sIf, sSet, sNil, sRaise1, sDrop, sRetN, dVar, dC, dBin, dUn, dCB, dCall, dCallK, dTest, dAnd, dOr, dNot, dAndV_eq, dOrV_eq, kAnd_bl, kOr_bl, dNotV, dIf, dTup, dLst, dFz, dSl, oNone, oSome, aNil, aCons, Out.bind, ans, ansF, ansI, f2I, fIsN, fNotN, DL.isNon, dAttr, bindU, iSeq, srcD, fEq_int, fNe_int, isSq, cLen, getS, getL, getT, cAll, wipeS]⟩)
  rw [zip_dot _ (fun a b => rfl)] at hm
  have hs := dot_sum is js
  generalize ((is.zip js).map fun p => p.1 * p.2) = ms at hm hs
  simp [runF, endF, finF, sRet, sSeq, sIf, sSet, sNil, sRaise1, sDrop, sRetN, dVar, dC, dBin, dUn, dCB, dCall, dCallK, dTest, dAnd, dOr, dNot, dAndV_eq, dOrV_eq, kAnd_bl, kOr_bl, dNotV, dIf, dTup, dLst, dFz, dSl, oNone, oSome, aNil, aCons, Out.bind, ans, ansF, ansI, f2I, fIsN, fNotN, DL.isNon, dAttr, bindU, iSeq, srcD, fEq_int, fNe_int, isSq, cLen, getS, getL, getT, cAll, F_dot_of, den_dot_of, -List.map_map, hm, cSum, asInts_map, hs]
/-! ### signs -/
def sgn (i : Int) : Int := if 0 < i then 1 else if i < 0 then -1 else 0
theorem F_sign_of_ok (n : Int) (st : List SO) : F_sign_of [.int n] st = .ok (.int (sgn n)) st := by
  by_cases c : 0 < n
  · have c2 : ¬ n < 0 := by omega
    simp [runF, endF, finF, sRet, sSeq, sIf, sSet, sNil, sRaise1, sDrop, sRetN, dVar, dC, dBin, dUn, dCB, dCall, dCallK, dTest, dAnd, dOr, dNot, dAndV_eq, dOrV_eq, kAnd_bl, kOr_bl, dNotV, dIf, dTup, dLst, dFz, dSl, oNone, oSome, aNil, aCons, Out.bind, ans, ansF, ansI, f2I, fIsN, fNotN, DL.isNon, dAttr, bindU, iSeq, srcD, fEq_int, fNe_int, isSq, cLen, getS, getL, getT, cAll, F_sign_of, den_sign_of, cInt, c, c2, sgn]
  · by_cases c2 : n < 0 <;> simp [runF, endF, finF, sRet, sSeq, sIf, sSet, sNil, sRaise1, sDrop, sRetN, dVar, dC, dBin, dUn, dCB, dCall, dCallK, dTest, dAnd, dOr, dNot, dAndV_eq, dOrV_eq, kAnd_bl, kOr_bl, dNotV, dIf, dTup, dLst, dFz, dSl, oNone, oSome, aNil, aCons, Out.bind, ans, ansF, ansI, f2I, fIsN, fNotN, DL.isNon, dAttr, bindU, iSeq, srcD, fEq_int, fNe_int, isSq, cLen, getS, getL, getT, cAll, F_sign_of, den_sign_of, cInt, c, c2, sgn]
theorem log2_of {n k : Nat} (h : n < 2 ^ k) (hk : 0 < k) : n.log2 < k := by
  by_cases h0 : n = 0
  · subst h0; simpa [runF, endF, finF, sRet, sSeq, sIf, sSet, sNil, sRaise1, sDrop, sRetN, dVar, dC, dBin, dUn, dCB, dCall, dCallK, dTest, dAnd, dOr, dNot, dAndV_eq, dOrV_eq, kAnd_bl, kOr_bl, dNotV, dIf, dTup, dLst, dFz, dSl, oNone, oSome, aNil, aCons, Out.bind, ans, ansF, ansI, f2I, fIsN, fNotN, DL.isNon, dAttr, bindU, iSeq, srcD, fEq_int, fNe_int, isSq, cLen, getS, getL, getT, cAll] using hk
  · exact (Nat.log2_lt h0).mpr h
theorem mulOk_of {i k : Int} {m n : Nat} (h1 : i.natAbs < 2 ^ m) (h2 : k.natAbs < 2 ^ n) (hm : 0 < m) (hn : 0 < n) (h : m + n ≤ 1000000) : mulOk i k = true := by
  unfold mulOk
  have a := log2_of h1 hm
  have b := log2_of h2 hn
  rw [show decide (i.natAbs.log2 + k.natAbs.log2 < 1000000) = true from decide_eq_true (by omega), Bool.or_true]
theorem abs_mul {i k : Int} {m n : Nat} (h1 : i.natAbs < 2 ^ m) (h2 : k.natAbs < 2 ^ n) : (i * k).natAbs < 2 ^ (m + n) := by
  rw [Int.natAbs_mul, Nat.pow_add]
  exact Nat.mul_lt_mul'' h1 h2
def surd (a b u : Int) : Int := if sgn a = sgn b * sgn u ∨ sgn b * sgn u = 0 then sgn a else if sgn a = 0 then sgn b * sgn u else sgn a * sgn (a * a - b * b * u)
theorem sgn_small (i : Int) : -(2 ^ 64) < sgn i ∧ sgn i < 2 ^ 64 := by unfold sgn; split <;> (try split) <;> omega
theorem mulOk_sgn (i k : Int) : mulOk (sgn i) k = true := by
  unfold mulOk
  rw [decide_eq_true (sgn_small i), Bool.true_or, Bool.true_or]
theorem F_surd_sign_of_ok {a b u : Int} (ha : a.natAbs < 2 ^ 10000) (hb : b.natAbs < 2 ^ 10000) (hu : u.natAbs < 2 ^ 10000) (st : List SO) : F_surd_sign_of [.int a, .int b, .int u] st = .ok (.int (surd a b u)) st := by
  have m1 : mulOk a a = true := mulOk_of ha ha (by omega) (by omega) (by omega)
  have m2 : mulOk b b = true := mulOk_of hb hb (by omega) (by omega) (by omega)
  have m3 : mulOk (b * b) u = true := mulOk_of (abs_mul hb hb) hu (by omega) (by omega) (by omega)
  have m4 : mulOk (sgn b) (sgn u) = true := mulOk_sgn b _
  have m5 : mulOk (sgn a) (sgn (a * a - b * b * u)) = true := mulOk_sgn a _
  by_cases c1 : sgn a = sgn b * sgn u
  · simp [runF, endF, finF, sRet, sSeq, sIf, sSet, sNil, sRaise1, sDrop, sRetN, dVar, dC, dBin, dUn, dCB, dCall, dCallK, dTest, dAnd, dOr, dNot, dAndV_eq, dOrV_eq, kAnd_bl, kOr_bl, dNotV, dIf, dTup, dLst, dFz, dSl, oNone, oSome, aNil, aCons, Out.bind, ans, ansF, ansI, f2I, fIsN, fNotN, DL.isNon, dAttr, bindU, iSeq, srcD, fEq_int, fNe_int, isSq, cLen, getS, getL, getT, cAll, F_surd_sign_of, den_surd_sign_of, sPar, F_sign_of_ok, m4, c1, surd]
  · by_cases c2 : sgn b * sgn u = 0
    · simp [runF, endF, finF, sRet, sSeq, sIf, sSet, sNil, sRaise1, sDrop, sRetN, dVar, dC, dBin, dUn, dCB, dCall, dCallK, dTest, dAnd, dOr, dNot, dAndV_eq, dOrV_eq, kAnd_bl, kOr_bl, dNotV, dIf, dTup, dLst, dFz, dSl, oNone, oSome, aNil, aCons, Out.bind, ans, ansF, ansI, f2I, fIsN, fNotN, DL.isNon, dAttr, bindU, iSeq, srcD, fEq_int, fNe_int, isSq, cLen, getS, getL, getT, cAll, F_surd_sign_of, den_surd_sign_of, sPar, F_sign_of_ok, m4, c1, c2, surd]
    · by_cases c3 : sgn a = 0
      · have c1' : ¬ (0 = sgn b * sgn u) := by rw [← c3]; exact c1
        simp [runF, endF, finF, sRet, sSeq, sIf, sSet, sNil, sRaise1, sDrop, sRetN, dVar, dC, dBin, dUn, dCB, dCall, dCallK, dTest, dAnd, dOr, dNot, dAndV_eq, dOrV_eq, kAnd_bl, kOr_bl, dNotV, dIf, dTup, dLst, dFz, dSl, oNone, oSome, aNil, aCons, Out.bind, ans, ansF, ansI, f2I, fIsN, fNotN, DL.isNon, dAttr, bindU, iSeq, srcD, fEq_int, fNe_int, isSq, cLen, getS, getL, getT, cAll, F_surd_sign_of, den_surd_sign_of, sPar, F_sign_of_ok, m4, c1', c2, c3, surd]
      · simp [runF, endF, finF, sRet, sSeq, sIf, sSet, sNil, sRaise1, sDrop, sRetN, dVar, dC, dBin, dUn, dCB, dCall, dCallK, dTest, dAnd, dOr, dNot, dAndV_eq, dOrV_eq, kAnd_bl, kOr_bl, dNotV, dIf, dTup, dLst, dFz, dSl, oNone, oSome, aNil, aCons, Out.bind, ans, ansF, ansI, f2I, fIsN, fNotN, DL.isNon, dAttr, bindU, iSeq, srcD, fEq_int, fNe_int, isSq, cLen, getS, getL, getT, cAll, F_surd_sign_of, den_surd_sign_of, sPar, F_sign_of_ok, m1, m2, m3, m4, m5, c1, c2, c3, surd]
/-! ### places -/
theorem pos3 {α : Type} (x y z : α) : ∃ l, l = [x, y, z] := ⟨_, rfl⟩
/-- a triple of data, as a list or a tuple -/
def is3 (d : D) (x y z : D) : Prop := seqD d = some [x, y, z]
theorem is3.cases {d x y z : D} (h : is3 d x y z) : d = .tup [x, y, z] ∨ d = .lst [x, y, z] := by
  unfold is3 seqD at h
  split at h
  · cases h; exact .inl rfl
  · cases h; exact .inr rfl
  · cases h
theorem F_sign_there_ok {d s0 s1 r : D} {u : Int} {as bs rs : List Int} (hd : is3 d s0 s1 (.int u)) (h0 : isInts s0 as) (h1 : isInts s1 bs) (hr : isInts r rs) (hl : rs.length ≤ sizeLine) (hb : ∀ i ∈ rs, -(2 ^ 64) < i ∧ i < 2 ^ 64)
    (ha : (dot rs as).natAbs < 2 ^ 10000) (hc : (dot rs bs).natAbs < 2 ^ 10000) (hu : u.natAbs < 2 ^ 10000) (st : List SO) : F_sign_there [d, r] st = .ok (.int (surd (dot rs as) (dot rs bs) u)) st := by
  have e1 := F_dot_of_ok hr h0 hl hb st
  have e2 := F_dot_of_ok hr h1 hl hb st
  rcases hd.cases with rfl | rfl <;> simp [runF, endF, finF, sRet, sSeq, sIf, sSet, sNil, sRaise1, sDrop, sRetN, dVar, dC, dBin, dUn, dCB, dCall, dCallK, dTest, dAnd, dOr, dNot, dAndV_eq, dOrV_eq, kAnd_bl, kOr_bl, dNotV, dIf, dTup, dLst, dFz, dSl, oNone, oSome, aNil, aCons, Out.bind, ans, ansF, ansI, f2I, fIsN, fNotN, DL.isNon, dAttr, bindU, iSeq, srcD, fEq_int, fNe_int, isSq, cLen, getS, getL, getT, cAll, F_sign_there, den_sign_there, sAsg, gTp, gsCons, gsNil, gNm, e1, e2, F_surd_sign_of_ok ha hc hu]
theorem F_surd_sign_ok {a b u : Int} (h : 0 ≤ u) (ha : a.natAbs < 2 ^ 10000) (hb : b.natAbs < 2 ^ 10000) (hu : u.natAbs < 2 ^ 10000) (st : List SO) : F_surd_sign [.int a, .int b, .int u] st = .ok (.int (surd a b u)) st := by
  have e1 := F_need_integer_ok (d := .int a) (p := .str "one") rfl none st
  have e2 := F_need_integer_ok (d := .int b) (p := .str "other") rfl none st
  have e3 := F_need_integer_ok (d := .int u) (p := .str "under") rfl (some 0) st
  simp [runF, endF, finF, sRet, sSeq, sIf, sSet, sNil, sRaise1, sDrop, sRetN, dVar, dC, dBin, dUn, dCB, dCall, dCallK, dTest, dAnd, dOr, dNot, dAndV_eq, dOrV_eq, kAnd_bl, kOr_bl, dNotV, dIf, dTup, dLst, dFz, dSl, oNone, oSome, aNil, aCons, Out.bind, ans, ansF, ansI, f2I, fIsN, fNotN, DL.isNon, dAttr, bindU, iSeq, srcD, fEq_int, fNe_int, isSq, cLen, getS, getL, getT, cAll, wit, oD, h] at e1 e2 e3
  simp [runF, endF, finF, sRet, sSeq, sIf, sSet, sNil, sRaise1, sDrop, sRetN, dVar, dC, dBin, dUn, dCB, dCall, dCallK, dTest, dAnd, dOr, dNot, dAndV_eq, dOrV_eq, kAnd_bl, kOr_bl, dNotV, dIf, dTup, dLst, dFz, dSl, oNone, oSome, aNil, aCons, Out.bind, ans, ansF, ansI, f2I, fIsN, fNotN, DL.isNon, dAttr, bindU, iSeq, srcD, fEq_int, fNe_int, isSq, cLen, getS, getL, getT, cAll, F_surd_sign, den_surd_sign, e1, e2, e3, F_surd_sign_of_ok ha hb hu]
theorem F_surd_sign_bad1 {a b u : D} (h : pl a = true) (hb : wit a none = false) (st : List SO) : F_surd_sign [a, b, u] st = .er ⟨"BadNumber", ["part"], [.str "one"]⟩ st := by
  have e1 := F_need_integer_ok (p := .str "one") h none st
  simp [runF, endF, finF, sRet, sSeq, sIf, sSet, sNil, sRaise1, sDrop, sRetN, dVar, dC, dBin, dUn, dCB, dCall, dCallK, dTest, dAnd, dOr, dNot, dAndV_eq, dOrV_eq, kAnd_bl, kOr_bl, dNotV, dIf, dTup, dLst, dFz, dSl, oNone, oSome, aNil, aCons, Out.bind, ans, ansF, ansI, f2I, fIsN, fNotN, DL.isNon, dAttr, bindU, iSeq, srcD, fEq_int, fNe_int, isSq, cLen, getS, getL, getT, cAll, hb, oD] at e1
  simp [runF, endF, finF, sRet, sSeq, sIf, sSet, sNil, sRaise1, sDrop, sRetN, dVar, dC, dBin, dUn, dCB, dCall, dCallK, dTest, dAnd, dOr, dNot, dAndV_eq, dOrV_eq, kAnd_bl, kOr_bl, dNotV, dIf, dTup, dLst, dFz, dSl, oNone, oSome, aNil, aCons, Out.bind, ans, ansF, ansI, f2I, fIsN, fNotN, DL.isNon, dAttr, bindU, iSeq, srcD, fEq_int, fNe_int, isSq, cLen, getS, getL, getT, cAll, F_surd_sign, den_surd_sign, e1]
theorem F_surd_sign_bad2 {i : Int} {b u : D} (h : pl b = true) (hb : wit b none = false) (st : List SO) : F_surd_sign [.int i, b, u] st = .er ⟨"BadNumber", ["part"], [.str "other"]⟩ st := by
  have e1 := F_need_integer_ok (d := .int i) (p := .str "one") rfl none st
  have e2 := F_need_integer_ok (p := .str "other") h none st
  simp [runF, endF, finF, sRet, sSeq, sIf, sSet, sNil, sRaise1, sDrop, sRetN, dVar, dC, dBin, dUn, dCB, dCall, dCallK, dTest, dAnd, dOr, dNot, dAndV_eq, dOrV_eq, kAnd_bl, kOr_bl, dNotV, dIf, dTup, dLst, dFz, dSl, oNone, oSome, aNil, aCons, Out.bind, ans, ansF, ansI, f2I, fIsN, fNotN, DL.isNon, dAttr, bindU, iSeq, srcD, fEq_int, fNe_int, isSq, cLen, getS, getL, getT, cAll, wit, oD] at e1
  simp [runF, endF, finF, sRet, sSeq, sIf, sSet, sNil, sRaise1, sDrop, sRetN, dVar, dC, dBin, dUn, dCB, dCall, dCallK, dTest, dAnd, dOr, dNot, dAndV_eq, dOrV_eq, kAnd_bl, kOr_bl, dNotV, dIf, dTup, dLst, dFz, dSl, oNone, oSome, aNil, aCons, Out.bind, ans, ansF, ansI, f2I, fIsN, fNotN, DL.isNon, dAttr, bindU, iSeq, srcD, fEq_int, fNe_int, isSq, cLen, getS, getL, getT, cAll, hb, oD] at e2
  simp [runF, endF, finF, sRet, sSeq, sIf, sSet, sNil, sRaise1, sDrop, sRetN, dVar, dC, dBin, dUn, dCB, dCall, dCallK, dTest, dAnd, dOr, dNot, dAndV_eq, dOrV_eq, kAnd_bl, kOr_bl, dNotV, dIf, dTup, dLst, dFz, dSl, oNone, oSome, aNil, aCons, Out.bind, ans, ansF, ansI, f2I, fIsN, fNotN, DL.isNon, dAttr, bindU, iSeq, srcD, fEq_int, fNe_int, isSq, cLen, getS, getL, getT, cAll, F_surd_sign, den_surd_sign, e1, e2]
theorem F_surd_sign_bad3 {i k : Int} {u : D} (h : pl u = true) (hb : wit u (some 0) = false) (st : List SO) : F_surd_sign [.int i, .int k, u] st = .er ⟨"BadNumber", ["part"], [.str "under"]⟩ st := by
  have e1 := F_need_integer_ok (d := .int i) (p := .str "one") rfl none st
  have e2 := F_need_integer_ok (d := .int k) (p := .str "other") rfl none st
  have e3 := F_need_integer_ok (p := .str "under") h (some 0) st
  simp [runF, endF, finF, sRet, sSeq, sIf, sSet, sNil, sRaise1, sDrop, sRetN, dVar, dC, dBin, dUn, dCB, dCall, dCallK, dTest, dAnd, dOr, dNot, dAndV_eq, dOrV_eq, kAnd_bl, kOr_bl, dNotV, dIf, dTup, dLst, dFz, dSl, oNone, oSome, aNil, aCons, Out.bind, ans, ansF, ansI, f2I, fIsN, fNotN, DL.isNon, dAttr, bindU, iSeq, srcD, fEq_int, fNe_int, isSq, cLen, getS, getL, getT, cAll, wit, oD] at e1 e2
  simp [runF, endF, finF, sRet, sSeq, sIf, sSet, sNil, sRaise1, sDrop, sRetN, dVar, dC, dBin, dUn, dCB, dCall, dCallK, dTest, dAnd, dOr, dNot, dAndV_eq, dOrV_eq, kAnd_bl, kOr_bl, dNotV, dIf, dTup, dLst, dFz, dSl, oNone, oSome, aNil, aCons, Out.bind, ans, ansF, ansI, f2I, fIsN, fNotN, DL.isNon, dAttr, bindU, iSeq, srcD, fEq_int, fNe_int, isSq, cLen, getS, getL, getT, cAll, hb, oD] at e3
  simp [runF, endF, finF, sRet, sSeq, sIf, sSet, sNil, sRaise1, sDrop, sRetN, dVar, dC, dBin, dUn, dCB, dCall, dCallK, dTest, dAnd, dOr, dNot, dAndV_eq, dOrV_eq, kAnd_bl, kOr_bl, dNotV, dIf, dTup, dLst, dFz, dSl, oNone, oSome, aNil, aCons, Out.bind, ans, ansF, ansI, f2I, fIsN, fNotN, DL.isNon, dAttr, bindU, iSeq, srcD, fEq_int, fNe_int, isSq, cLen, getS, getL, getT, cAll, F_surd_sign, den_surd_sign, e1, e2, e3]
/-- flat enough: a datum whose items are plain -/
def pl2 (d : D) : Bool := pl d && (match seqD d with
  | some ds => ds.all pl && decide (ds.length ≤ sizeLine)
  | none => true)
theorem pl2_pl {d : D} (h : pl2 d = true) : pl d = true := (Bool.and_eq_true_iff.mp h).1
theorem pl2_in {d : D} (h : pl2 d = true) : ∀ ds, seqD d = some ds → ds.all pl = true ∧ ds.length ≤ sizeLine := fun ds e => by
  have h2 := (Bool.and_eq_true_iff.mp h).2
  rw [e] at h2
  obtain ⟨h3, h4⟩ := Bool.and_eq_true_iff.mp h2
  exact ⟨h3, of_decide_eq_true h4⟩
def nnI : D → Bool
  | .int u => decide (0 ≤ u)
  | _ => false
theorem F_is_place_3 {d x y z : D} (hd : is3 d x y z) (hx : pl2 x = true) (hy : pl2 y = true) (hz : pl z = true) (st : List SO) : F_is_place [d] st = .ok (.bl (areInts x 3 && areInts y 3 && nnI z)) st := by
  have ex := F_are_integers_ok (pl2_pl hx) 3 st (pl2_in hx)
  have ey := F_are_integers_ok (pl2_pl hy) 3 st (pl2_in hy)
  have e := F_is_listed_ok (d := d) (by rcases hd.cases with rfl | rfl <;> rfl) st
  have hm := dComp_map (src := iSeq (dSl (dVar 0) (oNone) (oSome (dC (.int 2))))) (i := 1) (f := fun d => .bl (areInts d 3)) (e := dCall 2 F_are_integers [] (aCons (dVar 1) (aCons (dC (.int 3)) (aNil)))) (s := ⟨[some d, none], st, st.length⟩) (s1 := ⟨[some d, none], st, st.length⟩) (ds := [x, y])
    (by rcases hd.cases with rfl | rfl <;> simp [runF, endF, finF, sRet, sSeq, sIf, sSet, sNil, sRaise1, sDrop, sRetN, dVar, dC, dBin, dUn, dCB, dCall, dCallK, dTest, dAnd, dOr, dNot, dAndV_eq, dOrV_eq, kAnd_bl, kOr_bl, dNotV, dIf, dTup, dLst, dFz, dSl, oNone, oSome, aNil, aCons, Out.bind, ans, ansF, ansI, f2I, fIsN, fNotN, DL.isNon, dAttr, bindU, iSeq, srcD, fEq_int, fNe_int, isSq, cLen, getS, getL, getT, cAll, sliD, HT.sIx, DL.cutD]) (by simp [runF, endF, finF, sRet, sSeq, sIf, sSet, sNil, sRaise1, sDrop, sRetN, dVar, dC, dBin, dUn, dCB, dCall, dCallK, dTest, dAnd, dOr, dNot, dAndV_eq, dOrV_eq, kAnd_bl, kOr_bl, dNotV, dIf, dTup, dLst, dFz, dSl, oNone, oSome, aNil, aCons, Out.bind, ans, ansF, ansI, f2I, fIsN, fNotN, DL.isNon, dAttr, bindU, iSeq, srcD, fEq_int, fNe_int, isSq, cLen, getS, getL, getT, cAll]) (by simp [runF, endF, finF, sRet, sSeq, sIf, sSet, sNil, sRaise1, sDrop, sRetN, dVar, dC, dBin, dUn, dCB, dCall, dCallK, dTest, dAnd, dOr, dNot, dAndV_eq, dOrV_eq, kAnd_bl, kOr_bl, dNotV, dIf, dTup, dLst, dFz, dSl, oNone, oSome, aNil, aCons, Out.bind, ans, ansF, ansI, f2I, fIsN, fNotN, DL.isNon, dAttr, bindU, iSeq, srcD, fEq_int, fNe_int, isSq, cLen, getS, getL, getT, cAll, sizeLine_eq]) (fun r hr => by
      have hr' : r = x ∨ r = y := by simpa [runF, endF, finF, sRet, sSeq, sIf, sSet, sNil, sRaise1, sDrop, sRetN, dVar, dC, dBin, dUn, dCB, dCall, dCallK, dTest, dAnd, dOr, dNot, dAndV_eq, dOrV_eq, kAnd_bl, kOr_bl, dNotV, dIf, dTup, dLst, dFz, dSl, oNone, oSome, aNil, aCons, Out.bind, ans, ansF, ansI, f2I, fIsN, fNotN, DL.isNon, dAttr, bindU, iSeq, srcD, fEq_int, fNe_int, isSq, cLen, getS, getL, getT, cAll] using hr
      rcases hr' with rfl | rfl
      · simp [runF, endF, finF, sRet, sSeq, sIf, sSet, sNil, sRaise1, sDrop, sRetN, dVar, dC, dBin, dUn, dCB, dCall, dCallK, dTest, dAnd, dOr, dNot, dAndV_eq, dOrV_eq, kAnd_bl, kOr_bl, dNotV, dIf, dTup, dLst, dFz, dSl, oNone, oSome, aNil, aCons, Out.bind, ans, ansF, ansI, f2I, fIsN, fNotN, DL.isNon, dAttr, bindU, iSeq, srcD, fEq_int, fNe_int, isSq, cLen, getS, getL, getT, cAll, ex]
      · simp [runF, endF, finF, sRet, sSeq, sIf, sSet, sNil, sRaise1, sDrop, sRetN, dVar, dC, dBin, dUn, dCB, dCall, dCallK, dTest, dAnd, dOr, dNot, dAndV_eq, dOrV_eq, kAnd_bl, kOr_bl, dNotV, dIf, dTup, dLst, dFz, dSl, oNone, oSome, aNil, aCons, Out.bind, ans, ansF, ansI, f2I, fIsN, fNotN, DL.isNon, dAttr, bindU, iSeq, srcD, fEq_int, fNe_int, isSq, cLen, getS, getL, getT, cAll, ey])
  have hl : isSq d = true := by rcases hd.cases with rfl | rfl <;> rfl
  rw [hl] at e
  cases h1 : areInts x 3 <;> cases h2 : areInts y 3 <;> cases z <;> first
    | (cases hz; done)
    | (rcases hd.cases with rfl | rfl <;> simp [runF, endF, finF, sRet, sSeq, sIf, sSet, sNil, sRaise1, sDrop, sRetN, dVar, dC, dBin, dUn, dCB, dCall, dCallK, dTest, dAnd, dOr, dNot, dAndV_eq, dOrV_eq, kAnd_bl, kOr_bl, dNotV, dIf, dTup, dLst, dFz, dSl, oNone, oSome, aNil, aCons, Out.bind, ans, ansF, ansI, f2I, fIsN, fNotN, DL.isNon, dAttr, bindU, iSeq, srcD, fEq_int, fNe_int, isSq, cLen, getS, getL, getT, cAll, F_is_place, den_is_place, e, hm, h1, h2, asBools, nnI, fIx, L2.atI, L2.ixN, cIsi, tyW, isIn, isW, tyMs, isB])
theorem F_is_place_not {d : D} (h : pl d = true) (hd : isSq d = false) (st : List SO) : F_is_place [d] st = .ok (.bl false) st := by
  have e := F_is_listed_ok h st
  rw [hd] at e
  simp [runF, endF, finF, sRet, sSeq, sIf, sSet, sNil, sRaise1, sDrop, sRetN, dVar, dC, dBin, dUn, dCB, dCall, dCallK, dTest, dAnd, dOr, dNot, dAndV_eq, dOrV_eq, kAnd_bl, kOr_bl, dNotV, dIf, dTup, dLst, dFz, dSl, oNone, oSome, aNil, aCons, Out.bind, ans, ansF, ansI, f2I, fIsN, fNotN, DL.isNon, dAttr, bindU, iSeq, srcD, fEq_int, fNe_int, isSq, cLen, getS, getL, getT, cAll, F_is_place, den_is_place, e]
theorem F_is_place_len {d : D} {ds : List D} (h : seqD d = some ds) (hn : ds.length ≠ 3) (st : List SO) : F_is_place [d] st = .ok (.bl false) st := by
  have hn' : ¬ ((ds.length : Int) = 3) := by omega
  cases d with
  | tup es => cases h; have e := F_is_listed_ok (d := .tup ds) rfl st; simp [runF, endF, finF, sRet, sSeq, sIf, sSet, sNil, sRaise1, sDrop, sRetN, dVar, dC, dBin, dUn, dCB, dCall, dCallK, dTest, dAnd, dOr, dNot, dAndV_eq, dOrV_eq, kAnd_bl, kOr_bl, dNotV, dIf, dTup, dLst, dFz, dSl, oNone, oSome, aNil, aCons, Out.bind, ans, ansF, ansI, f2I, fIsN, fNotN, DL.isNon, dAttr, bindU, iSeq, srcD, fEq_int, fNe_int, isSq, cLen, getS, getL, getT, cAll, F_is_place, den_is_place, e, hn']
  | lst es => cases h; have e := F_is_listed_ok (d := .lst ds) rfl st; simp [runF, endF, finF, sRet, sSeq, sIf, sSet, sNil, sRaise1, sDrop, sRetN, dVar, dC, dBin, dUn, dCB, dCall, dCallK, dTest, dAnd, dOr, dNot, dAndV_eq, dOrV_eq, kAnd_bl, kOr_bl, dNotV, dIf, dTup, dLst, dFz, dSl, oNone, oSome, aNil, aCons, Out.bind, ans, ansF, ansI, f2I, fIsN, fNotN, DL.isNon, dAttr, bindU, iSeq, srcD, fEq_int, fNe_int, isSq, cLen, getS, getL, getT, cAll, F_is_place, den_is_place, e, hn']
  | _ => cases h
theorem F_sign_at_bad {d r : D} {st : List SO} (h : F_is_place [d] st = .ok (.bl false) st) : F_sign_at [d, r] st = .er ⟨"BadRow", ["part"], [.str "place"]⟩ st := by
  simp [runF, endF, finF, sRet, sSeq, sIf, sSet, sNil, sRaise1, sDrop, sRetN, dVar, dC, dBin, dUn, dCB, dCall, dCallK, dTest, dAnd, dOr, dNot, dAndV_eq, dOrV_eq, kAnd_bl, kOr_bl, dNotV, dIf, dTup, dLst, dFz, dSl, oNone, oSome, aNil, aCons, Out.bind, ans, ansF, ansI, f2I, fIsN, fNotN, DL.isNon, dAttr, bindU, iSeq, srcD, fEq_int, fNe_int, isSq, cLen, getS, getL, getT, cAll, F_sign_at, den_sign_at, h]
theorem F_sign_at_row {d r : D} {st : List SO} {x : Exn} (h : F_is_place [d] st = .ok (.bl true) st) (h2 : F_row_told [r, .int 3, .str "row"] st = .er x st) : F_sign_at [d, r] st = .er x st := by
  simp [runF, endF, finF, sRet, sSeq, sIf, sSet, sNil, sRaise1, sDrop, sRetN, dVar, dC, dBin, dUn, dCB, dCall, dCallK, dTest, dAnd, dOr, dNot, dAndV_eq, dOrV_eq, kAnd_bl, kOr_bl, dNotV, dIf, dTup, dLst, dFz, dSl, oNone, oSome, aNil, aCons, Out.bind, ans, ansF, ansI, f2I, fIsN, fNotN, DL.isNon, dAttr, bindU, iSeq, srcD, fEq_int, fNe_int, isSq, cLen, getS, getL, getT, cAll, F_sign_at, den_sign_at, h, h2]
theorem F_sign_at_ok {d r r2 a : D} {st : List SO} (h : F_is_place [d] st = .ok (.bl true) st) (h2 : F_row_told [r, .int 3, .str "row"] st = .ok r2 st) (h3 : F_sign_there [d, r2] st = .ok a st) : F_sign_at [d, r] st = .ok a st := by
  simp [runF, endF, finF, sRet, sSeq, sIf, sSet, sNil, sRaise1, sDrop, sRetN, dVar, dC, dBin, dUn, dCB, dCall, dCallK, dTest, dAnd, dOr, dNot, dAndV_eq, dOrV_eq, kAnd_bl, kOr_bl, dNotV, dIf, dTup, dLst, dFz, dSl, oNone, oSome, aNil, aCons, Out.bind, ans, ansF, ansI, f2I, fIsN, fNotN, DL.isNon, dAttr, bindU, iSeq, srcD, fEq_int, fNe_int, isSq, cLen, getS, getL, getT, cAll, F_sign_at, den_sign_at, h, h2, h3]
end K75
end

section
set_option maxHeartbeats 1000000
namespace K75
open PySem PySem.Spec PyProof.Rows L2 DL
/-! ### the pen -/
theorem toPyL_ints : ∀ (is : List Int), toPyL (is.map D.int) = some (is.map PyData.int)
  | [] => by rw [List.map_nil, toPyL]; rfl
  | i :: is => by rw [List.map_cons, toPyL, toPy, toPyL_ints is]; rfl
theorem canAll_ints : ∀ (is : List Int), PyData.canLayAll0 (is.map PyData.int) = true
  | [] => rfl
  | i :: is => by rw [List.map_cons, PyData.canLayAll0, PyData.canLay0, canAll_ints is]; rfl
theorem depthAll_ints : ∀ (is : List Int), PyData.depthAll (is.map PyData.int) ≤ 1
  | [] => by simp [runF, endF, finF, sRet, sSeq, sIf, sSet, sNil, sRaise1, sDrop, sRetN, dVar, dC, dBin, dUn, dCB, dCall, dCallK, dTest, dAnd, dOr, dNot, dAndV_eq, dOrV_eq, kAnd_bl, kOr_bl, dNotV, dIf, dTup, dLst, dFz, dSl, oNone, oSome, aNil, aCons, Out.bind, ans, ansF, ansI, f2I, fIsN, fNotN, DL.isNon, dAttr, bindU, iSeq, srcD, fEq_int, fNe_int, isSq, cLen, getS, getL, getT, cAll, sAsg, gSt, cInt, cAbs, PyData.depthAll]
  | i :: is => by
    have h := depthAll_ints is
    rw [List.map_cons, PyData.depthAll, PyData.depth]
    omega
theorem shaped_ints (is : List Int) : SeqAt.shaped (.list (is.map PyData.int)) = true := by
  unfold SeqAt.shaped
  rw [PyData.canLay0, canAll_ints, Bool.true_and, PyData.depth]
  have h := depthAll_ints is
  exact decide_eq_true (by omega)
theorem fNe_nil (st : List SO) (is : List Int) : fNe st (.lst (is.map D.int)) (.lst []) = some (.bl !is.isEmpty) := by
  have h1 : topPy st (.lst (is.map D.int)) = some (.list (is.map PyData.int)) := by
    show (toPyL (is.map D.int)).map PyData.list = _
    rw [toPyL_ints]; rfl
  have h2 : topPy st (.lst []) = some (.list []) := by
    show (toPyL []).map PyData.list = _
    rw [toPyL]; rfl
  have h3 : eqD st (.lst (is.map D.int)) (.lst []) = some (PyData.eqv (.list (is.map PyData.int)) (.list [])) := by
    show (match topPy st (.lst (is.map D.int)), topPy st (.lst []) with
      | some p, some q => if SeqAt.shaped p = true ∧ SeqAt.shaped q = true then some (PyData.eqv p q) else none
      | _, _ => none) = _
    rw [h1, h2]
    exact if_pos ⟨shaped_ints is, shaped_ints []⟩
  show (eqD st (.lst (is.map D.int)) (.lst [])).map (fun b => D.bl !b) = _
  rw [h3]
  cases is with
  | nil => rfl
  | cons i is => rfl
theorem fNe_nil0 (st : List SO) : fNe st (.lst []) (.lst []) = some (.bl false) := fNe_nil st []
theorem fAdd_int (st : List SO) (i k : Int) : fAdd st (.int i) (.int k) = some (.int (i + k)) := rfl
/-- the pen stands at p: at most k numbers were drawn -/
def Pen (st : List SO) (p : Nat) (k : Nat) : Prop := ∃ (cs : List Int) (at_ gr : Int), st[p]? = some (.lst [.lst (cs.map D.int), .int at_, .int gr]) ∧ cs.length ≤ 63 ∧ 0 ≤ at_ ∧ at_ ≤ k
theorem F_pen_ok (ns : List Int) (hl : ns.length ≤ 63) (st : List SO) : F__law_pen [.scr ns] st = .ok (.ob st.length) (st ++ [.lst [.lst (ns.map D.int), .int 0, .int 0]]) := by
  have hc : DL.cutD (ns.map D.int) none (some 63) = ns.map D.int := by
    have e : min 63 ns.length = ns.length := by omega
    simp only [DL.cutD, HT.sIx]
    rw [show (if (63 : Int) < 0 then ((63 : Int) + ((ns.map D.int).length : Nat)).toNat else min (63 : Int).toNat (ns.map D.int).length) = ns.length from by simp [runF, endF, finF, sRet, sSeq, sIf, sSet, sNil, sRaise1, sDrop, sRetN, dVar, dC, dBin, dUn, dCB, dCall, dCallK, dTest, dAnd, dOr, dNot, dAndV_eq, dOrV_eq, kAnd_bl, kOr_bl, dNotV, dIf, dTup, dLst, dFz, dSl, oNone, oSome, aNil, aCons, Out.bind, ans, ansF, ansI, f2I, fIsN, fNotN, DL.isNon, dAttr, bindU, iSeq, srcD, fEq_int, fNe_int, isSq, cLen, getS, getL, getT, cAll, sAsg, gSt, cInt, cAbs, fAdd_int, e]]
    simp [runF, endF, finF, sRet, sSeq, sIf, sSet, sNil, sRaise1, sDrop, sRetN, dVar, dC, dBin, dUn, dCB, dCall, dCallK, dTest, dAnd, dOr, dNot, dAndV_eq, dOrV_eq, kAnd_bl, kOr_bl, dNotV, dIf, dTup, dLst, dFz, dSl, oNone, oSome, aNil, aCons, Out.bind, ans, ansF, ansI, f2I, fIsN, fNotN, DL.isNon, dAttr, bindU, iSeq, srcD, fEq_int, fNe_int, isSq, cLen, getS, getL, getT, cAll, sAsg, gSt, cInt, cAbs, fAdd_int, List.take_of_length_le]
  simp [runF, endF, finF, sRet, sSeq, sIf, sSet, sNil, sRaise1, sDrop, sRetN, dVar, dC, dBin, dUn, dCB, dCall, dCallK, dTest, dAnd, dOr, dNot, dAndV_eq, dOrV_eq, kAnd_bl, kOr_bl, dNotV, dIf, dTup, dLst, dFz, dSl, oNone, oSome, aNil, aCons, Out.bind, ans, ansF, ansI, f2I, fIsN, fNotN, DL.isNon, dAttr, bindU, iSeq, srcD, fEq_int, fNe_int, isSq, cLen, getS, getL, getT, cAll, sAsg, gSt, cInt, cAbs, fAdd_int, F__law_pen, den__law_pen, sliD, hc, cList, dNew, sizeLine_eq, D.lowb]
/-- the numbers that the pen mixes -/
def mixA (cell at_ : Int) : Int := ((cell % 2147483563 + 55982 * at_ + 23326) ^ 5) % 2147483587
def mixB (m at_ : Int) : Int := ((m * (2 * at_ + 1486) + 23326 * at_ * at_ + 23) ^ 3) % 2147483563
theorem mul_l {i k : Int} (h : -(2 ^ 64) < i ∧ i < 2 ^ 64) : mulOk i k = true := by
  unfold mulOk
  rw [decide_eq_true h, Bool.true_or, Bool.true_or]
theorem sq_at {a : Int} (h0 : 0 ≤ a) (h1 : a ≤ 1000000) : 0 ≤ 23326 * a * a ∧ 23326 * a * a ≤ 23326 * 1000000 * 1000000 := by
  have h2 : 0 ≤ a * a := Int.mul_nonneg h0 h0
  have h3 : a * a ≤ 1000000 * 1000000 := Int.mul_le_mul h1 h1 h0 (by omega)
  rw [Int.mul_assoc]
  omega
theorem at30 {α : Type} (x y z : α) : L2.atI [x, y, z] 0 = some x := rfl
theorem at31 {α : Type} (x y z : α) : L2.atI [x, y, z] 1 = some y := rfl
theorem at32 {α : Type} (x y z : α) : L2.atI [x, y, z] 2 = some z := rfl
theorem ix31 : L2.ixN 3 1 = some 1 := rfl
theorem ix32 : L2.ixN 3 2 = some 2 := rfl
theorem atI_ints {cs : List Int} {k : Int} (h0 : 0 ≤ k) (h1 : k < cs.length) : ∃ c, L2.atI (cs.map D.int) k = some (.int c) := by
  have hn : k.toNat < cs.length := by omega
  refine ⟨cs[k.toNat], ?_⟩
  unfold L2.atI L2.ixN
  rw [if_pos h0, if_pos (by simpa [runF, endF, finF, sRet, sSeq, sIf, sSet, sNil, sRaise1, sDrop, sRetN, dVar, dC, dBin, dUn, dCB, dCall, dCallK, dTest, dAnd, dOr, dNot, dAndV_eq, dOrV_eq, kAnd_bl, kOr_bl, dNotV, dIf, dTup, dLst, dFz, dSl, oNone, oSome, aNil, aCons, Out.bind, ans, ansF, ansI, f2I, fIsN, fNotN, DL.isNon, dAttr, bindU, iSeq, srcD, fEq_int, fNe_int, isSq, cLen, getS, getL, getT, cAll, sAsg, gSt, cInt, cAbs, fAdd_int] using h1)]
  show (cs.map D.int)[k.toNat]? = _
  rw [List.getElem?_map, List.getElem?_eq_getElem hn]
  rfl
theorem F_draw_ok {st : List SO} {p k : Nat} {b : Int} (hp : Pen st p k) (hk : k ≤ 1000000) (hb : 0 < b) (hb2 : b.natAbs.log2 < 9000) : ∃ (i : Int) (ds : List D), F__law_draw [.ob p, .int b] st = .ok (.int i) (st.set p (.lst ds)) ∧ 0 ≤ i ∧ i < b ∧ Pen (st.set p (.lst ds)) p (k + 1) := by
  obtain ⟨cs, at_, gr, hq, hl, h0, h1⟩ := hp
  have hlt : p < st.length := (List.getElem?_eq_some_iff.mp hq).1
  have hs : ∀ X : SO, (st.set p X)[p]? = some X := fun X => List.getElem?_set_self hlt
  have hdk : divOk b = true := by unfold divOk; exact decide_eq_true ⟨hb, hb2⟩
  have pen' : ∀ (a g : Int), 0 ≤ a → a ≤ at_ + 1 → Pen (st.set p (.lst [.lst (cs.map D.int), .int a, .int g])) p (k + 1) := fun a g ha ha2 => ⟨cs, a, g, by rw [List.getElem?_set_self hlt], hl, ha, by omega⟩
  have hm : ∀ x : Int, 0 ≤ x % b ∧ x % b < b := fun x => ⟨Int.emod_nonneg x (by omega), Int.emod_lt_of_pos x hb⟩
  by_cases c : 0 < gr
  · refine ⟨gr % b, [.lst (cs.map D.int), .int at_, .int (gr / b)], ?_, (hm _).1, (hm _).2, pen' _ _ h0 (by omega)⟩
    simp [runF, endF, finF, sRet, sSeq, sIf, sSet, sNil, sRaise1, sDrop, sRetN, dVar, dC, dBin, dUn, dCB, dCall, dCallK, dTest, dAnd, dOr, dNot, dAndV_eq, dOrV_eq, kAnd_bl, kOr_bl, dNotV, dIf, dTup, dLst, dFz, dSl, oNone, oSome, aNil, aCons, Out.bind, ans, ansF, ansI, f2I, fIsN, fNotN, DL.isNon, dAttr, bindU, iSeq, srcD, fEq_int, fNe_int, isSq, cLen, getS, getL, getT, cAll, sAsg, gSt, cInt, cAbs, fAdd_int, F__law_draw, den__law_draw, gSt, fIx, at30, at31, at32, ix31, ix32, hq, c, hb, hdk]
  · have hat : at_ < 2 ^ 40 := by omega
    have m1 : mulOk 55982 at_ = true := mul_l (by omega)
    have m2 : mulOk 2 at_ = true := mul_l (by omega)
    have m3 : mulOk 23326 at_ = true := mul_l (by omega)
    have m4 : mulOk (23326 * at_) at_ = true := mul_l (by omega)
    obtain ⟨q1, q2⟩ := sq_at h0 (by omega)
    have pw : (10 : Int) ^ (18 : Int).toNat = 1000000000000000000 := by decide
    have len0 : ∀ n : Nat, (0 : Int) ≤ n := fun n => by omega
    -- behind the mixing
    have mix : ∀ cell : Int, (cell % 2147483563 + 55982 * at_ + 23326).natAbs < 2 ^ 64 ∧ mulOk (mixA cell at_) (2 * at_ + 1486) = true ∧ (mixA cell at_ * (2 * at_ + 1486) + 23326 * at_ * at_ + 23).natAbs < 2 ^ 64 := fun cell => by
      have a1 : 0 ≤ cell % 2147483563 := Int.emod_nonneg _ (by omega)
      have a2 : cell % 2147483563 < 2147483563 := Int.emod_lt_of_pos _ (by omega)
      have b1 : 0 ≤ mixA cell at_ := Int.emod_nonneg _ (by omega)
      have b2 : mixA cell at_ < 2147483587 := Int.emod_lt_of_pos _ (by omega)
      have c1 : 0 ≤ mixA cell at_ * (2 * at_ + 1486) := Int.mul_nonneg b1 (by omega)
      have c2 : mixA cell at_ * (2 * at_ + 1486) ≤ 2147483587 * (2 * 1000000 + 1486) := Int.mul_le_mul (by omega) (by omega) (by omega) (by omega)
      exact ⟨by omega, mul_l (by omega), by omega⟩
    by_cases ce : cs = []
    · obtain ⟨x1, x2, x3⟩ := mix (55982 * at_ + 23326)
      have hc0 : ¬ at_ < 0 := by omega
      have d16 : divOk 16 = true := by decide
      refine ⟨(mixB (mixA (55982 * at_ + 23326) at_) at_ / 16) % b, [.lst (cs.map D.int), .int (at_ + 1), .int gr], ?_, (hm _).1, (hm _).2, pen' _ _ (by omega) (by omega)⟩
      subst ce
      simp only [List.map_nil] at hq hs ⊢
      simp only [mixA] at x2 x3
      simp [runF, endF, finF, sRet, sSeq, sIf, sSet, sNil, sRaise1, sDrop, sRetN, dVar, dC, dBin, dUn, dCB, dCall, dCallK, dTest, dAnd, dOr, dNot, dAndV_eq, dOrV_eq, kAnd_bl, kOr_bl, dNotV, dIf, dTup, dLst, dFz, dSl, oNone, oSome, aNil, aCons, Out.bind, ans, ansF, ansI, f2I, fIsN, fNotN, DL.isNon, dAttr, bindU, iSeq, srcD, fEq_int, fNe_int, isSq, cLen, getS, getL, getT, cAll, sAsg, gSt, cInt, cAbs, fAdd_int, F__law_draw, den__law_draw, gSt, fIx, at30, at31, at32, ix31, ix32, hq, hs, c, hb, hdk, fNe_nil0, m1, m2, m3, m4, hc0, pw, x1, x2, x3, d16, mixA, mixB]
    · have hlen : (0 : Int) < cs.length := by
        have := List.length_pos_iff.mpr ce
        omega
      have ha0 : 0 ≤ at_ % cs.length := Int.emod_nonneg _ (by omega)
      have ha1 : at_ % cs.length < cs.length := Int.emod_lt_of_pos _ hlen
      obtain ⟨cell, hix⟩ := atI_ints ha0 ha1
      obtain ⟨x1, x2, x3⟩ := mix cell
      have d16 : divOk 16 = true := by decide
      have hemp : cs.isEmpty = false := by simpa [runF, endF, finF, sRet, sSeq, sIf, sSet, sNil, sRaise1, sDrop, sRetN, dVar, dC, dBin, dUn, dCB, dCall, dCallK, dTest, dAnd, dOr, dNot, dAndV_eq, dOrV_eq, kAnd_bl, kOr_bl, dNotV, dIf, dTup, dLst, dFz, dSl, oNone, oSome, aNil, aCons, Out.bind, ans, ansF, ansI, f2I, fIsN, fNotN, DL.isNon, dAttr, bindU, iSeq, srcD, fEq_int, fNe_int, isSq, cLen, getS, getL, getT, cAll, sAsg, gSt, cInt, cAbs, fAdd_int] using ce
      simp only [mixA] at x2 x3
      have hne := fun st => fNe_nil st cs
      rw [hemp] at hne
      have hcl : (cs.map D.int).length = cs.length := by simp [runF, endF, finF, sRet, sSeq, sIf, sSet, sNil, sRaise1, sDrop, sRetN, dVar, dC, dBin, dUn, dCB, dCall, dCallK, dTest, dAnd, dOr, dNot, dAndV_eq, dOrV_eq, kAnd_bl, kOr_bl, dNotV, dIf, dTup, dLst, dFz, dSl, oNone, oSome, aNil, aCons, Out.bind, ans, ansF, ansI, f2I, fIsN, fNotN, DL.isNon, dAttr, bindU, iSeq, srcD, fEq_int, fNe_int, isSq, cLen, getS, getL, getT, cAll, sAsg, gSt, cInt, cAbs, fAdd_int]
      have hlenN : 0 < cs.length := List.length_pos_iff.mpr ce
      generalize hcm : cs.map D.int = cm at *
      by_cases c2 : at_ < cs.length
      · by_cases c3 : (1000000000000000000 : Int) ≤ (if cell < 0 then -cell else cell)
        · refine ⟨(2 * ((if cell < 0 then -cell else cell) - 1000000000000000000) + (if cell < 0 then 1 else 0)) % b, [.lst cm, .int (at_ + 1), .int ((2 * ((if cell < 0 then -cell else cell) - 1000000000000000000) + (if cell < 0 then 1 else 0)) / b)], ?_, (hm _).1, (hm _).2, pen' _ _ (by omega) (by omega)⟩
          have m5 : ∀ k : Int, mulOk 2 k = true := fun k => mul_l (by omega)
          by_cases c4 : cell < 0
          · simp only [c4, if_true] at c3 ⊢
            simp [runF, endF, finF, sRet, sSeq, sIf, sSet, sNil, sRaise1, sDrop, sRetN, dVar, dC, dBin, dUn, dCB, dCall, dCallK, dTest, dAnd, dOr, dNot, dAndV_eq, dOrV_eq, kAnd_bl, kOr_bl, dNotV, dIf, dTup, dLst, dFz, dSl, oNone, oSome, aNil, aCons, Out.bind, ans, ansF, ansI, f2I, fIsN, fNotN, DL.isNon, dAttr, bindU, iSeq, srcD, fEq_int, fNe_int, isSq, cLen, getS, getL, getT, cAll, sAsg, gSt, cInt, cAbs, fAdd_int, F__law_draw, den__law_draw, gSt, fIx, at30, at31, at32, ix31, ix32, hq, hs, c, hb, hdk, hne, m1, m2, m3, m4, hlenN, hix, hcl, c2, c3, c4, pw, m5]
          · simp only [c4, if_false] at c3 ⊢
            simp [runF, endF, finF, sRet, sSeq, sIf, sSet, sNil, sRaise1, sDrop, sRetN, dVar, dC, dBin, dUn, dCB, dCall, dCallK, dTest, dAnd, dOr, dNot, dAndV_eq, dOrV_eq, kAnd_bl, kOr_bl, dNotV, dIf, dTup, dLst, dFz, dSl, oNone, oSome, aNil, aCons, Out.bind, ans, ansF, ansI, f2I, fIsN, fNotN, DL.isNon, dAttr, bindU, iSeq, srcD, fEq_int, fNe_int, isSq, cLen, getS, getL, getT, cAll, sAsg, gSt, cInt, cAbs, fAdd_int, F__law_draw, den__law_draw, gSt, fIx, at30, at31, at32, ix31, ix32, hq, hs, c, hb, hdk, hne, m1, m2, m3, m4, hlenN, hix, hcl, c2, c3, c4, pw, m5]
        · refine ⟨(mixB (mixA cell at_) at_ / 16) % b, [.lst cm, .int (at_ + 1), .int gr], ?_, (hm _).1, (hm _).2, pen' _ _ (by omega) (by omega)⟩
          simp [runF, endF, finF, sRet, sSeq, sIf, sSet, sNil, sRaise1, sDrop, sRetN, dVar, dC, dBin, dUn, dCB, dCall, dCallK, dTest, dAnd, dOr, dNot, dAndV_eq, dOrV_eq, kAnd_bl, kOr_bl, dNotV, dIf, dTup, dLst, dFz, dSl, oNone, oSome, aNil, aCons, Out.bind, ans, ansF, ansI, f2I, fIsN, fNotN, DL.isNon, dAttr, bindU, iSeq, srcD, fEq_int, fNe_int, isSq, cLen, getS, getL, getT, cAll, sAsg, gSt, cInt, cAbs, fAdd_int, F__law_draw, den__law_draw, gSt, fIx, at30, at31, at32, ix31, ix32, hq, hs, c, hb, hdk, hne, m1, m2, m3, m4, hlenN, hix, hcl, c2, c3, pw, x1, x2, x3, d16, mixA, mixB]
      · refine ⟨(mixB (mixA cell at_) at_ / 16) % b, [.lst cm, .int (at_ + 1), .int gr], ?_, (hm _).1, (hm _).2, pen' _ _ (by omega) (by omega)⟩
        simp [runF, endF, finF, sRet, sSeq, sIf, sSet, sNil, sRaise1, sDrop, sRetN, dVar, dC, dBin, dUn, dCB, dCall, dCallK, dTest, dAnd, dOr, dNot, dAndV_eq, dOrV_eq, kAnd_bl, kOr_bl, dNotV, dIf, dTup, dLst, dFz, dSl, oNone, oSome, aNil, aCons, Out.bind, ans, ansF, ansI, f2I, fIsN, fNotN, DL.isNon, dAttr, bindU, iSeq, srcD, fEq_int, fNe_int, isSq, cLen, getS, getL, getT, cAll, sAsg, gSt, cInt, cAbs, fAdd_int, F__law_draw, den__law_draw, gSt, fIx, at30, at31, at32, ix31, ix32, hq, hs, c, hb, hdk, hne, m1, m2, m3, m4, hlenN, hix, hcl, c2, pw, x1, x2, x3, d16, mixA, mixB]
end K75
end

section
set_option maxHeartbeats 1000000
namespace K75
open PySem PySem.Spec PyProof.Rows L2 DL
/-- what a def that draws answers: the pen alone moves -/
def Gv (r : OutF) (st : List SO) (p k : Nat) (P : D → Prop) : Prop := ∃ d ds, r = .ok d (st.set p (.lst ds)) ∧ Pen (st.set p (.lst ds)) p k ∧ P d
theorem log_le {n : Int} {k : Nat} (h : n.natAbs < 2 ^ k) (hk : 0 < k) (h2 : k ≤ 9000) : n.natAbs.log2 < 9000 := Nat.lt_of_lt_of_le (log2_of h hk) h2
theorem F_pick_ok {st : List SO} {p k : Nat} {xs : List D} (hp : Pen st p k) (hk : k ≤ 1000000) (h0 : xs ≠ []) (h1 : xs.length ≤ 63) : Gv (F__law_pick [.ob p, .lst xs] st) st p (k + 1) (· ∈ xs) := by
  have hl : 0 < xs.length := List.length_pos_iff.mpr h0
  obtain ⟨i, ds, e, i0, i1, pn⟩ := F_draw_ok (b := (xs.length : Nat)) hp hk (by omega) (log_le (k := 64) (by simp [runF, endF, finF, sRet, sSeq, sIf, sSet, sNil, sRaise1, sDrop, sRetN, dVar, dC, dBin, dUn, dCB, dCall, dCallK, dTest, dAnd, dOr, dNot, dAndV_eq, dOrV_eq, kAnd_bl, kOr_bl, dNotV, dIf, dTup, dLst, dFz, dSl, oNone, oSome, aNil, aCons, Out.bind, ans, ansF, ansI, f2I, fIsN, fNotN, DL.isNon, dAttr, bindU, iSeq, srcD, fEq_int, fNe_int, isSq, cLen, getS, getL, getT, cAll, sAsg, gSt, cInt, cAbs, fAdd_int]; omega) (by omega) (by omega))
  have hn : i.toNat < xs.length := by omega
  refine ⟨xs[i.toNat], ds, ?_, pn, List.getElem_mem hn⟩
  have hx : L2.atI xs i = some xs[i.toNat] := by
    unfold L2.atI L2.ixN
    rw [if_pos i0, if_pos (by omega)]
    exact List.getElem?_eq_getElem hn
  simp [runF, endF, finF, sRet, sSeq, sIf, sSet, sNil, sRaise1, sDrop, sRetN, dVar, dC, dBin, dUn, dCB, dCall, dCallK, dTest, dAnd, dOr, dNot, dAndV_eq, dOrV_eq, kAnd_bl, kOr_bl, dNotV, dIf, dTup, dLst, dFz, dSl, oNone, oSome, aNil, aCons, Out.bind, ans, ansF, ansI, f2I, fIsN, fNotN, DL.isNon, dAttr, bindU, iSeq, srcD, fEq_int, fNe_int, isSq, cLen, getS, getL, getT, cAll, sAsg, gSt, cInt, cAbs, fAdd_int, F__law_pick, den__law_pick, e, fIx, hx]
/-- the number without its sign -/
def ab (a : Int) : Int := if a < 0 then -a else a
theorem ab_abs (a : Int) : (ab a).natAbs = a.natAbs := by unfold ab; split <;> omega
/-- what the law says the sign is -/
def due (a b u : Int) : Int := sgn (a * ab a - -b * ab b * u)
theorem F_law_sign_ok {a b u : Int} (ha : a.natAbs < 2 ^ 10000) (hb : b.natAbs < 2 ^ 10000) (hu : u.natAbs < 2 ^ 10000) (st : List SO) : F__law_sign [.int a, .int b, .int u] st = .ok (.int (due a b u)) st := by
  have m1 : mulOk a (ab a) = true := mulOk_of ha (by rw [ab_abs]; exact ha) (by decide) (by decide) (by decide)
  have nb : (-b).natAbs < 2 ^ 10000 := by rw [Int.natAbs_neg]; exact hb
  have m2 : mulOk (-b) (ab b) = true := mulOk_of nb (by rw [ab_abs]; exact hb) (by decide) (by decide) (by decide)
  have m3 : mulOk (-b * ab b) u = true := mulOk_of (abs_mul nb (by rw [ab_abs]; exact hb)) hu (by decide) (by decide) (by decide)
  have e1 : ∀ st : List SO, cAbs st [.int a] = some (.int (ab a)) := fun _ => rfl
  have e2 : ∀ st : List SO, cAbs st [.int b] = some (.int (ab b)) := fun _ => rfl
  by_cases c : -b * ab b * u < a * ab a
  · have c2 : ¬ a * ab a < -b * ab b * u := by omega
    have c3 : 0 < a * ab a - -b * ab b * u := by omega
    simp [runF, endF, finF, sRet, sSeq, sIf, sSet, sNil, sRaise1, sDrop, sRetN, dVar, dC, dBin, dUn, dCB, dCall, dCallK, dTest, dAnd, dOr, dNot, dAndV_eq, dOrV_eq, kAnd_bl, kOr_bl, dNotV, dIf, dTup, dLst, dFz, dSl, oNone, oSome, aNil, aCons, Out.bind, ans, ansF, ansI, f2I, fIsN, fNotN, DL.isNon, dAttr, bindU, iSeq, srcD, fEq_int, fNe_int, isSq, cLen, getS, getL, getT, cAll, sAsg, gSt, cInt, fAdd_int, F__law_sign, den__law_sign, sPar, m1, m2, m3, e1, e2, due, sgn, c, c2, c3]
  · have c3 : ¬ 0 < a * ab a - -b * ab b * u := by omega
    by_cases c2 : a * ab a < -b * ab b * u
    · have c4 : a * ab a - -b * ab b * u < 0 := by omega
      simp [runF, endF, finF, sRet, sSeq, sIf, sSet, sNil, sRaise1, sDrop, sRetN, dVar, dC, dBin, dUn, dCB, dCall, dCallK, dTest, dAnd, dOr, dNot, dAndV_eq, dOrV_eq, kAnd_bl, kOr_bl, dNotV, dIf, dTup, dLst, dFz, dSl, oNone, oSome, aNil, aCons, Out.bind, ans, ansF, ansI, f2I, fIsN, fNotN, DL.isNon, dAttr, bindU, iSeq, srcD, fEq_int, fNe_int, isSq, cLen, getS, getL, getT, cAll, sAsg, gSt, cInt, fAdd_int, F__law_sign, den__law_sign, sPar, m1, m2, m3, e1, e2, due, sgn, c, c2, c3, c4]
    · have c4 : ¬ a * ab a - -b * ab b * u < 0 := by omega
      simp [runF, endF, finF, sRet, sSeq, sIf, sSet, sNil, sRaise1, sDrop, sRetN, dVar, dC, dBin, dUn, dCB, dCall, dCallK, dTest, dAnd, dOr, dNot, dAndV_eq, dOrV_eq, kAnd_bl, kOr_bl, dNotV, dIf, dTup, dLst, dFz, dSl, oNone, oSome, aNil, aCons, Out.bind, ans, ansF, ansI, f2I, fIsN, fNotN, DL.isNon, dAttr, bindU, iSeq, srcD, fEq_int, fNe_int, isSq, cLen, getS, getL, getT, cAll, sAsg, gSt, cInt, fAdd_int, F__law_sign, den__law_sign, sPar, m1, m2, m3, e1, e2, due, sgn, c, c2, c3, c4]
/-- a number that the law draws -/
def Big (z : Int) (n : Nat) : Prop := z.natAbs < 2 ^ n
theorem F_number_ok {st : List SO} {p k : Nat} (hp : Pen st p k) (hk : k + 1 ≤ 1000000) : Gv (F__law_number [.ob p] st) st p (k + 2) (fun d => ∃ z : Int, d = .int z ∧ z.natAbs < 2 ^ 201) := by
  have p9 : (10 : Int) ^ (9 : Int).toNat = 1000000000 := by decide
  have p30 : (10 : Int) ^ (30 : Int).toNat = 1000000000000000000000000000000 := by decide
  have p60 : (10 : Int) ^ (60 : Int).toNat = 1000000000000000000000000000000000000000000000000000000000000 := by decide
  obtain ⟨d, ds, e, pn, hm⟩ := F_pick_ok (xs := [.int 2, .int 5, .int 40, .int 1000000000, .int 1000000000000000000000000000000, .int 1000000000000000000000000000000000000000000000000000000000000]) hp (by omega) (by simp [runF, endF, finF, sRet, sSeq, sIf, sSet, sNil, sRaise1, sDrop, sRetN, dVar, dC, dBin, dUn, dCB, dCall, dCallK, dTest, dAnd, dOr, dNot, dAndV_eq, dOrV_eq, kAnd_bl, kOr_bl, dNotV, dIf, dTup, dLst, dFz, dSl, oNone, oSome, aNil, aCons, Out.bind, ans, ansF, ansI, f2I, fIsN, fNotN, DL.isNon, dAttr, bindU, iSeq, srcD, fEq_int, fNe_int, isSq, cLen, getS, getL, getT, cAll, sAsg, gSt, cInt, cAbs, fAdd_int]) (by simp [runF, endF, finF, sRet, sSeq, sIf, sSet, sNil, sRaise1, sDrop, sRetN, dVar, dC, dBin, dUn, dCB, dCall, dCallK, dTest, dAnd, dOr, dNot, dAndV_eq, dOrV_eq, kAnd_bl, kOr_bl, dNotV, dIf, dTup, dLst, dFz, dSl, oNone, oSome, aNil, aCons, Out.bind, ans, ansF, ansI, f2I, fIsN, fNotN, DL.isNon, dAttr, bindU, iSeq, srcD, fEq_int, fNe_int, isSq, cLen, getS, getL, getT, cAll, sAsg, gSt, cInt, cAbs, fAdd_int])
  have hd : ∃ m : Int, d = .int m ∧ 0 < m ∧ m ≤ 1000000000000000000000000000000000000000000000000000000000000 := by
    simp only [List.mem_cons, List.not_mem_nil, or_false] at hm
    rcases hm with h | h | h | h | h | h <;> exact ⟨_, h, by decide, by decide⟩
  obtain ⟨m, rfl, m0, m1⟩ := hd
  obtain ⟨i, ds2, e2, i0, i1, pn2⟩ := F_draw_ok (b := 2 * m + 1) pn hk (by omega) (log_le (k := 202) (by omega) (by omega) (by omega))
  rw [List.set_set] at e2 pn2
  have mm : ∀ k : Int, mulOk 2 k = true := fun k => mul_l (by omega)
  refine ⟨.int (i - m), ds2, ?_, pn2, _, rfl, by omega⟩
  simp [runF, endF, finF, sRet, sSeq, sIf, sSet, sNil, sRaise1, sDrop, sRetN, dVar, dC, dBin, dUn, dCB, dCall, dCallK, dTest, dAnd, dOr, dNot, dAndV_eq, dOrV_eq, kAnd_bl, kOr_bl, dNotV, dIf, dTup, dLst, dFz, dSl, oNone, oSome, aNil, aCons, Out.bind, ans, ansF, ansI, f2I, fIsN, fNotN, DL.isNon, dAttr, bindU, iSeq, srcD, fEq_int, fNe_int, isSq, cLen, getS, getL, getT, cAll, sAsg, gSt, cInt, cAbs, fAdd_int, F__law_number, den__law_number, e, e2, mm, p9, p30, p60, sizeLine_eq]
end K75
end

section
set_option maxHeartbeats 1000000
namespace K75
open PySem PySem.Spec PyProof.Rows L2 DL
theorem rangeD_len (n : Nat) : (rangeD 0 n).length = n := by simp [runF, endF, finF, sRet, sSeq, sIf, sSet, sNil, sRaise1, sDrop, sRetN, dVar, dC, dBin, dUn, dCB, dCall, dCallK, dTest, dAnd, dOr, dNot, dAndV_eq, dOrV_eq, kAnd_bl, kOr_bl, dNotV, dIf, dTup, dLst, dFz, dSl, oNone, oSome, aNil, aCons, Out.bind, ans, ansF, ansI, f2I, fIsN, fNotN, DL.isNon, dAttr, bindU, iSeq, srcD, fEq_int, fNe_int, isSq, cLen, getS, getL, getT, cAll, sAsg, gSt, cInt, cAbs, fAdd_int, rangeD]
theorem rangeD_at {n m : Nat} (h : m < (rangeD 0 n).length) : (rangeD 0 n)[m] = .int m := by simp [runF, endF, finF, sRet, sSeq, sIf, sSet, sNil, sRaise1, sDrop, sRetN, dVar, dC, dBin, dUn, dCB, dCall, dCallK, dTest, dAnd, dOr, dNot, dAndV_eq, dOrV_eq, kAnd_bl, kOr_bl, dNotV, dIf, dTup, dLst, dFz, dSl, oNone, oSome, aNil, aCons, Out.bind, ans, ansF, ansI, f2I, fIsN, fNotN, DL.isNon, dAttr, bindU, iSeq, srcD, fEq_int, fNe_int, isSq, cLen, getS, getL, getT, cAll, sAsg, gSt, cInt, cAbs, fAdd_int, rangeD]
/-- a triple that the law draws: numbers of at most n bits, the third not under 0 -/
def Tri (n : Nat) (d : D) : Prop := ∃ a b u : Int, d = .tup [.int a, .int b, .int u] ∧ 0 ≤ u ∧ a.natAbs < 2 ^ n ∧ b.natAbs < 2 ^ n ∧ u.natAbs < 2 ^ n
theorem F_near_ok {st : List SO} {p k : Nat} (hp : Pen st p k) (hk : k + 4 ≤ 1000000) : ∃ j, j ≤ 5 ∧ Gv (F__law_near [.ob p] st) st p (k + j) (Tri 210) := by
  obtain ⟨w, d1, e1, w0, w1, pn1⟩ := F_draw_ok (b := 3) hp (by omega) (by omega) (by decide)
  by_cases c : w = 0
  · obtain ⟨n, d2, e2, n0, n1, pn2⟩ := F_draw_ok (b := 40) pn1 (by omega) (by omega) (by decide)
    rw [List.set_set] at e2 pn2
    subst c
    have hb : ∀ m : Nat, m ≤ 40 → (1 : Int) ≤ 3 ^ m := fun m _ => by
      have := Int.pow_pos (n := 3) (m := m) (by omega)
      omega
    have mm : ∀ k : Int, mulOk 2 k = true := fun k => mul_l (by omega)
    have hin : in62 n = true := by unfold in62; exact decide_eq_true (by omega)
    obtain ⟨s', h1, h2⟩ := sFor_inv (src := iRange1 (aCons (dCall 2 F__law_draw [] (aCons (dVar 0) (aCons (dC (.int 40)) aNil))) aNil)) (g := gNm 4) (body := sPar [2, 3] (aCons (dBin fAdd (dVar 2) (dBin fMul (dC (.int 2)) (dVar 3))) (aCons (dBin fAdd (dVar 2) (dVar 3)) aNil)))
      (s := ⟨[some (.ob p), some (.int 0), some (.int 1), some (.int 1), none, none], st.set p (.lst d1), st.length⟩) (s1 := ⟨[some (.ob p), some (.int 0), some (.int 1), some (.int 1), none, none], st.set p (.lst d2), st.length⟩) (ds := rangeD 0 n.toNat)
      (by simp [runF, endF, finF, sRet, sSeq, sIf, sSet, sNil, sRaise1, sDrop, sRetN, dVar, dC, dBin, dUn, dCB, dCall, dCallK, dTest, dAnd, dOr, dNot, dAndV_eq, dOrV_eq, kAnd_bl, kOr_bl, dNotV, dIf, dTup, dLst, dFz, dSl, oNone, oSome, aNil, aCons, Out.bind, ans, ansF, ansI, f2I, fIsN, fNotN, DL.isNon, dAttr, bindU, iSeq, srcD, fEq_int, fNe_int, isSq, cLen, getS, getL, getT, cAll, sAsg, gSt, cInt, cAbs, fAdd_int, iRange1, e2, hin])
      (fun m s => ∃ x a b, s = ⟨[some (.ob p), some (.int 0), some (.int a), some (.int b), x, none], st.set p (.lst d2), st.length⟩ ∧ 0 ≤ a ∧ 0 ≤ b ∧ a ≤ 3 ^ m ∧ b ≤ 3 ^ m) ⟨none, 1, 1, rfl, by simp [runF, endF, finF, sRet, sSeq, sIf, sSet, sNil, sRaise1, sDrop, sRetN, dVar, dC, dBin, dUn, dCB, dCall, dCallK, dTest, dAnd, dOr, dNot, dAndV_eq, dOrV_eq, kAnd_bl, kOr_bl, dNotV, dIf, dTup, dLst, dFz, dSl, oNone, oSome, aNil, aCons, Out.bind, ans, ansF, ansI, f2I, fIsN, fNotN, DL.isNon, dAttr, bindU, iSeq, srcD, fEq_int, fNe_int, isSq, cLen, getS, getL, getT, cAll, sAsg, gSt, cInt, cAbs, fAdd_int]⟩ (fun m hn s hs => by
        obtain ⟨x, a, b, rfl, a0, b0, a1, b1⟩ := hs
        refine ⟨⟨[some (.ob p), some (.int 0), some (.int a), some (.int b), some (.int m), none], st.set p (.lst d2), st.length⟩, ⟨[some (.ob p), some (.int 0), some (.int (a + 2 * b)), some (.int (a + b)), some (.int m), none], st.set p (.lst d2), st.length⟩, by simp [runF, endF, finF, sRet, sSeq, sIf, sSet, sNil, sRaise1, sDrop, sRetN, dVar, dC, dBin, dUn, dCB, dCall, dCallK, dTest, dAnd, dOr, dNot, dAndV_eq, dOrV_eq, kAnd_bl, kOr_bl, dNotV, dIf, dTup, dLst, dFz, dSl, oNone, oSome, aNil, aCons, Out.bind, ans, ansF, ansI, f2I, fIsN, fNotN, DL.isNon, dAttr, bindU, iSeq, srcD, fEq_int, fNe_int, isSq, cLen, getS, getL, getT, cAll, sAsg, gSt, cInt, cAbs, fAdd_int, gNm, rangeD_at], by simp [runF, endF, finF, sRet, sSeq, sIf, sSet, sNil, sRaise1, sDrop, sRetN, dVar, dC, dBin, dUn, dCB, dCall, dCallK, dTest, dAnd, dOr, dNot, dAndV_eq, dOrV_eq, kAnd_bl, kOr_bl, dNotV, dIf, dTup, dLst, dFz, dSl, oNone, oSome, aNil, aCons, Out.bind, ans, ansF, ansI, f2I, fIsN, fNotN, DL.isNon, dAttr, bindU, iSeq, srcD, fEq_int, fNe_int, isSq, cLen, getS, getL, getT, cAll, sAsg, gSt, cInt, cAbs, fAdd_int, sPar, mm], _, _, _, rfl, by omega, by omega, by rw [Int.pow_succ]; omega, by rw [Int.pow_succ]; omega⟩)
    obtain ⟨x, a, b, rfl, a0, b0, a1, b1⟩ := h2
    have hlen : (rangeD 0 n.toNat).length ≤ 40 := by rw [rangeD_len]; omega
    have hpw : (3 : Int) ^ (rangeD 0 n.toNat).length ≤ 3 ^ 40 := by
      have := Nat.pow_le_pow_right (n := 3) (by omega) hlen
      exact_mod_cast this
    have h40 : (3 : Int) ^ 40 < 2 ^ 64 := by decide
    refine ⟨2, by omega, .tup [.int a, .int (-b), .int 2], d2, ?_, pn2, a, -b, 2, rfl, by omega, ?_, ?_, by decide⟩
    · simp [runF, endF, finF, sRet, sSeq, sIf, sSet, sNil, sRaise1, sDrop, sRetN, dVar, dC, dBin, dUn, dCB, dCall, dCallK, dTest, dAnd, dOr, dNot, dAndV_eq, dOrV_eq, kAnd_bl, kOr_bl, dNotV, dIf, dTup, dLst, dFz, dSl, oNone, oSome, aNil, aCons, Out.bind, ans, ansF, ansI, f2I, fIsN, fNotN, DL.isNon, dAttr, bindU, iSeq, srcD, fEq_int, fNe_int, isSq, cLen, getS, getL, getT, cAll, sAsg, gSt, cInt, cAbs, fAdd_int, F__law_near, den__law_near, e1, gTp, gsCons, gNm, gsNil, h1, sizeLine_eq]

    · exact Nat.lt_of_lt_of_le (m := 2 ^ 64) (by omega) (Nat.pow_le_pow_right (by omega) (by omega))
    · exact Nat.lt_of_lt_of_le (m := 2 ^ 64) (by omega) (Nat.pow_le_pow_right (by omega) (by omega))
  · have p20 : (10 : Int) ^ (20 : Int).toNat = 100000000000000000000 := by decide
    have p15 : (10 : Int) ^ (15 : Int).toNat = 1000000000000000 := by decide
    obtain ⟨x, d2, e2, x0, x1, pn2⟩ := F_draw_ok (b := 100000000000000000000) pn1 (by omega) (by omega) (log_le (k := 80) (by omega) (by omega) (by omega))
    rw [List.set_set] at e2 pn2
    obtain ⟨y, d3, e3, y0, y1, pn3⟩ := F_draw_ok (b := 1000000000000000) pn2 (by omega) (by omega) (log_le (k := 80) (by omega) (by omega) (by omega))
    rw [List.set_set] at e3 pn3
    have bx : (1 + x).natAbs < 2 ^ 68 := by omega
    have by_ : (1 + y).natAbs < 2 ^ 68 := by omega
    have m1 : mulOk (1 + x) (1 + y) = true := mulOk_of bx by_ (by decide) (by decide) (by decide)
    have m2 : mulOk (1 + x) (1 + x) = true := mulOk_of bx bx (by decide) (by decide) (by decide)
    have s0 : 1 ≤ (1 + x) * (1 + x) := by
      have h : 0 < (1 + x) * (1 + x) := Int.mul_pos (by omega) (by omega)
      omega
    have s1 : (1 + x) * (1 + x) ≤ 100000000000000000000 * 100000000000000000000 := Int.mul_le_mul (by omega) (by omega) (by omega) (by omega)
    have s2 : ((1 + x) * (1 + y)).natAbs < 2 ^ (68 + 68) := abs_mul bx by_
    have up : ∀ z : Int, z.natAbs < 2 ^ (68 + 68) → z.natAbs < 2 ^ 210 := fun z h => Nat.lt_of_lt_of_le h (Nat.pow_le_pow_right (by omega) (by omega))
    generalize hq : (1 + x) * (1 + x) = q at *
    by_cases c1 : w = 1
    · subst c1
      obtain ⟨z, d4, e4, z0, z1, pn4⟩ := F_draw_ok (b := 3) pn3 (by omega) (by omega) (by decide)
      rw [List.set_set] at e4 pn4
      refine ⟨4, by omega, .tup [.int ((1 + x) * (1 + y)), .int (-(1 + y)), .int (q + z - 1)], d4, ?_, pn4, _, _, _, rfl, by omega, up _ s2, up _ (by omega), up _ (by omega)⟩
      simp [runF, endF, finF, sRet, sSeq, sIf, sSet, sNil, sRaise1, sDrop, sRetN, dVar, dC, dBin, dUn, dCB, dCall, dCallK, dTest, dAnd, dOr, dNot, dAndV_eq, dOrV_eq, kAnd_bl, kOr_bl, dNotV, dIf, dTup, dLst, dFz, dSl, oNone, oSome, aNil, aCons, Out.bind, ans, ansF, ansI, f2I, fIsN, fNotN, DL.isNon, dAttr, bindU, iSeq, srcD, fEq_int, fNe_int, isSq, cLen, getS, getL, getT, cAll, sAsg, gSt, cInt, cAbs, fAdd_int, F__law_near, den__law_near, e1, sPar, e2, e3, e4, m1, m2, p20, p15, hq, sizeLine_eq]
    · obtain ⟨g, d4, e4, pn4, hg⟩ := F_pick_ok (xs := [.int 1, .int (-1)]) pn3 (by omega) (by simp [runF, endF, finF, sRet, sSeq, sIf, sSet, sNil, sRaise1, sDrop, sRetN, dVar, dC, dBin, dUn, dCB, dCall, dCallK, dTest, dAnd, dOr, dNot, dAndV_eq, dOrV_eq, kAnd_bl, kOr_bl, dNotV, dIf, dTup, dLst, dFz, dSl, oNone, oSome, aNil, aCons, Out.bind, ans, ansF, ansI, f2I, fIsN, fNotN, DL.isNon, dAttr, bindU, iSeq, srcD, fEq_int, fNe_int, isSq, cLen, getS, getL, getT, cAll, sAsg, gSt, cInt, cAbs, fAdd_int]) (by simp [runF, endF, finF, sRet, sSeq, sIf, sSet, sNil, sRaise1, sDrop, sRetN, dVar, dC, dBin, dUn, dCB, dCall, dCallK, dTest, dAnd, dOr, dNot, dAndV_eq, dOrV_eq, kAnd_bl, kOr_bl, dNotV, dIf, dTup, dLst, dFz, dSl, oNone, oSome, aNil, aCons, Out.bind, ans, ansF, ansI, f2I, fIsN, fNotN, DL.isNon, dAttr, bindU, iSeq, srcD, fEq_int, fNe_int, isSq, cLen, getS, getL, getT, cAll, sAsg, gSt, cInt, cAbs, fAdd_int])
      rw [List.set_set] at e4 pn4
      have hg2 : ∃ m : Int, g = .int m ∧ m.natAbs ≤ 1 := by
        simp only [List.mem_cons, List.not_mem_nil, or_false] at hg
        rcases hg with h | h <;> exact ⟨_, h, by decide⟩
      obtain ⟨m, rfl, hm⟩ := hg2
      obtain ⟨z, d5, e5, z0, z1, pn5⟩ := F_draw_ok (b := 3) pn4 (by omega) (by omega) (by decide)
      rw [List.set_set] at e5 pn5
      refine ⟨5, by omega, .tup [.int (-(1 + x)), .int m, .int (q + z - 1)], d5, ?_, pn5, _, _, _, rfl, by omega, up _ (by omega), up _ (by omega), up _ (by omega)⟩
      simp [runF, endF, finF, sRet, sSeq, sIf, sSet, sNil, sRaise1, sDrop, sRetN, dVar, dC, dBin, dUn, dCB, dCall, dCallK, dTest, dAnd, dOr, dNot, dAndV_eq, dOrV_eq, kAnd_bl, kOr_bl, dNotV, dIf, dTup, dLst, dFz, dSl, oNone, oSome, aNil, aCons, Out.bind, ans, ansF, ansI, f2I, fIsN, fNotN, DL.isNon, dAttr, bindU, iSeq, srcD, fEq_int, fNe_int, isSq, cLen, getS, getL, getT, cAll, sAsg, gSt, cInt, cAbs, fAdd_int, F__law_near, den__law_near, e1, sPar, e2, e3, e4, e5, m1, m2, p20, p15, hq, c, c1, sizeLine_eq]
end K75
end

section
set_option maxHeartbeats 1000000
namespace K75
open PySem PySem.Spec PyProof.Rows L2 DL
/-! ### the arithmetic -/
theorem sgn_pos {a : Int} (h : 0 < a) : sgn a = 1 := if_pos h
theorem sgn_neg {a : Int} (h : a < 0) : sgn a = -1 := by unfold sgn; rw [if_neg (by omega), if_pos h]
theorem sgn_zero : sgn 0 = 0 := rfl
theorem sgn_mul_pos {g a : Int} (hg : 0 < g) : sgn (g * a) = sgn a := by
  rcases Int.lt_trichotomy a 0 with h | h | h
  · rw [sgn_neg h, sgn_neg (Int.mul_neg_of_pos_of_neg hg h)]
  · subst h; simp [sgn]
  · rw [sgn_pos h, sgn_pos (Int.mul_pos hg h)]
theorem sgn_opp (a : Int) : sgn (-a) = -sgn a := by unfold sgn; split <;> split <;> (try split) <;> (try split) <;> omega
theorem ab_of_nonneg {a : Int} (h : 0 ≤ a) : ab a = a := if_neg (by omega)
theorem ab_of_neg {a : Int} (h : a < 0) : ab a = -a := if_pos h
theorem ab_opp (a : Int) : ab (-a) = ab a := by unfold ab; split <;> split <;> omega
theorem sq_pos {a : Int} (h : a ≠ 0) : 0 < a * a := by
  rcases Int.lt_trichotomy a 0 with c | c | c
  · exact Int.mul_pos_of_neg_of_neg c c
  · exact absurd c h
  · exact Int.mul_pos c c
/-- the sign that the program tells is the sign that the law says -/
theorem surd_due {a b u : Int} (hu : 0 ≤ u) : surd a b u = due a b u := by
  have hu2 : u = 0 ∨ 0 < u := by omega
  unfold surd due
  rcases hu2 with h | h
  · subst h
    rw [if_pos (.inr (by rw [sgn_zero, Int.mul_zero])), Int.mul_zero (-b * ab b), Int.sub_zero]
    rcases Int.lt_trichotomy a 0 with c | c | c
    · rw [ab_of_neg c, sgn_neg c, sgn_neg]
      have := sq_pos (a := a) (by omega)
      rw [Int.mul_neg]; omega
    · subst c; simp [sgn]
    · rw [ab_of_nonneg (by omega), sgn_pos c, sgn_pos (Int.mul_pos c c)]
  · rw [sgn_pos h, Int.mul_one]
    rcases Int.lt_trichotomy a 0 with c | c | c
    · have qa := sq_pos (a := a) (by omega)
      rcases Int.lt_trichotomy b 0 with d | d | d
      · have qb := Int.mul_pos (sq_pos (a := b) (by omega)) h
        rw [sgn_neg c, sgn_neg d, if_pos (.inl rfl), ab_of_neg c, ab_of_neg d, sgn_neg]
        rw [Int.mul_neg, Int.neg_mul_neg]; omega
      · subst d
        rw [sgn_zero, if_pos (.inr rfl), sgn_neg c, ab_of_neg c, Int.neg_zero, Int.zero_mul, Int.zero_mul, Int.sub_zero, Int.mul_neg, sgn_neg (by omega)]
      · have qb := Int.mul_pos (sq_pos (a := b) (by omega)) h
        rw [sgn_neg c, sgn_pos d, if_neg (by omega), if_neg (by omega), ab_of_neg c, ab_of_nonneg (by omega)]
        rw [Int.neg_mul, Int.neg_mul, Int.one_mul, ← sgn_opp]
        congr 1
        rw [Int.mul_neg, Int.neg_mul]
        omega
    · subst c
      rcases Int.lt_trichotomy b 0 with d | d | d
      · have qb := Int.mul_pos (sq_pos (a := b) (by omega)) h
        rw [sgn_neg d, sgn_zero, if_neg (by omega), if_pos rfl, ab_of_neg d, Int.zero_mul, sgn_neg]
        rw [Int.neg_mul_neg]; omega
      · subst d; simp [sgn]
      · have qb := Int.mul_pos (sq_pos (a := b) (by omega)) h
        rw [sgn_pos d, sgn_zero, if_neg (by omega), if_pos rfl, ab_of_nonneg (a := b) (by omega), Int.zero_mul, sgn_pos]
        rw [Int.neg_mul, Int.neg_mul]; omega
    · have qa := sq_pos (a := a) (by omega)
      rcases Int.lt_trichotomy b 0 with d | d | d
      · have qb := Int.mul_pos (sq_pos (a := b) (by omega)) h
        rw [sgn_pos c, sgn_neg d, if_neg (by omega), if_neg (by omega), ab_of_nonneg (by omega), ab_of_neg d, Int.one_mul, Int.neg_mul_neg]
      · subst d
        rw [sgn_zero, if_pos (.inr rfl), sgn_pos c, ab_of_nonneg (by omega), Int.neg_zero, Int.zero_mul, Int.zero_mul, Int.sub_zero, sgn_pos (by omega)]
      · have qb := Int.mul_pos (sq_pos (a := b) (by omega)) h
        rw [sgn_pos c, sgn_pos d, if_pos (.inl rfl), ab_of_nonneg (by omega), ab_of_nonneg (by omega), sgn_pos]
        rw [Int.neg_mul, Int.neg_mul]; omega
theorem due_opp (a b u : Int) : due (-a) (-b) u = -due a b u := by
  unfold due
  rw [ab_opp, ab_opp, ← sgn_opp]
  congr 1
  simp only [Int.neg_mul, Int.neg_neg]
  omega
theorem ab_mul {g a : Int} (hg : 0 < g) : ab (g * a) = g * ab a := by
  rcases Int.lt_trichotomy a 0 with h | h | h
  · rw [ab_of_neg h, ab_of_neg (Int.mul_neg_of_pos_of_neg hg h), Int.mul_neg]
  · subst h; simp [ab]
  · rw [ab_of_nonneg (a := a) (by omega), ab_of_nonneg (Int.le_of_lt (Int.mul_pos hg h))]
theorem due_nine (a b u : Int) : due (3 * a) b (9 * u) = due a b u := by
  unfold due
  rw [ab_mul (by omega), ← sgn_mul_pos (g := 9) (a := a * ab a - -b * ab b * u) (by omega)]
  congr 1
  have e1 : 3 * a * (3 * ab a) = 9 * (a * ab a) := by
    rw [Int.mul_assoc, ← Int.mul_assoc a 3, Int.mul_comm a 3, Int.mul_assoc, ← Int.mul_assoc]; rfl
  have e2 : -b * ab b * (9 * u) = 9 * (-b * ab b * u) := by
    rw [← Int.mul_assoc, Int.mul_comm (-b * ab b) 9, Int.mul_assoc]
  rw [e1, e2, Int.mul_sub]
theorem due_zero (a u : Int) : due a 0 u = due a 0 0 := by unfold due; simp
theorem due_scale {g : Int} (hg : 0 < g) (a b u : Int) : due (g * a) (g * b) u = due a b u := by
  unfold due
  rw [ab_mul hg, ab_mul hg, ← sgn_mul_pos (g := g * g) (a := a * ab a - -b * ab b * u) (Int.mul_pos hg hg)]
  congr 1
  have e1 : g * a * (g * ab a) = g * g * (a * ab a) := by
    rw [Int.mul_assoc, ← Int.mul_assoc a g, Int.mul_comm a g, Int.mul_assoc, ← Int.mul_assoc]
  have e2 : -(g * b) * (g * ab b) * u = g * g * (-b * ab b * u) := by
    rw [← Int.mul_neg, Int.mul_assoc g (-b), ← Int.mul_assoc (-b) g, Int.mul_comm (-b) g, Int.mul_assoc g (-b), ← Int.mul_assoc g g, Int.mul_assoc (g * g)]
  rw [e1, e2, Int.mul_sub]
end K75
end

section
set_option maxHeartbeats 1000000
namespace K75
open PySem PySem.Spec PyProof.Rows L2 DL
/-! ### the law's first round -/
theorem fNe_str (st : List SO) (a : Str) : fNe st (.str a) (.str a) = some (.bl false) := by
  show some (D.bl !(decide (a = a))) = _
  rw [decide_eq_true rfl]
  rfl
theorem cRepr_ok {i : Int} (h : i.natAbs ≤ 1) (st : List SO) : cRepr st [.int i] = some (.str (toString i)) := if_pos (by
  have := log2_of (n := i.natAbs) (k := 2) (by omega) (by omega)
  omega)
theorem due_small (a b u : Int) : (due a b u).natAbs ≤ 1 := by unfold due sgn; split <;> (try split) <;> decide
theorem pow_up {z : Int} {m n : Nat} (h : z.natAbs < 2 ^ m) (hmn : m ≤ n) : z.natAbs < 2 ^ n := Nat.lt_of_lt_of_le h (Nat.pow_le_pow_right (by omega) hmn)
theorem surd_call {a b u : Int} {n : Nat} (h0 : 0 ≤ u) (ha : a.natAbs < 2 ^ n) (hb : b.natAbs < 2 ^ n) (hu : u.natAbs < 2 ^ n) (hn : n ≤ 10000) (st : List SO) : F_surd_sign [.int a, .int b, .int u] st = .ok (.int (due a b u)) st := by
  rw [F_surd_sign_ok h0 (pow_up ha hn) (pow_up hb hn) (pow_up hu hn), surd_due h0]
theorem sign_call {a b u : Int} {n : Nat} (ha : a.natAbs < 2 ^ n) (hb : b.natAbs < 2 ^ n) (hu : u.natAbs < 2 ^ n) (hn : n ≤ 10000) (st : List SO) : F__law_sign [.int a, .int b, .int u] st = .ok (.int (due a b u)) st :=
  F_law_sign_ok (pow_up ha hn) (pow_up hb hn) (pow_up hu hn) st
noncomputable def dTri : DenE := dIf (dTest (dBin fEq (dCall 2 F__law_draw [] (aCons (dVar 1) (aCons (dC (.int 2)) (aNil)))) (dC (.int 0)))) (dCall 1 F__law_near [] (aCons (dVar 1) (aNil))) (dTup (aCons (dCall 1 F__law_number [] (aCons (dVar 1) (aNil))) (aCons (dCall 1 F__law_number [] (aCons (dVar 1) (aNil))) (aCons (dCB cAbs (aCons (dCall 1 F__law_number [] (aCons (dVar 1) (aNil))) (aNil))) (aNil)))))
theorem dTri_ok {st : List SO} {p k b : Nat} {x : Option D} {sl : List (Option D)} (hp : Pen st p k) (hk : k + 20 ≤ 1000000) : ∃ d ds, dTri ⟨x :: some (.ob p) :: sl, st, b⟩ = .ok d ⟨x :: some (.ob p) :: sl, st.set p (.lst ds), b⟩ ∧ Pen (st.set p (.lst ds)) p (k + 7) ∧ Tri 210 d := by
  obtain ⟨w, d1, e1, w0, w1, pn1⟩ := F_draw_ok (b := 2) hp (by omega) (by omega) (by decide)
  by_cases c : w = 0
  · subst c
    obtain ⟨j, hj, d, ds, e2, pn2, ht⟩ := F_near_ok pn1 (by omega)
    rw [List.set_set] at e2 pn2
    obtain ⟨cs, at_, gr, q1, q2, q3, q4⟩ := pn2
    refine ⟨d, ds, ?_, ⟨cs, at_, gr, q1, q2, q3, by omega⟩, ht⟩
    simp [runF, endF, finF, sRet, sSeq, sIf, sSet, sNil, sRaise1, sDrop, sRetN, dVar, dC, dBin, dUn, dCB, dCall, dCallK, dTest, dAnd, dOr, dNot, dAndV_eq, dOrV_eq, kAnd_bl, kOr_bl, dNotV, dIf, dTup, dLst, dFz, dSl, oNone, oSome, aNil, aCons, Out.bind, ans, ansF, ansI, f2I, fIsN, fNotN, DL.isNon, dAttr, bindU, iSeq, srcD, fEq_int, fNe_int, isSq, cLen, getS, getL, getT, cAll, sAsg, gSt, cInt, cAbs, fAdd_int, dTri, e1, e2]
  · obtain ⟨_, d2, e2, pn2, z1, rfl, h1⟩ := F_number_ok pn1 (by omega)
    rw [List.set_set] at e2 pn2
    obtain ⟨_, d3, e3, pn3, z2, rfl, h2⟩ := F_number_ok pn2 (by omega)
    rw [List.set_set] at e3 pn3
    obtain ⟨_, d4, e4, pn4, z3, rfl, h3⟩ := F_number_ok pn3 (by omega)
    rw [List.set_set] at e4 pn4
    refine ⟨.tup [.int z1, .int z2, .int (ab z3)], d4, ?_, pn4, _, _, _, rfl, by unfold ab; split <;> omega, pow_up h1 (by omega), pow_up h2 (by omega), by rw [ab_abs]; exact pow_up h3 (by omega)⟩
    have e5 : ∀ st : List SO, cAbs st [.int z3] = some (.int (ab z3)) := fun _ => rfl
    simp [runF, endF, finF, sRet, sSeq, sIf, sSet, sNil, sRaise1, sDrop, sRetN, dVar, dC, dBin, dUn, dCB, dCall, dCallK, dTest, dAnd, dOr, dNot, dAndV_eq, dOrV_eq, kAnd_bl, kOr_bl, dNotV, dIf, dTup, dLst, dFz, dSl, oNone, oSome, aNil, aCons, Out.bind, ans, ansF, ansI, f2I, fIsN, fNotN, DL.isNon, dAttr, bindU, iSeq, srcD, fEq_int, fNe_int, isSq, cLen, getS, getL, getT, cAll, sAsg, gSt, cInt, fAdd_int, dTri, e1, e2, e3, e4, c, sizeLine_eq, e5]
noncomputable def body1 : DenS := sSeq (sAsg dTri (gTp 3 (gsCons (gNm 3) (gsCons (gNm 4) (gsCons (gNm 5) (gsNil))))))
    (sSeq (sSet 6 (dCall 3 F__law_sign [] (aCons (dVar 3) (aCons (dVar 4) (aCons (dVar 5) (aNil))))))
    (sSeq (sIf (dOr (dTest (dBin fNe (dCB cRepr (aCons (dCall 3 F_surd_sign [] (aCons (dVar 3) (aCons (dVar 4) (aCons (dVar 5) (aNil))))) (aNil))) (dCB cRepr (aCons (dVar 6) (aNil))))) (dTest (dBin fNe (dCallK 3 3 F_surd_sign [2, 1, 0] (aCons (dVar 5) (aCons (dVar 4) (aCons (dVar 3) (aNil))))) (dVar 6)))) (sRet (dC (.bl false))) (sNil))
    (sIf (dOr (dTest (dBin fNe (dCall 3 F_surd_sign [] (aCons (dUn fNeg (dVar 3)) (aCons (dUn fNeg (dVar 4)) (aCons (dVar 5) (aNil))))) (dUn fNeg (dVar 6)))) (dOr (dTest (dBin fNe (dCall 3 F_surd_sign [] (aCons (dBin fMul (dC (.int 3)) (dVar 3)) (aCons (dVar 4) (aCons (dBin fMul (dC (.int 9)) (dVar 5)) (aNil))))) (dVar 6))) (dTest (dBin fNe (dCall 3 F_surd_sign [] (aCons (dVar 3) (aCons (dC (.int 0)) (aCons (dVar 5) (aNil))))) (dCall 3 F__law_sign [] (aCons (dVar 3) (aCons (dC (.int 0)) (aCons (dC (.int 0)) (aNil))))))))) (sRet (dC (.bl false))) (sNil))))
theorem body1_ok {st : List SO} {p k b : Nat} {x x2 x3 x4 x5 x6 : Option D} {sl : List (Option D)} (hp : Pen st p k) (hk : k + 20 ≤ 1000000) : ∃ y3 y4 y5 y6 ds, body1 ⟨x :: some (.ob p) :: x2 :: x3 :: x4 :: x5 :: x6 :: sl, st, b⟩ = .ok .nx ⟨x :: some (.ob p) :: x2 :: y3 :: y4 :: y5 :: y6 :: sl, st.set p (.lst ds), b⟩ ∧ Pen (st.set p (.lst ds)) p (k + 7) := by
  obtain ⟨_, ds, e, pn, a, c, u, rfl, u0, ha, hc, hu⟩ := dTri_ok (x := x) (sl := x2 :: x3 :: x4 :: x5 :: x6 :: sl) (b := b) hp hk
  refine ⟨some (.int a), some (.int c), some (.int u), some (.int (due a c u)), ds, ?_, pn⟩
  have c1 := surd_call u0 ha hc hu (by omega)
  have c2 := sign_call ha hc hu (by omega)
  have c3 := surd_call (a := -a) (b := -c) (u := u) (n := 210) u0 (by rw [Int.natAbs_neg]; exact ha) (by rw [Int.natAbs_neg]; exact hc) hu (by omega)
  have c4 := surd_call (a := 3 * a) (b := c) (u := 9 * u) (n := 210 + 4) (by omega) (by rw [Nat.pow_add]; omega) (by rw [Nat.pow_add]; omega) (by rw [Nat.pow_add]; omega) (by omega)
  have c5 := surd_call (a := a) (b := 0) (u := u) (n := 210) u0 ha (by decide) hu (by omega)
  have c6 := sign_call (a := a) (b := 0) (u := 0) (n := 210) ha (by decide) (by decide) (by omega)
  rw [due_opp] at c3
  rw [due_nine] at c4
  rw [due_zero] at c5
  have m3 : ∀ k : Int, mulOk 3 k = true := fun k => mul_l (by omega)
  have m9 : ∀ k : Int, mulOk 9 k = true := fun k => mul_l (by omega)
  have r1 := cRepr_ok (due_small a c u)
  simp [runF, endF, finF, sRet, sSeq, sIf, sSet, sNil, sRaise1, sDrop, sRetN, dVar, dC, dBin, dUn, dCB, dCall, dCallK, dTest, dAnd, dOr, dNot, dAndV_eq, dOrV_eq, kAnd_bl, kOr_bl, dNotV, dIf, dTup, dLst, dFz, dSl, oNone, oSome, aNil, aCons, Out.bind, ans, ansF, ansI, f2I, fIsN, fNotN, DL.isNon, dAttr, bindU, iSeq, srcD, fEq_int, fNe_int, isSq, cLen, getS, getL, getT, cAll, sAsg, gSt, cInt, cAbs, fAdd_int, body1, e, gTp, gsCons, gNm, gsNil, c1, c2, c3, c4, c5, c6, m3, m9, r1, fNe_str, permD]
end K75
end

section
set_option maxHeartbeats 1000000
namespace K75
open PySem PySem.Spec PyProof.Rows L2 DL
/-! ### rows and their plain forms -/
theorem pln_three {x y z : Int} (hx : x ≠ 0) : ∃ g p q r : Int, 0 < g ∧ pln [x, y, z] = [p, q, r] ∧ ((0 < x ∧ x = g * p ∧ y = g * q ∧ z = g * r) ∨ (x < 0 ∧ -x = g * p ∧ -y = g * q ∧ -z = g * r)) ∧ p.natAbs ≤ x.natAbs ∧ q.natAbs ≤ y.natAbs ∧ r.natAbs ≤ z.natAbs ∧ nz (shr [x, y, z]) = true ∧ (gf [x, y, z]).natAbs ≤ x.natAbs := by
  have hG : gf [x, y, z] = ((Nat.gcd (Nat.gcd x.natAbs y.natAbs) z.natAbs : Nat) : Int) := by simp [gf]
  have hgd : ∀ w ∈ [x, y, z], gf [x, y, z] ∣ w := by
    intro w hw
    rw [hG, Int.ofNat_dvd_left]
    simp only [List.mem_cons, List.not_mem_nil, or_false] at hw
    rcases hw with rfl | rfl | rfl
    · exact Nat.dvd_trans (Nat.gcd_dvd_left _ _) (Nat.gcd_dvd_left _ _)
    · exact Nat.dvd_trans (Nat.gcd_dvd_left _ _) (Nat.gcd_dvd_right _ _)
    · exact Nat.gcd_dvd_right _ _
  have hg0 : 0 < gf [x, y, z] := by
    rw [hG]
    have h1 : 0 < Nat.gcd x.natAbs y.natAbs := Nat.gcd_pos_of_pos_left _ (by omega)
    have h2 := Nat.gcd_pos_of_pos_left z.natAbs h1
    omega
  have hgx : (gf [x, y, z]).natAbs ≤ x.natAbs := by
    rw [hG]
    exact Nat.le_of_dvd (by omega) (Nat.dvd_trans (Nat.gcd_dvd_left _ _) (Nat.gcd_dvd_left _ _))
  generalize hg : gf [x, y, z] = g at *
  clear hG
  obtain ⟨a, ha⟩ := hgd x (by simp)
  obtain ⟨b, hb⟩ := hgd y (by simp)
  obtain ⟨c, hc⟩ := hgd z (by simp)
  have hs : shr [x, y, z] = [a, b, c] := by
    unfold shr
    rw [hg]
    by_cases c1 : g > 1
    · rw [if_pos c1, ha, hb, hc]
      simp [Int.mul_ediv_cancel_left _ (show g ≠ 0 by omega)]
    · have : g = 1 := by omega
      rw [if_neg c1, ha, hb, hc, this]
      simp
  have ha0 : a ≠ 0 := fun e => hx (by rw [ha, e, Int.mul_zero])
  have hf : fi [a, b, c] = a := by simp [fi, ha0]
  have le : ∀ w v : Int, w = g * v → v.natAbs ≤ w.natAbs := fun w v e => by
    rw [e, Int.natAbs_mul]
    exact Nat.le_mul_of_pos_left _ (by omega)
  have hnz : nz (shr [x, y, z]) = true := by rw [hs]; simp [nz, ha0]
  by_cases h : 0 < a
  · refine ⟨g, a, b, c, hg0, by unfold pln; rw [hs, hf, if_pos h], .inl ⟨by rw [ha]; exact Int.mul_pos hg0 h, ha, hb, hc⟩, le _ _ ha, le _ _ hb, le _ _ hc, hnz, hgx⟩
  · refine ⟨g, -a, -b, -c, hg0, by unfold pln; rw [hs, hf, if_neg h]; rfl, .inr ⟨by rw [ha]; exact Int.mul_neg_of_pos_of_neg hg0 (by omega), by rw [ha, Int.mul_neg], by rw [hb, Int.mul_neg], by rw [hc, Int.mul_neg]⟩, by rw [Int.natAbs_neg]; exact le _ _ ha, by rw [Int.natAbs_neg]; exact le _ _ hb, by rw [Int.natAbs_neg]; exact le _ _ hc, hnz, hgx⟩
theorem dot3 (p q r a b c : Int) : dot [p, q, r] [a, b, c] = p * a + q * b + r * c := by simp [dot]; omega
theorem dot_mul (g p q r : Int) (v : List Int) : dot [g * p, g * q, g * r] v = g * dot [p, q, r] v := by
  match v with
  | [] => simp [dot]
  | [a] => simp [dot, Int.mul_assoc]
  | [a, b] => simp [dot, Int.mul_assoc, Int.mul_add]
  | a :: b :: c :: v => simp [dot, Int.mul_assoc, Int.mul_add]
theorem dot_small {p q r a b c : Int} {m n : Nat} (hp : p.natAbs < 2 ^ m) (hq : q.natAbs < 2 ^ m) (hr : r.natAbs < 2 ^ m) (ha : a.natAbs < 2 ^ n) (hb : b.natAbs < 2 ^ n) (hc : c.natAbs < 2 ^ n) : (dot [p, q, r] [a, b, c]).natAbs < 2 ^ (m + n + 2) := by
  have h1 := abs_mul hp ha
  have h2 := abs_mul hq hb
  have h3 := abs_mul hr hc
  rw [dot3, Nat.pow_add]
  omega
/-- where the program stands on a row: the same for every row on the same way -/
theorem sign_at_call {d s0 s1 w : D} {a b : List Int} {u x y z r0 r1 r2 m n s : Int} (hd : is3 d s0 s1 (.int u)) (h0 : isInts s0 a) (h1 : isInts s1 b) (hr : isInts w [x, y, z])
    (hm : 0 < m) (hn : 0 < n) (hs : s = 1 ∨ s = -1) (hr0 : 0 < r0) (e0 : m * r0 = n * (s * x)) (e1 : m * r1 = n * (s * y)) (e2 : m * r2 = n * (s * z))
    (hu : 0 ≤ u) (bu : u.natAbs < 2 ^ 20) (bx : x.natAbs < 2 ^ 20) (by_ : y.natAbs < 2 ^ 20) (bz : z.natAbs < 2 ^ 20)
    (ha : ∃ a0 a1 a2 : Int, a = [a0, a1, a2] ∧ a0.natAbs < 2 ^ 20 ∧ a1.natAbs < 2 ^ 20 ∧ a2.natAbs < 2 ^ 20) (hb : ∃ a0 a1 a2 : Int, b = [a0, a1, a2] ∧ a0.natAbs < 2 ^ 20 ∧ a1.natAbs < 2 ^ 20 ∧ a2.natAbs < 2 ^ 20) (st : List SO) :
    F_sign_at [d, w] st = .ok (.int (due (dot [r0, r1, r2] a) (dot [r0, r1, r2] b) u)) st := by
  have hx : x ≠ 0 := fun e => by
    rw [e, Int.mul_zero, Int.mul_zero] at e0
    have := Int.mul_pos hm hr0
    omega
  obtain ⟨g, p, q, r, hg, hp, hsg, bp, bq, br, hnz, hgx⟩ := pln_three (y := y) (z := z) hx
  obtain ⟨a0, a1, a2, rfl, ba0, ba1, ba2⟩ := ha
  obtain ⟨b0, b1, b2, rfl, bb0, bb1, bb2⟩ := hb
  have pl3 : F_is_place [d] st = .ok (.bl true) st := by
    have h := F_is_place_3 hd (by rcases h0.cases with rfl | rfl <;> rfl) (by rcases h1.cases with rfl | rfl <;> rfl) (z := .int u) rfl st
    rw [h]
    have e3 : areInts s0 3 = true := by rcases h0.cases with rfl | rfl <;> rfl
    have e4 : areInts s1 3 = true := by rcases h1.cases with rfl | rfl <;> rfl
    have e5 : nnI (.int u) = true := decide_eq_true hu
    rw [e3, e4, e5]
    rfl
  have told : F_row_told [w, .int 3, .str "row"] st = .ok (.tup ([p, q, r].map D.int)) st := by
    have h := F_row_told_ok (p := .str "row") hr (by rw [sizeLine_eq]; simp) (log_le (k := 20) (by omega) (by omega) (by omega)) hnz (by simp [nz, hx]) st
    rw [hp] at h
    exact h
  have there := F_sign_there_ok (r := .tup ([p, q, r].map D.int)) hd h0 h1 rfl (by rw [sizeLine_eq]; simp) (by intro i hi; simp only [List.mem_cons, List.not_mem_nil, or_false] at hi; rcases hi with rfl | rfl | rfl <;> omega)
    (pow_up (dot_small (m := 20) (n := 20) (by omega) (by omega) (by omega) ba0 ba1 ba2) (by omega)) (pow_up (dot_small (m := 20) (n := 20) (by omega) (by omega) (by omega) bb0 bb1 bb2) (by omega)) (pow_up bu (by omega)) st
  rw [F_sign_at_ok pl3 told there, surd_due hu]
  have key : m * r0 = n * g * p ∧ m * r1 = n * g * q ∧ m * r2 = n * g * r := by
    have hpos : 0 < n * (s * x) := by rw [← e0]; exact Int.mul_pos hm hr0
    have hsx : 0 < s * x := by
      rcases Int.lt_trichotomy (s * x) 0 with c | c | c
      · have := Int.mul_neg_of_pos_of_neg hn c
        omega
      · rw [c, Int.mul_zero] at hpos; omega
      · exact c
    rcases hs with rfl | rfl
    · rcases hsg with ⟨c, h1, h2, h3⟩ | ⟨c, h1, h2, h3⟩
      · exact ⟨by rw [e0, h1, Int.one_mul, Int.mul_assoc], by rw [e1, h2, Int.one_mul, Int.mul_assoc], by rw [e2, h3, Int.one_mul, Int.mul_assoc]⟩
      · omega
    · rcases hsg with ⟨c, h1, h2, h3⟩ | ⟨c, h1, h2, h3⟩
      · omega
      · exact ⟨by rw [e0, Int.neg_one_mul, h1, Int.mul_assoc], by rw [e1, Int.neg_one_mul, h2, Int.mul_assoc], by rw [e2, Int.neg_one_mul, h3, Int.mul_assoc]⟩
  obtain ⟨k0, k1, k2⟩ := key
  have d1 : ∀ v, m * dot [r0, r1, r2] v = n * g * dot [p, q, r] v := fun v => by
    rw [← dot_mul, ← dot_mul, k0, k1, k2]
  rw [← due_scale hm (dot [r0, r1, r2] _), d1, d1, due_scale (Int.mul_pos hn hg)]
end K75
end

section
set_option maxHeartbeats 1000000
namespace K75
open PySem PySem.Spec PyProof.Rows L2 DL
/-! ### the law's second round -/
theorem compL_invN {i : Nat} {e : DenE} {sl : List (Option D)} {b : Nat} (hi : i < sl.length) (Iv : Nat → List SO → Prop) (Q : D → Prop) (N : Nat) (he : ∀ (n : Nat) (d : D) (st : List SO), n < N → Iv n st → ∃ y st', e ⟨sl.set i (some d), st, b⟩ = .ok y ⟨sl.set i (some d), st', b⟩ ∧ Q y ∧ Iv (n + 1) st') :
    ∀ (ds acc : List D) (n : Nat) (st : List SO), acc.length + ds.length ≤ sizeLine → n + ds.length ≤ N → Iv n st →
    ∃ ys st', compL [] [i] (gNm i) tTrue e ds acc ⟨sl.set i none, st, b⟩ = .ok (acc ++ ys) ⟨sl.set i none, st', b⟩ ∧ ys.length = ds.length ∧ (∀ y ∈ ys, Q y) ∧ Iv (n + ds.length) st'
  | [], acc, n, st, _, _, hv => by
    refine ⟨[], st, ?_, rfl, by simp [runF, endF, finF, sRet, sSeq, sIf, sSet, sNil, sRaise1, sDrop, sRetN, dVar, dC, dBin, dUn, dCB, dCall, dCallK, dTest, dAnd, dOr, dNot, dAndV_eq, dOrV_eq, kAnd_bl, kOr_bl, dNotV, dIf, dTup, dLst, dFz, dSl, oNone, oSome, aNil, aCons, Out.bind, ans, ansF, ansI, f2I, fIsN, fNotN, DL.isNon, dAttr, bindU, iSeq, srcD, fEq_int, fNe_int, isSq, cLen, getS, getL, getT, cAll, sAsg, gSt, cInt, cAbs, fAdd_int], hv⟩
    unfold compL
    rw [if_pos (lockOk_nil _)]
    simp [runF, endF, finF, sRet, sSeq, sIf, sSet, sNil, sRaise1, sDrop, sRetN, dVar, dC, dBin, dUn, dCB, dCall, dCallK, dTest, dAnd, dOr, dNot, dAndV_eq, dOrV_eq, kAnd_bl, kOr_bl, dNotV, dIf, dTup, dLst, dFz, dSl, oNone, oSome, aNil, aCons, Out.bind, ans, ansF, ansI, f2I, fIsN, fNotN, DL.isNon, dAttr, bindU, iSeq, srcD, fEq_int, fNe_int, isSq, cLen, getS, getL, getT, cAll, sAsg, gSt, cInt, cAbs, fAdd_int]
  | d :: ds, acc, n, st, hz, hN, hv => by
    have hz' : acc.length + (ds.length + 1) ≤ sizeLine := hz
    obtain ⟨y, st1, e1, q1, v1⟩ := he n d st (by have : n + (ds.length + 1) ≤ N := hN; omega) hv
    obtain ⟨ys, st', e2, l2, q2, v2⟩ := compL_invN hi Iv Q N he ds (acc ++ [y]) (n + 1) st1 (by simp [runF, endF, finF, sRet, sSeq, sIf, sSet, sNil, sRaise1, sDrop, sRetN, dVar, dC, dBin, dUn, dCB, dCall, dCallK, dTest, dAnd, dOr, dNot, dAndV_eq, dOrV_eq, kAnd_bl, kOr_bl, dNotV, dIf, dTup, dLst, dFz, dSl, oNone, oSome, aNil, aCons, Out.bind, ans, ansF, ansI, f2I, fIsN, fNotN, DL.isNon, dAttr, bindU, iSeq, srcD, fEq_int, fNe_int, isSq, cLen, getS, getL, getT, cAll, sAsg, gSt, cInt, cAbs, fAdd_int]; omega) (by have : n + (ds.length + 1) ≤ N := hN; omega) v1
    refine ⟨y :: ys, st', ?_, by simp [runF, endF, finF, sRet, sSeq, sIf, sSet, sNil, sRaise1, sDrop, sRetN, dVar, dC, dBin, dUn, dCB, dCall, dCallK, dTest, dAnd, dOr, dNot, dAndV_eq, dOrV_eq, kAnd_bl, kOr_bl, dNotV, dIf, dTup, dLst, dFz, dSl, oNone, oSome, aNil, aCons, Out.bind, ans, ansF, ansI, f2I, fIsN, fNotN, DL.isNon, dAttr, bindU, iSeq, srcD, fEq_int, fNe_int, isSq, cLen, getS, getL, getT, cAll, sAsg, gSt, cInt, cAbs, fAdd_int, l2], fun z hz => ?_, by simpa [runF, endF, finF, sRet, sSeq, sIf, sSet, sNil, sRaise1, sDrop, sRetN, dVar, dC, dBin, dUn, dCB, dCall, dCallK, dTest, dAnd, dOr, dNot, dAndV_eq, dOrV_eq, kAnd_bl, kOr_bl, dNotV, dIf, dTup, dLst, dFz, dSl, oNone, oSome, aNil, aCons, Out.bind, ans, ansF, ansI, f2I, fIsN, fNotN, DL.isNon, dAttr, bindU, iSeq, srcD, fEq_int, fNe_int, isSq, cLen, getS, getL, getT, cAll, sAsg, gSt, cInt, cAbs, fAdd_int, Nat.add_assoc, Nat.add_comm 1] using v2⟩
    · unfold compL
      rw [if_pos (lockOk_nil _)]
      have h1 : gNm i d ⟨sl.set i none, st, b⟩ = .ok () ⟨sl.set i (some d), st, b⟩ := by simp [runF, endF, finF, sRet, sSeq, sIf, sSet, sNil, sRaise1, sDrop, sRetN, dVar, dC, dBin, dUn, dCB, dCall, dCallK, dTest, dAnd, dOr, dNot, dAndV_eq, dOrV_eq, kAnd_bl, kOr_bl, dNotV, dIf, dTup, dLst, dFz, dSl, oNone, oSome, aNil, aCons, Out.bind, ans, ansF, ansI, f2I, fIsN, fNotN, DL.isNon, dAttr, bindU, iSeq, srcD, fEq_int, fNe_int, isSq, cLen, getS, getL, getT, cAll, sAsg, gSt, cInt, cAbs, fAdd_int, gNm, hi]
      rw [h1, bU, tT, bN, if_pos rfl, e1, bN]
      show (if acc.length < sizeLine then compL [] [i] (gNm i) tTrue e ds (acc ++ [y]) ⟨wipeS (sl.set i (some d)) [i], st1, b⟩ else .no) = _
      have h2 : wipeS (sl.set i (some d)) [i] = sl.set i none := by simp [runF, endF, finF, sRet, sSeq, sIf, sSet, sNil, sRaise1, sDrop, sRetN, dVar, dC, dBin, dUn, dCB, dCall, dCallK, dTest, dAnd, dOr, dNot, dAndV_eq, dOrV_eq, kAnd_bl, kOr_bl, dNotV, dIf, dTup, dLst, dFz, dSl, oNone, oSome, aNil, aCons, Out.bind, ans, ansF, ansI, f2I, fIsN, fNotN, DL.isNon, dAttr, bindU, iSeq, srcD, fEq_int, fNe_int, isSq, cLen, getS, getL, getT, cAll, sAsg, gSt, cInt, cAbs, fAdd_int, wipeS, List.set_set]
      rw [if_pos (by omega), h2, e2]
      simp [runF, endF, finF, sRet, sSeq, sIf, sSet, sNil, sRaise1, sDrop, sRetN, dVar, dC, dBin, dUn, dCB, dCall, dCallK, dTest, dAnd, dOr, dNot, dAndV_eq, dOrV_eq, kAnd_bl, kOr_bl, dNotV, dIf, dTup, dLst, dFz, dSl, oNone, oSome, aNil, aCons, Out.bind, ans, ansF, ansI, f2I, fIsN, fNotN, DL.isNon, dAttr, bindU, iSeq, srcD, fEq_int, fNe_int, isSq, cLen, getS, getL, getT, cAll, sAsg, gSt, cInt, cAbs, fAdd_int]
    · rcases List.mem_cons.mp hz with rfl | hz
      · exact q1
      · exact q2 z hz
theorem dComp_invN {src : DenI} {i : Nat} {e : DenE} {s s1 : S} {ds : List D} (hsrc : src s = .ok ⟨ds, []⟩ s1) (hi : i < s1.sl.length) (hz : ds.length ≤ sizeLine) (Iv : Nat → List SO → Prop) (Q : D → Prop) (h0 : Iv 0 s1.st)
    (he : ∀ (n : Nat) (d : D) (st : List SO), n < ds.length → Iv n st → ∃ y st', e ⟨s1.sl.set i (some d), st, s1.b⟩ = .ok y ⟨s1.sl.set i (some d), st', s1.b⟩ ∧ Q y ∧ Iv (n + 1) st') :
    ∃ ys st', dComp src [i] (gNm i) tTrue e s = .ok ys ⟨s1.sl, st', s1.b⟩ ∧ ys.length = ds.length ∧ (∀ y ∈ ys, Q y) ∧ Iv ds.length st' := by
  obtain ⟨ys, st', h1, h2, h3, h4⟩ := compL_invN hi Iv Q ds.length he ds [] 0 s1.st (by simpa [runF, endF, finF, sRet, sSeq, sIf, sSet, sNil, sRaise1, sDrop, sRetN, dVar, dC, dBin, dUn, dCB, dCall, dCallK, dTest, dAnd, dOr, dNot, dAndV_eq, dOrV_eq, kAnd_bl, kOr_bl, dNotV, dIf, dTup, dLst, dFz, dSl, oNone, oSome, aNil, aCons, Out.bind, ans, ansF, ansI, f2I, fIsN, fNotN, DL.isNon, dAttr, bindU, iSeq, srcD, fEq_int, fNe_int, isSq, cLen, getS, getL, getT, cAll, sAsg, gSt, cInt, cAbs, fAdd_int] using hz) (by omega) h0
  refine ⟨ys, st', ?_, h2, h3, by simpa [runF, endF, finF, sRet, sSeq, sIf, sSet, sNil, sRaise1, sDrop, sRetN, dVar, dC, dBin, dUn, dCB, dCall, dCallK, dTest, dAnd, dOr, dNot, dAndV_eq, dOrV_eq, kAnd_bl, kOr_bl, dNotV, dIf, dTup, dLst, dFz, dSl, oNone, oSome, aNil, aCons, Out.bind, ans, ansF, ansI, f2I, fIsN, fNotN, DL.isNon, dAttr, bindU, iSeq, srcD, fEq_int, fNe_int, isSq, cLen, getS, getL, getT, cAll, sAsg, gSt, cInt, cAbs, fAdd_int] using h4⟩
  unfold dComp
  rw [hsrc]
  show (compL [] [i] (gNm i) tTrue e ds [] ⟨s1.sl.set i none, s1.st, s1.b⟩).bind _ = _
  rw [h1]
  rfl
theorem dCB_one {f : List SO → List D → Option D} {x : DenE} {s s1 : S} {d : D} (h : x s = .ok d s1) : dCB f (aCons x aNil) s = ans (f s1.st [d]) s1 := by
  unfold dCB aCons
  rw [h]
  rfl
/-- only the pen moved -/
def Mv (st st' : List SO) (p : Nat) : Prop := ∃ ds, st' = st.set p (.lst ds)
theorem Mv.refl {st : List SO} {p k : Nat} (h : Pen st p k) : Mv st st p := by
  obtain ⟨cs, a, g, q, _⟩ := h
  obtain ⟨h1, h2⟩ := List.getElem?_eq_some_iff.mp q
  refine ⟨[.lst (cs.map .int), .int a, .int g], ?_⟩
  rw [← h2]
  exact (List.set_getElem_self h1).symm
theorem Mv.set {st st' : List SO} {p : Nat} (h : Mv st st' p) (ds : List D) : st'.set p (.lst ds) = st.set p (.lst ds) := by
  obtain ⟨es, rfl⟩ := h
  rw [List.set_set]
def S1000 (d : D) : Prop := ∃ i : Int, d = .int i ∧ i.natAbs < 2 ^ 10
noncomputable def den3 : DenE := dCB cTuple (aCons (dFz (dComp (iRange1 (aCons (dC (.int 3)) (aNil))) [11] (gNm 11) (tTrue) (dBin fSub (dCall 2 F__law_draw [] (aCons (dVar 1) (aCons (dC (.int 2001)) (aNil)))) (dC (.int 1000))))) (aNil))
def V3 (d : D) : Prop := ∃ a b c : Int, d = .tup ([a, b, c].map D.int) ∧ a.natAbs < 2 ^ 20 ∧ b.natAbs < 2 ^ 20 ∧ c.natAbs < 2 ^ 20
theorem den3_ok {st : List SO} {p k b : Nat} {sl : List (Option D)} (hp : Pen st p k) (hk : k + 20 ≤ 1000000) (h1 : sl[1]? = some (some (.ob p))) (h11 : 11 < sl.length) : ∃ d st', den3 ⟨sl, st, b⟩ = .ok d ⟨sl, st', b⟩ ∧ V3 d ∧ Mv st st' p ∧ Pen st' p (k + 3) := by
  obtain ⟨ys, st', e, hl, hq, mv, pn⟩ := dComp_invN (src := iRange1 (aCons (dC (.int 3)) (aNil))) (i := 11) (e := dBin fSub (dCall 2 F__law_draw [] (aCons (dVar 1) (aCons (dC (.int 2001)) (aNil)))) (dC (.int 1000))) (s := ⟨sl, st, b⟩) (s1 := ⟨sl, st, b⟩) (ds := rangeD 0 3)
    (by simp [runF, endF, finF, sRet, sSeq, sIf, sSet, sNil, sRaise1, sDrop, sRetN, dVar, dC, dBin, dUn, dCB, dCall, dCallK, dTest, dAnd, dOr, dNot, dAndV_eq, dOrV_eq, kAnd_bl, kOr_bl, dNotV, dIf, dTup, dLst, dFz, dSl, oNone, oSome, aNil, aCons, Out.bind, ans, ansF, ansI, f2I, fIsN, fNotN, DL.isNon, dAttr, bindU, iSeq, srcD, fEq_int, fNe_int, isSq, cLen, getS, getL, getT, cAll, sAsg, gSt, cInt, cAbs, fAdd_int, iRange1, in62]) h11 (by rw [rangeD_len, sizeLine_eq]; omega) (fun n st' => Mv st st' p ∧ Pen st' p (k + n)) S1000 ⟨.refl hp, hp⟩ (fun n d st' hn hv => by
      rw [rangeD_len] at hn
      obtain ⟨i, ds, e, i0, i1, pn⟩ := F_draw_ok (b := 2001) hv.2 (by omega) (by omega) (by decide)
      refine ⟨.int (i - 1000), st'.set p (.lst ds), ?_, ⟨_, rfl, by omega⟩, ⟨ds, hv.1.set ds⟩, pn⟩
      have h2 : (sl.set 11 (some d))[1]? = some (some (.ob p)) := by rw [List.getElem?_set_ne (by omega)]; exact h1
      simp [runF, endF, finF, sRet, sSeq, sIf, sSet, sNil, sRaise1, sDrop, sRetN, dVar, dC, dBin, dUn, dCB, dCall, dCallK, dTest, dAnd, dOr, dNot, dAndV_eq, dOrV_eq, kAnd_bl, kOr_bl, dNotV, dIf, dTup, dLst, dFz, dSl, oNone, oSome, aNil, aCons, Out.bind, ans, ansF, ansI, f2I, fIsN, fNotN, DL.isNon, dAttr, bindU, iSeq, srcD, fEq_int, fNe_int, isSq, cLen, getS, getL, getT, cAll, sAsg, gSt, cInt, cAbs, fAdd_int, h2, e])
  rw [rangeD_len] at hl pn
  match ys, hl with
  | [y0, y1, y2], _ =>
    obtain ⟨a, rfl, ha⟩ := hq y0 (by simp [runF, endF, finF, sRet, sSeq, sIf, sSet, sNil, sRaise1, sDrop, sRetN, dVar, dC, dBin, dUn, dCB, dCall, dCallK, dTest, dAnd, dOr, dNot, dAndV_eq, dOrV_eq, kAnd_bl, kOr_bl, dNotV, dIf, dTup, dLst, dFz, dSl, oNone, oSome, aNil, aCons, Out.bind, ans, ansF, ansI, f2I, fIsN, fNotN, DL.isNon, dAttr, bindU, iSeq, srcD, fEq_int, fNe_int, isSq, cLen, getS, getL, getT, cAll, sAsg, gSt, cInt, cAbs, fAdd_int])
    obtain ⟨c, rfl, hc⟩ := hq y1 (by simp [runF, endF, finF, sRet, sSeq, sIf, sSet, sNil, sRaise1, sDrop, sRetN, dVar, dC, dBin, dUn, dCB, dCall, dCallK, dTest, dAnd, dOr, dNot, dAndV_eq, dOrV_eq, kAnd_bl, kOr_bl, dNotV, dIf, dTup, dLst, dFz, dSl, oNone, oSome, aNil, aCons, Out.bind, ans, ansF, ansI, f2I, fIsN, fNotN, DL.isNon, dAttr, bindU, iSeq, srcD, fEq_int, fNe_int, isSq, cLen, getS, getL, getT, cAll, sAsg, gSt, cInt, cAbs, fAdd_int])
    obtain ⟨f, rfl, hf⟩ := hq y2 (by simp [runF, endF, finF, sRet, sSeq, sIf, sSet, sNil, sRaise1, sDrop, sRetN, dVar, dC, dBin, dUn, dCB, dCall, dCallK, dTest, dAnd, dOr, dNot, dAndV_eq, dOrV_eq, kAnd_bl, kOr_bl, dNotV, dIf, dTup, dLst, dFz, dSl, oNone, oSome, aNil, aCons, Out.bind, ans, ansF, ansI, f2I, fIsN, fNotN, DL.isNon, dAttr, bindU, iSeq, srcD, fEq_int, fNe_int, isSq, cLen, getS, getL, getT, cAll, sAsg, gSt, cInt, cAbs, fAdd_int])
    refine ⟨_, st', ?_, ⟨a, c, f, rfl, pow_up ha (by omega), pow_up hc (by omega), pow_up hf (by omega)⟩, mv, pn⟩
    unfold den3
    have e2 : dFz (dComp (iRange1 (aCons (dC (.int 3)) (aNil))) [11] (gNm 11) (tTrue) (dBin fSub (dCall 2 F__law_draw [] (aCons (dVar 1) (aCons (dC (.int 2001)) (aNil)))) (dC (.int 1000)))) ⟨sl, st, b⟩ = .ok (.lst [.int a, .int c, .int f]) ⟨sl, st', b⟩ := by
      unfold dFz
      rw [e]
      rfl
    rw [dCB_one e2]
    rfl
end K75
end

section
set_option maxHeartbeats 1000000
namespace K75
open PySem PySem.Spec PyProof.Rows L2 DL
noncomputable def den23 : DenE := dFz (dComp (iRange1 (aCons (dC (.int 2)) (aNil))) [12] (gNm 12) (tTrue) den3)
theorem den23_ok {st : List SO} {p k b : Nat} {sl : List (Option D)} (hp : Pen st p k) (hk : k + 40 ≤ 1000000) (h1 : sl[1]? = some (some (.ob p))) (h12 : 12 < sl.length) : ∃ d e st', den23 ⟨sl, st, b⟩ = .ok (.lst [d, e]) ⟨sl, st', b⟩ ∧ V3 d ∧ V3 e ∧ Mv st st' p ∧ Pen st' p (k + 6) := by
  obtain ⟨ys, st', e, hl, hq, mv, pn⟩ := dComp_invN (src := iRange1 (aCons (dC (.int 2)) (aNil))) (i := 12) (e := den3) (s := ⟨sl, st, b⟩) (s1 := ⟨sl, st, b⟩) (ds := rangeD 0 2)
    (by simp [iRange1, in62, dC, aCons, aNil, Out.bind]) h12 (by rw [rangeD_len, sizeLine_eq]; omega) (fun n st' => Mv st st' p ∧ Pen st' p (k + 3 * n)) V3 ⟨.refl hp, hp⟩ (fun n d st' hn hv => by
      rw [rangeD_len] at hn
      obtain ⟨y, st2, e, hy, mv, pn⟩ := den3_ok (b := b) (sl := sl.set 12 (some d)) hv.2 (by omega) (by rw [List.getElem?_set_ne (by omega)]; exact h1) (by simp; omega)
      refine ⟨y, st2, e, hy, ?_, pn⟩
      obtain ⟨ds, rfl⟩ := mv
      exact ⟨ds, hv.1.set ds⟩)
  rw [rangeD_len] at hl pn
  match ys, hl with
  | [y0, y1], _ =>
    refine ⟨y0, y1, st', ?_, hq y0 (by simp), hq y1 (by simp), mv, pn⟩
    unfold den23 dFz
    rw [e]
    rfl
end K75
end

section
set_option maxHeartbeats 1000000
namespace K75
open PySem PySem.Spec PyProof.Rows L2 DL
def sRow : DenS := sPar [9, 5] (aCons (dTup (aCons (dBin fAdd (dC (.int 1)) (dCall 2 F__law_draw [] (aCons (dVar 1) (aCons (dC (.int 9)) (aNil))))) (aCons (dBin fSub (dCall 2 F__law_draw [] (aCons (dVar 1) (aCons (dC (.int 19)) (aNil)))) (dC (.int 9))) (aCons (dBin fSub (dCall 2 F__law_draw [] (aCons (dVar 1) (aCons (dC (.int 19)) (aNil)))) (dC (.int 9))) (aNil))))) (aCons (dCall 2 F__law_draw [] (aCons (dVar 1) (aCons (dBin fPow (dC (.int 10)) (dC (.int 6))) (aNil)))) (aNil)))
theorem sRow_ok {st : List SO} {p k b : Nat} {x0 x2 x3 x4 x5 x6 x7 x8 x9 : Option D} {sl : List (Option D)} (hp : Pen st p k) (hk : k + 40 ≤ 1000000) : ∃ r0 r1 r2 u st', sRow ⟨x0 :: some (.ob p) :: x2 :: x3 :: x4 :: x5 :: x6 :: x7 :: x8 :: x9 :: sl, st, b⟩ = .ok .nx ⟨x0 :: some (.ob p) :: x2 :: x3 :: x4 :: some (.int u) :: x6 :: x7 :: x8 :: some (.tup [.int r0, .int r1, .int r2]) :: sl, st', b⟩ ∧ Mv st st' p ∧ Pen st' p (k + 4) ∧ 1 ≤ r0 ∧ r0 ≤ 9 ∧ r1.natAbs ≤ 9 ∧ r2.natAbs ≤ 9 ∧ 0 ≤ u ∧ u < 1000000 := by
  obtain ⟨i1, d1, e1, a1, b1, pn1⟩ := F_draw_ok (b := 9) hp (by omega) (by omega) (by decide)
  obtain ⟨i2, d2, e2, a2, b2, pn2⟩ := F_draw_ok (b := 19) pn1 (by omega) (by omega) (by decide)
  rw [List.set_set] at e2 pn2
  obtain ⟨i3, d3, e3, a3, b3, pn3⟩ := F_draw_ok (b := 19) pn2 (by omega) (by omega) (by decide)
  rw [List.set_set] at e3 pn3
  obtain ⟨i4, d4, e4, a4, b4, pn4⟩ := F_draw_ok (b := 1000000) pn3 (by omega) (by omega) (log_le (k := 20) (by omega) (by omega) (by omega))
  rw [List.set_set] at e4 pn4
  have p6 : (10 : Int) ^ (6 : Int).toNat = 1000000 := by decide
  refine ⟨1 + i1, i2 - 9, i3 - 9, i4, _, ?_, ⟨d4, rfl⟩, pn4, by omega, by omega, by omega, by omega, by omega, by omega⟩
  simp [runF, endF, finF, sRet, sSeq, sIf, sSet, sNil, sRaise1, sDrop, sRetN, dVar, dC, dBin, dUn, dCB, dCall, dCallK, dTest, dAnd, dOr, dNot, dAndV_eq, dOrV_eq, kAnd_bl, kOr_bl, dNotV, dIf, dTup, dLst, dFz, dSl, oNone, oSome, aNil, aCons, Out.bind, ans, ansF, ansI, f2I, fIsN, fNotN, DL.isNon, dAttr, bindU, iSeq, srcD, fEq_int, fNe_int, isSq, cLen, getS, getL, getT, cAll, sAsg, gSt, cInt, cAbs, fAdd_int, sRow, sPar, e1, e2, e3, e4, p6, sizeLine_eq]
noncomputable def sShare : DenS := sFor (iRange2 (aCons (dC (.int 2)) (aCons (dC (.int 10)) (aNil)))) (gNm 11) (sIf (dAnd (dTest (dBin fEq (dBin fMod (dCB cInt (aCons (dBin fIx (dVar 9) (dC (.int 0))) (aNil))) (dVar 11)) (dC (.int 0)))) (dAnd (dTest (dBin fEq (dBin fMod (dCB cInt (aCons (dBin fIx (dVar 9) (dC (.int 1))) (aNil))) (dVar 11)) (dC (.int 0)))) (dTest (dBin fEq (dBin fMod (dCB cInt (aCons (dBin fIx (dVar 9) (dC (.int 2))) (aNil))) (dVar 11)) (dC (.int 0)))))) (sSet 10 (dVar 11)) (sNil))
theorem rangeD_at2 {lo : Int} {n m : Nat} (h : m < (rangeD lo n).length) : (rangeD lo n)[m] = .int (lo + m) := by simp [runF, endF, finF, sRet, sSeq, sIf, sSet, sNil, sRaise1, sDrop, sRetN, dVar, dC, dBin, dUn, dCB, dCall, dCallK, dTest, dAnd, dOr, dNot, dAndV_eq, dOrV_eq, kAnd_bl, kOr_bl, dNotV, dIf, dTup, dLst, dFz, dSl, oNone, oSome, aNil, aCons, Out.bind, ans, ansF, ansI, f2I, fIsN, fNotN, DL.isNon, dAttr, bindU, iSeq, srcD, fEq_int, fNe_int, isSq, cLen, getS, getL, getT, cAll, sAsg, gSt, cInt, cAbs, fAdd_int, rangeD]
theorem sShare_ok {st : List SO} {b : Nat} {x0 x1 x2 x3 x4 x5 x6 x7 x8 x11 : Option D} {sl : List (Option D)} {r0 r1 r2 : Int} : ∃ h y11, sShare ⟨x0 :: x1 :: x2 :: x3 :: x4 :: x5 :: x6 :: x7 :: x8 :: some (.tup [.int r0, .int r1, .int r2]) :: some (.int 1) :: x11 :: sl, st, b⟩ = .ok .nx ⟨x0 :: x1 :: x2 :: x3 :: x4 :: x5 :: x6 :: x7 :: x8 :: some (.tup [.int r0, .int r1, .int r2]) :: some (.int h) :: y11 :: sl, st, b⟩ ∧ 1 ≤ h ∧ h ≤ 9 ∧ r0 % h = 0 ∧ r1 % h = 0 ∧ r2 % h = 0 := by
  obtain ⟨s', h1, h2⟩ := sFor_inv (src := iRange2 (aCons (dC (.int 2)) (aCons (dC (.int 10)) (aNil)))) (g := gNm 11) (body := sIf (dAnd (dTest (dBin fEq (dBin fMod (dCB cInt (aCons (dBin fIx (dVar 9) (dC (.int 0))) (aNil))) (dVar 11)) (dC (.int 0)))) (dAnd (dTest (dBin fEq (dBin fMod (dCB cInt (aCons (dBin fIx (dVar 9) (dC (.int 1))) (aNil))) (dVar 11)) (dC (.int 0)))) (dTest (dBin fEq (dBin fMod (dCB cInt (aCons (dBin fIx (dVar 9) (dC (.int 2))) (aNil))) (dVar 11)) (dC (.int 0)))))) (sSet 10 (dVar 11)) (sNil))
    (s := ⟨x0 :: x1 :: x2 :: x3 :: x4 :: x5 :: x6 :: x7 :: x8 :: some (.tup [.int r0, .int r1, .int r2]) :: some (.int 1) :: x11 :: sl, st, b⟩) (s1 := ⟨x0 :: x1 :: x2 :: x3 :: x4 :: x5 :: x6 :: x7 :: x8 :: some (.tup [.int r0, .int r1, .int r2]) :: some (.int 1) :: x11 :: sl, st, b⟩) (ds := rangeD 2 8)
    (by simp [runF, endF, finF, sRet, sSeq, sIf, sSet, sNil, sRaise1, sDrop, sRetN, dVar, dC, dBin, dUn, dCB, dCall, dCallK, dTest, dAnd, dOr, dNot, dAndV_eq, dOrV_eq, kAnd_bl, kOr_bl, dNotV, dIf, dTup, dLst, dFz, dSl, oNone, oSome, aNil, aCons, Out.bind, ans, ansF, ansI, f2I, fIsN, fNotN, DL.isNon, dAttr, bindU, iSeq, srcD, fEq_int, fNe_int, isSq, cLen, getS, getL, getT, cAll, sAsg, gSt, cInt, cAbs, fAdd_int, iRange2, in62])
    (fun n s => ∃ h y11, s = ⟨x0 :: x1 :: x2 :: x3 :: x4 :: x5 :: x6 :: x7 :: x8 :: some (.tup [.int r0, .int r1, .int r2]) :: some (.int h) :: y11 :: sl, st, b⟩ ∧ 1 ≤ h ∧ h ≤ 9 ∧ r0 % h = 0 ∧ r1 % h = 0 ∧ r2 % h = 0) ⟨1, x11, rfl, by omega, by omega, by omega, by omega, by omega⟩ (fun n hn s hs => by
      obtain ⟨h, y11, rfl, h0, h9, m0, m1, m2⟩ := hs
      rw [rangeD_at2]
      have hn8 : n < 8 := by simpa [runF, endF, finF, sRet, sSeq, sIf, sSet, sNil, sRaise1, sDrop, sRetN, dVar, dC, dBin, dUn, dCB, dCall, dCallK, dTest, dAnd, dOr, dNot, dAndV_eq, dOrV_eq, kAnd_bl, kOr_bl, dNotV, dIf, dTup, dLst, dFz, dSl, oNone, oSome, aNil, aCons, Out.bind, ans, ansF, ansI, f2I, fIsN, fNotN, DL.isNon, dAttr, bindU, iSeq, srcD, fEq_int, fNe_int, isSq, cLen, getS, getL, getT, cAll, sAsg, gSt, cInt, cAbs, fAdd_int, rangeD] using hn
      generalize hv : (2 : Int) + n = v
      have v0 : 0 < v := by omega
      have dk : divOk v = true := by unfold divOk; exact decide_eq_true ⟨by omega, log_le (k := 20) (by omega) (by omega) (by omega)⟩
      refine ⟨⟨x0 :: x1 :: x2 :: x3 :: x4 :: x5 :: x6 :: x7 :: x8 :: some (.tup [.int r0, .int r1, .int r2]) :: some (.int h) :: some (.int v) :: sl, st, b⟩, ?_⟩
      by_cases c : r0 % v = 0 ∧ r1 % v = 0 ∧ r2 % v = 0
      · obtain ⟨c0, c1, c2⟩ := c
        refine ⟨⟨x0 :: x1 :: x2 :: x3 :: x4 :: x5 :: x6 :: x7 :: x8 :: some (.tup [.int r0, .int r1, .int r2]) :: some (.int v) :: some (.int v) :: sl, st, b⟩, by simp [runF, endF, finF, sRet, sSeq, sIf, sSet, sNil, sRaise1, sDrop, sRetN, dVar, dC, dBin, dUn, dCB, dCall, dCallK, dTest, dAnd, dOr, dNot, dAndV_eq, dOrV_eq, kAnd_bl, kOr_bl, dNotV, dIf, dTup, dLst, dFz, dSl, oNone, oSome, aNil, aCons, Out.bind, ans, ansF, ansI, f2I, fIsN, fNotN, DL.isNon, dAttr, bindU, iSeq, srcD, fEq_int, fNe_int, isSq, cLen, getS, getL, getT, cAll, sAsg, gSt, cInt, cAbs, fAdd_int, gNm], ?_, v, _, rfl, by omega, by omega, c0, c1, c2⟩
        simp [runF, endF, finF, sRet, sSeq, sIf, sSet, sNil, sRaise1, sDrop, sRetN, dVar, dC, dBin, dUn, dCB, dCall, dCallK, dTest, dAnd, dOr, dNot, dAndV_eq, dOrV_eq, kAnd_bl, kOr_bl, dNotV, dIf, dTup, dLst, dFz, dSl, oNone, oSome, aNil, aCons, Out.bind, ans, ansF, ansI, f2I, fIsN, fNotN, DL.isNon, dAttr, bindU, iSeq, srcD, fEq_int, fNe_int, isSq, cLen, getS, getL, getT, cAll, sAsg, gSt, cInt, cAbs, fAdd_int, fIx, at30, at31, at32, v0, dk, c0, c1, c2]
      · refine ⟨⟨x0 :: x1 :: x2 :: x3 :: x4 :: x5 :: x6 :: x7 :: x8 :: some (.tup [.int r0, .int r1, .int r2]) :: some (.int h) :: some (.int v) :: sl, st, b⟩, by simp [runF, endF, finF, sRet, sSeq, sIf, sSet, sNil, sRaise1, sDrop, sRetN, dVar, dC, dBin, dUn, dCB, dCall, dCallK, dTest, dAnd, dOr, dNot, dAndV_eq, dOrV_eq, kAnd_bl, kOr_bl, dNotV, dIf, dTup, dLst, dFz, dSl, oNone, oSome, aNil, aCons, Out.bind, ans, ansF, ansI, f2I, fIsN, fNotN, DL.isNon, dAttr, bindU, iSeq, srcD, fEq_int, fNe_int, isSq, cLen, getS, getL, getT, cAll, sAsg, gSt, cInt, cAbs, fAdd_int, gNm], ?_, h, _, rfl, h0, h9, m0, m1, m2⟩
        by_cases c0 : r0 % v = 0
        · by_cases c1 : r1 % v = 0
          · have c2 : ¬ r2 % v = 0 := fun e => c ⟨c0, c1, e⟩
            simp [runF, endF, finF, sRet, sSeq, sIf, sSet, sNil, sRaise1, sDrop, sRetN, dVar, dC, dBin, dUn, dCB, dCall, dCallK, dTest, dAnd, dOr, dNot, dAndV_eq, dOrV_eq, kAnd_bl, kOr_bl, dNotV, dIf, dTup, dLst, dFz, dSl, oNone, oSome, aNil, aCons, Out.bind, ans, ansF, ansI, f2I, fIsN, fNotN, DL.isNon, dAttr, bindU, iSeq, srcD, fEq_int, fNe_int, isSq, cLen, getS, getL, getT, cAll, sAsg, gSt, cInt, cAbs, fAdd_int, fIx, at30, at31, at32, v0, dk, c0, c1, c2]
          · simp [runF, endF, finF, sRet, sSeq, sIf, sSet, sNil, sRaise1, sDrop, sRetN, dVar, dC, dBin, dUn, dCB, dCall, dCallK, dTest, dAnd, dOr, dNot, dAndV_eq, dOrV_eq, kAnd_bl, kOr_bl, dNotV, dIf, dTup, dLst, dFz, dSl, oNone, oSome, aNil, aCons, Out.bind, ans, ansF, ansI, f2I, fIsN, fNotN, DL.isNon, dAttr, bindU, iSeq, srcD, fEq_int, fNe_int, isSq, cLen, getS, getL, getT, cAll, sAsg, gSt, cInt, cAbs, fAdd_int, fIx, at30, at31, at32, v0, dk, c0, c1]
        · simp [runF, endF, finF, sRet, sSeq, sIf, sSet, sNil, sRaise1, sDrop, sRetN, dVar, dC, dBin, dUn, dCB, dCall, dCallK, dTest, dAnd, dOr, dNot, dAndV_eq, dOrV_eq, kAnd_bl, kOr_bl, dNotV, dIf, dTup, dLst, dFz, dSl, oNone, oSome, aNil, aCons, Out.bind, ans, ansF, ansI, f2I, fIsN, fNotN, DL.isNon, dAttr, bindU, iSeq, srcD, fEq_int, fNe_int, isSq, cLen, getS, getL, getT, cAll, sAsg, gSt, cInt, cAbs, fAdd_int, fIx, at30, at31, at32, v0, dk, c0])
  obtain ⟨h, y11, rfl, q⟩ := h2
  exact ⟨h, y11, h1, q⟩
end K75
end

section
set_option maxHeartbeats 1000000
namespace K75
open PySem PySem.Spec PyProof.Rows L2 DL
noncomputable def sumZ (k : Nat) : DenE := dCB cSum (aCons (dFz (dComp (iZip (aCons (dVar 9) (aCons (dVar k) (aNil)))) [13, 14] (gTp 2 (gsCons (gNm 13) (gsCons (gNm 14) (gsNil)))) (tTrue) (dBin fMul (dVar 13) (dVar 14)))) (aNil))
theorem sumZ_ok {k b : Nat} {sl : List (Option D)} {st : List SO} {is js : List Int} (h9 : sl[9]? = some (some (.tup (is.map D.int)))) (hk : sl[k]? = some (some (.tup (js.map D.int)))) (hn : 14 < sl.length) (hl : is.length ≤ sizeLine) (hb : ∀ i ∈ is, -(2 ^ 64) < i ∧ i < 2 ^ 64) : sumZ k ⟨sl, st, b⟩ = .ok (.int (dot is js)) ⟨sl, st, b⟩ := by
  have hm := dComp_pure (src := iZip (aCons (dVar 9) (aCons (dVar k) aNil))) (vs := [13, 14]) (g := gTp 2 (gsCons (gNm 13) (gsCons (gNm 14) gsNil))) (f := fun d => (match d with | .tup [.int a, .int b] => D.int (a * b) | _ => D.non)) (e := dBin fMul (dVar 13) (dVar 14)) (s := ⟨sl, st, b⟩) (s1 := ⟨sl, st, b⟩) (ds := zipD (is.map D.int) (js.map D.int))
    (by simp [runF, endF, finF, sRet, sSeq, sIf, sSet, sNil, sRaise1, sDrop, sRetN, dVar, dC, dBin, dUn, dCB, dCall, dCallK, dTest, dAnd, dOr, dNot, dAndV_eq, dOrV_eq, kAnd_bl, kOr_bl, dNotV, dIf, dTup, dLst, dFz, dSl, oNone, oSome, aNil, aCons, Out.bind, ans, ansF, ansI, f2I, fIsN, fNotN, DL.isNon, dAttr, bindU, iSeq, srcD, fEq_int, fNe_int, isSq, cLen, getS, getL, getT, cAll, sAsg, gSt, cInt, cAbs, fAdd_int, DL.iZip, D.isSeq, h9, hk]) (by simp [runF, endF, finF, sRet, sSeq, sIf, sSet, sNil, sRaise1, sDrop, sRetN, dVar, dC, dBin, dUn, dCB, dCall, dCallK, dTest, dAnd, dOr, dNot, dAndV_eq, dOrV_eq, kAnd_bl, kOr_bl, dNotV, dIf, dTup, dLst, dFz, dSl, oNone, oSome, aNil, aCons, Out.bind, ans, ansF, ansI, f2I, fIsN, fNotN, DL.isNon, dAttr, bindU, iSeq, srcD, fEq_int, fNe_int, isSq, cLen, getS, getL, getT, cAll, sAsg, gSt, cInt, cAbs, fAdd_int, zipD]; omega) (fun y hy => by
      obtain ⟨i, hi, rfl⟩ := List.getElem_of_mem hy
      have hq : (zipD (is.map D.int) (js.map D.int))[i]? = some _ := List.getElem?_eq_getElem hi
      obtain ⟨x, y, h1, h2, h3⟩ := zipD_get hq
      rw [List.getElem?_map] at h1 h2
      obtain ⟨a, ha, rfl⟩ := Option.map_eq_some_iff.mp h1
      obtain ⟨c, hb', rfl⟩ := Option.map_eq_some_iff.mp h2
      rw [h3]
      have hm : mulOk a c = true := by
        unfold mulOk
        rw [decide_eq_true (hb a (List.mem_of_getElem? ha)), Bool.true_or, Bool.true_or]
      refine ⟨⟨((wipeS sl [13, 14]).set 13 (some (.int a))).set 14 (some (.int c)), st, b⟩, ⟨((wipeS sl [13, 14]).set 13 (some (.int a))).set 14 (some (.int c)), st, b⟩, ?_, ?_, ?_⟩
      · have l1 : 13 < sl.length := by omega
        simp [runF, endF, finF, sRet, sSeq, sIf, sSet, sNil, sRaise1, sDrop, sRetN, dVar, dC, dBin, dUn, dCB, dCall, dCallK, dTest, dAnd, dOr, dNot, dAndV_eq, dOrV_eq, kAnd_bl, kOr_bl, dNotV, dIf, dTup, dLst, dFz, dSl, oNone, oSome, aNil, aCons, Out.bind, ans, ansF, ansI, f2I, fIsN, fNotN, DL.isNon, dAttr, bindU, iSeq, srcD, fEq_int, fNe_int, isSq, cLen, getS, getL, getT, cAll, sAsg, gSt, cInt, cAbs, fAdd_int, gTp, gsCons, gsNil, gNm, wipeS, hn, l1]
      · have l1 : 13 < sl.length := by omega
        simp [runF, endF, finF, sRet, sSeq, sIf, sSet, sNil, sRaise1, sDrop, sRetN, dVar, dC, dBin, dUn, dCB, dCall, dCallK, dTest, dAnd, dOr, dNot, dAndV_eq, dOrV_eq, kAnd_bl, kOr_bl, dNotV, dIf, dTup, dLst, dFz, dSl, oNone, oSome, aNil, aCons, Out.bind, ans, ansF, ansI, f2I, fIsN, fNotN, DL.isNon, dAttr, bindU, iSeq, srcD, fEq_int, fNe_int, isSq, cLen, getS, getL, getT, cAll, sAsg, gSt, cInt, cAbs, fAdd_int, hm, wipeS, List.getElem?_set, hn, l1]
      · simp only [wipeS]
        congr 1
        apply List.ext_getElem?
        intro i
        simp only [List.getElem?_set, List.length_set]
        split <;> split <;> simp_all)
  rw [zip_dot _ (fun a b => rfl)] at hm
  have hs := dot_sum is js
  generalize ((is.zip js).map fun p => p.1 * p.2) = ms at hm hs
  simp only [sumZ]
  have e2 : dFz (dComp (iZip (aCons (dVar 9) (aCons (dVar k) (aNil)))) [13, 14] (gTp 2 (gsCons (gNm 13) (gsCons (gNm 14) (gsNil)))) (tTrue) (dBin fMul (dVar 13) (dVar 14))) ⟨sl, st, b⟩ = .ok (.lst (ms.map D.int)) ⟨sl, st, b⟩ := by
    unfold dFz
    rw [hm]
    rfl
  rw [dCB_one e2]
  simp [runF, endF, finF, sRet, sSeq, sIf, sSet, sNil, sRaise1, sDrop, sRetN, dVar, dC, dBin, dUn, dCB, dCall, dCallK, dTest, dAnd, dOr, dNot, dAndV_eq, dOrV_eq, kAnd_bl, kOr_bl, dNotV, dIf, dTup, dLst, dFz, dSl, oNone, oSome, aNil, aCons, Out.bind, ans, ansF, ansI, f2I, fIsN, fNotN, DL.isNon, dAttr, bindU, iSeq, srcD, fEq_int, fNe_int, isSq, cLen, getS, getL, getT, cAll, sAsg, gSt, cInt, cAbs, fAdd_int, cSum, asInts_map, hs]
end K75
end

section
set_option maxHeartbeats 1000000
namespace K75
open PySem PySem.Spec PyProof.Rows L2 DL
noncomputable def tail2 : DenS := sSeq (sIf (dOr (dTest (dBin fNe (dCB cRepr (aCons (dCall 2 F_sign_at [] (aCons (dTup (aCons (dVar 7) (aCons (dVar 8) (aCons (dVar 5) (aNil))))) (aCons (dVar 9) (aNil)))) (aNil))) (dCB cRepr (aCons (dVar 6) (aNil))))) (dTest (dBin fNe (dCallK 2 2 F_sign_at [1, 0] (aCons (dFz (dComp (iSeq (dVar 9)) [11] (gNm 11) (tTrue) (dBin fMul (dUn fNeg (dC (.int 7))) (dVar 11)))) (aCons (dLst (aCons (dCB cList (aCons (dVar 7) (aNil))) (aCons (dCB cList (aCons (dVar 8) (aNil))) (aCons (dVar 5) (aNil))))) (aNil)))) (dVar 6)))) (sRet (dC (.bl false))) (sNil))
    (sIf (dAnd (dTest (dBin fGt (dVar 10) (dC (.int 1)))) (dTest (dBin fNe (dCall 2 F_sign_at [] (aCons (dTup (aCons (dVar 7) (aCons (dVar 8) (aCons (dVar 5) (aNil))))) (aCons (dCB cTuple (aCons (dFz (dComp (iSeq (dVar 9)) [11] (gNm 11) (tTrue) (dBin fDiv (dCB cInt (aCons (dVar 11) (aNil))) (dVar 10)))) (aNil))) (aNil)))) (dVar 6)))) (sRet (dC (.bl false))) (sNil))
theorem comp7_ok {b : Nat} {sl : List (Option D)} {st : List SO} {is : List Int} (h9 : sl[9]? = some (some (.tup (is.map D.int)))) (hn : 11 < sl.length) (hl : is.length ≤ sizeLine) : dFz (dComp (iSeq (dVar 9)) [11] (gNm 11) (tTrue) (dBin fMul (dUn fNeg (dC (.int 7))) (dVar 11))) ⟨sl, st, b⟩ = .ok (.lst ((is.map (-7 * ·)).map D.int)) ⟨sl, st, b⟩ := by
  have m7 : ∀ k : Int, mulOk (-7) k = true := fun k => mul_l (by omega)
  have hm := dComp_map (src := iSeq (dVar 9)) (i := 11) (f := fun d => (match d with | .int i => D.int (-7 * i) | _ => D.non)) (e := dBin fMul (dUn fNeg (dC (.int 7))) (dVar 11)) (s := ⟨sl, st, b⟩) (s1 := ⟨sl, st, b⟩) (ds := is.map D.int)
    (by simp [runF, endF, finF, sRet, sSeq, sIf, sSet, sNil, sRaise1, sDrop, sRetN, dVar, dC, dBin, dUn, dCB, dCall, dCallK, dTest, dAnd, dOr, dNot, dAndV_eq, dOrV_eq, kAnd_bl, kOr_bl, dNotV, dIf, dTup, dLst, dFz, dSl, oNone, oSome, aNil, aCons, Out.bind, ans, ansF, ansI, f2I, fIsN, fNotN, DL.isNon, dAttr, bindU, iSeq, srcD, fEq_int, fNe_int, isSq, cLen, getS, getL, getT, cAll, sAsg, gSt, cInt, cAbs, fAdd_int, h9]) hn (by simpa [runF, endF, finF, sRet, sSeq, sIf, sSet, sNil, sRaise1, sDrop, sRetN, dVar, dC, dBin, dUn, dCB, dCall, dCallK, dTest, dAnd, dOr, dNot, dAndV_eq, dOrV_eq, kAnd_bl, kOr_bl, dNotV, dIf, dTup, dLst, dFz, dSl, oNone, oSome, aNil, aCons, Out.bind, ans, ansF, ansI, f2I, fIsN, fNotN, DL.isNon, dAttr, bindU, iSeq, srcD, fEq_int, fNe_int, isSq, cLen, getS, getL, getT, cAll, sAsg, gSt, cInt, cAbs, fAdd_int] using hl) (fun y hy => by
      obtain ⟨i, _, rfl⟩ := List.mem_map.mp hy
      simp [runF, endF, finF, sRet, sSeq, sIf, sSet, sNil, sRaise1, sDrop, sRetN, dVar, dC, dBin, dUn, dCB, dCall, dCallK, dTest, dAnd, dOr, dNot, dAndV_eq, dOrV_eq, kAnd_bl, kOr_bl, dNotV, dIf, dTup, dLst, dFz, dSl, oNone, oSome, aNil, aCons, Out.bind, ans, ansF, ansI, f2I, fIsN, fNotN, DL.isNon, dAttr, bindU, iSeq, srcD, fEq_int, fNe_int, isSq, cLen, getS, getL, getT, cAll, sAsg, gSt, cInt, cAbs, fAdd_int, m7, hn])
  have e2 : ((is.map D.int).map fun d => (match d with | .int i => D.int (-7 * i) | _ => D.non)) = (is.map (-7 * ·)).map D.int := by rw [List.map_map, List.map_map]; rfl
  rw [e2] at hm
  unfold dFz
  rw [hm]
  rfl
theorem compD_ok {b : Nat} {sl : List (Option D)} {st : List SO} {is : List Int} {h : Int} (h9 : sl[9]? = some (some (.tup (is.map D.int)))) (h10 : sl[10]? = some (some (.int h))) (h0 : 0 < h) (hh : h ≤ 9) (hn : 11 < sl.length) (hl : is.length ≤ sizeLine) : dFz (dComp (iSeq (dVar 9)) [11] (gNm 11) (tTrue) (dBin fDiv (dCB cInt (aCons (dVar 11) (aNil))) (dVar 10))) ⟨sl, st, b⟩ = .ok (.lst ((is.map (· / h)).map D.int)) ⟨sl, st, b⟩ := by
  have dk : divOk h = true := by unfold divOk; exact decide_eq_true ⟨by omega, log_le (k := 20) (by omega) (by omega) (by omega)⟩
  have hm := dComp_map (src := iSeq (dVar 9)) (i := 11) (f := fun d => (match d with | .int i => D.int (i / h) | _ => D.non)) (e := dBin fDiv (dCB cInt (aCons (dVar 11) (aNil))) (dVar 10)) (s := ⟨sl, st, b⟩) (s1 := ⟨sl, st, b⟩) (ds := is.map D.int)
    (by simp [runF, endF, finF, sRet, sSeq, sIf, sSet, sNil, sRaise1, sDrop, sRetN, dVar, dC, dBin, dUn, dCB, dCall, dCallK, dTest, dAnd, dOr, dNot, dAndV_eq, dOrV_eq, kAnd_bl, kOr_bl, dNotV, dIf, dTup, dLst, dFz, dSl, oNone, oSome, aNil, aCons, Out.bind, ans, ansF, ansI, f2I, fIsN, fNotN, DL.isNon, dAttr, bindU, iSeq, srcD, fEq_int, fNe_int, isSq, cLen, getS, getL, getT, cAll, sAsg, gSt, cInt, cAbs, fAdd_int, h9]) hn (by simpa [runF, endF, finF, sRet, sSeq, sIf, sSet, sNil, sRaise1, sDrop, sRetN, dVar, dC, dBin, dUn, dCB, dCall, dCallK, dTest, dAnd, dOr, dNot, dAndV_eq, dOrV_eq, kAnd_bl, kOr_bl, dNotV, dIf, dTup, dLst, dFz, dSl, oNone, oSome, aNil, aCons, Out.bind, ans, ansF, ansI, f2I, fIsN, fNotN, DL.isNon, dAttr, bindU, iSeq, srcD, fEq_int, fNe_int, isSq, cLen, getS, getL, getT, cAll, sAsg, gSt, cInt, cAbs, fAdd_int] using hl) (fun y hy => by
      obtain ⟨i, _, rfl⟩ := List.mem_map.mp hy
      simp [runF, endF, finF, sRet, sSeq, sIf, sSet, sNil, sRaise1, sDrop, sRetN, dVar, dC, dBin, dUn, dCB, dCall, dCallK, dTest, dAnd, dOr, dNot, dAndV_eq, dOrV_eq, kAnd_bl, kOr_bl, dNotV, dIf, dTup, dLst, dFz, dSl, oNone, oSome, aNil, aCons, Out.bind, ans, ansF, ansI, f2I, fIsN, fNotN, DL.isNon, dAttr, bindU, iSeq, srcD, fEq_int, fNe_int, isSq, cLen, getS, getL, getT, cAll, sAsg, gSt, cInt, cAbs, fAdd_int, dk, hn, h10, List.getElem?_set, h0])
  have e2 : ((is.map D.int).map fun d => (match d with | .int i => D.int (i / h) | _ => D.non)) = (is.map (· / h)).map D.int := by rw [List.map_map, List.map_map]; rfl
  rw [e2] at hm
  have e3 : dFz (dComp (iSeq (dVar 9)) [11] (gNm 11) (tTrue) (dBin fDiv (dCB cInt (aCons (dVar 11) (aNil))) (dVar 10))) ⟨sl, st, b⟩ = .ok (.lst ((is.map (· / h)).map D.int)) ⟨sl, st, b⟩ := by
    unfold dFz
    rw [hm]
    rfl
  exact e3
end K75
end

section
set_option maxHeartbeats 1000000
namespace K75
open PySem PySem.Spec PyProof.Rows L2 DL
theorem tail2_ok {st : List SO} {b : Nat} {x0 x1 x2 x3 x4 x11 x12 x13 x14 : Option D} {a0 a1 a2 b0 b1 b2 r0 r1 r2 u h : Int}
    (A0 : a0.natAbs < 2 ^ 20) (A1 : a1.natAbs < 2 ^ 20) (A2 : a2.natAbs < 2 ^ 20) (B0 : b0.natAbs < 2 ^ 20) (B1 : b1.natAbs < 2 ^ 20) (B2 : b2.natAbs < 2 ^ 20)
    (c0 : 1 ≤ r0) (c1 : r0 ≤ 9) (c2 : r1.natAbs ≤ 9) (c3 : r2.natAbs ≤ 9) (u0 : 0 ≤ u) (u1 : u < 1000000) (h0 : 1 ≤ h) (h1 : h ≤ 9) (m0 : r0 % h = 0) (m1 : r1 % h = 0) (m2 : r2 % h = 0) (dd_ : Int) (hdd : dd_ = due (dot [r0, r1, r2] [a0, a1, a2]) (dot [r0, r1, r2] [b0, b1, b2]) u) :
    tail2 ⟨[x0, x1, x2, x3, x4, some (.int u), some (.int dd_), some (.tup ([a0, a1, a2].map D.int)), some (.tup ([b0, b1, b2].map D.int)), some (.tup ([r0, r1, r2].map D.int)), some (.int h), x11, x12, x13, x14], st, b⟩ = .ok .nx ⟨[x0, x1, x2, x3, x4, some (.int u), some (.int dd_), some (.tup ([a0, a1, a2].map D.int)), some (.tup ([b0, b1, b2].map D.int)), some (.tup ([r0, r1, r2].map D.int)), some (.int h), x11, x12, x13, x14], st, b⟩ := by
  have bu : u.natAbs < 2 ^ 20 := by omega
  have k7 := comp7_ok (st := st) (b := b) (is := [r0, r1, r2]) (sl := [x0, x1, x2, x3, x4, some (.int u), some (.int dd_), some (.tup ([a0, a1, a2].map D.int)), some (.tup ([b0, b1, b2].map D.int)), some (.tup ([r0, r1, r2].map D.int)), some (.int h), x11, x12, x13, x14]) rfl (by simp [runF, endF, finF, sRet, sSeq, sIf, sSet, sNil, sRaise1, sDrop, sRetN, dVar, dC, dBin, dUn, dCB, dCall, dCallK, dTest, dAnd, dOr, dNot, dAndV_eq, dOrV_eq, kAnd_bl, kOr_bl, dNotV, dIf, dTup, dLst, dSl, oNone, oSome, aNil, aCons, Out.bind, ans, ansF, ansI, f2I, fIsN, fNotN, DL.isNon, dAttr, bindU, fEq_int, fNe_int, isSq, cLen, getS, getL, getT, cAll, sAsg, gSt, cInt, cAbs, fAdd_int]) (by rw [sizeLine_eq]; simp [runF, endF, finF, sRet, sSeq, sIf, sSet, sNil, sRaise1, sDrop, sRetN, dVar, dC, dBin, dUn, dCB, dCall, dCallK, dTest, dAnd, dOr, dNot, dAndV_eq, dOrV_eq, kAnd_bl, kOr_bl, dNotV, dIf, dTup, dLst, dSl, oNone, oSome, aNil, aCons, Out.bind, ans, ansF, ansI, f2I, fIsN, fNotN, DL.isNon, dAttr, bindU, fEq_int, fNe_int, isSq, cLen, getS, getL, getT, cAll, sAsg, gSt, cInt, cAbs, fAdd_int])
  have kD := compD_ok (st := st) (b := b) (is := [r0, r1, r2]) (sl := [x0, x1, x2, x3, x4, some (.int u), some (.int dd_), some (.tup ([a0, a1, a2].map D.int)), some (.tup ([b0, b1, b2].map D.int)), some (.tup ([r0, r1, r2].map D.int)), some (.int h), x11, x12, x13, x14]) rfl rfl (by omega) h1 (by simp [runF, endF, finF, sRet, sSeq, sIf, sSet, sNil, sRaise1, sDrop, sRetN, dVar, dC, dBin, dUn, dCB, dCall, dCallK, dTest, dAnd, dOr, dNot, dAndV_eq, dOrV_eq, kAnd_bl, kOr_bl, dNotV, dIf, dTup, dLst, dSl, oNone, oSome, aNil, aCons, Out.bind, ans, ansF, ansI, f2I, fIsN, fNotN, DL.isNon, dAttr, bindU, fEq_int, fNe_int, isSq, cLen, getS, getL, getT, cAll, sAsg, gSt, cInt, cAbs, fAdd_int]) (by rw [sizeLine_eq]; simp [runF, endF, finF, sRet, sSeq, sIf, sSet, sNil, sRaise1, sDrop, sRetN, dVar, dC, dBin, dUn, dCB, dCall, dCallK, dTest, dAnd, dOr, dNot, dAndV_eq, dOrV_eq, kAnd_bl, kOr_bl, dNotV, dIf, dTup, dLst, dSl, oNone, oSome, aNil, aCons, Out.bind, ans, ansF, ansI, f2I, fIsN, fNotN, DL.isNon, dAttr, bindU, fEq_int, fNe_int, isSq, cLen, getS, getL, getT, cAll, sAsg, gSt, cInt, cAbs, fAdd_int])
  have s1 := sign_at_call (d := .tup [.tup ([a0, a1, a2].map D.int), .tup ([b0, b1, b2].map D.int), .int u]) (w := .tup ([r0, r1, r2].map D.int)) (m := 1) (n := 1) (s := 1) (r0 := r0) (r1 := r1) (r2 := r2) rfl rfl rfl rfl (by omega) (by omega) (.inl rfl) (by omega) (by omega) (by omega) (by omega) u0 bu (by omega) (by omega) (by omega) ⟨_, _, _, rfl, A0, A1, A2⟩ ⟨_, _, _, rfl, B0, B1, B2⟩ st
  have s2 := sign_at_call (d := .lst [.lst ([a0, a1, a2].map D.int), .lst ([b0, b1, b2].map D.int), .int u]) (w := .lst ([-7 * r0, -7 * r1, -7 * r2].map D.int)) (x := -7 * r0) (y := -7 * r1) (z := -7 * r2) (m := 7) (n := 1) (s := -1) (r0 := r0) (r1 := r1) (r2 := r2) rfl rfl rfl rfl (by omega) (by omega) (.inr rfl) (by omega) (by omega) (by omega) (by omega) u0 bu (by omega) (by omega) (by omega) ⟨_, _, _, rfl, A0, A1, A2⟩ ⟨_, _, _, rfl, B0, B1, B2⟩ st
  have q0 : h * (r0 / h) = r0 := Int.mul_ediv_cancel' (Int.dvd_of_emod_eq_zero m0)
  have q1 : h * (r1 / h) = r1 := Int.mul_ediv_cancel' (Int.dvd_of_emod_eq_zero m1)
  have q2 : h * (r2 / h) = r2 := Int.mul_ediv_cancel' (Int.dvd_of_emod_eq_zero m2)
  have le : ∀ w v : Int, h * v = w → v.natAbs ≤ w.natAbs := fun w v e => by
    rw [← e, Int.natAbs_mul]
    exact Nat.le_mul_of_pos_left _ (by omega)
  have l0 := le _ _ q0
  have l1 := le _ _ q1
  have l2 := le _ _ q2
  have s3 := sign_at_call (d := .tup [.tup ([a0, a1, a2].map D.int), .tup ([b0, b1, b2].map D.int), .int u]) (w := .tup ([r0 / h, r1 / h, r2 / h].map D.int)) (x := r0 / h) (y := r1 / h) (z := r2 / h) (m := 1) (n := h) (s := 1) (r0 := r0) (r1 := r1) (r2 := r2) rfl rfl rfl rfl (by omega) (by omega) (.inl rfl) (by omega) (by rw [Int.one_mul, Int.one_mul, q0]) (by rw [Int.one_mul, Int.one_mul, q1]) (by rw [Int.one_mul, Int.one_mul, q2]) u0 bu (by omega) (by omega) (by omega) ⟨_, _, _, rfl, A0, A1, A2⟩ ⟨_, _, _, rfl, B0, B1, B2⟩ st
  rw [← hdd] at s1 s2 s3
  have rp : cRepr st [.int dd_] = some (.str (toString dd_)) := cRepr_ok (by rw [hdd]; exact due_small _ _ _) st
  have z7 : ([r0, r1, r2].map (-7 * ·)).map D.int = [-7 * r0, -7 * r1, -7 * r2].map D.int := rfl
  have zD : ([r0, r1, r2].map (· / h)).map D.int = [r0 / h, r1 / h, r2 / h].map D.int := rfl
  rw [z7] at k7
  rw [zD] at kD
  generalize [-7 * r0, -7 * r1, -7 * r2].map D.int = R7 at *
  generalize [r0 / h, r1 / h, r2 / h].map D.int = RD at *
  generalize [a0, a1, a2].map D.int = AA at *
  generalize [b0, b1, b2].map D.int = BB at *
  generalize [r0, r1, r2].map D.int = RR at *
  simp [runF, endF, finF, sRet, sSeq, sIf, sSet, sNil, sRaise1, sDrop, sRetN, dVar, dC, dBin, dUn, dCB, dCall, dCallK, dTest, dAnd, dOr, dNot, dAndV_eq, dOrV_eq, kAnd_bl, kOr_bl, dNotV, dIf, dTup, dLst, dSl, oNone, oSome, aNil, aCons, Out.bind, ans, ansF, ansI, f2I, fIsN, fNotN, DL.isNon, dAttr, bindU, fEq_int, fNe_int, isSq, cLen, getS, getL, getT, cAll, sAsg, gSt, cInt, cAbs, fAdd_int, tail2, k7, kD, s1, s2, s3, rp, fNe_str, permD, sizeLine_eq, cList, cTuple]
end K75
end

section
set_option maxHeartbeats 1000000
namespace K75
open PySem PySem.Spec PyProof.Rows L2 DL
theorem sSeq_nx {a c : DenS} {s s1 : S} (h : a s = .ok .nx s1) : sSeq a c s = c s1 := by
  unfold sSeq
  rw [h]
  rfl
theorem sSet_ok {i : Nat} {de : DenE} {s s1 : S} {d : D} (h : de s = .ok d s1) (hi : i < s1.sl.length) : sSet i de s = .ok .nx ⟨s1.sl.set i (some d), s1.st, s1.b⟩ := by
  unfold sSet
  rw [h]
  exact if_pos hi
noncomputable def body2 : DenS := sSeq (sAsg den23 (gTp 2 (gsCons (gNm 7) (gsCons (gNm 8) gsNil)))) (sSeq sRow (sSeq (sSet 10 (dC (.int 1))) (sSeq sShare (sSeq (sSet 6 (dCall 3 F__law_sign [] (aCons (sumZ 7) (aCons (sumZ 8) (aCons (dVar 5) (aNil)))))) tail2))))
theorem Mv.trans {a b c : List SO} {p : Nat} (h : Mv a b p) (g : Mv b c p) : Mv a c p := by
  obtain ⟨ds, rfl⟩ := g
  exact ⟨ds, h.set ds⟩
theorem body2_ok {st : List SO} {p k b : Nat} {x0 x2 x3 x4 x5 x6 x7 x8 x9 x10 x11 x12 x13 x14 : Option D} (hp : Pen st p k) (hk : k + 100 ≤ 1000000) : ∃ y3 y4 y5 y6 y7 y8 y9 y10 y11 st', body2 ⟨[x0, some (.ob p), x2, x3, x4, x5, x6, x7, x8, x9, x10, x11, x12, x13, x14], st, b⟩ = .ok .nx ⟨[x0, some (.ob p), x2, y3, y4, y5, y6, y7, y8, y9, y10, y11, x12, x13, x14], st', b⟩ ∧ Mv st st' p ∧ Pen st' p (k + 10) := by
  obtain ⟨_, _, st1, e1, ⟨a0, a1, a2, rfl, A0, A1, A2⟩, ⟨b0, b1, b2, rfl, B0, B1, B2⟩, mv1, pn1⟩ := den23_ok (b := b) (sl := [x0, some (.ob p), x2, x3, x4, x5, x6, x7, x8, x9, x10, x11, x12, x13, x14]) hp (by omega) rfl (by simp)
  obtain ⟨r0, r1, r2, u, st2, e2, mv2, pn2, c0, c1, c2, c3, u0, u1⟩ := sRow_ok (b := b) (x0 := x0) (x2 := x2) (x3 := x3) (x4 := x4) (x5 := x5) (x6 := x6) (x7 := some (.tup ([a0, a1, a2].map D.int))) (x8 := some (.tup ([b0, b1, b2].map D.int))) (x9 := x9) (sl := [x10, x11, x12, x13, x14]) pn1 (by omega)
  obtain ⟨h, y11, e3, h0, h1, m0, m1, m2⟩ := sShare_ok (b := b) (st := st2) (x0 := x0) (x1 := some (.ob p)) (x2 := x2) (x3 := x3) (x4 := x4) (x5 := some (.int u)) (x6 := x6) (x7 := some (.tup ([a0, a1, a2].map D.int))) (x8 := some (.tup ([b0, b1, b2].map D.int))) (x11 := x11) (sl := [x12, x13, x14]) (r0 := r0) (r1 := r1) (r2 := r2)
  have z1 := sumZ_ok (k := 7) (b := b) (st := st2) (sl := [x0, some (.ob p), x2, x3, x4, some (.int u), x6, some (.tup ([a0, a1, a2].map D.int)), some (.tup ([b0, b1, b2].map D.int)), some (.tup ([r0, r1, r2].map D.int)), some (.int h), y11, x12, x13, x14]) (is := [r0, r1, r2]) rfl rfl (by simp) (by rw [sizeLine_eq]; simp) (by intro i hi; simp only [List.mem_cons, List.not_mem_nil, or_false] at hi; rcases hi with rfl | rfl | rfl <;> omega)
  have z2 := sumZ_ok (k := 8) (b := b) (st := st2) (sl := [x0, some (.ob p), x2, x3, x4, some (.int u), x6, some (.tup ([a0, a1, a2].map D.int)), some (.tup ([b0, b1, b2].map D.int)), some (.tup ([r0, r1, r2].map D.int)), some (.int h), y11, x12, x13, x14]) (is := [r0, r1, r2]) rfl rfl (by simp) (by rw [sizeLine_eq]; simp) (by intro i hi; simp only [List.mem_cons, List.not_mem_nil, or_false] at hi; rcases hi with rfl | rfl | rfl <;> omega)
  have sg := sign_call (a := dot [r0, r1, r2] [a0, a1, a2]) (b := dot [r0, r1, r2] [b0, b1, b2]) (u := u) (n := 42) (dot_small (m := 20) (n := 20) (by omega) (by omega) (by omega) A0 A1 A2) (dot_small (m := 20) (n := 20) (by omega) (by omega) (by omega) B0 B1 B2) (by omega) (by omega) st2
  have tl := tail2_ok (st := st2) (b := b) (x0 := x0) (x1 := some (.ob p)) (x2 := x2) (x3 := x3) (x4 := x4) (x11 := y11) (x12 := x12) (x13 := x13) (x14 := x14) A0 A1 A2 B0 B1 B2 c0 c1 c2 c3 u0 u1 h0 h1 m0 m1 m2 _ rfl
  refine ⟨x3, x4, some (.int u), some (.int (due (dot [r0, r1, r2] [a0, a1, a2]) (dot [r0, r1, r2] [b0, b1, b2]) u)), some (.tup ([a0, a1, a2].map D.int)), some (.tup ([b0, b1, b2].map D.int)), some (.tup ([r0, r1, r2].map D.int)), some (.int h), y11, st2, ?_, mv1.trans mv2, pn2⟩
  unfold body2
  refine (sSeq_nx (s1 := ⟨[x0, some (.ob p), x2, x3, x4, x5, x6, some (.tup ([a0, a1, a2].map D.int)), some (.tup ([b0, b1, b2].map D.int)), x9, x10, x11, x12, x13, x14], st1, b⟩) (by
    unfold sAsg
    rw [e1]
    rfl)).trans ?_
  refine (sSeq_nx e2).trans ?_
  refine (sSeq_nx (s1 := ⟨[x0, some (.ob p), x2, x3, x4, some (.int u), x6, some (.tup ([a0, a1, a2].map D.int)), some (.tup ([b0, b1, b2].map D.int)), some (.tup ([r0, r1, r2].map D.int)), some (.int 1), x11, x12, x13, x14], st2, b⟩) rfl).trans ?_
  refine (sSeq_nx e3).trans ?_
  refine (sSeq_nx (s1 := ⟨[x0, some (.ob p), x2, x3, x4, some (.int u), some (.int (due (dot [r0, r1, r2] [a0, a1, a2]) (dot [r0, r1, r2] [b0, b1, b2]) u)), some (.tup ([a0, a1, a2].map D.int)), some (.tup ([b0, b1, b2].map D.int)), some (.tup ([r0, r1, r2].map D.int)), some (.int h), y11, x12, x13, x14], st2, b⟩) ?_).trans tl
  have q : aCons (sumZ 7) (aCons (sumZ 8) (aCons (dVar 5) (aNil))) ⟨[x0, some (.ob p), x2, x3, x4, some (.int u), x6, some (.tup ([a0, a1, a2].map D.int)), some (.tup ([b0, b1, b2].map D.int)), some (.tup ([r0, r1, r2].map D.int)), some (.int h), y11, x12, x13, x14], st2, b⟩ = .ok [.int (dot [r0, r1, r2] [a0, a1, a2]), .int (dot [r0, r1, r2] [b0, b1, b2]), .int u] ⟨[x0, some (.ob p), x2, x3, x4, some (.int u), x6, some (.tup ([a0, a1, a2].map D.int)), some (.tup ([b0, b1, b2].map D.int)), some (.tup ([r0, r1, r2].map D.int)), some (.int h), y11, x12, x13, x14], st2, b⟩ := by
    unfold aCons
    rw [z1]
    simp only [Out.bind, aCons]
    rw [z2]
    rfl
  have q2 : dCall 3 F__law_sign [] (aCons (sumZ 7) (aCons (sumZ 8) (aCons (dVar 5) (aNil)))) ⟨[x0, some (.ob p), x2, x3, x4, some (.int u), x6, some (.tup ([a0, a1, a2].map D.int)), some (.tup ([b0, b1, b2].map D.int)), some (.tup ([r0, r1, r2].map D.int)), some (.int h), y11, x12, x13, x14], st2, b⟩ = .ok (.int (due (dot [r0, r1, r2] [a0, a1, a2]) (dot [r0, r1, r2] [b0, b1, b2]) u)) ⟨[x0, some (.ob p), x2, x3, x4, some (.int u), x6, some (.tup ([a0, a1, a2].map D.int)), some (.tup ([b0, b1, b2].map D.int)), some (.tup ([r0, r1, r2].map D.int)), some (.int h), y11, x12, x13, x14], st2, b⟩ := by
    unfold dCall
    rw [q]
    show ansF _ (F__law_sign [_, _, _] st2) = _
    rw [sg]
    rfl
  exact sSet_ok q2 (by simp)
end K75
end

section
set_option maxHeartbeats 1000000
namespace K75
open PySem PySem.Spec PyProof.Rows L2 DL
/-! ### values that are none -/
theorem noAskL_ints : ∀ (is : List Int), noAskL (is.map D.int) = true
  | [] => rfl
  | i :: is => by rw [List.map_cons, noAskL, noAskL_ints is, Bool.and_true]; rfl
theorem lowbL_ints (b : Nat) : ∀ (is : List Int), lowbL b (is.map D.int) = true
  | [] => rfl
  | i :: is => by rw [List.map_cons, lowbL, lowbL_ints b is, Bool.and_true]; rfl
/-- the pen holds neither objects nor functions -/
theorem Pen.flat {X : SO} {st : List SO} {k : Nat} (h : Pen (X :: st) 0 k) (b : Nat) : X.noAsk = true ∧ X.lowb b = true := by
  obtain ⟨cs, a, g, q, _⟩ := h
  cases q
  constructor
  · simp [runF, endF, finF, sRet, sSeq, sIf, sSet, sNil, sRaise1, sDrop, sRetN, dVar, dC, dBin, dUn, dCB, dCall, dCallK, dTest, dAnd, dOr, dNot, dAndV_eq, dOrV_eq, kAnd_bl, kOr_bl, dNotV, dIf, dTup, dLst, dFz, dSl, oNone, oSome, aNil, aCons, Out.bind, ans, ansF, ansI, f2I, fIsN, fNotN, DL.isNon, dAttr, bindU, iSeq, srcD, fEq_int, fNe_int, isSq, cLen, getS, getL, getT, cAll, sAsg, gSt, cInt, cAbs, fAdd_int, SO.noAsk, noAskL, D.noAsk, noAskL_ints]
  · simp [runF, endF, finF, sRet, sSeq, sIf, sSet, sNil, sRaise1, sDrop, sRetN, dVar, dC, dBin, dUn, dCB, dCall, dCallK, dTest, dAnd, dOr, dNot, dAndV_eq, dOrV_eq, kAnd_bl, kOr_bl, dNotV, dIf, dTup, dLst, dFz, dSl, oNone, oSome, aNil, aCons, Out.bind, ans, ansF, ansI, f2I, fIsN, fNotN, DL.isNon, dAttr, bindU, iSeq, srcD, fEq_int, fNe_int, isSq, cLen, getS, getL, getT, cAll, sAsg, gSt, cInt, cAbs, fAdd_int, SO.lowb, lowbL, D.lowb, lowbL_ints]
theorem Pen.tail {X : SO} {st st2 : List SO} {k : Nat} (h : Pen (X :: st) 0 k) : Pen (X :: st2) 0 k := by
  obtain ⟨cs, a, g, q, r⟩ := h
  cases q
  exact ⟨cs, a, g, rfl, r⟩
theorem catches_ok {x : Str} (h : x ∈ T.names) : catches "SightError" x = some true := by
  unfold catches
  rw [if_pos ⟨h, rfl⟩]
theorem ne_rn : (Str.ofString "BadRow" = Str.ofString "BadNumber") = False := eq_false (by decide)
theorem ne_rs : (Str.ofString "BadRow" = Str.ofString "SightError") = False := eq_false (by decide)
theorem ne_nr : (Str.ofString "BadNumber" = Str.ofString "BadRow") = False := eq_false (by decide)
theorem ne_ns : (Str.ofString "BadNumber" = Str.ofString "SightError") = False := eq_false (by decide)
theorem heard_num {den : DenE} {sl : List (Option D)} {st st2 : List SO} {b : Nat} {p : Str} {s1 : S} (h : den ⟨sl, st, st.length⟩ = .er ⟨"BadNumber", ["part"], [.str p]⟩ s1) (hs : s1.st = st2) (hl : st2.length = st.length) (hn : st2.all SO.noAsk = true) :
    dHeard 4 denH__law_heard den ⟨sl, st, b⟩ = .ok (.tup [.str "number", .str p]) ⟨sl, st2, b⟩ := by
  obtain ⟨sl1, st1, b1⟩ := s1
  cases hs
  have c1 : catches "SightError" "BadNumber" = some true := catches_ok (by simp [runF, endF, finF, sRet, sSeq, sIf, sSet, sNil, sRaise1, sDrop, sRetN, dVar, dC, dBin, dUn, dCB, dCall, dCallK, dTest, dAnd, dOr, dNot, dAndV_eq, dOrV_eq, kAnd_bl, kOr_bl, dNotV, dIf, dTup, dLst, dFz, dSl, oNone, oSome, aNil, aCons, Out.bind, ans, ansF, ansI, f2I, fIsN, fNotN, DL.isNon, dAttr, bindU, iSeq, srcD, fEq_int, fNe_int, isSq, cLen, getS, getL, getT, cAll, sAsg, gSt, cInt, cAbs, fAdd_int, T])
  simp [runF, endF, finF, sRet, sSeq, sIf, sSet, sNil, sRaise1, sDrop, sRetN, dVar, dC, dBin, dUn, dCB, dCall, dCallK, dTest, dAnd, dOr, dNot, dAndV_eq, dOrV_eq, kAnd_bl, kOr_bl, dNotV, dIf, dTup, dLst, dFz, dSl, oNone, oSome, aNil, aCons, Out.bind, ans, ansF, ansI, f2I, fIsN, fNotN, DL.isNon, dAttr, bindU, iSeq, srcD, fEq_int, fNe_int, isSq, cLen, getS, getL, getT, cAll, sAsg, gSt, cInt, cAbs, fAdd_int, dHeard, denH__law_heard, dAsk, h, actF, sTryK, c1, cIsi, tyW, isIn, isW, T, fAttr, lookF, fAdd, fIx, atI_zero, sizeLine_eq, outAsk, hl, D.noAsk, noAskL, ne_rn, ne_rs, ne_nr, ne_ns]
  rw [if_pos (by simpa [runF, endF, finF, sRet, sSeq, sIf, sSet, sNil, sRaise1, sDrop, sRetN, dVar, dC, dBin, dUn, dCB, dCall, dCallK, dTest, dAnd, dOr, dNot, dAndV_eq, dOrV_eq, kAnd_bl, kOr_bl, dNotV, dIf, dTup, dLst, dFz, dSl, oNone, oSome, aNil, aCons, Out.bind, ans, ansF, ansI, f2I, fIsN, fNotN, DL.isNon, dAttr, bindU, iSeq, srcD, fEq_int, fNe_int, isSq, cLen, getS, getL, getT, cAll, sAsg, gSt, cInt, cAbs, fAdd_int] using hn)]
theorem heard_row {den : DenE} {sl : List (Option D)} {st st2 : List SO} {b : Nat} {p : Str} {s1 : S} (h : den ⟨sl, st, st.length⟩ = .er ⟨"BadRow", ["part"], [.str p]⟩ s1) (hs : s1.st = st2) (hl : st2.length = st.length) (hn : st2.all SO.noAsk = true) :
    dHeard 4 denH__law_heard den ⟨sl, st, b⟩ = .ok (.tup [.str "row", .str p]) ⟨sl, st2, b⟩ := by
  obtain ⟨sl1, st1, b1⟩ := s1
  cases hs
  have c1 : catches "SightError" "BadRow" = some true := catches_ok (by simp [runF, endF, finF, sRet, sSeq, sIf, sSet, sNil, sRaise1, sDrop, sRetN, dVar, dC, dBin, dUn, dCB, dCall, dCallK, dTest, dAnd, dOr, dNot, dAndV_eq, dOrV_eq, kAnd_bl, kOr_bl, dNotV, dIf, dTup, dLst, dFz, dSl, oNone, oSome, aNil, aCons, Out.bind, ans, ansF, ansI, f2I, fIsN, fNotN, DL.isNon, dAttr, bindU, iSeq, srcD, fEq_int, fNe_int, isSq, cLen, getS, getL, getT, cAll, sAsg, gSt, cInt, cAbs, fAdd_int, T])
  simp [runF, endF, finF, sRet, sSeq, sIf, sSet, sNil, sRaise1, sDrop, sRetN, dVar, dC, dBin, dUn, dCB, dCall, dCallK, dTest, dAnd, dOr, dNot, dAndV_eq, dOrV_eq, kAnd_bl, kOr_bl, dNotV, dIf, dTup, dLst, dFz, dSl, oNone, oSome, aNil, aCons, Out.bind, ans, ansF, ansI, f2I, fIsN, fNotN, DL.isNon, dAttr, bindU, iSeq, srcD, fEq_int, fNe_int, isSq, cLen, getS, getL, getT, cAll, sAsg, gSt, cInt, cAbs, fAdd_int, dHeard, denH__law_heard, dAsk, h, actF, sTryK, c1, cIsi, tyW, isIn, isW, T, fAttr, lookF, fAdd, fIx, atI_zero, sizeLine_eq, outAsk, hl, D.noAsk, noAskL, ne_rn, ne_rs, ne_nr, ne_ns]
  rw [if_pos (by simpa [runF, endF, finF, sRet, sSeq, sIf, sSet, sNil, sRaise1, sDrop, sRetN, dVar, dC, dBin, dUn, dCB, dCall, dCallK, dTest, dAnd, dOr, dNot, dAndV_eq, dOrV_eq, kAnd_bl, kOr_bl, dNotV, dIf, dTup, dLst, dFz, dSl, oNone, oSome, aNil, aCons, Out.bind, ans, ansF, ansI, f2I, fIsN, fNotN, DL.isNon, dAttr, bindU, iSeq, srcD, fEq_int, fNe_int, isSq, cLen, getS, getL, getT, cAll, sAsg, gSt, cInt, cAbs, fAdd_int] using hn)]
/-- the values that are no numbers -/
def odds : List D := [.non, .str "1", .bl true, .tup [.int 1, .int 1], .lst [.int 2]]
theorem odds_ok {d : D} (h : d ∈ odds) : pl d = true ∧ wit d none = false ∧ wit d (some 0) = false := by
  simp only [odds, List.mem_cons, List.not_mem_nil, or_false] at h
  rcases h with rfl | rfl | rfl | rfl | rfl <;> exact ⟨rfl, rfl, rfl⟩
end K75
end

section
set_option maxHeartbeats 1000000
namespace K75
open PySem PySem.Spec PyProof.Rows L2 DL
theorem eqD_ob {st : List SO} {n : Nat} {ds es : List D} {p q : List PyData} (h : st[n]? = some (.lst ds)) (h1 : toPyL ds = some p) (h2 : toPyL es = some q) (s1 : SeqAt.shaped (.list p) = true) (s2 : SeqAt.shaped (.list q) = true) : eqD st (.ob n) (.lst es) = some (PyData.eqv (.list p) (.list q)) := by
  have e1 : topPy st (.ob n) = some (.list p) := by
    unfold topPy
    have g : getL st (.ob n) = some ds := by simp [runF, endF, finF, sRet, sSeq, sIf, sSet, sNil, sRaise1, sDrop, sRetN, dVar, dC, dBin, dUn, dCB, dCall, dCallK, dTest, dAnd, dOr, dNot, dAndV_eq, dOrV_eq, kAnd_bl, kOr_bl, dNotV, dIf, dTup, dLst, dFz, dSl, oNone, oSome, aNil, aCons, Out.bind, ans, ansF, ansI, f2I, fIsN, fNotN, DL.isNon, dAttr, bindU, iSeq, srcD, fEq_int, fNe_int, isSq, cLen, getS, getL, getT, cAll, sAsg, gSt, cInt, cAbs, fAdd_int, getL, h]
    rw [g]
    show (toPyL ds).map PyData.list = _
    rw [h1]
    rfl
  have e2 : topPy st (.lst es) = some (.list q) := by
    show (toPyL es).map PyData.list = _
    rw [h2]
    rfl
  show (match topPy st (.ob n), topPy st (.lst es) with
      | some p, some q => if SeqAt.shaped p = true ∧ SeqAt.shaped q = true then some (PyData.eqv p q) else none
      | _, _ => none) = _
  rw [e1, e2]
  exact if_pos ⟨s1, s2⟩
def nums : List D := [.tup [.str "number", .str "one"], .tup [.str "number", .str "other"], .tup [.str "number", .str "under"]]
def rws : List D := [.tup [.str "row", .str "place"], .tup [.str "row", .str "row"]]
theorem fNe_nums {st : List SO} {n : Nat} (h : st[n]? = some (.lst nums)) : fNe st (.ob n) (.lst nums) = some (.bl false) := by
  have e := eqD_ob (es := nums) h rfl rfl (by decide +kernel) (by decide +kernel)
  show (eqD st (.ob n) (.lst nums)).map (fun b => D.bl !b) = _
  rw [e]
  show some (D.bl _) = some (D.bl _)
  exact congrArg (fun b => some (D.bl b)) (by decide +kernel)
theorem fEq_rws {st : List SO} {n : Nat} (h : st[n]? = some (.lst rws)) : fEq st (.ob n) (.lst rws) = some (.bl true) := by
  have e := eqD_ob (es := rws) h rfl rfl (by decide +kernel) (by decide +kernel)
  show (eqD st (.ob n) (.lst rws)).map D.bl = _
  rw [e]
  show some (D.bl _) = some (D.bl _)
  exact congrArg (fun b => some (D.bl b)) (by decide +kernel)
def t3 (a b c : D) : D := .tup [a, b, c]
def places : List D := [.non, .int 5, .tup [], .tup [.tup [.int 1, .int 0, .int 0], .tup [.int 0, .int 0, .int 0]], .tup [.tup [.int 1, .int 0, .int 0], .tup [.int 0, .int 0, .int 0], .int (-1)], .tup [.tup [.int 1, .int 0, .int 0], .tup [.int 0, .int 0, .int 0], .bl true], .tup [.tup [.int 1, .int 0], .tup [.int 0, .int 0, .int 0], .int 2]]
def places2 : List D := [.tup [.tup [.int 1, .int 0, .int 0], .tup [.int 0, .int 0, .non], .int 2], .tup [.tup [.int 1, .int 0, .int 0], .int 0, .int 2], .tup [.tup [.int 1, .int 0, .int 0], .tup [.int 0, .int 0, .int 0], .int 2, .int 0]]
def rows6 : List D := [.non, .tup [.int 0, .int 0, .int 0], .tup [.int 1, .int 2], .lst [.int 1, .int 2, .str "3"], .int 7, .tup [.bl true, .int 0, .int 0]]
theorem place_bad {d r : D} (h : d ∈ places ++ places2) (st : List SO) : F_sign_at [d, r] st = .er ⟨"BadRow", ["part"], [.str "place"]⟩ st := by
  apply F_sign_at_bad
  simp only [places, places2, List.cons_append, List.nil_append, List.mem_cons, List.not_mem_nil, or_false] at h
  have three : ∀ x y z : D, pl2 x = true → pl2 y = true → pl z = true → (areInts x 3 && areInts y 3 && nnI z) = false → F_is_place [.tup [x, y, z]] st = .ok (.bl false) st := fun x y z h1 h2 h3 h4 => by
    rw [F_is_place_3 (d := .tup [x, y, z]) rfl h1 h2 h3, h4]
  rcases h with rfl | rfl | rfl | rfl | rfl | rfl | rfl | rfl | rfl | rfl
  · exact F_is_place_not rfl rfl st
  · exact F_is_place_not rfl rfl st
  · exact F_is_place_len (ds := []) rfl (by decide) st
  · exact F_is_place_len (ds := [_, _]) rfl (by decide) st
  · exact three _ _ _ rfl rfl rfl rfl
  · exact three _ _ _ rfl rfl rfl rfl
  · exact three _ _ _ rfl rfl rfl rfl
  · exact three _ _ _ rfl rfl rfl rfl
  · exact three _ _ _ rfl rfl rfl rfl
  · exact F_is_place_len (ds := [_, _, _, _]) rfl (by decide) st
theorem row_bad {d : D} (h : d ∈ rows6) (st : List SO) : F_sign_at [.lst [.lst [.int 1, .int 0, .int 2], .lst [.int 0, .int 1, .int 0], .int 3], d] st = .er ⟨"BadRow", ["part"], [.str "row"]⟩ st := by
  have hp : F_is_place [.lst [.lst [.int 1, .int 0, .int 2], .lst [.int 0, .int 1, .int 0], .int 3]] st = .ok (.bl true) st := by
    rw [F_is_place_3 (d := .lst [.lst [.int 1, .int 0, .int 2], .lst [.int 0, .int 1, .int 0], .int 3]) (x := .lst [.int 1, .int 0, .int 2]) (y := .lst [.int 0, .int 1, .int 0]) (z := .int 3) rfl rfl rfl rfl]
    rfl
  refine F_sign_at_row hp ?_
  simp only [rows6, List.mem_cons, List.not_mem_nil, or_false] at h
  rcases h with rfl | rfl | rfl | rfl | rfl | rfl
  · exact F_row_told_bad rfl 3 st (pl2_in rfl) rfl
  · exact F_row_told_zero (d := .tup ([0, 0, 0].map D.int)) (is := [0, 0, 0]) rfl (by rw [sizeLine_eq]; simp [runF, endF, finF, sRet, sSeq, sIf, sSet, sNil, sRaise1, sDrop, sRetN, dVar, dC, dBin, dUn, dCB, dCall, dCallK, dTest, dAnd, dOr, dNot, dAndV_eq, dOrV_eq, kAnd_bl, kOr_bl, dNotV, dIf, dTup, dLst, dFz, dSl, oNone, oSome, aNil, aCons, Out.bind, ans, ansF, ansI, f2I, fIsN, fNotN, DL.isNon, dAttr, bindU, iSeq, srcD, fEq_int, fNe_int, isSq, cLen, getS, getL, getT, cAll, sAsg, gSt, cInt, cAbs, fAdd_int]) rfl st
  · exact F_row_told_bad rfl 3 st (pl2_in rfl) rfl
  · exact F_row_told_bad rfl 3 st (pl2_in rfl) rfl
  · exact F_row_told_bad rfl 3 st (pl2_in rfl) rfl
  · exact F_row_told_bad rfl 3 st (pl2_in rfl) rfl
theorem set0 {X Y : SO} {st : List SO} : (X :: st).set 0 Y = Y :: st := rfl
theorem F_refused_ok {X : SO} {k : Nat} (hp : Pen [X] 0 k) (hk : k + 20 ≤ 1000000) : ∃ Y, F__law_refused_right [.ob 0] [X] = .ok (.bl true) [Y] := by
  obtain ⟨ys, st', e1, hl, hq, ⟨⟨X1, rfl⟩, pn1⟩⟩ := dComp_invN (src := iRange1 (aCons (dC (.int 3)) (aNil))) (i := 8) (e := dCall 2 F__law_pick [] (aCons (dVar 0) (aCons (dLst (aCons (dC .non) (aCons (dC (.str "1")) (aCons (dC (.bl true)) (aCons (dTup (aCons (dC (.int 1)) (aCons (dC (.int 1)) (aNil)))) (aCons (dLst (aCons (dC (.int 2)) (aNil))) (aNil))))))) (aNil)))) (s := ⟨[some (.ob 0), none, none, none, none, none, none, none, none], [X], 1⟩) (s1 := ⟨[some (.ob 0), none, none, none, none, none, none, none, none], [X], 1⟩) (ds := rangeD 0 3)
    (by simp [runF, endF, finF, sRet, sSeq, sIf, sSet, sNil, sRaise1, sDrop, sRetN, dVar, dC, dBin, dUn, dCB, dCall, dCallK, dTest, dAnd, dOr, dNot, dAndV_eq, dOrV_eq, kAnd_bl, kOr_bl, dNotV, dIf, dTup, dLst, dFz, dSl, oNone, oSome, aNil, aCons, Out.bind, ans, ansF, ansI, f2I, fIsN, fNotN, DL.isNon, dAttr, bindU, iSeq, srcD, fEq_int, fNe_int, isSq, cLen, getS, getL, getT, cAll, sAsg, gSt, cInt, cAbs, fAdd_int, iRange1, in62]) (by simp [runF, endF, finF, sRet, sSeq, sIf, sSet, sNil, sRaise1, sDrop, sRetN, dVar, dC, dBin, dUn, dCB, dCall, dCallK, dTest, dAnd, dOr, dNot, dAndV_eq, dOrV_eq, kAnd_bl, kOr_bl, dNotV, dIf, dTup, dLst, dFz, dSl, oNone, oSome, aNil, aCons, Out.bind, ans, ansF, ansI, f2I, fIsN, fNotN, DL.isNon, dAttr, bindU, iSeq, srcD, fEq_int, fNe_int, isSq, cLen, getS, getL, getT, cAll, sAsg, gSt, cInt, cAbs, fAdd_int]) (by rw [rangeD_len, sizeLine_eq]; omega) (fun n st' => (∃ Y, st' = [Y]) ∧ Pen st' 0 (k + n)) (· ∈ odds) ⟨⟨X, rfl⟩, hp⟩ (fun n d st' hn hv => by
      rw [rangeD_len] at hn
      obtain ⟨⟨Y, rfl⟩, hp'⟩ := hv
      obtain ⟨d', ds, e, pn, hd⟩ := F_pick_ok (xs := odds) hp' (by omega) (by simp [runF, endF, finF, sRet, sSeq, sIf, sSet, sNil, sRaise1, sDrop, sRetN, dVar, dC, dBin, dUn, dCB, dCall, dCallK, dTest, dAnd, dOr, dNot, dAndV_eq, dOrV_eq, kAnd_bl, kOr_bl, dNotV, dIf, dTup, dLst, dFz, dSl, oNone, oSome, aNil, aCons, Out.bind, ans, ansF, ansI, f2I, fIsN, fNotN, DL.isNon, dAttr, bindU, iSeq, srcD, fEq_int, fNe_int, isSq, cLen, getS, getL, getT, cAll, sAsg, gSt, cInt, cAbs, fAdd_int, odds]) (by simp [runF, endF, finF, sRet, sSeq, sIf, sSet, sNil, sRaise1, sDrop, sRetN, dVar, dC, dBin, dUn, dCB, dCall, dCallK, dTest, dAnd, dOr, dNot, dAndV_eq, dOrV_eq, kAnd_bl, kOr_bl, dNotV, dIf, dTup, dLst, dFz, dSl, oNone, oSome, aNil, aCons, Out.bind, ans, ansF, ansI, f2I, fIsN, fNotN, DL.isNon, dAttr, bindU, iSeq, srcD, fEq_int, fNe_int, isSq, cLen, getS, getL, getT, cAll, sAsg, gSt, cInt, cAbs, fAdd_int, odds])
      refine ⟨d', [.lst ds], ?_, hd, ⟨_, rfl⟩, pn⟩
      rw [set0] at e
      simp only [odds] at e
      simp [runF, endF, finF, sRet, sSeq, sIf, sSet, sNil, sRaise1, sDrop, sRetN, dVar, dC, dBin, dUn, dCB, dCall, dCallK, dTest, dAnd, dOr, dNot, dAndV_eq, dOrV_eq, kAnd_bl, kOr_bl, dNotV, dIf, dTup, dLst, dFz, dSl, oNone, oSome, aNil, aCons, Out.bind, ans, ansF, ansI, f2I, fIsN, fNotN, DL.isNon, dAttr, bindU, iSeq, srcD, fEq_int, fNe_int, isSq, cLen, getS, getL, getT, cAll, sAsg, gSt, cInt, cAbs, fAdd_int, e, sizeLine_eq])
  rw [rangeD_len] at hl pn1
  match ys, hl with
  | [odd, bad, wrong], _ =>
  obtain ⟨o1, o2, o3⟩ := odds_ok (hq odd (by simp [runF, endF, finF, sRet, sSeq, sIf, sSet, sNil, sRaise1, sDrop, sRetN, dVar, dC, dBin, dUn, dCB, dCall, dCallK, dTest, dAnd, dOr, dNot, dAndV_eq, dOrV_eq, kAnd_bl, kOr_bl, dNotV, dIf, dTup, dLst, dFz, dSl, oNone, oSome, aNil, aCons, Out.bind, ans, ansF, ansI, f2I, fIsN, fNotN, DL.isNon, dAttr, bindU, iSeq, srcD, fEq_int, fNe_int, isSq, cLen, getS, getL, getT, cAll, sAsg, gSt, cInt, cAbs, fAdd_int]))
  obtain ⟨b1, b2, b3⟩ := odds_ok (hq bad (by simp [runF, endF, finF, sRet, sSeq, sIf, sSet, sNil, sRaise1, sDrop, sRetN, dVar, dC, dBin, dUn, dCB, dCall, dCallK, dTest, dAnd, dOr, dNot, dAndV_eq, dOrV_eq, kAnd_bl, kOr_bl, dNotV, dIf, dTup, dLst, dFz, dSl, oNone, oSome, aNil, aCons, Out.bind, ans, ansF, ansI, f2I, fIsN, fNotN, DL.isNon, dAttr, bindU, iSeq, srcD, fEq_int, fNe_int, isSq, cLen, getS, getL, getT, cAll, sAsg, gSt, cInt, cAbs, fAdd_int]))
  obtain ⟨w1, w2, w3⟩ := odds_ok (hq wrong (by simp [runF, endF, finF, sRet, sSeq, sIf, sSet, sNil, sRaise1, sDrop, sRetN, dVar, dC, dBin, dUn, dCB, dCall, dCallK, dTest, dAnd, dOr, dNot, dAndV_eq, dOrV_eq, kAnd_bl, kOr_bl, dNotV, dIf, dTup, dLst, dFz, dSl, oNone, oSome, aNil, aCons, Out.bind, ans, ansF, ansI, f2I, fIsN, fNotN, DL.isNon, dAttr, bindU, iSeq, srcD, fEq_int, fNe_int, isSq, cLen, getS, getL, getT, cAll, sAsg, gSt, cInt, cAbs, fAdd_int]))
  obtain ⟨n1, l1⟩ := pn1.flat 1
  -- the three numbers
  have hA : dHeard 4 denH__law_heard (dCall 3 F_surd_sign [] (aCons (dVar 1) (aCons (dVar 2) (aCons (dVar 3) (aNil))))) ⟨[some (.ob 0), some odd, some bad, some wrong, none, none, none, none, none], [X1], 1⟩ = .ok (.tup [.str "number", .str "one"]) ⟨[some (.ob 0), some odd, some bad, some wrong, none, none, none, none, none], [X1], 1⟩ :=
    heard_num (st := [X1]) (by simp [runF, endF, finF, sRet, sSeq, sIf, sSet, sNil, sRaise1, sDrop, sRetN, dVar, dC, dBin, dUn, dCB, dCall, dCallK, dTest, dAnd, dOr, dNot, dAndV_eq, dOrV_eq, kAnd_bl, kOr_bl, dNotV, dIf, dTup, dLst, dFz, dSl, oNone, oSome, aNil, aCons, Out.bind, ans, ansF, ansI, f2I, fIsN, fNotN, DL.isNon, dAttr, bindU, iSeq, srcD, fEq_int, fNe_int, isSq, cLen, getS, getL, getT, cAll, sAsg, gSt, cInt, cAbs, fAdd_int, F_surd_sign_bad1 o1 o2]; rfl) rfl rfl (by simp [runF, endF, finF, sRet, sSeq, sIf, sSet, sNil, sRaise1, sDrop, sRetN, dVar, dC, dBin, dUn, dCB, dCall, dCallK, dTest, dAnd, dOr, dNot, dAndV_eq, dOrV_eq, kAnd_bl, kOr_bl, dNotV, dIf, dTup, dLst, dFz, dSl, oNone, oSome, aNil, aCons, Out.bind, ans, ansF, ansI, f2I, fIsN, fNotN, DL.isNon, dAttr, bindU, iSeq, srcD, fEq_int, fNe_int, isSq, cLen, getS, getL, getT, cAll, sAsg, gSt, cInt, cAbs, fAdd_int, n1])
  have hB : dHeard 4 denH__law_heard (dCall 3 F_surd_sign [] (aCons (dC (.int 3)) (aCons (dVar 2) (aCons (dVar 3) (aNil))))) ⟨[some (.ob 0), some odd, some bad, some wrong, none, none, none, none, none], [X1], 1⟩ = .ok (.tup [.str "number", .str "other"]) ⟨[some (.ob 0), some odd, some bad, some wrong, none, none, none, none, none], [X1], 1⟩ :=
    heard_num (st := [X1]) (by simp [runF, endF, finF, sRet, sSeq, sIf, sSet, sNil, sRaise1, sDrop, sRetN, dVar, dC, dBin, dUn, dCB, dCall, dCallK, dTest, dAnd, dOr, dNot, dAndV_eq, dOrV_eq, kAnd_bl, kOr_bl, dNotV, dIf, dTup, dLst, dFz, dSl, oNone, oSome, aNil, aCons, Out.bind, ans, ansF, ansI, f2I, fIsN, fNotN, DL.isNon, dAttr, bindU, iSeq, srcD, fEq_int, fNe_int, isSq, cLen, getS, getL, getT, cAll, sAsg, gSt, cInt, cAbs, fAdd_int, F_surd_sign_bad2 b1 b2]; rfl) rfl rfl (by simp [runF, endF, finF, sRet, sSeq, sIf, sSet, sNil, sRaise1, sDrop, sRetN, dVar, dC, dBin, dUn, dCB, dCall, dCallK, dTest, dAnd, dOr, dNot, dAndV_eq, dOrV_eq, kAnd_bl, kOr_bl, dNotV, dIf, dTup, dLst, dFz, dSl, oNone, oSome, aNil, aCons, Out.bind, ans, ansF, ansI, f2I, fIsN, fNotN, DL.isNon, dAttr, bindU, iSeq, srcD, fEq_int, fNe_int, isSq, cLen, getS, getL, getT, cAll, sAsg, gSt, cInt, cAbs, fAdd_int, n1])
  obtain ⟨d3, ds3, e3, pn3, hd3⟩ := F_pick_ok (st := [X1, .lst [.tup [.str "number", .str "one"], .tup [.str "number", .str "other"]]]) (p := 0) (xs := [wrong, .int (-1)]) (pn1.tail) (by omega) (by simp [runF, endF, finF, sRet, sSeq, sIf, sSet, sNil, sRaise1, sDrop, sRetN, dVar, dC, dBin, dUn, dCB, dCall, dCallK, dTest, dAnd, dOr, dNot, dAndV_eq, dOrV_eq, kAnd_bl, kOr_bl, dNotV, dIf, dTup, dLst, dFz, dSl, oNone, oSome, aNil, aCons, Out.bind, ans, ansF, ansI, f2I, fIsN, fNotN, DL.isNon, dAttr, bindU, iSeq, srcD, fEq_int, fNe_int, isSq, cLen, getS, getL, getT, cAll, sAsg, gSt, cInt, cAbs, fAdd_int]) (by simp [runF, endF, finF, sRet, sSeq, sIf, sSet, sNil, sRaise1, sDrop, sRetN, dVar, dC, dBin, dUn, dCB, dCall, dCallK, dTest, dAnd, dOr, dNot, dAndV_eq, dOrV_eq, kAnd_bl, kOr_bl, dNotV, dIf, dTup, dLst, dFz, dSl, oNone, oSome, aNil, aCons, Out.bind, ans, ansF, ansI, f2I, fIsN, fNotN, DL.isNon, dAttr, bindU, iSeq, srcD, fEq_int, fNe_int, isSq, cLen, getS, getL, getT, cAll, sAsg, gSt, cInt, cAbs, fAdd_int])
  rw [set0] at e3 pn3
  have w4 : pl d3 = true ∧ wit d3 (some 0) = false := by
    simp only [List.mem_cons, List.not_mem_nil, or_false] at hd3
    rcases hd3 with rfl | rfl
    · exact ⟨w1, w3⟩
    · exact ⟨rfl, rfl⟩
  obtain ⟨n3, l3⟩ := pn3.flat 1
  have n3' : noAskL ds3 = true := n3
  have hC : dHeard 4 denH__law_heard (dCall 3 F_surd_sign [] (aCons (dC (.int 3)) (aCons (dUn fNeg (dC (.int 2))) (aCons (dCall 2 F__law_pick [] (aCons (dVar 0) (aCons (dLst (aCons (dVar 3) (aCons (dUn fNeg (dC (.int 1))) (aNil)))) (aNil)))) (aNil))))) ⟨[some (.ob 0), some odd, some bad, some wrong, some (.ob 1), none, none, none, none], [X1, .lst [.tup [.str "number", .str "one"], .tup [.str "number", .str "other"]]], 1⟩ = .ok (.tup [.str "number", .str "under"]) ⟨[some (.ob 0), some odd, some bad, some wrong, some (.ob 1), none, none, none, none], [.lst ds3, .lst [.tup [.str "number", .str "one"], .tup [.str "number", .str "other"]]], 1⟩ :=
    heard_num (st := [X1, .lst [.tup [.str "number", .str "one"], .tup [.str "number", .str "other"]]]) (st2 := [.lst ds3, .lst [.tup [.str "number", .str "one"], .tup [.str "number", .str "other"]]]) (by simp [runF, endF, finF, sRet, sSeq, sIf, sSet, sNil, sRaise1, sDrop, sRetN, dVar, dC, dBin, dUn, dCB, dCall, dCallK, dTest, dAnd, dOr, dNot, dAndV_eq, dOrV_eq, kAnd_bl, kOr_bl, dNotV, dIf, dTup, dLst, dFz, dSl, oNone, oSome, aNil, aCons, Out.bind, ans, ansF, ansI, f2I, fIsN, fNotN, DL.isNon, dAttr, bindU, iSeq, srcD, fEq_int, fNe_int, isSq, cLen, getS, getL, getT, cAll, sAsg, gSt, cInt, cAbs, fAdd_int, e3, sizeLine_eq, F_surd_sign_bad3 w4.1 w4.2]; rfl) rfl rfl (by simp [runF, endF, finF, sRet, sSeq, sIf, sSet, sNil, sRaise1, sDrop, sRetN, dVar, dC, dBin, dUn, dCB, dCall, dCallK, dTest, dAnd, dOr, dNot, dAndV_eq, dOrV_eq, kAnd_bl, kOr_bl, dNotV, dIf, dTup, dLst, dFz, dSl, oNone, oSome, aNil, aCons, Out.bind, ans, ansF, ansI, f2I, fIsN, fNotN, DL.isNon, dAttr, bindU, iSeq, srcD, fEq_int, fNe_int, isSq, cLen, getS, getL, getT, cAll, sAsg, gSt, cInt, cAbs, fAdd_int, n3', SO.noAsk, noAskL, D.noAsk])
  -- place and row
  obtain ⟨place, ds4, e4, pn4, hd4⟩ := F_pick_ok (st := [.lst ds3, .lst nums]) (p := 0) (xs := places ++ places2) (pn3.tail) (by omega) (by simp [runF, endF, finF, sRet, sSeq, sIf, sSet, sNil, sRaise1, sDrop, sRetN, dVar, dC, dBin, dUn, dCB, dCall, dCallK, dTest, dAnd, dOr, dNot, dAndV_eq, dOrV_eq, kAnd_bl, kOr_bl, dNotV, dIf, dTup, dLst, dFz, dSl, oNone, oSome, aNil, aCons, Out.bind, ans, ansF, ansI, f2I, fIsN, fNotN, DL.isNon, dAttr, bindU, iSeq, srcD, fEq_int, fNe_int, isSq, cLen, getS, getL, getT, cAll, sAsg, gSt, cInt, cAbs, fAdd_int, places]) (by simp [runF, endF, finF, sRet, sSeq, sIf, sSet, sNil, sRaise1, sDrop, sRetN, dVar, dC, dBin, dUn, dCB, dCall, dCallK, dTest, dAnd, dOr, dNot, dAndV_eq, dOrV_eq, kAnd_bl, kOr_bl, dNotV, dIf, dTup, dLst, dFz, dSl, oNone, oSome, aNil, aCons, Out.bind, ans, ansF, ansI, f2I, fIsN, fNotN, DL.isNon, dAttr, bindU, iSeq, srcD, fEq_int, fNe_int, isSq, cLen, getS, getL, getT, cAll, sAsg, gSt, cInt, cAbs, fAdd_int, places, places2])
  rw [set0] at e4 pn4
  obtain ⟨row, ds5, e5, pn5, hd5⟩ := F_pick_ok (st := [.lst ds4, .lst nums]) (p := 0) (xs := rows6) (pn4.tail) (by omega) (by simp [runF, endF, finF, sRet, sSeq, sIf, sSet, sNil, sRaise1, sDrop, sRetN, dVar, dC, dBin, dUn, dCB, dCall, dCallK, dTest, dAnd, dOr, dNot, dAndV_eq, dOrV_eq, kAnd_bl, kOr_bl, dNotV, dIf, dTup, dLst, dFz, dSl, oNone, oSome, aNil, aCons, Out.bind, ans, ansF, ansI, f2I, fIsN, fNotN, DL.isNon, dAttr, bindU, iSeq, srcD, fEq_int, fNe_int, isSq, cLen, getS, getL, getT, cAll, sAsg, gSt, cInt, cAbs, fAdd_int, rows6]) (by simp [runF, endF, finF, sRet, sSeq, sIf, sSet, sNil, sRaise1, sDrop, sRetN, dVar, dC, dBin, dUn, dCB, dCall, dCallK, dTest, dAnd, dOr, dNot, dAndV_eq, dOrV_eq, kAnd_bl, kOr_bl, dNotV, dIf, dTup, dLst, dFz, dSl, oNone, oSome, aNil, aCons, Out.bind, ans, ansF, ansI, f2I, fIsN, fNotN, DL.isNon, dAttr, bindU, iSeq, srcD, fEq_int, fNe_int, isSq, cLen, getS, getL, getT, cAll, sAsg, gSt, cInt, cAbs, fAdd_int, rows6])
  rw [set0] at e5 pn5
  obtain ⟨n5, l5⟩ := pn5.flat 1
  have n5' : noAskL ds5 = true := n5
  have hD : ∀ x4 x5 x8, dHeard 4 denH__law_heard (dCall 2 F_sign_at [] (aCons (dVar 6) (aCons (dVar 7) (aNil)))) ⟨[some (.ob 0), some odd, some bad, some wrong, x4, x5, some place, some row, x8], [.lst ds5, .lst nums], 1⟩ = .ok (.tup [.str "row", .str "place"]) ⟨[some (.ob 0), some odd, some bad, some wrong, x4, x5, some place, some row, x8], [.lst ds5, .lst nums], 1⟩ := fun x4 x5 x8 =>
    heard_row (st := [.lst ds5, .lst nums]) (by simp [runF, endF, finF, sRet, sSeq, sIf, sSet, sNil, sRaise1, sDrop, sRetN, dVar, dC, dBin, dUn, dCB, dCall, dCallK, dTest, dAnd, dOr, dNot, dAndV_eq, dOrV_eq, kAnd_bl, kOr_bl, dNotV, dIf, dTup, dLst, dFz, dSl, oNone, oSome, aNil, aCons, Out.bind, ans, ansF, ansI, f2I, fIsN, fNotN, DL.isNon, dAttr, bindU, iSeq, srcD, fEq_int, fNe_int, isSq, cLen, getS, getL, getT, cAll, sAsg, gSt, cInt, cAbs, fAdd_int, place_bad hd4]; rfl) rfl rfl (by simp [runF, endF, finF, sRet, sSeq, sIf, sSet, sNil, sRaise1, sDrop, sRetN, dVar, dC, dBin, dUn, dCB, dCall, dCallK, dTest, dAnd, dOr, dNot, dAndV_eq, dOrV_eq, kAnd_bl, kOr_bl, dNotV, dIf, dTup, dLst, dFz, dSl, oNone, oSome, aNil, aCons, Out.bind, ans, ansF, ansI, f2I, fIsN, fNotN, DL.isNon, dAttr, bindU, iSeq, srcD, fEq_int, fNe_int, isSq, cLen, getS, getL, getT, cAll, sAsg, gSt, cInt, cAbs, fAdd_int, n5', SO.noAsk, noAskL, D.noAsk, nums])
  have hE : ∀ x4 x5 x8, dHeard 4 denH__law_heard (dCall 2 F_sign_at [] (aCons (dLst (aCons (dLst (aCons (dC (.int 1)) (aCons (dC (.int 0)) (aCons (dC (.int 2)) (aNil))))) (aCons (dLst (aCons (dC (.int 0)) (aCons (dC (.int 1)) (aCons (dC (.int 0)) (aNil))))) (aCons (dC (.int 3)) (aNil))))) (aCons (dVar 7) (aNil)))) ⟨[some (.ob 0), some odd, some bad, some wrong, x4, x5, some place, some row, x8], [.lst ds5, .lst nums], 1⟩ = .ok (.tup [.str "row", .str "row"]) ⟨[some (.ob 0), some odd, some bad, some wrong, x4, x5, some place, some row, x8], [.lst ds5, .lst nums], 1⟩ := fun x4 x5 x8 =>
    heard_row (st := [.lst ds5, .lst nums]) (by simp [runF, endF, finF, sRet, sSeq, sIf, sSet, sNil, sRaise1, sDrop, sRetN, dVar, dC, dBin, dUn, dCB, dCall, dCallK, dTest, dAnd, dOr, dNot, dAndV_eq, dOrV_eq, kAnd_bl, kOr_bl, dNotV, dIf, dTup, dLst, dFz, dSl, oNone, oSome, aNil, aCons, Out.bind, ans, ansF, ansI, f2I, fIsN, fNotN, DL.isNon, dAttr, bindU, iSeq, srcD, fEq_int, fNe_int, isSq, cLen, getS, getL, getT, cAll, sAsg, gSt, cInt, cAbs, fAdd_int, sizeLine_eq, row_bad hd5]; rfl) rfl rfl (by simp [runF, endF, finF, sRet, sSeq, sIf, sSet, sNil, sRaise1, sDrop, sRetN, dVar, dC, dBin, dUn, dCB, dCall, dCallK, dTest, dAnd, dOr, dNot, dAndV_eq, dOrV_eq, kAnd_bl, kOr_bl, dNotV, dIf, dTup, dLst, dFz, dSl, oNone, oSome, aNil, aCons, Out.bind, ans, ansF, ansI, f2I, fIsN, fNotN, DL.isNon, dAttr, bindU, iSeq, srcD, fEq_int, fNe_int, isSq, cLen, getS, getL, getT, cAll, sAsg, gSt, cInt, cAbs, fAdd_int, n5', SO.noAsk, noAskL, D.noAsk, nums])
  refine ⟨.lst ds5, ?_⟩
  have f1 : ∀ Z, fNe [Z, .lst nums] (.ob 1) (.lst nums) = some (.bl false) := fun Z => fNe_nums (by rfl)
  have f2 : ∀ Z W, fEq [Z, W, .lst rws] (.ob 2) (.lst rws) = some (.bl true) := fun Z W => fEq_rws (by rfl)
  simp only [nums, rws, places, places2, rows6, List.cons_append, List.nil_append] at f1 f2 hD hE e4 e5
  have l5' : lowbL 1 ds5 = true := l5
  simp [runF, endF, finF, sRet, sSeq, sIf, sSet, sNil, sRaise1, sDrop, sRetN, dVar, dC, dBin, dUn, dCB, dCall, dCallK, dTest, dAnd, dOr, dNot, dAndV_eq, dOrV_eq, kAnd_bl, kOr_bl, dNotV, dIf, dTup, dLst, dFz, dSl, oNone, oSome, aNil, aCons, Out.bind, ans, ansF, ansI, f2I, fIsN, fNotN, DL.isNon, dAttr, bindU, iSeq, srcD, fEq_int, fNe_int, isSq, cLen, getS, getL, getT, cAll, sAsg, gSt, cInt, cAbs, fAdd_int, F__law_refused_right, den__law_refused_right, e1, gTp, gsCons, gNm, gsNil, hA, hB, hC, hD, hE, dNew, dBM, mAppend, tyD, ansM, f1, f2, e4, e5, sizeLine_eq, fAdd, D.lowb, SO.lowb, l5']
end K75
end

section
set_option maxHeartbeats 1000000
namespace K75
open PySem PySem.Spec PyProof.Rows L2 DL
theorem den_law_eq : den_law = sSeq (sSet 1 (dCall 1 F__law_pen [] (aCons (dVar 0) (aNil)))) (sSeq (sFor (iRange1 (aCons (dC (.int 12)) (aNil))) (gNm 2) body1) (sSeq (sFor (iRange1 (aCons (dC (.int 6)) (aNil))) (gNm 2) body2) (sRet (dCall 1 F__law_refused_right [] (aCons (dVar 1) (aNil)))))) := rfl
/-- the law's state between its rounds -/
def At (ns : List Int) (k : Nat) (s : S) : Prop := ∃ X y2 y3 y4 y5 y6 y7 y8 y9 y10 y11 y12 y13 y14, s = ⟨[some (.scr ns), some (.ob 0), y2, y3, y4, y5, y6, y7, y8, y9, y10, y11, y12, y13, y14], [X], 0⟩ ∧ Pen [X] 0 k
theorem law_true (ns : List Int) (hl : ns.length ≤ 63) : F_law [.scr ns] [] = .ok (.bl true) [] := by
  have e0 := F_pen_ok ns hl []
  obtain ⟨s1, h1, q1⟩ := sFor_inv (src := iRange1 (aCons (dC (.int 12)) (aNil))) (g := gNm 2) (body := body1) (s := ⟨[some (.scr ns), some (.ob 0), none, none, none, none, none, none, none, none, none, none, none, none, none], [.lst [.lst (ns.map D.int), .int 0, .int 0]], 0⟩) (s1 := ⟨[some (.scr ns), some (.ob 0), none, none, none, none, none, none, none, none, none, none, none, none, none], [.lst [.lst (ns.map D.int), .int 0, .int 0]], 0⟩) (ds := rangeD 0 12)
    (by simp [iRange1, in62, dC, aNil, aCons, Out.bind]) (fun n s => At ns (7 * n) s) ⟨_, _, _, _, _, _, _, _, _, _, _, _, _, _, rfl, ns, 0, 0, rfl, hl, by omega, by omega⟩ (fun n hn s hs => by
      rw [rangeD_len] at hn
      obtain ⟨X, y2, y3, y4, y5, y6, y7, y8, y9, y10, y11, y12, y13, y14, rfl, pn⟩ := hs
      obtain ⟨z3, z4, z5, z6, ds, e, pn2⟩ := body1_ok (b := 0) (x := some (.scr ns)) (x2 := some ((rangeD 0 12)[n]'(by rw [rangeD_len]; exact hn))) (x3 := y3) (x4 := y4) (x5 := y5) (x6 := y6) (sl := [y7, y8, y9, y10, y11, y12, y13, y14]) pn (by omega)
      exact ⟨_, _, rfl, e, _, _, _, _, _, _, _, _, _, _, _, _, _, _, rfl, pn2⟩)
  rw [rangeD_len] at q1
  obtain ⟨X, y2, y3, y4, y5, y6, y7, y8, y9, y10, y11, y12, y13, y14, rfl, pn⟩ := q1
  obtain ⟨s2, h2, q2⟩ := sFor_inv (src := iRange1 (aCons (dC (.int 6)) (aNil))) (g := gNm 2) (body := body2) (s := ⟨[some (.scr ns), some (.ob 0), y2, y3, y4, y5, y6, y7, y8, y9, y10, y11, y12, y13, y14], [X], 0⟩) (s1 := ⟨[some (.scr ns), some (.ob 0), y2, y3, y4, y5, y6, y7, y8, y9, y10, y11, y12, y13, y14], [X], 0⟩) (ds := rangeD 0 6)
    (by simp [iRange1, in62, dC, aNil, aCons, Out.bind]) (fun n s => At ns (7 * 12 + 10 * n) s) ⟨_, _, _, _, _, _, _, _, _, _, _, _, _, _, rfl, pn⟩ (fun n hn s hs => by
      rw [rangeD_len] at hn
      obtain ⟨X, y2, y3, y4, y5, y6, y7, y8, y9, y10, y11, y12, y13, y14, rfl, pn⟩ := hs
      obtain ⟨z3, z4, z5, z6, z7, z8, z9, z10, z11, st', e, ⟨ds, rfl⟩, pn2⟩ := body2_ok (b := 0) (x0 := some (.scr ns)) (x2 := some ((rangeD 0 6)[n]'(by rw [rangeD_len]; exact hn))) (x3 := y3) (x4 := y4) (x5 := y5) (x6 := y6) (x7 := y7) (x8 := y8) (x9 := y9) (x10 := y10) (x11 := y11) (x12 := y12) (x13 := y13) (x14 := y14) pn (by omega)
      exact ⟨_, _, rfl, e, _, _, _, _, _, _, _, _, _, _, _, _, _, _, rfl, pn2⟩)
  rw [rangeD_len] at q2
  obtain ⟨X2, u2, u3, u4, u5, u6, u7, u8, u9, u10, u11, u12, u13, u14, rfl, pn2⟩ := q2
  obtain ⟨Y, e3⟩ := F_refused_ok pn2 (by omega)
  show endF 0 (den_law ⟨[some (.scr ns), none, none, none, none, none, none, none, none, none, none, none, none, none, none], [], 0⟩) = _
  rw [den_law_eq, sSeq_nx (s1 := ⟨[some (.scr ns), some (.ob 0), none, none, none, none, none, none, none, none, none, none, none, none, none], [.lst [.lst (ns.map D.int), .int 0, .int 0]], 0⟩) (by
    show (dCall 1 F__law_pen [] (aCons (dVar 0) aNil) _).bind _ = _
    have : dCall 1 F__law_pen [] (aCons (dVar 0) aNil) ⟨[some (.scr ns), none, none, none, none, none, none, none, none, none, none, none, none, none, none], [], 0⟩ = .ok (.ob 0) ⟨[some (.scr ns), none, none, none, none, none, none, none, none, none, none, none, none, none, none], [.lst [.lst (ns.map D.int), .int 0, .int 0]], 0⟩ := by
      show ansF _ (F__law_pen [.scr ns] []) = _
      rw [e0]
      rfl
    rw [this]
    rfl), sSeq_nx h1, sSeq_nx h2]
  have e4 : sRet (dCall 1 F__law_refused_right [] (aCons (dVar 1) (aNil))) ⟨[some (.scr ns), some (.ob 0), u2, u3, u4, u5, u6, u7, u8, u9, u10, u11, u12, u13, u14], [X2], 0⟩ = .ok (.rt (.bl true)) ⟨[some (.scr ns), some (.ob 0), u2, u3, u4, u5, u6, u7, u8, u9, u10, u11, u12, u13, u14], [Y], 0⟩ := by
    show (ansF _ (F__law_refused_right [.ob 0] [X2])).bind _ = _
    rw [e3]
    rfl
  rw [e4]
  rfl
end K75
end

section
set_option maxHeartbeats 4000000
namespace K75
open PySem PySem.Spec PyProof.Rows L2 DL NdefX LamX
theorem law_plain (ns : List Int) (hl : ns.length ≤ 63) : ∃ st, F_law [.scr ns] [] = .ok (.bl true) st := ⟨_, law_true ns hl⟩
theorem FunD.uniq {K : PySem.W.Frag} {x x' qual qual' : Str} {params params' : Arguments} {body body' : List Stmt} {scope scope' : Scope} {dvs dvs' : List V} {kws kws' : List (Str × V)} {f : Addr} {fd fd' : FuncData} (F : FunD K x qual params body scope dvs kws f fd) (F' : FunD K x' qual' params' body' scope' dvs' kws' f fd') : fd = fd' := by
  obtain ⟨_, _, _, _, _, _, _, _, _, _, _, h, _⟩ := F.ex
  obtain ⟨_, _, _, _, _, _, _, _, _, _, _, h', _⟩ := F'.ex
  rw [h] at h'
  cases h'
  rfl
theorem sp_law {K : PySem.W.Frag} {H : Hp} {a : Addr} {ns : List Int} (hl : ns.length ≤ 63) (hb : ∀ z ∈ ns, Builtin.Int.intBits z ≤ 1048576) (hT : ∀ p ∈ tf.map (He.cT K), H p.2 = some (.tbl #[])) (hS : SqL K H a (ns.map V.int)) :
    spD (bg K none) 1 F_law [.ref a] H (fun v _ => v = .bl true) fun _ _ _ => False := by
  have hta : ∀ b ∈ (bg K none).ta, H b = some (.tbl #[]) := fun b hb => by
    have e : b = (He.cT K ("_law_refused_right", none)).2 := by simpa [Bg.ta, bg] using hb
    rw [e]
    exact hT _ (List.mem_map.mpr ⟨_, by simp [tf], rfl⟩)
  have nt : ∀ {u : HO}, H a = some u → (∀ ps, u ≠ .tbl ps) → a ∉ (bg K none).ta := fun {u} e n z => by rw [hta a z] at e; cases e; exact n _ rfl
  obtain ⟨st, e⟩ := law_plain ns hl
  refine ⟨rfl, ⟨fun b => if b ∈ (bg K none).ta then none else H b, []⟩, [], [.scr ns], ⟨fun b o e => ?_, rfl, fun n b o e => by simp at e, List.nodup_nil, fun n b o e => by simp at e, fun p hp => ?_, fun b m => ⟨if_pos m, by simp, _, hta b m⟩⟩, .cons (.scr ?_) .nil, ?_⟩
  · have e' : (if b ∈ (bg K none).ta then none else H b) = some o := e
    split at e'
    · cases e'
    · exact e'
  · have hq : H p.1 = some (.tbl #[]) := hta _ (List.mem_map.mpr ⟨p, hp, rfl⟩)
    exact TabS.nil hq
  · rcases hS with (q | ⟨o, q⟩) | q
    · exact .inl (.inl (by show (if a ∈ (bg K none).ta then none else H a) = _; rw [if_neg (nt q (fun ps z => nomatch z))]; exact q))
    · exact .inl (.inr ⟨o, by show (if a ∈ (bg K none).ta then none else H a) = _; rw [if_neg (nt q (fun ps z => nomatch z))]; exact q⟩)
    · exact .inr q
  · rw [e]
    intro G' H' v _ _ h
    cases h
    rfl
end K75
open PySem PySem.W PySem.Calls PyProof.Rows
theorem PySem.Challenge.cw_sevensights_k75_signs_of_surds_holds : PySem.Challenge.rw_sevensights_k75_signs_of_surds.Holds := by
  w_on; o_law
  refine HandSHeadRun.head_imp (r := OpenLaw.row PySem.Challenge.rw_sevensights_k75_signs_of_surds) (q := view (OpenLaw.row PySem.Challenge.rw_sevensights_k75_signs_of_surds).prog [0, 35]) (H := K75.hk) (ob := K75.ob) (M := 30000) (loose := K75.names) (d := HandSHeadRun.topDef (OpenLaw.row PySem.Challenge.rw_sevensights_k75_signs_of_surds).prog 35) (kwd := []) K75.ob_eq K75.run
    (by kernel_rfl) (by kernel_rfl) (by kernel_rfl) (by rfl) (by first | assumption | decide +kernel) (by decide +kernel) ⟨rfl, rfl, rfl, rfl, rfl, by decide +kernel⟩ ?hw ?hc
  case hw => w_witness2
  case hc =>
    refine LamX.walk_ofTsE (l := PySem.Challenge.rw_sevensights_k75_signs_of_surds) (n := 63) (k := 10) (x := "script") (CX := fun w => L2.CX K75.PR w) rfl (by decide) (by kernel_rfl) ⟨rfl, by decide, by decide⟩ ?F (fun w H s e s' h => by obtain ⟨_, _, _, _, _, _, _, _, _, _, _, _, z⟩ := h; exact z)
    intro w mg fa h Y G hmg0
    obtain ⟨K, KX, c⟩ := Y
    have hmg : mg ("law" : PySem.Str) = some (.ref fa) := by
      have e : (HandSHeadRun.topDef (OpenLaw.row PySem.Challenge.rw_sevensights_k75_signs_of_surds).prog 35).name = ("law" : PySem.Str) := by kernel_rfl
      rw [← e]
      exact hmg0
    have efa : fa = He.ga K "law" := by
      have e1 := He.glo_ok KX G (He.SaysD.facts c.d (f := .glo "law") (List.mem_append_left _ (List.mem_append_left _ (List.mem_map.mpr ⟨"law", by decide +kernel, rfl⟩))))
      rw [hmg] at e1
      cases e1
      rfl
    subst efa
    obtain ⟨fd, U⟩ := c.d.def_ 24 (d := K75.dd "law" 35) rfl
    refine ⟨K, KX, fd, K75.tf.map (He.cT K), DL.spD (K75.bg K none) 1 K75.F_law, ?_, ?_, ?_, ?_, ?_, ?_⟩
    · intro p hp
      obtain ⟨t, ht, rfl⟩ := List.mem_map.mp hp
      exact c.empty t ht
    · intro p hp
      obtain ⟨t, ht, rfl⟩ := List.mem_map.mp hp
      exact c.out t ht
    · intro p hp
      obtain ⟨t, ht, rfl⟩ := List.mem_map.mp hp
      exact PySem.W.codeHd_of_K KX (c.hd t ht)
    · intro s u
      exact L2.FunD.bindsA (ps := ["script"]) U (fun _ _ _ _ _ _ us hl => match us, hl with | [_], _ => rfl) s [u] rfl
    · intro H a ns hl hb hT hS
      exact K75.sp_law hl hb hT hS
    · intro base KB NB TB
      have M : K75.MF K mg base := ⟨KB, NB, ⟨h, c⟩, fun p hp => TB _ (List.mem_map.mpr ⟨p, hp, rfl⟩)⟩
      obtain ⟨fd', U', C, _⟩ := (K75.ok_law (w := w) M).ex
      have e := K75.FunD.uniq U U'
      subst e
      exact C
end
