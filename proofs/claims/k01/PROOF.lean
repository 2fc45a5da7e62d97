import PyProof.Rows.All
import Wide.All
import OpenK.AllK
import Wide.FinOn
import HandS.ForMost
import HandS.ForExc
import HandS.Set
import HandS.Wide
import HandS.Flow
import HandS.IsInst
import HandS.Style
import HandS.RaiseMore
import HandS.Small
import HandS.SetFor
import HandS.SetTxt0
import KE.SortData
import HandS.Ends
import PySem.Challenge.RW_findsown_k01_signs_and_texts
set_option Elab.async false
set_option linter.all false
set_option maxRecDepth 100000
set_option maxHeartbeats 4000000
/-! D0: values as trees, the state by slots, what a piece of code computes as a plain function (M), and how this is read over the hand layer. -/
namespace Dl
open PySem L2

/-- what a set of texts is, at the machine's own level -/
def GoodT (w : World) (e : Int × Value) : Prop := ∃ k tk, e.2 = Value.str k tk ∧ e.1 = hashStr w k
def textE (e : Int × Value) : Str := match e.2 with
  | .str k _ => k
  | _ => Str.empty
def SetR1 (w : World) (h : Heap) (a : Addr) (ks : List Str) : Prop :=
  ∃ o es ep t, h.get? a = some o ∧ o.ExactSet ∧ o.data = .set es ep t ∧ (∀ e ∈ es.toList, GoodT w e) ∧ (es.toList.map textE).Perm ks ∧ ks.Nodup ∧
    es.size < scanBound ∧ t.fits es.size = true ∧ Ris t.place.toList ∧ (w.params.followText "set-order" = true ∨ t.led = true)
/-- what stands at a node of a tree -/
inductive Tag where
  | tup | lst | sq
  | dK (ks : List Key)
  | dT (ks : List (List Key))
  | ab (ks : List Str)
  | ins (c : Nat) (ns : List Str)
  deriving DecidableEq
/-- a value as a tree: a scalar (or a thing of the top), or a node -/
inductive U where
  | c (v : V)
  | nd (t : Tag) (xs : List U)
/-- a set of texts (by the members in some order), as a tracked thing: told by SetR1 (below) -/
def soOf (P : Program) (w : World) (a : Addr) (ks : List Str) : HO := .ext fun h => SetR1 w h a ks
/-- the surroundings: the written part, the classes by number -/
structure En where
  K : PySem.W.Frag
  P : Program
  w : World
  cl : Nat → Addr
  so : Addr → List Str → HO

def Holds (N : En) (F : Hp) : Tag → Addr → List V → Prop
  | .tup, a, vs => SqT N.K F a vs
  | .lst, a, vs => F a = some (.lst vs)
  | .sq, a, vs => SqL N.K F a vs
  | .dK ks, a, vs => ks.length = vs.length ∧ Rd F a (.dK (ks.zip vs))
  | .dT ks, a, vs => ks.length = vs.length ∧ Rd F a (.dT (ks.zip vs))
  | .ab ks, a, vs => vs = [] ∧ F a = some (N.so a ks)
  | .ins c ns, a, vs => ns.length = vs.length ∧ ∃ dx, F a = some (.ins (N.cl c) dx (ns.zip vs)) ∧ F dx = some (.own a)
mutual
def Rep (N : En) (F : Hp) : U → V → Prop
  | .c v, w => w = v
  | .nd t xs, w => ∃ a vs, w = .ref a ∧ Holds N F t a vs ∧ Reps N F xs vs
def Reps (N : En) (F : Hp) : List U → List V → Prop
  | [], vs => vs = []
  | x :: xs, vs => ∃ v r, vs = v :: r ∧ Rep N F x v ∧ Reps N F xs r
end
section
variable {N : En} {F F' H : Hp}
theorem rd_same (e : Same F F') {a : Addr} {o : HO} (h : Rd F a o) : Rd F' a o := by
  rcases h with h | ⟨ob, h⟩
  · exact .inl (e _ _ h)
  · exact .inr ⟨ob, e _ _ h⟩
theorem Holds.mono (e : Same F F') : ∀ {t : Tag} {a : Addr} {vs : List V}, Holds N F t a vs → Holds N F' t a vs
  | .tup, a, vs, h => by
    rcases h with h | h
    · exact .inl (rd_same e h)
    · exact .inr h
  | .lst, a, vs, h => e _ _ h
  | .sq, a, vs, h => by
    rcases h with h | h
    · exact .inl (rd_same e h)
    · exact .inr h
  | .dK ks, a, vs, h => ⟨h.1, rd_same e h.2⟩
  | .dT ks, a, vs, h => ⟨h.1, rd_same e h.2⟩
  | .ab ks, a, vs, h => ⟨h.1, e _ _ h.2⟩
  | .ins c ns, a, vs, ⟨h1, dx, h2, h3⟩ => ⟨h1, dx, e _ _ h2, e _ _ h3⟩
mutual
theorem Rep.mono (e : ∀ t a vs, Holds N F t a vs → Holds N F' t a vs) : ∀ (u : U) (v : V), Rep N F u v → Rep N F' u v
  | .c _, _, h => h
  | .nd t xs, _, ⟨a, vs, h1, h2, h3⟩ => ⟨a, vs, h1, e t a vs h2, Reps.mono e xs vs h3⟩
theorem Reps.mono (e : ∀ t a vs, Holds N F t a vs → Holds N F' t a vs) : ∀ (us : List U) (vs : List V), Reps N F us vs → Reps N F' us vs
  | [], _, h => h
  | x :: xs, _, ⟨v, r, h1, h2, h3⟩ => ⟨v, r, h1, Rep.mono e x v h2, Reps.mono e xs r h3⟩
end
theorem Rep.same (e : Same F F') {u : U} {v : V} (h : Rep N F u v) : Rep N F' u v := Rep.mono (fun _ _ _ => Holds.mono e) u v h
theorem Reps.same (e : Same F F') {u : List U} {v : List V} (h : Reps N F u v) : Reps N F' u v := Reps.mono (fun _ _ _ => Holds.mono e) u v h
theorem Reps.length : ∀ {us : List U} {vs : List V}, Reps N F us vs → us.length = vs.length
  | [], _, h => by cases h; rfl
  | _ :: _, _, ⟨_, _, h1, _, h3⟩ => by cases h1; simp [Reps.length h3]
theorem Reps.get : ∀ {us : List U} {vs : List V} {i : Nat} {u : U}, Reps N F us vs → us[i]? = some u → ∃ v, vs[i]? = some v ∧ Rep N F u v
  | [], _, _, _, _, e => by simp at e
  | x :: xs, _, 0, _, ⟨v, r, h1, h2, h3⟩, e => by simp at e; subst e; subst h1; exact ⟨v, rfl, h2⟩
  | x :: xs, _, i + 1, _, ⟨v, r, h1, h2, h3⟩, e => by
    subst h1
    obtain ⟨v', a, b⟩ := Reps.get (i := i) h3 (by simpa using e)
    exact ⟨v', by simpa using a, b⟩
theorem Reps.get' : ∀ {us : List U} {vs : List V} {i : Nat} {v : V}, Reps N F us vs → vs[i]? = some v → ∃ u, us[i]? = some u ∧ Rep N F u v := fun {us vs i v} h e => by
  cases q : us[i]? with
  | none =>
    have h1 := h.length
    have h2 := List.getElem?_eq_none_iff.mp q
    rw [List.getElem?_eq_none (by omega)] at e
    cases e
  | some u =>
    obtain ⟨v', a, b⟩ := h.get q
    rw [e] at a; cases a
    exact ⟨u, rfl, b⟩
theorem Reps.append : ∀ {us us' : List U} {vs vs' : List V}, Reps N F us vs → Reps N F us' vs' → Reps N F (us ++ us') (vs ++ vs')
  | [], _, _, _, h, h' => by cases h; exact h'
  | x :: xs, _, _, _, ⟨v, r, h1, h2, h3⟩, h' => by subst h1; exact ⟨v, _, rfl, h2, Reps.append h3 h'⟩
theorem Reps.set : ∀ {us : List U} {vs : List V} {i : Nat} {u : U} {v : V}, Reps N F us vs → Rep N F u v → Reps N F (us.set i u) (vs.set i v)
  | [], _, _, _, _, h, _ => by cases h; exact rfl
  | x :: xs, _, 0, _, _, ⟨v, r, h1, h2, h3⟩, h' => by subst h1; exact ⟨_, _, rfl, h', h3⟩
  | x :: xs, _, i + 1, _, _, ⟨v, r, h1, h2, h3⟩, h' => by subst h1; exact ⟨_, _, rfl, h2, Reps.set h3 h'⟩
theorem Reps.take : ∀ {us : List U} {vs : List V} (n : Nat), Reps N F us vs → Reps N F (us.take n) (vs.take n)
  | _, _, 0, _ => by simp [Reps]
  | [], _, _ + 1, h => by cases h; simp [Reps]
  | x :: xs, _, n + 1, ⟨v, r, h1, h2, h3⟩ => by subst h1; exact ⟨v, _, rfl, h2, Reps.take n h3⟩
theorem Reps.drop : ∀ {us : List U} {vs : List V} (n : Nat), Reps N F us vs → Reps N F (us.drop n) (vs.drop n)
  | _, _, 0, h => by simpa using h
  | [], _, _ + 1, h => by cases h; simp [Reps]
  | x :: xs, _, n + 1, ⟨v, r, h1, h2, h3⟩ => by subst h1; exact Reps.drop n h3
theorem Reps.reverse : ∀ {us : List U} {vs : List V}, Reps N F us vs → Reps N F us.reverse vs.reverse
  | [], _, h => by cases h; exact rfl
  | x :: xs, _, ⟨v, r, h1, h2, h3⟩ => by
    subst h1
    rw [List.reverse_cons, List.reverse_cons]
    exact (Reps.reverse h3).append ⟨v, [], rfl, h2, rfl⟩
theorem Reps.scal : ∀ (vs : List V), Reps N F (vs.map U.c) vs
  | [] => rfl
  | v :: vs => ⟨v, vs, rfl, rfl, Reps.scal vs⟩
end
/-- what was told of values stays told -/
def Ext (N : En) (F F' : Hp) : Prop := ∀ t a vs, Holds N F t a vs → Holds N F' t a vs
section
variable {N : En} {F F' F'' : Hp}
theorem Ext.refl : Ext N F F := fun _ _ _ h => h
theorem Ext.trans (a : Ext N F F') (b : Ext N F' F'') : Ext N F F'' := fun t x vs h => b t x vs (a t x vs h)
theorem Ext.of (e : Same F F') : Ext N F F' := fun _ _ _ => Holds.mono e
theorem Ext.rep (e : Ext N F F') {u : U} {v : V} (h : Rep N F u v) : Rep N F' u v := Rep.mono e u v h
theorem Ext.reps (e : Ext N F F') {u : List U} {v : List V} (h : Reps N F u v) : Reps N F' u v := Reps.mono e u v h
end

/-! ### slots -/
inductive Sl where
  | no
  | fz (u : U)
  | ow (u : U)
  | io (u : U)
def Sl.owns : Sl → Bool
  | .ow _ => true
  | .io _ => true
  | _ => false
/-- what is around: what must stay (R), what may not be taken for frozen (Z), where the borrowed things stand (B) -/
structure Fx where
  R : Hp
  Z : Addr → Prop
  B : Nat → Addr
/-- nobody else's -/
def Mine (F : Hp) (fx : Fx) (a : Addr) : Prop := F a = none ∧ fx.R a = none ∧ ¬ fx.Z a
def HoldsO (N : En) (F : Hp) (fx : Fx) (H : Hp) : Tag → Addr → List V → Prop
  | .tup, _, _ => False
  | .sq, _, _ => False
  | .ab _, _, _ => False
  | .lst, a, vs => H a = some (.lst vs)
  | .dK ks, a, vs => ks.length = vs.length ∧ H a = some (.dK (ks.zip vs))
  | .dT ks, a, vs => ks.length = vs.length ∧ H a = some (.dT (ks.zip vs))
  | .ins c ns, a, vs => ns.length = vs.length ∧ ∃ dx, H a = some (.ins (N.cl c) dx (ns.zip vs)) ∧ H dx = some (.own a) ∧ Mine F fx dx
def OwnAt (N : En) (F : Hp) (fx : Fx) (H : Hp) : U → Addr → Prop
  | .c _, _ => False
  | .nd t xs, a => Mine F fx a ∧ ∃ vs, HoldsO N F fx H t a vs ∧ Reps N F xs vs
def SlRel (N : En) (F : Hp) (fx : Fx) (H : Hp) (i : Nat) : Sl → Option V → Prop
  | .no, _ => True
  | .fz u, o => ∃ v, o = some v ∧ Rep N F u v
  | .ow u, o => ∃ a, o = some (.ref a) ∧ OwnAt N F fx H u a
  | .io u, o => ∃ a, o = some (.ref a) ∧ OwnAt N F fx H u a ∧ fx.B i = a
structure SRel (N : En) (F : Hp) (fx : Fx) (ss : List Sl) (σ : St) (H : Hp) : Prop where
  fh : Same F H
  rh : Same fx.R H
  fz : ∀ a, F a ≠ none → ¬ fx.Z a
  zh : ∀ a, fx.Z a → H a ≠ none
  len : ss.length = σ.length
  sl : ∀ (i : Nat) (s : Sl) (o : Option V), ss[i]? = some s → σ[i]? = some o → SlRel N F fx H i s o
  dj : ∀ (i j : Nat) (s t : Sl) (a : Addr), i ≠ j → ss[i]? = some s → ss[j]? = some t → s.owns = true → t.owns = true → σ[i]? = some (some (.ref a)) → σ[j]? = some (some (.ref a)) → False

/-! ### what code computes -/
/-- an exception: its class (own ones by number), what its own dict holds -/
structure Exn where
  cls : Sum Nat String
  fs : Option (List Str × List U)
inductive Rz (α : Type) where
  | no
  | ok (a : α) (ss : List Sl)
  | ex (e : Exn) (ss : List Sl)
abbrev M (α : Type) := List Sl → Rz α
def M.ret {α : Type} (a : α) : M α := fun ss => .ok a ss
def M.bind {α β : Type} (m : M α) (f : α → M β) : M β := fun ss => match m ss with
  | .no => .no
  | .ok a ss' => f a ss'
  | .ex e ss' => .ex e ss'
def M.fail {α : Type} : M α := fun _ => .no
def M.opt {α : Type} : Option α → M α
  | some a => M.ret a
  | none => M.fail
def exV (N : En) : Sum Nat String → Value
  | .inl c => .ref (N.cl c)
  | .inr s => .type s
def XRel (N : En) (F H : Hp) (e : Exn) (cls : Value) (d : Option Addr) : Prop := cls = exV N e.cls ∧ match e.fs with
  | none => d = none
  | some (ns, xs) => ∃ dd vs, d = some dd ∧ ns.length = vs.length ∧ H dd = some (.xd (ns.zip vs)) ∧ Reps N F xs vs

/-- what is wanted, by what the code computes -/
def Good {α : Type} (N : En) (W : WX) (F : Hp) (fx : Fx) (σ : St) (Q : Hp → List Sl → α → Hp → Prop) : Rz α → Prop
  | .no => False
  | .ok a ss' => ∀ F' H', Ext N F F' → SRel N F' fx ss' σ H' → Q F' ss' a H'
  | .ex e ss' => ∀ F' H' cls d, Ext N F F' → SRel N F' fx ss' σ H' → XRel N F' H' e cls d → W cls d σ H'
section
variable {α β : Type} {N : En} {W : WX} {F F1 : Hp} {fx : Fx} {σ : St} {Q Q' : Hp → List Sl → α → Hp → Prop}
theorem Good.mono {r : Rz α} (h : Good N W F fx σ Q r) (q : ∀ F' ss a H', Ext N F F' → SRel N F' fx ss σ H' → Q F' ss a H' → Q' F' ss a H') : Good N W F fx σ Q' r := by
  cases r with
  | no => exact h
  | ok a ss => exact fun F' H' e s => q _ _ _ _ e s (h F' H' e s)
  | ex e ss => exact h
/-- from a later state on -/
theorem Good.ext {r : Rz α} (e : Ext N F F1) (h : Good N W F fx σ Q r) : Good N W F1 fx σ Q r := by
  cases r with
  | no => exact h
  | ok a ss => exact fun F' H' e' s => h F' H' (e.trans e') s
  | ex x ss => exact fun F' H' cls d e' s x => h F' H' cls d (e.trans e') s x
theorem Good.bind {m : M α} {f : α → M β} {ss : List Sl} {Q : Hp → List Sl → β → Hp → Prop} (h : Good N W F fx σ Q (M.bind m f ss)) :
    Good N W F fx σ (fun F' ss' a _ => Good N W F' fx σ Q (f a ss')) (m ss) := by
  unfold M.bind at h
  cases q : m ss with
  | no => rw [q] at h; exact h
  | ok a ss' => rw [q] at h; exact fun F' H' e s => h.ext e
  | ex x ss' => rw [q] at h; exact h
end

/-! ### the readings -/
/-- a value, frozen -/
def lE (N : En) (W : WX) (m : M U) : TE := fun σ H Q => ∃ F fx ss, SRel N F fx ss σ H ∧ Good N W F fx σ (fun F' _ u H' => ∀ v, Rep N F' u v → Q v H') (m ss)
/-- a new thing of one's own -/
def lO (N : En) (W : WX) (m : M U) : TE := fun σ H Q => ∃ F fx ss, SRel N F fx ss σ H ∧ Good N W F fx σ (fun F' ss' u H' => ∀ a, SRel N F' fx (ss' ++ [.ow u]) (σ ++ [some (.ref a)]) H' → Q (.ref a) H') (m ss)
/-- a handle: a value, or a slot that is looked at later -/
inductive Hd where
  | val (u : U)
  | slot (i : Nat)
def HRel (N : En) (F : Hp) (σ : St) : Hd → V → Prop
  | .val u, v => Rep N F u v
  | .slot i, v => σ[i]? = some (some v)
def lH (N : En) (W : WX) (m : M Hd) : TE := fun σ H Q => ∃ F fx ss, SRel N F fx ss σ H ∧ Good N W F fx σ (fun F' _ u H' => ∀ v, HRel N F' σ u v → Q v H') (m ss)
def lT (N : En) (W : WX) (m : M Bool) : TT := fun σ H Q => ∃ F fx ss, SRel N F fx ss σ H ∧ Good N W F fx σ (fun _ _ b H' => Q b H') (m ss)
def HRels (N : En) (F : Hp) (σ : St) : List Hd → List V → Prop
  | [], vs => vs = []
  | h :: hs, vs => ∃ v r, vs = v :: r ∧ HRel N F σ h v ∧ HRels N F σ hs r
def lA (N : En) (W : WX) (m : M (List Hd)) : TA := fun σ H Q => ∃ F fx ss, SRel N F fx ss σ H ∧ Good N W F fx σ (fun F' _ us H' => ∀ vs, HRels N F' σ us vs → Q vs H') (m ss)
inductive Fl where
  | nx | bk | ct
  | rt (u : U)
  | ro (u : U)
/-- a statement: the slots may change -/
def GoodS (N : En) (W : WX) (F : Hp) (fx : Fx) (D : Ends) : Rz Fl → Prop
  | .no => False
  | .ok .nx ss' => ∀ F' H' σ', Ext N F F' → SRel N F' fx ss' σ' H' → D.nx σ' H'
  | .ok .bk ss' => ∀ F' H' σ', Ext N F F' → SRel N F' fx ss' σ' H' → D.bk σ' H'
  | .ok .ct ss' => ∀ F' H' σ', Ext N F F' → SRel N F' fx ss' σ' H' → D.ct σ' H'
  | .ok (.rt u) ss' => ∀ F' H' σ' v, Ext N F F' → SRel N F' fx ss' σ' H' → Rep N F' u v → D.rt v H'
  | .ok (.ro u) ss' => ∀ F' H' σ' a, Ext N F F' → SRel N F' fx (ss' ++ [.ow u]) (σ' ++ [some (.ref a)]) H' → D.rt (.ref a) H'
  | .ex e ss' => ∀ F' H' σ' cls d, Ext N F F' → SRel N F' fx ss' σ' H' → XRel N F' H' e cls d → W cls d σ' H'
theorem GoodS.ext {N : En} {W : WX} {F F1 : Hp} {fx : Fx} {D : Ends} {r : Rz Fl} (e : Ext N F F1) (h : GoodS N W F fx D r) : GoodS N W F1 fx D r := by
  cases r with
  | no => exact h
  | ok a ss =>
    cases a with
    | nx => exact fun F' H' σ' e' s => h F' H' σ' (e.trans e') s
    | bk => exact fun F' H' σ' e' s => h F' H' σ' (e.trans e') s
    | ct => exact fun F' H' σ' e' s => h F' H' σ' (e.trans e') s
    | rt u => exact fun F' H' σ' v e' s x => h F' H' σ' v (e.trans e') s x
    | ro u => exact fun F' H' σ' v e' s => h F' H' σ' v (e.trans e') s
  | ex x ss => exact fun F' H' σ' cls d e' s x => h F' H' σ' cls d (e.trans e') s x
def lS (N : En) (W : WX) (m : M Fl) : TS := fun D σ H => ∃ F fx ss, SRel N F fx ss σ H ∧ GoodS N W F fx D (m ss)
end Dl

set_option Elab.async false
set_option linter.all false
set_option maxRecDepth 100000
set_option maxHeartbeats 4000000
namespace Dl
open PySem L2
/-! ### what keeps the relation of slots and heap -/
theorem ne_none_some {α : Type} {o : Option α} {a : α} (h : o = some a) : o ≠ none := by rw [h]; intro z; cases z
section
variable {N : En} {F F' : Hp} {fx : Fx} {ss : List Sl} {σ : St} {H H' : Hp}
theorem HoldsO.move (eF : ∀ b, Mine F fx b → H b ≠ none → Mine F' fx b) (kp : ∀ b o, Mine F fx b → H b = some o → H' b = some o) : ∀ {t : Tag} {a : Addr} {vs : List V}, Mine F fx a → HoldsO N F fx H t a vs → HoldsO N F' fx H' t a vs
  | .tup, _, _, _, h => h
  | .sq, _, _, _, h => h
  | .ab _, _, _, _, h => h
  | .lst, a, vs, m, h => kp _ _ m h
  | .dK ks, a, vs, m, ⟨h1, h2⟩ => ⟨h1, kp _ _ m h2⟩
  | .dT ks, a, vs, m, ⟨h1, h2⟩ => ⟨h1, kp _ _ m h2⟩
  | .ins c ns, a, vs, m, ⟨h1, dx, h2, h3, h4⟩ => ⟨h1, dx, kp _ _ m h2, kp _ _ h4 h3, eF _ h4 (ne_none_some h3)⟩
theorem HoldsO.there : ∀ {t : Tag} {a : Addr} {vs : List V}, HoldsO N F fx H t a vs → H a ≠ none
  | .tup, _, _, h => h.elim
  | .sq, _, _, h => h.elim
  | .ab _, _, _, h => h.elim
  | .lst, _, _, h => ne_none_some h
  | .dK _, _, _, h => ne_none_some h.2
  | .dT _, _, _, h => ne_none_some h.2
  | .ins _ _, _, _, ⟨_, _, h, _⟩ => ne_none_some h
theorem OwnAt.mine {u : U} {a : Addr} (h : OwnAt N F fx H u a) : Mine F fx a := by
  cases u with
  | c v => exact h.elim
  | nd t xs => exact h.1
theorem OwnAt.there {u : U} {a : Addr} (h : OwnAt N F fx H u a) : H a ≠ none := by
  cases u with
  | c v => exact h.elim
  | nd t xs => obtain ⟨_, vs, h, _⟩ := h; exact h.there
theorem OwnAt.move (eF : ∀ b, Mine F fx b → H b ≠ none → Mine F' fx b) (kp : ∀ b o, Mine F fx b → H b = some o → H' b = some o) (e : Ext N F F') {u : U} {a : Addr} (h : OwnAt N F fx H u a) : OwnAt N F' fx H' u a := by
  cases u with
  | c v => exact h.elim
  | nd t xs =>
    obtain ⟨m, vs, h1, h2⟩ := h
    exact ⟨eF a m h1.there, vs, h1.move eF kp m, e.reps h2⟩
theorem SlRel.move {i : Nat} {s : Sl} {o : Option V} (eF : ∀ b, Mine F fx b → H b ≠ none → Mine F' fx b) (kp : ∀ b o, Mine F fx b → H b = some o → H' b = some o) (e : Ext N F F') (h : SlRel N F fx H i s o) : SlRel N F' fx H' i s o := by
  cases s with
  | no => trivial
  | fz u => obtain ⟨v, h1, h2⟩ := h; exact ⟨v, h1, e.rep h2⟩
  | ow u => obtain ⟨a, h1, h2⟩ := h; exact ⟨a, h1, h2.move eF kp e⟩
  | io u => obtain ⟨a, h1, h2, h3⟩ := h; exact ⟨a, h1, h2.move eF kp e, h3⟩
/-- the frozen part grows by new things, what is one's own is kept -/
theorem SRel.step (S : SRel N F fx ss σ H) (e : Ext N F F') (fh : Same F' H') (rh : Same fx.R H') (new : ∀ a, F' a ≠ none → F a ≠ none ∨ H a = none) (kp : ∀ b o, Mine F fx b → H b = some o → H' b = some o) (al : ∀ b, H b ≠ none → H' b ≠ none) : SRel N F' fx ss σ H' := by
  have eF : ∀ b, Mine F fx b → H b ≠ none → Mine F' fx b := fun b m hb => ⟨by
    cases q : F' b with
    | none => rfl
    | some o =>
      rcases new b (ne_none_some q) with z | z
      · exact absurd m.1 z
      · exact absurd z hb, m.2.1, m.2.2⟩
  refine ⟨fh, rh, fun a ha z => ?_, fun a z => al a (S.zh a z), S.len, fun i s o h1 h2 => (S.sl i s o h1 h2).move eF kp e, S.dj⟩
  rcases new a ha with q | q
  · exact S.fz a q z
  · exact S.zh a z q
theorem same_new {p : Addr} {o : HO} (h : H p = none) : Same H (upd H p o) := fun b x e => by
  rw [upd_ne (ne_of_none e h)]
  exact e
theorem same_upd2 {p : Addr} {o : HO} (S : Same F H) : Same (upd F p o) (upd H p o) := fun b x e => by
  unfold upd at e ⊢
  split at e
  · rename_i z; rw [if_pos z]; exact e
  · rename_i z; rw [if_neg z]; exact S _ _ e
/-- a new frozen thing -/
theorem SRel.laid {p : Addr} {o : HO} (S : SRel N F fx ss σ H) (h : H p = none) : SRel N (upd F p o) fx ss σ (upd H p o) := by
  have hF : F p = none := S.fh.free h
  refine S.step (Ext.of (same_new hF)) (same_upd2 S.fh) (fun b x e => same_new h _ _ (S.rh _ _ e)) (fun a ha => ?_) (fun b o _ hb => same_new h _ _ hb) (fun b hb => ?_)
  · by_cases z : a = p
    · subst z; exact .inr h
    · rw [upd_ne z] at ha; exact .inl ha
  · by_cases z : b = p
    · subst z; exact absurd h hb
    · rw [upd_ne z]; exact hb
/-- a new thing of which nothing is told -/
theorem SRel.grown {p : Addr} {o : HO} (S : SRel N F fx ss σ H) (h : H p = none) : SRel N F fx ss σ (upd H p o) := by
  refine S.step Ext.refl (fun b x e => same_new h _ _ (S.fh _ _ e)) (fun b x e => same_new h _ _ (S.rh _ _ e)) (fun a ha => .inl ha) (fun b o _ hb => same_new h _ _ hb) (fun b hb => ?_)
  by_cases z : b = p
  · subst z; exact absurd h hb
  · rw [upd_ne z]; exact hb
theorem SRel.mineNew {p : Addr} (S : SRel N F fx ss σ H) (h : H p = none) : Mine F fx p := ⟨S.fh.free h, S.rh.free h, fun z => S.zh p z h⟩
theorem getElem?_snoc {α : Type} {l : List α} {x : α} {i : Nat} {y : α} (h : (l ++ [x])[i]? = some y) : l[i]? = some y ∨ (i = l.length ∧ y = x) := by
  by_cases q : i < l.length
  · rw [List.getElem?_append_left q] at h; exact .inl h
  · rw [List.getElem?_append_right (by omega)] at h
    have z : i - l.length = 0 := by
      cases e : i - l.length with
      | zero => rfl
      | succ n => rw [e] at h; simp at h
    rw [z] at h
    simp at h
    exact .inr ⟨by omega, h.symm⟩
/-- a slot behind all others -/
theorem SRel.snoc {s : Sl} {o : Option V} (S : SRel N F fx ss σ H) (h : SlRel N F fx H ss.length s o) (d : s.owns = true → ∀ (i : Nat) (t : Sl) (a : Addr), ss[i]? = some t → t.owns = true → σ[i]? = some (some (.ref a)) → o = some (.ref a) → False) :
    SRel N F fx (ss ++ [s]) (σ ++ [o]) H := by
  refine ⟨S.fh, S.rh, S.fz, S.zh, by simp [S.len], fun i s' o' h1 h2 => ?_, fun i j s1 s2 a hij h1 h2 o1 o2 e1 e2 => ?_⟩
  · rcases getElem?_snoc h1 with h1 | ⟨e1, e2⟩
    · rcases getElem?_snoc h2 with h2 | ⟨e3, e4⟩
      · exact S.sl i s' o' h1 h2
      · have := (List.getElem?_eq_some_iff.mp h1).1
        have := S.len
        omega
    · rcases getElem?_snoc h2 with h2 | ⟨e3, e4⟩
      · have := (List.getElem?_eq_some_iff.mp h2).1
        have := S.len
        omega
      · subst e1 e2 e4; exact h
  · have L := S.len
    rcases getElem?_snoc h1 with h1 | ⟨r1, r2⟩
    · have l1 := (List.getElem?_eq_some_iff.mp h1).1
      rw [List.getElem?_append_left (by omega)] at e1
      rcases getElem?_snoc h2 with h2 | ⟨r3, r4⟩
      · have l2 := (List.getElem?_eq_some_iff.mp h2).1
        rw [List.getElem?_append_left (by omega)] at e2
        exact S.dj i j s1 s2 a hij h1 h2 o1 o2 e1 e2
      · rw [List.getElem?_append_right (by omega)] at e2
        have z : j - σ.length = 0 := by omega
        rw [z] at e2; simp at e2
        exact d (by rw [← r4]; exact o2) i s1 a h1 o1 e1 e2
    · rw [List.getElem?_append_right (by omega)] at e1
      have z : i - σ.length = 0 := by omega
      rw [z] at e1; simp at e1
      rcases getElem?_snoc h2 with h2 | ⟨r3, r4⟩
      · have l2 := (List.getElem?_eq_some_iff.mp h2).1
        rw [List.getElem?_append_left (by omega)] at e2
        exact d (by rw [← r2]; exact o1) j s2 a h2 o2 e2 e1
      · omega
theorem SRel.ownThere {i : Nat} {s : Sl} {a : Addr} (S : SRel N F fx ss σ H) (h : ss[i]? = some s) (o : s.owns = true) (e : σ[i]? = some (some (.ref a))) : ∃ u, (s = .ow u ∨ s = .io u) ∧ OwnAt N F fx H u a := by
  have h1 := S.sl i s _ h e
  cases s with
  | no => cases o
  | fz u => cases o
  | ow u => obtain ⟨b, e1, e2⟩ := h1; cases e1; exact ⟨u, .inl rfl, e2⟩
  | io u => obtain ⟨b, e1, e2, _⟩ := h1; cases e1; exact ⟨u, .inr rfl, e2⟩
/-- a new thing of one's own -/
theorem SRel.own {p : Addr} {t : Tag} {xs : List U} {vs : List V} (S : SRel N F fx ss σ H) {o : HO} (h : H p = none) (hO : HoldsO N F fx (upd H p o) t p vs) (r : Reps N F xs vs) : SRel N F fx (ss ++ [.ow (.nd t xs)]) (σ ++ [some (.ref p)]) (upd H p o) := by
  refine (S.grown h).snoc ⟨p, rfl, S.mineNew h, vs, hO, r⟩ fun _ i t a h1 o1 e1 e2 => ?_
  cases e2
  obtain ⟨u, _, q⟩ := S.ownThere h1 o1 e1
  exact q.there h
/-- fewer slots -/
theorem SRel.less {s : Sl} {o : Option V} (S : SRel N F fx (ss ++ [s]) (σ ++ [o]) H) : SRel N F fx ss σ H := by
  have L : ss.length = σ.length := by have := S.len; simp at this; exact this
  have a1 : ∀ {i : Nat} {x : Sl}, ss[i]? = some x → (ss ++ [s])[i]? = some x := fun {i x} h => by
    rw [List.getElem?_append_left (List.getElem?_eq_some_iff.mp h).1]; exact h
  have a2 : ∀ {i : Nat} {x : Option V}, σ[i]? = some x → (σ ++ [o])[i]? = some x := fun {i x} h => by
    rw [List.getElem?_append_left (List.getElem?_eq_some_iff.mp h).1]; exact h
  exact ⟨S.fh, S.rh, S.fz, S.zh, L, fun i s' o' h1 h2 => S.sl i s' o' (a1 h1) (a2 h2), fun i j s1 s2 a hij h1 h2 o1 o2 e1 e2 => S.dj i j s1 s2 a hij (a1 h1) (a1 h2) o1 o2 (a2 e1) (a2 e2)⟩
theorem SRel.last {u : U} {a : Addr} (S : SRel N F fx (ss ++ [.ow u]) (σ ++ [some (.ref a)]) H) : OwnAt N F fx H u a := by
  have L : ss.length = σ.length := by have := S.len; simp at this; exact this
  obtain ⟨b, e, h⟩ := S.sl ss.length (.ow u) (some (.ref a)) (by simp) (by rw [L]; simp)
  cases e; exact h
theorem get_set {α : Type} {l : List α} {i j : Nat} {x y : α} (h : (l.set i x)[j]? = some y) : (j = i ∧ y = x ∧ i < l.length) ∨ (j ≠ i ∧ l[j]? = some y) := by
  by_cases e : j = i
  · subst e
    by_cases l1 : j < l.length
    · rw [List.getElem?_set_self l1] at h; cases h; exact .inl ⟨rfl, rfl, l1⟩
    · rw [List.getElem?_eq_none (by simp; omega)] at h; cases h
  · rw [List.getElem?_set_ne (Ne.symm e)] at h; exact .inr ⟨e, h⟩
/-- the frozen part of what one has -/
theorem SRel.freeze {i : Nat} {u : U} (S : SRel N F fx ss σ H) (h : ss[i]? = some (.ow u)) : ∃ F', Ext N F F' ∧ SRel N F' fx (ss.set i (.fz u)) σ H ∧ ∃ v, σ[i]? = some (some v) ∧ Rep N F' u v := by
  have hi := (List.getElem?_eq_some_iff.mp h).1
  have hσ : σ[i]? = some (σ[i]'(by rw [← S.len]; exact hi)) := List.getElem?_eq_getElem _
  obtain ⟨a, e, m⟩ := S.sl i _ _ h hσ
  rw [e] at hσ
  cases u with
  | c v => exact m.elim
  | nd t xs =>
    obtain ⟨mi, vs, hO, r⟩ := m
    -- the addresses that become frozen
    have key : ∃ (fp : List Addr), a ∈ fp ∧ (∀ b ∈ fp, Mine F fx b ∧ H b ≠ none) ∧ (∀ (F' : Hp), (∀ b, b ∈ fp → F' b = H b) → Holds N F' t a vs) ∧ ∀ b ∈ fp, b = a ∨ H b = some (.own a) := by
      cases t with
      | tup => exact hO.elim
      | sq => exact hO.elim
      | ab _ => exact hO.elim
      | lst => exact ⟨[a], by simp, fun b hb => by simp at hb; subst hb; exact ⟨mi, ne_none_some hO⟩, fun F' k => (k a (by simp)).trans hO, fun b hb => .inl (by simpa using hb)⟩
      | dK ks => exact ⟨[a], by simp, fun b hb => by simp at hb; subst hb; exact ⟨mi, ne_none_some hO.2⟩, fun F' k => ⟨hO.1, .inl ((k a (by simp)).trans hO.2)⟩, fun b hb => .inl (by simpa using hb)⟩
      | dT ks => exact ⟨[a], by simp, fun b hb => by simp at hb; subst hb; exact ⟨mi, ne_none_some hO.2⟩, fun F' k => ⟨hO.1, .inl ((k a (by simp)).trans hO.2)⟩, fun b hb => .inl (by simpa using hb)⟩
      | ins c ns =>
        obtain ⟨h1, dx, h2, h3, h4⟩ := hO
        exact ⟨[a, dx], by simp, fun b hb => by
          simp at hb
          rcases hb with rfl | rfl
          · exact ⟨mi, ne_none_some h2⟩
          · exact ⟨h4, ne_none_some h3⟩, fun F' k => ⟨h1, dx, (k a (by simp)).trans h2, (k dx (by simp)).trans h3⟩, fun b hb => by
          simp at hb
          rcases hb with rfl | rfl
          · exact .inl rfl
          · exact .inr h3⟩
    obtain ⟨fp, ha, hfp, hH, hown⟩ := key
    have sm : Same F (fun b => if b ∈ fp then H b else F b) := fun b o q => by
      have nb : b ∉ fp := fun z => by have := (hfp b z).1.1; rw [q] at this; cases this
      simp only [if_neg nb]; exact q
    have hF' : Ext N F (fun b => if b ∈ fp then H b else F b) := Ext.of sm
    refine ⟨fun b => if b ∈ fp then H b else F b, hF', ⟨fun b o q => ?_, S.rh, fun b hb => ?_, S.zh, by simpa using S.len, fun j s o h1 h2 => ?_, fun j k s1 s2 b hjk h1 h2 o1 o2 e1 e2 => ?_⟩, .ref a, hσ, a, vs, rfl, hH _ (fun b hb => by simp [hb]), hF'.reps r⟩
    · by_cases z : b ∈ fp
      · simp [z] at q; exact q
      · simp [z] at q; exact S.fh _ _ q
    · by_cases z : b ∈ fp
      · exact (hfp b z).1.2.2
      · simp [z] at hb; exact S.fz b hb
    · rcases get_set h1 with ⟨rfl, rfl, _⟩ | ⟨nj, h1⟩
      · rw [hσ] at h2; cases h2
        exact ⟨.ref a, rfl, a, vs, rfl, hH _ (fun b hb => by simp [hb]), hF'.reps r⟩
      · -- another slot: what it owns is not at fp
        have q := S.sl j s o h1 h2
        have far : ∀ {u' : U} {b : Addr}, s.owns = true → o = some (.ref b) → OwnAt N F fx H u' b → OwnAt N (fun b => if b ∈ fp then H b else F b) fx H u' b := fun {u' b} so oe ow => by
          have nba : b ≠ a := fun z => by
            subst z; subst oe
            exact S.dj j i s (.ow (.nd t xs)) b nj h1 h so rfl h2 hσ
          have nbf : b ∉ fp := fun z => by
            rcases hown b z with z | z
            · exact nba z
            · cases u' with
              | c v => exact ow.elim
              | nd t' xs' =>
                obtain ⟨_, vs', ho, _⟩ := ow
                cases t' with
                | tup => exact ho
                | sq => exact ho
                | ab _ => exact ho
                | lst => rw [show H b = _ from ho] at z; cases z
                | dK ks => rw [ho.2] at z; cases z
                | dT ks => rw [ho.2] at z; cases z
                | ins c ns => obtain ⟨_, _, h2, _⟩ := ho; rw [h2] at z; cases z
          have mm : ∀ c, Mine F fx c → c ∉ fp → Mine (fun b => if b ∈ fp then H b else F b) fx c := fun c m z => ⟨by simp [z]; exact m.1, m.2.1, m.2.2⟩
          cases u' with
          | c v => exact ow.elim
          | nd t' xs' =>
            obtain ⟨m', vs', ho, r'⟩ := ow
            refine ⟨mm b m' nbf, vs', ?_, hF'.reps r'⟩
            cases t' with
            | tup => exact ho
            | sq => exact ho
            | ab _ => exact ho
            | lst => exact ho
            | dK ks => exact ho
            | dT ks => exact ho
            | ins c ns =>
              obtain ⟨h1', dx', h2', h3', h4'⟩ := ho
              refine ⟨h1', dx', h2', h3', mm dx' h4' fun z => ?_⟩
              rcases hown dx' z with z | z
              · -- dx' = a, where H a is no own
                subst z
                cases t with
                | tup => exact hO
                | sq => exact hO
                | ab _ => exact hO
                | lst => rw [show H dx' = _ from hO] at h3'; cases h3'
                | dK ks => rw [hO.2] at h3'; cases h3'
                | dT ks => rw [hO.2] at h3'; cases h3'
                | ins c ns => obtain ⟨_, _, h2, _⟩ := hO; rw [h2] at h3'; cases h3'
              · rw [h3'] at z
                have z' := HO.own.inj (Option.some.inj z)
                exact nba z'
        cases s with
        | no => trivial
        | fz u' => obtain ⟨v, q1, q2⟩ := q; exact ⟨v, q1, hF'.rep q2⟩
        | ow u' => obtain ⟨b, q1, q2⟩ := q; exact ⟨b, q1, far rfl q1 q2⟩
        | io u' => obtain ⟨b, q1, q2, q3⟩ := q; exact ⟨b, q1, far rfl q1 q2, q3⟩
    · rcases get_set h1 with ⟨rfl, rfl, _⟩ | ⟨nj, h1⟩
      · cases o1
      · rcases get_set h2 with ⟨rfl, rfl, _⟩ | ⟨nk, h2⟩
        · cases o2
        · exact S.dj j k s1 s2 b hjk h1 h2 o1 o2 e1 e2
/-- a new thing of one's own, frozen at once -/
theorem SRel.frozen {u : U} {a : Addr} (S : SRel N F fx (ss ++ [.ow u]) (σ ++ [some (.ref a)]) H) : ∃ F', Ext N F F' ∧ SRel N F' fx ss σ H ∧ Rep N F' u (.ref a) := by
  have L : ss.length = σ.length := by have := S.len; simp at this; exact this
  obtain ⟨F', e, S', v, h1, h2⟩ := S.freeze (i := ss.length) (u := u) (by simp)
  rw [L] at h1
  simp at h1
  subst h1
  refine ⟨F', e, SRel.less (s := .fz u) (o := some (.ref a)) ?_, h2⟩
  have z : (ss ++ [Sl.ow u]).set ss.length (.fz u) = ss ++ [.fz u] := by simp
  rw [z] at S'
  exact S'
end
end Dl

set_option Elab.async false
set_option linter.all false
set_option maxRecDepth 100000
set_option maxHeartbeats 4000000
namespace Dl
open PySem L2
/-! ### stores to slots -/
def Sl.isIo : Sl → Bool
  | .io _ => true
  | _ => false
section
variable {N : En} {F F' : Hp} {fx : Fx} {ss : List Sl} {σ : St} {H H' : Hp}
theorem SRel.put {i : Nat} {s : Sl} {o : Option V} (S : SRel N F fx ss σ H) (h : SlRel N F fx H i s o) (d : s.owns = true → ∀ (j : Nat) (t : Sl) (a : Addr), j ≠ i → ss[j]? = some t → t.owns = true → σ[j]? = some (some (.ref a)) → o = some (.ref a) → False) :
    SRel N F fx (ss.set i s) (σ.set i o) H := by
  refine ⟨S.fh, S.rh, S.fz, S.zh, by simp [S.len], fun j s' o' h1 h2 => ?_, fun j k s1 s2 a hjk h1 h2 o1 o2 e1 e2 => ?_⟩
  · rcases get_set h1 with ⟨rfl, rfl, _⟩ | ⟨nj, h1⟩
    · rcases get_set h2 with ⟨_, rfl, _⟩ | ⟨nj, h2⟩
      · exact h
      · exact absurd rfl nj
    · rcases get_set h2 with ⟨rfl, rfl, _⟩ | ⟨nj, h2⟩
      · exact absurd rfl nj
      · exact S.sl j s' o' h1 h2
  · rcases get_set h1 with ⟨a1, a2, _⟩ | ⟨nj, p1⟩
    · rcases get_set h2 with ⟨b1, b2, _⟩ | ⟨nk, p2⟩
      · exact hjk (a1.trans b1.symm)
      · rcases get_set e1 with ⟨_, r, _⟩ | ⟨z, _⟩
        · rcases get_set e2 with ⟨z, _, _⟩ | ⟨_, p3⟩
          · exact nk z
          · exact d (a2 ▸ o1) k s2 a nk p2 o2 p3 r.symm
        · exact z a1
    · rcases get_set h2 with ⟨b1, b2, _⟩ | ⟨nk, p2⟩
      · rcases get_set e2 with ⟨_, r, _⟩ | ⟨z, _⟩
        · rcases get_set e1 with ⟨z, _, _⟩ | ⟨_, p3⟩
          · exact nj z
          · exact d (b2 ▸ o2) j s1 a nj p1 o1 p3 r.symm
        · exact z b1
      · rcases get_set e1 with ⟨z, _, _⟩ | ⟨_, p3⟩
        · exact nj z
        · rcases get_set e2 with ⟨z, _, _⟩ | ⟨_, p4⟩
          · exact nk z
          · exact S.dj j k s1 s2 a hjk p1 p2 o1 o2 p3 p4
theorem SRel.putF {i : Nat} {u : U} {v : V} (S : SRel N F fx ss σ H) (r : Rep N F u v) : SRel N F fx (ss.set i (.fz u)) (σ.set i (some v)) H := S.put ⟨v, rfl, r⟩ (fun z => nomatch z)
theorem SRel.putNo {i : Nat} {o : Option V} (S : SRel N F fx ss σ H) : SRel N F fx (ss.set i .no) (σ.set i o) H := S.put trivial (fun z => nomatch z)
theorem SRel.putO {i : Nat} {u : U} {a : Addr} (S : SRel N F fx (ss ++ [.ow u]) (σ ++ [some (.ref a)]) H) : SRel N F fx (ss.set i (.ow u)) (σ.set i (some (.ref a))) H := by
  have L : ss.length = σ.length := by have := S.len; simp at this; exact this
  refine S.less.put ⟨a, rfl, S.last⟩ fun _ j t b nj h1 o1 e1 e2 => ?_
  cases e2
  have l1 := (List.getElem?_eq_some_iff.mp h1).1
  refine S.dj j ss.length t (.ow u) a (by omega) ?_ (by simp) o1 rfl ?_ ?_
  · rw [List.getElem?_append_left l1]; exact h1
  · rw [List.getElem?_append_left (by omega)]; exact e1
  · rw [L]; simp
/-- what one has, written -/
def reown : Sl → U → Sl
  | .io _, u => .io u
  | _, u => .ow u
theorem SRel.write {i : Nat} {s : Sl} {t t' : Tag} {xs xs' : List U} {vs' : List V} {a : Addr} {o : HO} (S : SRel N F fx ss σ H) (h : ss[i]? = some s) (hs : s = .ow (.nd t xs) ∨ s = .io (.nd t xs)) (e : σ[i]? = some (some (.ref a)))
    (hO : HoldsO N F fx (upd H a o) t' a vs') (r : Reps N F xs' vs') : SRel N F fx (ss.set i (reown s (.nd t' xs'))) σ (upd H a o) := by
  have so : s.owns = true := by rcases hs with z | z <;> rw [z] <;> rfl
  obtain ⟨u, _, ow⟩ := S.ownThere h so e
  have mi := ow.mine
  have kp : ∀ b, b ≠ a → upd H a o b = H b := fun b z => upd_ne z
  refine ⟨fun b x q => ?_, fun b x q => ?_, S.fz, fun b z => ?_, by simp [S.len], fun j s' o' h1 h2 => ?_, fun j k s1 s2 b hjk h1 h2 o1 o2 e1 e2 => ?_⟩
  · rw [kp b fun z => by subst z; rw [mi.1] at q; cases q]; exact S.fh _ _ q
  · rw [kp b fun z => by subst z; rw [mi.2.1] at q; cases q]; exact S.rh _ _ q
  · rw [kp b fun q => mi.2.2 (q ▸ z)]; exact S.zh b z
  · rcases get_set h1 with ⟨rfl, rfl, _⟩ | ⟨nj, h1⟩
    · rw [e] at h2; cases h2
      have q := S.sl j s _ h e
      rcases hs with rfl | rfl
      · exact ⟨a, rfl, mi, vs', hO, r⟩
      · obtain ⟨b, q1, q2, q3⟩ := q
        cases q1
        exact ⟨a, rfl, ⟨mi, vs', hO, r⟩, q3⟩
    · have q := S.sl j s' o' h1 h2
      have far : ∀ {u' : U} {b : Addr}, s'.owns = true → o' = some (.ref b) → OwnAt N F fx H u' b → OwnAt N F fx (upd H a o) u' b := fun {u' b} so' oe ow' => by
        have nba : b ≠ a := fun z => by
          subst z; subst oe
          exact S.dj j i s' s b nj h1 h so' so h2 e
        cases u' with
        | c v => exact ow'.elim
        | nd t2 xs2 =>
          obtain ⟨m2, vs2, ho, r2⟩ := ow'
          refine ⟨m2, vs2, ?_, r2⟩
          cases t2 with
          | tup => exact ho
          | sq => exact ho
          | ab _ => exact ho
          | lst => exact (kp b nba).trans ho
          | dK ks => exact ⟨ho.1, (kp b nba).trans ho.2⟩
          | dT ks => exact ⟨ho.1, (kp b nba).trans ho.2⟩
          | ins c ns =>
            obtain ⟨h1', dx', h2', h3', h4'⟩ := ho
            refine ⟨h1', dx', (kp b nba).trans h2', (kp dx' fun z => ?_).trans h3', h4'⟩
            subst z
            -- at a stands what s owns, no own dict
            cases u with
            | c v => exact ow.elim
            | nd tu xu =>
              obtain ⟨_, vu, hu, _⟩ := ow
              cases tu with
              | tup => exact hu
              | sq => exact hu
              | ab _ => exact hu
              | lst => rw [show H dx' = _ from hu] at h3'; cases h3'
              | dK ks => rw [hu.2] at h3'; cases h3'
              | dT ks => rw [hu.2] at h3'; cases h3'
              | ins c ns => obtain ⟨_, _, h2, _⟩ := hu; rw [h2] at h3'; cases h3'
      cases s' with
      | no => trivial
      | fz u' => exact q
      | ow u' => obtain ⟨b, q1, q2⟩ := q; exact ⟨b, q1, far rfl q1 q2⟩
      | io u' => obtain ⟨b, q1, q2, q3⟩ := q; exact ⟨b, q1, far rfl q1 q2, q3⟩
  · have ro : (reown s (.nd t' xs')).owns = true := by rcases hs with z | z <;> rw [z] <;> rfl
    have b1 : ∃ s1', ss[j]? = some s1' ∧ s1'.owns = true := by
      rcases get_set h1 with ⟨rfl, rfl, _⟩ | ⟨nj, h1⟩
      · exact ⟨s, h, so⟩
      · exact ⟨s1, h1, o1⟩
    have b2 : ∃ s2', ss[k]? = some s2' ∧ s2'.owns = true := by
      rcases get_set h2 with ⟨rfl, rfl, _⟩ | ⟨nj, h2⟩
      · exact ⟨s, h, so⟩
      · exact ⟨s2, h2, o2⟩
    obtain ⟨s1', p1, p2⟩ := b1
    obtain ⟨s2', p3, p4⟩ := b2
    exact S.dj j k s1' s2' b hjk p1 p3 p2 p4 e1 e2
end

/-! ### looking at a handle -/
def peek (i : Nat) : M U := fun ss => match ss[i]? with
  | some (.fz u) => .ok u ss
  | some (.ow u) => .ok u ss
  | some (.io u) => .ok u ss
  | _ => .no
def look : Hd → M U
  | .val u => M.ret u
  | .slot i => peek i
/-- a value that is seen: frozen, or one's own as it is now -/
def View (N : En) (F : Hp) (fx : Fx) (H : Hp) (u : U) (v : V) : Prop := Rep N F u v ∨ ∃ a, v = .ref a ∧ OwnAt N F fx H u a
section
variable {N : En} {F F' : Hp} {fx : Fx} {ss : List Sl} {σ : St} {H H' : Hp}
theorem peek_view {i : Nat} {v : V} (S : SRel N F fx ss σ H) (h : σ[i]? = some (some v)) {P : Rz U → Prop} (hp : P (peek i ss)) (h0 : ¬ P .no) : ∃ u, P (.ok u ss) ∧ View N F fx H u v := by
  unfold peek at hp
  cases q : ss[i]? with
  | none => rw [q] at hp; exact absurd hp h0
  | some s =>
    rw [q] at hp
    have r := S.sl i s _ q h
    cases s with
    | no => exact absurd hp h0
    | fz u => obtain ⟨w, e, r⟩ := r; cases e; exact ⟨u, hp, .inl r⟩
    | ow u => obtain ⟨a, e, r⟩ := r; cases e; exact ⟨u, hp, .inr ⟨a, rfl, r⟩⟩
    | io u => obtain ⟨a, e, r, _⟩ := r; cases e; exact ⟨u, hp, .inr ⟨a, rfl, r⟩⟩
theorem look_view {h : Hd} {v : V} (S : SRel N F fx ss σ H) (r : HRel N F σ h v) {P : Rz U → Prop} (hp : P (look h ss)) (h0 : ¬ P .no) : ∃ u, P (.ok u ss) ∧ View N F fx H u v := by
  cases h with
  | val u => exact ⟨u, hp, .inl r⟩
  | slot i => exact peek_view S r hp h0
theorem HRel.ext {h : Hd} {v : V} (e : Ext N F F') (r : HRel N F σ h v) : HRel N F' σ h v := by
  cases h with
  | val u => exact e.rep r
  | slot i => exact r
theorem HRels.ext (e : Ext N F F') : ∀ {h : List Hd} {v : List V}, HRels N F σ h v → HRels N F' σ h v
  | [], _, r => r
  | _ :: _, _, ⟨v, r, h1, h2, h3⟩ => ⟨v, r, h1, h2.ext e, h3.ext e⟩
theorem View.sc {v w : V} (h : View N F fx H (.c v) w) : w = v := by
  rcases h with h | ⟨a, _, h⟩
  · exact h
  · exact h.elim
theorem View.lst {xs : List U} {v : V} (S : SRel N F fx ss σ H) (h : View N F fx H (.nd .lst xs) v) : ∃ a vs, v = .ref a ∧ H a = some (.lst vs) ∧ Reps N F xs vs := by
  rcases h with ⟨a, vs, h1, h2, h3⟩ | ⟨a, e, m, vs, h1, h2⟩
  · exact ⟨a, vs, h1, S.fh _ _ h2, h3⟩
  · exact ⟨a, vs, e, h1, h2⟩
theorem View.sq {xs : List U} {v : V} (S : SRel N F fx ss σ H) (h : View N F fx H (.nd .sq xs) v) : ∃ a vs, v = .ref a ∧ SqL N.K H a vs ∧ Reps N F xs vs := by
  rcases h with ⟨a, vs, h1, h2, h3⟩ | ⟨a, e, m, vs, h1, h2⟩
  · exact ⟨a, vs, h1, S.fh.seq h2, h3⟩
  · exact h1.elim
theorem View.tup {xs : List U} {v : V} (S : SRel N F fx ss σ H) (h : View N F fx H (.nd .tup xs) v) : ∃ a vs, v = .ref a ∧ SqT N.K H a vs ∧ Reps N F xs vs := by
  rcases h with ⟨a, vs, h1, h2, h3⟩ | ⟨a, e, m, vs, h1, h2⟩
  · exact ⟨a, vs, h1, Holds.mono (N := N) (t := .tup) S.fh h2, h3⟩
  · exact h1.elim
theorem View.dK {ks : List Key} {xs : List U} {v : V} (S : SRel N F fx ss σ H) (h : View N F fx H (.nd (.dK ks) xs) v) : ∃ a vs, v = .ref a ∧ ks.length = vs.length ∧ Rd H a (.dK (ks.zip vs)) ∧ Reps N F xs vs := by
  rcases h with ⟨a, vs, h1, ⟨h2, h4⟩, h3⟩ | ⟨a, e, m, vs, ⟨h1, h4⟩, h2⟩
  · exact ⟨a, vs, h1, h2, rd_same S.fh h4, h3⟩
  · exact ⟨a, vs, e, h1, .inl h4, h2⟩
theorem View.dT {ks : List (List Key)} {xs : List U} {v : V} (S : SRel N F fx ss σ H) (h : View N F fx H (.nd (.dT ks) xs) v) : ∃ a vs, v = .ref a ∧ ks.length = vs.length ∧ Rd H a (.dT (ks.zip vs)) ∧ Reps N F xs vs := by
  rcases h with ⟨a, vs, h1, ⟨h2, h4⟩, h3⟩ | ⟨a, e, m, vs, ⟨h1, h4⟩, h2⟩
  · exact ⟨a, vs, h1, h2, rd_same S.fh h4, h3⟩
  · exact ⟨a, vs, e, h1, .inl h4, h2⟩
theorem View.ab {ks : List Str} {xs : List U} {v : V} (S : SRel N F fx ss σ H) (h : View N F fx H (.nd (.ab ks) xs) v) : ∃ a, v = .ref a ∧ H a = some (N.so a ks) := by
  rcases h with ⟨a, vs, h1, ⟨h2, h4⟩, h3⟩ | ⟨a, e, m, vs, h1, h2⟩
  · exact ⟨a, h1, S.fh _ _ h4⟩
  · exact h1.elim
theorem View.ins {c : Nat} {ns : List Str} {xs : List U} {v : V} (S : SRel N F fx ss σ H) (h : View N F fx H (.nd (.ins c ns) xs) v) : ∃ a dx vs, v = .ref a ∧ ns.length = vs.length ∧ H a = some (.ins (N.cl c) dx (ns.zip vs)) ∧ Reps N F xs vs := by
  rcases h with ⟨a, vs, h1, ⟨h2, dx, h4, h5⟩, h3⟩ | ⟨a, e, m, vs, ⟨h1, dx, h4, _⟩, h2⟩
  · exact ⟨a, dx, vs, h1, h2, S.fh _ _ h4, h3⟩
  · exact ⟨a, dx, vs, e, h1, h4, h2⟩
end

/-! ### the judgements -/
theorem PE.weak {X : Cx} {e : Expr} {t t' : TE} (h : PE X e t) (w : ∀ σ H Q, t' σ H Q → t σ H Q) : PE X e t' := ⟨fun pins s σ H Q I q => h.run pins s σ H Q I (w σ H Q q)⟩
theorem PT.weak {X : Cx} {e : Expr} {t t' : TT} (h : PT X e t) (w : ∀ σ H Q, t' σ H Q → t σ H Q) : PT X e t' := ⟨fun pins s σ H Q I q => h.run pins s σ H Q I (w σ H Q q)⟩
theorem PW.weak {X : Cx} {e : Expr} {t t' : TT} (h : PW X e t) (w : ∀ σ H Q, t' σ H Q → t σ H Q) : PW X e t' := ⟨fun wh pins s σ H Q I q => h.run wh pins s σ H Q I (w σ H Q q)⟩
theorem PA.weak {X : Cx} {e : List Expr} {t t' : TA} (h : PA X e t) (w : ∀ σ H Q, t' σ H Q → t σ H Q) : PA X e t' := ⟨fun pos pins s σ H Q I q => h.run pos pins s σ H Q I (w σ H Q q)⟩
theorem PS.weak {X : Cx} {e : Stmt} {t t' : TS} (h : PS X e t) (w : ∀ D σ H, t' D σ H → t D σ H) : PS X e t' := ⟨fun pins s σ H D I q => h.run pins s σ H D I (w D σ H q)⟩
theorem PSs.weak {X : Cx} {e : List Stmt} {t t' : TS} (h : PSs X e t) (w : ∀ D σ H, t' D σ H → t D σ H) : PSs X e t' := ⟨fun pins s σ H D I q => h.run pins s σ H D I (w D σ H q)⟩
/-- the surroundings of a context -/
def enX (X : Cx) (cl : Nat → Addr) : En := ⟨X.K, X.prog, X.w, cl, soOf X.prog X.w⟩
def DE (cl : Nat → Addr) (X : Cx) (W : WX) (e : Expr) (m : M U) : Prop := PE X e (lE (enX X cl) W m)
def DO (cl : Nat → Addr) (X : Cx) (W : WX) (e : Expr) (m : M U) : Prop := PE X e (lO (enX X cl) W m)
def DH (cl : Nat → Addr) (X : Cx) (W : WX) (e : Expr) (m : M Hd) : Prop := PE X e (lH (enX X cl) W m)
def DT (cl : Nat → Addr) (X : Cx) (W : WX) (e : Expr) (m : M Bool) : Prop := PT X e (lT (enX X cl) W m)
def DW (cl : Nat → Addr) (X : Cx) (W : WX) (e : Expr) (m : M Bool) : Prop := PW X e (lT (enX X cl) W m)
def DA (cl : Nat → Addr) (X : Cx) (W : WX) (es : List Expr) (m : M (List Hd)) : Prop := PA X es (lA (enX X cl) W m)
def DS (cl : Nat → Addr) (X : Cx) (W : WX) (st : Stmt) (m : M Fl) : Prop := PS X st (lS (enX X cl) W m)
def DSs (cl : Nat → Addr) (X : Cx) (W : WX) (st : List Stmt) (m : M Fl) : Prop := PSs X st (lS (enX X cl) W m)
section
variable {cl : Nat → Addr} {X : Cx} {W : WX} {e a b : Expr} {pos : Pos}
/-! ### values -/
/-- a thing of the reading that is not the heap's -/
theorem de_const {v : V} (h : PE X e (tC v)) : DE cl X W e (M.ret (.c v)) := PE.weak h fun σ H Q ⟨F, fx, ss, S, g⟩ => g F H Ext.refl S v rfl
/-- a handle of a value -/
def mVal (m : M U) : M Hd := M.bind m fun u => M.ret (.val u)
theorem dh_val {m : M U} (h : DE cl X W e m) : DH cl X W e (mVal m) := PE.weak h fun σ H Q ⟨F, fx, ss, S, g⟩ => by
  refine ⟨F, fx, ss, S, g.bind.mono fun F' ss' u H' e S' q v r => ?_⟩
  exact q F' H' Ext.refl S' v r
/-- a name of the def, looked at later -/
def mSlot (i : Nat) : M Hd := M.bind (peek i) fun _ => M.ret (.slot i)
theorem SRel.val {N : En} {F : Hp} {fx : Fx} {ss : List Sl} {σ : St} {H : Hp} {i : Nat} (S : SRel N F fx ss σ H) {P : Rz U → Prop} (hp : P (peek i ss)) (h0 : ¬ P .no) : ∃ v, σ[i]? = some (some v) := by
  unfold peek at hp
  cases q : ss[i]? with
  | none => rw [q] at hp; exact absurd hp h0
  | some s =>
    rw [q] at hp
    have hi := (List.getElem?_eq_some_iff.mp q).1
    have hσ : σ[i]? = some (σ[i]'(by rw [← S.len]; exact hi)) := List.getElem?_eq_getElem _
    have r := S.sl i s _ q hσ
    cases s with
    | no => exact absurd hp h0
    | fz u => obtain ⟨w, e, r⟩ := r; rw [e] at hσ; exact ⟨w, hσ⟩
    | ow u => obtain ⟨a, e, r⟩ := r; rw [e] at hσ; exact ⟨_, hσ⟩
    | io u => obtain ⟨a, e, r, _⟩ := r; rw [e] at hσ; exact ⟨_, hσ⟩
theorem dh_slot {i : Nat} (h : PE X e (tVar i)) : DH cl X W e (mSlot i) := PE.weak h fun σ H Q ⟨F, fx, ss, S, g⟩ => by
  have g2 := g.bind
  obtain ⟨v, hv⟩ := S.val (P := Good _ W F fx σ _) g2 (fun z => z)
  obtain ⟨u, g3, _⟩ := peek_view S hv (P := Good _ W F fx σ _) g2 (fun z => z)
  exact ⟨v, hv, g3 F H Ext.refl S F H Ext.refl S v hv⟩
/-- a name of the def as a value: what is one's own is frozen by it -/
def mTake (i : Nat) : M U := fun ss => match ss[i]? with
  | some (.fz u) => .ok u ss
  | some (.ow u) => .ok u (ss.set i (.fz u))
  | _ => .no
theorem de_take {i : Nat} (h : PE X e (tVar i)) : DE cl X W e (mTake i) := PE.weak h fun σ H Q ⟨F, fx, ss, S, g⟩ => by
  unfold mTake at g
  cases q : ss[i]? with
  | none => rw [q] at g; exact g.elim
  | some s =>
    rw [q] at g
    have hi := (List.getElem?_eq_some_iff.mp q).1
    have hσ : σ[i]? = some (σ[i]'(by rw [← S.len]; exact hi)) := List.getElem?_eq_getElem _
    cases s with
    | no => exact g.elim
    | io u => exact g.elim
    | fz u =>
      obtain ⟨w, e, r⟩ := S.sl i _ _ q hσ
      rw [e] at hσ
      exact ⟨w, hσ, g F H Ext.refl S w r⟩
    | ow u =>
      obtain ⟨F', e, S', v, hv, r⟩ := S.freeze q
      exact ⟨v, hv, g F' H e S' v r⟩
/-- a new thing, frozen -/
theorem de_new {m : M U} (h : DO cl X W e m) : DE cl X W e m := PE.weak h fun σ H Q ⟨F, fx, ss, S, g⟩ => by
  refine ⟨F, fx, ss, S, ?_⟩
  cases q : m ss with
  | no => rw [q] at g; exact g
  | ex x ss' => rw [q] at g; exact g
  | ok u ss' =>
    rw [q] at g
    intro F' H' e S' a Sa
    obtain ⟨F2, e2, S2, r⟩ := Sa.frozen
    exact g F2 H' (e.trans e2) S2 _ r

/-! ### operators by values -/
/-- a two-place operation on values gives what g tells, frozen -/
def Op2 (cl : Nat → Addr) (X : Cx) (f : Value → Value → Sem Value) (g : U → U → Option U) : Prop := ∃ r : R2, OpR X f r ∧
  ∀ (F : Hp) (fx : Fx) (ss : List Sl) (σ : St) (H : Hp) (u w z : U) (x y : V) (Q : VK), SRel (enX X cl) F fx ss σ H → View (enX X cl) F fx H u x → View (enX X cl) F fx H w y → g u w = some z →
    (∀ F' H' v, Ext (enX X cl) F F' → SRel (enX X cl) F' fx ss σ H' → Rep (enX X cl) F' z v → Q v H') → r x y H Q
def mOp2 (g : U → U → Option U) (ma mb : M Hd) : M U := M.bind ma fun h => M.bind mb fun k => M.bind (look h) fun u => M.bind (look k) fun w => M.opt (g u w)
theorem op2_run {f : Value → Value → Sem Value} {g : U → U → Option U} {ma mb : M Hd} {r : R2}
    (ho : ∀ (F : Hp) (fx : Fx) (ss : List Sl) (σ : St) (H : Hp) (u w z : U) (x y : V) (Q : VK), SRel (enX X cl) F fx ss σ H → View (enX X cl) F fx H u x → View (enX X cl) F fx H w y → g u w = some z →
      (∀ F' H' v, Ext (enX X cl) F F' → SRel (enX X cl) F' fx ss σ H' → Rep (enX X cl) F' z v → Q v H') → r x y H Q)
    {σ : St} {H : Hp} {Q : VK} (q : lE (enX X cl) W (mOp2 g ma mb) σ H Q) : tOp r (lH (enX X cl) W ma) (lH (enX X cl) W mb) σ H Q := by
  obtain ⟨F, fx, ss, S, g0⟩ := q
  refine ⟨F, fx, ss, S, g0.bind.mono fun F1 ss1 h H1 e1 S1 g1 x rx => ?_⟩
  refine ⟨F1, fx, ss1, S1, g1.bind.mono fun F2 ss2 k H2 e2 S2 g2 y ry => ?_⟩
  obtain ⟨u, g3, vu⟩ := look_view S2 (rx.ext e2) (P := Good _ W F2 fx σ _) g2.bind (fun z => z)
  obtain ⟨w, g4, vw⟩ := look_view S2 ry (P := Good _ W F2 fx σ _) (g3 F2 H2 Ext.refl S2).bind (fun z => z)
  have g5 : Good (enX X cl) W F2 fx σ _ (M.opt (g u w) ss2) := g4 F2 H2 Ext.refl S2
  cases hg : g u w with
  | none => rw [hg] at g5; exact g5.elim
  | some z =>
    rw [hg] at g5
    exact ho F2 fx ss2 σ H2 u w z x y Q S2 vu vw hg fun F' H' v e S' rv => g5 F' H' e S' v rv
theorem de_bin {op : Operator} {g : U → U → Option U} {ma mb : M Hd} (ho : Op2 cl X (binaryOp op) g) (ha : DH cl X W a ma) (hb : DH cl X W b mb) : DE cl X W (.BinOp a op b pos) (mOp2 g ma mb) := by
  obtain ⟨r, h1, h2⟩ := ho
  exact PE.weak (pe_op h1 ha hb) fun σ H Q q => op2_run (f := binaryOp op) h2 q
theorem de_cmp {op : CmpOp} {g : U → U → Option U} {ma mb : M Hd} (ho : Op2 cl X (compareOp op) g) (ha : DH cl X W a ma) (hb : DH cl X W b mb) (hm : behindInMarks op b = false) : DE cl X W (.Compare a [op] [b] pos) (mOp2 g ma mb) := by
  obtain ⟨r, h1, h2⟩ := ho
  exact PE.weak (pe_cmpR h1 ha hb hm) fun σ H Q q => op2_run (f := compareOp op) h2 q
/-- a value that must be a truth value, as a test -/
def mTruth (m : M U) : M Bool := M.bind m fun u => match u with
  | .c (.bl b) => M.ret b
  | _ => M.fail
theorem lT_test {σ : St} {H : Hp} {Q : Bool → Hp → Prop} {N : En} {m : M U} (q : lT N W (mTruth m) σ H Q) : tTest (lE N W m) σ H Q := by
  obtain ⟨F, fx, ss, S, g⟩ := q
  refine ⟨F, fx, ss, S, g.bind.mono fun F' ss' u H' e S' g' v r => ?_⟩
  cases u with
  | nd t xs => exact g'.elim
  | c w =>
    cases w with
    | bl b => exact ⟨b, r, g' F' H' Ext.refl S'⟩
    | _ => exact g'.elim
theorem dt_cmp {op : CmpOp} {g : U → U → Option U} {ma mb : M Hd} (ho : Op2 cl X (compareOp op) g) (ha : DH cl X W a ma) (hb : DH cl X W b mb) (hm : behindInMarks op b = false) : DT cl X W (.Compare a [op] [b] pos) (mTruth (mOp2 g ma mb)) := by
  obtain ⟨r, h1, h2⟩ := ho
  refine PT.weak (pt_cmpR h1 ha hb hm) fun σ H Q q => ?_
  have q' := lT_test q
  exact op2_run (f := compareOp op) h2 q'
theorem dt_val {m : M U} (h : DE cl X W e m) (he : ∀ whole, isTrue e X.env whole = (do let v ← whole; standAt e.pos; holding [v] (truthy v)) := by intro _; rfl) : DT cl X W e (mTruth m) :=
  PT.weak (pt_val h he) fun σ H Q q => lT_test q
end
end Dl

set_option Elab.async false
set_option linter.all false
set_option maxRecDepth 100000
set_option maxHeartbeats 4000000
namespace Dl
open PySem L2
section
variable {cl : Nat → Addr} {X : Cx} {W : WX} {e a b c : Expr} {pos : Pos}
theorem Good.opt {α : Type} {N : En} {F : Hp} {fx : Fx} {σ : St} {Q : Hp → List Sl → α → Hp → Prop} {o : Option α} {ss : List Sl} (h : Good N W F fx σ Q (M.opt o ss)) : ∃ a, o = some a ∧ Good N W F fx σ Q (.ok a ss) := by
  cases o with
  | none => exact h.elim
  | some a => exact ⟨a, rfl, h⟩
/-! ### operators -/
/-- an operation on two scalars that leaves the heap -/
theorem Op2.sc {f : Value → Value → Sem Value} {r : R2} {g : V → V → Option V} (ho : OpR X f r) (h : ∀ x y z H Q, g x y = some z → Q z H → r x y H Q) :
    Op2 cl X f (fun u w => match u, w with | .c x, .c y => (g x y).map U.c | _, _ => none) := by
  refine ⟨r, ho, fun F fx ss σ H u w z x y Q S vu vw hg k => ?_⟩
  cases u with
  | nd _ _ => cases hg
  | c x' =>
    cases w with
    | nd _ _ => cases hg
    | c y' =>
      have ex := vu.sc
      have ey := vw.sc
      subst ex ey
      cases q : g x y with
      | none => simp [q] at hg
      | some z' =>
        simp [q] at hg
        subst hg
        exact h x y z' H Q q (k F H z' Ext.refl S rfl)
def sc2 (g : V → V → Option V) : U → U → Option U := fun u w => match u, w with | .c x, .c y => (g x y).map U.c | _, _ => none
def gInt (g : Int → Int → Option V) : V → V → Option V := fun x y => match x, y with | .int i, .int j => g i j | _, _ => none
theorem gInt_inv {g : Int → Int → Option V} {x y z : V} (h : gInt g x y = some z) : ∃ i j, x = .int i ∧ y = .int j ∧ g i j = some z := by
  cases x <;> cases y <;> first | exact ⟨_, _, rfl, rfl, h⟩ | cases h
def gStr (g : Str → Str → Option V) : V → V → Option V := fun x y => match x, y with | .str i, .str j => g i j | _, _ => none
theorem gStr_inv {g : Str → Str → Option V} {x y z : V} (h : gStr g x y = some z) : ∃ i j, x = .str i ∧ y = .str j ∧ g i j = some z := by
  cases x <;> cases y <;> first | exact ⟨_, _, rfl, rfl, h⟩ | cases h
theorem o2_int0 {f : Value → Value → Sem Value} {g : Int → Int → V} (ho : OpR X f (rI0 g)) : Op2 cl X f (sc2 (gInt fun i j => some (g i j))) :=
  Op2.sc ho fun x y z H Q h q => by
    obtain ⟨i, j, rfl, rfl, h'⟩ := gInt_inv h
    cases h'
    exact ⟨i, j, rfl, rfl, q⟩
theorem o2_int {f : Value → Value → Sem Value} {g : Int → Int → V} {C : Int → Int → Prop} {c : Int → Int → Bool} (ho : OpR X f (rI C g)) (hc : ∀ i j, c i j = true → C i j) : Op2 cl X f (sc2 (gInt fun i j => if c i j = true then some (g i j) else none)) :=
  Op2.sc ho fun x y z H Q h q => by
    obtain ⟨i, j, rfl, rfl, h'⟩ := gInt_inv h
    by_cases z : c i j = true
    · rw [if_pos z] at h'; cases h'
      exact ⟨i, j, rfl, rfl, hc i j z, q⟩
    · rw [if_neg z] at h'; cases h'
theorem o_add : Op2 cl X (binaryOp .Add) (sc2 (gInt fun i j => some (.int (i + j)))) := o2_int0 op_add
theorem o_sub : Op2 cl X (binaryOp .Sub) (sc2 (gInt fun i j => some (.int (i - j)))) := o2_int0 op_sub
def cMulW (i j : Int) : Bool := decide (i.natAbs.log2 + j.natAbs.log2 < 1000000)
theorem o_mul : Op2 cl X (binaryOp .Mult) (sc2 (gInt fun i j => if cMulW i j = true then some (.int (i * j)) else none)) := o2_int op_mulW fun i j h => by
  unfold cMulW at h
  have h' : i.natAbs.log2 + j.natAbs.log2 < 1000000 := of_decide_eq_true h
  exact h'
def cDivW (_ j : Int) : Bool := decide (0 < j) && decide (j.natAbs.log2 < 9000)
theorem o_fdiv : Op2 cl X (binaryOp .FloorDiv) (sc2 (gInt fun i j => if cDivW i j = true then some (.int (i / j)) else none)) := o2_int op_fdivW fun i j h => by
  unfold cDivW at h
  rw [Bool.and_eq_true] at h
  exact ⟨of_decide_eq_true h.1, of_decide_eq_true h.2⟩
theorem o_mod : Op2 cl X (binaryOp .Mod) (sc2 (gInt fun i j => if decide (0 < j) = true then some (.int (i % j)) else none)) := o2_int (c := fun _ j => decide (0 < j)) op_mod fun i j h => of_decide_eq_true h
def cPow (i j : Int) : Bool := decide (0 ≤ j) && decide (((Builtin.Int.intBits i : Nat) : Int) * j ≤ 2 ^ 27)
theorem op_powW : OpR X (binaryOp .Pow) (rI (fun i j => 0 ≤ j ∧ ((Builtin.Int.intBits i : Nat) : Int) * j ≤ 2 ^ 27) fun i j => .int (i ^ j.toNat)) := opI fun _ _ _ _ _ _ _ hc q => PyProof.Rows.pow_int hc.1 hc.2 q
theorem o_pow : Op2 cl X (binaryOp .Pow) (sc2 (gInt fun i j => if cPow i j = true then some (.int (i ^ j.toNat)) else none)) := o2_int op_powW fun i j h => by
  unfold cPow at h
  rw [Bool.and_eq_true] at h
  exact ⟨of_decide_eq_true h.1, of_decide_eq_true h.2⟩
theorem o_lt : Op2 cl X (compareOp .Lt) (sc2 (gInt fun i j => some (.bl (decide (i < j))))) := o2_int0 op_lt
theorem o_le : Op2 cl X (compareOp .LtE) (sc2 (gInt fun i j => some (.bl (decide (i ≤ j))))) := o2_int0 op_le
theorem o_gt : Op2 cl X (compareOp .Gt) (sc2 (gInt fun i j => some (.bl (decide (j < i))))) := o2_int0 op_gt
theorem o_ge : Op2 cl X (compareOp .GtE) (sc2 (gInt fun i j => some (.bl (decide (j ≤ i))))) := o2_int0 op_ge
/-- == of scalars that may be compared -/
theorem o_eq : Op2 cl X (compareOp .Eq) (sc2 fun x y => if scal x y = true then some (.bl (decide (x = y))) else none) := Op2.sc op_eq fun x y z H Q h q => by
  by_cases s : scal x y = true
  · rw [if_pos s] at h; cases h; exact ⟨s, q⟩
  · rw [if_neg s] at h; cases h
theorem o_ne : Op2 cl X (compareOp .NotEq) (sc2 fun x y => if scal x y = true then some (.bl (!decide (x = y))) else none) := Op2.sc op_ne fun x y z H Q h q => by
  by_cases s : scal x y = true
  · rw [if_pos s] at h; cases h; exact ⟨s, q⟩
  · rw [if_neg s] at h; cases h
theorem o_adds : Op2 cl X (binaryOp .Add) (sc2 (gStr fun i j => if decide (i.length + j.length ≤ sizeLine) = true then some (.str (i ++ j)) else none)) := Op2.sc op_add_str fun x y z H Q h q => by
  obtain ⟨i, j, rfl, rfl, h'⟩ := gStr_inv h
  by_cases s : decide (i.length + j.length ≤ sizeLine) = true
  · rw [if_pos s] at h'; cases h'; exact ⟨i, j, rfl, rfl, of_decide_eq_true s, q⟩
  · rw [if_neg s] at h'; cases h'
/-- one rule or another -/
def orElse2 (g g' : U → U → Option U) : U → U → Option U := fun u w => match g u w with
  | some z => some z
  | none => g' u w
theorem Op2.or {f : Value → Value → Sem Value} {g g' : U → U → Option U} (h : Op2 cl X f g) (h' : Op2 cl X f g') : Op2 cl X f (orElse2 g g') := by
  obtain ⟨r, h1, h2⟩ := h
  obtain ⟨r', h1', h2'⟩ := h'
  refine ⟨_, OpR.or h1 h1', fun F fx ss σ H u w z x y Q S vu vw hg k => ?_⟩
  unfold orElse2 at hg
  cases q : g u w with
  | some z' => rw [q] at hg; cases hg; exact .inl (h2 F fx ss σ H u w z x y Q S vu vw q k)
  | none => rw [q] at hg; exact .inr (h2' F fx ss σ H u w z x y Q S vu vw hg k)
/-- x in t, texts -/
def inStr (i j : Str) : Bool := !(Builtin.Str.occurrences j i 0 j.length 1).isEmpty
theorem o_instr : Op2 cl X (compareOp .In) (sc2 (gStr fun i j => some (.bl (inStr i j)))) := Op2.sc op_in_str fun x y z H Q h q => by
  obtain ⟨i, j, rfl, rfl, h'⟩ := gStr_inv h
  cases h'
  exact ⟨i, j, rfl, rfl, q⟩
theorem o_notinstr : Op2 cl X (compareOp .NotIn) (sc2 (gStr fun i j => some (.bl (!inStr i j)))) := Op2.sc op_notin_str fun x y z H Q h q => by
  obtain ⟨i, j, rfl, rfl, h'⟩ := gStr_inv h
  cases h'
  exact ⟨i, j, rfl, rfl, q⟩
/-- is None -/
theorem o_isN : Op2 cl X (compareOp .Is) (fun u w => match w with | .c .non => some (.c (.bl (match u with | .c .non => true | _ => false))) | _ => none) := by
  refine ⟨_, op_isN, fun F fx ss σ H u w z x y Q S vu vw hg k => ?_⟩
  cases w with
  | nd _ _ => cases hg
  | c y' =>
    cases y' with
    | non =>
      cases hg
      refine ⟨vw.sc, ?_⟩
      refine k F H _ Ext.refl S ?_
      cases u with
      | c v =>
        have := vu.sc
        subst this
        cases x <;> simp [Rep]
      | nd t xs =>
        have : ∃ p, x = .ref p := by
          rcases vu with ⟨p, _, h, _⟩ | ⟨p, h, _⟩
          · exact ⟨p, h⟩
          · exact ⟨p, h⟩
        obtain ⟨p, rfl⟩ := this
        simp [Rep]
    | _ => cases hg
theorem o_notN : Op2 cl X (compareOp .IsNot) (fun u w => match w with | .c .non => some (.c (.bl (match u with | .c .non => false | _ => true))) | _ => none) := by
  refine ⟨_, op_notN, fun F fx ss σ H u w z x y Q S vu vw hg k => ?_⟩
  cases w with
  | nd _ _ => cases hg
  | c y' =>
    cases y' with
    | non =>
      cases hg
      refine ⟨vw.sc, ?_⟩
      refine k F H _ Ext.refl S ?_
      cases u with
      | c v =>
        have := vu.sc
        subst this
        cases x <;> simp [Rep]
      | nd t xs =>
        have : ∃ p, x = .ref p := by
          rcases vu with ⟨p, _, h, _⟩ | ⟨p, h, _⟩
          · exact ⟨p, h⟩
          · exact ⟨p, h⟩
        obtain ⟨p, rfl⟩ := this
        simp [Rep]
    | _ => cases hg
/-! ### and, or, not, if -/
theorem dt_w {m : M Bool} (h : DW cl X W e m) : DT cl X W e m := PW.pt h
def mAnd (ma mb : M Bool) : M Bool := M.bind ma fun b => if b = true then mb else M.ret false
def mOr (ma mb : M Bool) : M Bool := M.bind ma fun b => if b = true then M.ret true else mb
def mNot (ma : M Bool) : M Bool := M.bind ma fun b => M.ret (!b)
variable {rest : List Expr} {ma mb : M Bool}
theorem dw_and1 (ha : DT cl X W a ma) : DW cl X W (.BoolOp .And [a] pos) ma := pw_and1 ha
theorem dw_or1 (ha : DT cl X W a ma) : DW cl X W (.BoolOp .Or [a] pos) ma := pw_or1 ha
theorem dw_and (ha : DT cl X W a ma) (hb : DW cl X W (.BoolOp .And (b :: rest) pos) mb) : DW cl X W (.BoolOp .And (a :: b :: rest) pos) (mAnd ma mb) := PW.weak (pw_and ha hb) fun σ H Q ⟨F, fx, ss, S, g⟩ => by
  refine ⟨F, fx, ss, S, g.bind.mono fun F1 ss1 c H1 e1 S1 g1 => ?_⟩
  cases c with
  | true => exact ⟨F1, fx, ss1, S1, g1⟩
  | false => exact g1 F1 H1 Ext.refl S1
theorem dw_or (ha : DT cl X W a ma) (hb : DW cl X W (.BoolOp .Or (b :: rest) pos) mb) : DW cl X W (.BoolOp .Or (a :: b :: rest) pos) (mOr ma mb) := PW.weak (pw_or ha hb) fun σ H Q ⟨F, fx, ss, S, g⟩ => by
  refine ⟨F, fx, ss, S, g.bind.mono fun F1 ss1 c H1 e1 S1 g1 => ?_⟩
  cases c with
  | true => exact g1 F1 H1 Ext.refl S1
  | false => exact ⟨F1, fx, ss1, S1, g1⟩
theorem dt_not (ha : DT cl X W a ma) : DT cl X W (.UnaryOp .Not a pos) (mNot ma) := PT.weak (pt_not ha) fun σ H Q ⟨F, fx, ss, S, g⟩ => by
  exact ⟨F, fx, ss, S, g.bind.mono fun F1 ss1 c H1 e1 S1 g1 => g1 F1 H1 Ext.refl S1⟩
/-- .. as values, of truth values -/
def mAndV (ma mb : M U) : M U := M.bind ma fun u => match u with
  | .c (.bl true) => mb
  | .c (.bl false) => M.ret (.c (.bl false))
  | _ => M.fail
def mOrV (ma mb : M U) : M U := M.bind ma fun u => match u with
  | .c (.bl false) => mb
  | .c (.bl true) => M.ret (.c (.bl true))
  | _ => M.fail
def mNotV (ma : M U) : M U := M.bind ma fun u => match u with
  | .c (.bl b) => M.ret (.c (.bl (!b)))
  | _ => M.fail
variable {ua ub : M U}
theorem de_one {op} (h : DE cl X W a ua) : DE cl X W (.BoolOp op [a] pos) ua := pe_one h
theorem de_and (ha : DE cl X W a ua) (hb : DE cl X W (.BoolOp .And (b :: rest) pos) ub) : DE cl X W (.BoolOp .And (a :: b :: rest) pos) (mAndV ua ub) := PE.weak (pe_and ha hb) fun σ H Q ⟨F, fx, ss, S, g⟩ => by
  refine ⟨F, fx, ss, S, g.bind.mono fun F1 ss1 u H1 e1 S1 g1 v r => ?_⟩
  cases u with
  | nd _ _ => exact g1.elim
  | c w =>
    cases w with
    | bl k =>
      cases r
      cases k with
      | true => exact ⟨true, rfl, F1, fx, ss1, S1, g1⟩
      | false => exact ⟨false, rfl, g1 F1 H1 Ext.refl S1 _ rfl⟩
    | _ => exact g1.elim
theorem de_or (ha : DE cl X W a ua) (hb : DE cl X W (.BoolOp .Or (b :: rest) pos) ub) : DE cl X W (.BoolOp .Or (a :: b :: rest) pos) (mOrV ua ub) := PE.weak (pe_or ha hb) fun σ H Q ⟨F, fx, ss, S, g⟩ => by
  refine ⟨F, fx, ss, S, g.bind.mono fun F1 ss1 u H1 e1 S1 g1 v r => ?_⟩
  cases u with
  | nd _ _ => exact g1.elim
  | c w =>
    cases w with
    | bl k =>
      cases r
      cases k with
      | false => exact ⟨false, rfl, F1, fx, ss1, S1, g1⟩
      | true => exact ⟨true, rfl, g1 F1 H1 Ext.refl S1 _ rfl⟩
    | _ => exact g1.elim
theorem de_not (ha : DE cl X W a ua) : DE cl X W (.UnaryOp .Not a pos) (mNotV ua) := PE.weak (pe_not ha) fun σ H Q ⟨F, fx, ss, S, g⟩ => by
  refine ⟨F, fx, ss, S, g.bind.mono fun F1 ss1 u H1 e1 S1 g1 v r => ?_⟩
  cases u with
  | nd _ _ => exact g1.elim
  | c w =>
    cases w with
    | bl k => cases r; exact ⟨k, rfl, g1 F1 H1 Ext.refl S1 _ rfl⟩
    | _ => exact g1.elim
def mIf {α : Type} (mc : M Bool) (m1 m2 : M α) : M α := M.bind mc fun b => if b = true then m1 else m2
theorem de_if {mc : M Bool} (hc : DT cl X W c mc) (ha : DE cl X W a ua) (hb : DE cl X W b ub) : DE cl X W (.IfExp c a b pos) (mIf mc ua ub) := PE.weak (pe_ifExp hc ha hb) fun σ H Q ⟨F, fx, ss, S, g⟩ => by
  refine ⟨F, fx, ss, S, g.bind.mono fun F1 ss1 k H1 e1 S1 g1 => ?_⟩
  cases k with
  | true => exact ⟨F1, fx, ss1, S1, g1⟩
  | false => exact ⟨F1, fx, ss1, S1, g1⟩
/-- -n -/
theorem de_un {op : UnaryOp} {g : Int → V} {ma : M Hd} (ho : UnR X (unaryOp op) (rU g)) (ha : DH cl X W a ma) : DE cl X W (.UnaryOp op a pos) (M.bind ma fun h => M.bind (look h) fun u => match u with | .c (.int i) => M.ret (.c (g i)) | _ => M.fail) :=
  PE.weak (pe_un ho ha) fun σ H Q ⟨F, fx, ss, S, g0⟩ => by
    refine ⟨F, fx, ss, S, g0.bind.mono fun F1 ss1 h H1 e1 S1 g1 v r => ?_⟩
    obtain ⟨u, g2, vu⟩ := look_view S1 r (P := Good _ W F1 fx σ _) g1.bind (fun z => z)
    have g3 := g2 F1 H1 Ext.refl S1
    cases u with
    | nd _ _ => exact g3.elim
    | c w =>
      cases w with
      | int i =>
        have := vu.sc
        subst this
        exact ⟨i, rfl, g3 F1 H1 Ext.refl S1 _ rfl⟩
      | _ => exact g3.elim
/-! ### arguments, displays -/
theorem da_nil : DA cl X W [] (M.ret []) := PA.weak pa_nil fun σ H Q ⟨F, fx, ss, S, g⟩ => g F H Ext.refl S [] rfl
def mCons (ma : M Hd) (mr : M (List Hd)) : M (List Hd) := M.bind ma fun h => M.bind mr fun r => M.ret (h :: r)
theorem da_cons {es : List Expr} {ma : M Hd} {mr : M (List Hd)} (ha : DH cl X W e ma) (hr : DA cl X W es mr) (hs : starEach (e :: es) X.env = (false, eval e X.env) :: starEach es X.env := by rfl) : DA cl X W (e :: es) (mCons ma mr) :=
  PA.weak (pa_cons ha hr hs) fun σ H Q ⟨F, fx, ss, S, g⟩ => by
    refine ⟨F, fx, ss, S, g.bind.mono fun F1 ss1 h H1 e1 S1 g1 v r => ?_⟩
    refine ⟨F1, fx, ss1, S1, g1.bind.mono fun F2 ss2 hs H2 e2 S2 g2 vs rs => ?_⟩
    exact g2 F2 H2 Ext.refl S2 _ ⟨v, vs, rfl, r.ext e2, rs⟩
/-- all handles are values -/
def vals : List Hd → Option (List U)
  | [] => some []
  | .val u :: r => (vals r).map (u :: ·)
  | .slot _ :: _ => none
theorem vals_reps {N : En} {F : Hp} {σ : St} : ∀ {hs : List Hd} {us : List U} {vs : List V}, vals hs = some us → HRels N F σ hs vs → Reps N F us vs
  | [], us, vs, h, r => by cases h; exact r
  | .slot _ :: _, _, _, h, _ => by cases h
  | .val u :: hs, us, vs, h, ⟨v, r, h1, h2, h3⟩ => by
    unfold vals at h
    cases q : vals hs with
    | none => rw [q] at h; cases h
    | some us' =>
      rw [q] at h
      cases h
      exact ⟨v, r, h1, h2, vals_reps q h3⟩
theorem disp_inv {t : Tag} {hs : List Hd} {z : U} (h : ((vals hs).bind fun us => if decide (us.length ≤ sizeLine) = true then some (U.nd t us) else none) = some z) : ∃ us, vals hs = some us ∧ us.length ≤ sizeLine ∧ z = .nd t us := by
  cases q : vals hs with
  | none => rw [q] at h; cases h
  | some us =>
    rw [q] at h
    simp only [Option.bind_some] at h
    by_cases l : decide (us.length ≤ sizeLine) = true
    · rw [if_pos l] at h; cases h; exact ⟨us, rfl, of_decide_eq_true l, rfl⟩
    · rw [if_neg l] at h; cases h
def mTup (m : M (List Hd)) : M U := M.bind m fun hs => M.opt ((vals hs).bind fun us => if decide (us.length ≤ sizeLine) = true then some (.nd .tup us) else none)
theorem de_tup {es : List Expr} {x1} {m : M (List Hd)} (h : DA cl X W es m) : DE cl X W (.Tuple es x1 pos) (mTup m) := PE.weak (pe_tup h) fun σ H Q ⟨F, fx, ss, S, g⟩ => by
  refine ⟨F, fx, ss, S, g.bind.mono fun F1 ss1 hs H1 e1 S1 g1 vs rs => ?_⟩
  obtain ⟨z, hz, g2⟩ := g1.opt
  obtain ⟨us, hu, hl, rfl⟩ := disp_inv hz
  have r := vals_reps hu rs
  refine ⟨by rw [← r.length]; exact hl, fun p hp => ?_⟩
  have S2 := S1.laid (p := p) (o := .tup vs) hp
  have e2 : Ext (enX X cl) F1 (upd F1 p (.tup vs)) := Ext.of (same_new (S1.fh.free hp))
  exact g2 _ _ e2 S2 _ ⟨p, vs, rfl, .inl (.inl upd_same), e2.reps r⟩
def mLst (m : M (List Hd)) : M U := M.bind m fun hs => M.opt ((vals hs).bind fun us => if decide (us.length ≤ sizeLine) = true then some (.nd .lst us) else none)
theorem do_lst {es : List Expr} {m : M (List Hd)} (h : DA cl X W es m) : DO cl X W (.List es pos) (mLst m) := PE.weak (pe_lst h) fun σ H Q ⟨F, fx, ss, S, g⟩ => by
  refine ⟨F, fx, ss, S, g.bind.mono fun F1 ss1 hs H1 e1 S1 g1 vs rs => ?_⟩
  obtain ⟨z, hz, g2⟩ := g1.opt
  obtain ⟨us, hu, hl, rfl⟩ := disp_inv hz
  have r := vals_reps hu rs
  refine ⟨by rw [← r.length]; exact hl, fun p hp => ?_⟩
  have So := S1.own (p := p) (t := .lst) (xs := us) (vs := vs) (o := .lst vs) hp upd_same r
  exact g2 _ _ Ext.refl So.less p So
end
end Dl

set_option Elab.async false
set_option linter.all false
set_option maxRecDepth 100000
set_option maxHeartbeats 4000000
namespace Dl
open PySem L2
def Views (N : En) (F : Hp) (fx : Fx) (H : Hp) : List U → List V → Prop
  | [], vs => vs = []
  | u :: us, vs => ∃ v r, vs = v :: r ∧ View N F fx H u v ∧ Views N F fx H us r
def lookAll : List Hd → M (List U)
  | [] => M.ret []
  | h :: r => M.bind (look h) fun u => M.bind (lookAll r) fun us => M.ret (u :: us)
section
variable {N : En} {F : Hp} {fx : Fx} {ss : List Sl} {σ : St} {H : Hp} {W : WX}
theorem Good.lk {h : Hd} {v : V} {α : Type} {f : U → M α} {Q : Hp → List Sl → α → Hp → Prop} (S : SRel N F fx ss σ H) (r : HRel N F σ h v) (g : Good N W F fx σ Q (M.bind (look h) f ss)) : ∃ u, View N F fx H u v ∧ Good N W F fx σ Q (f u ss) := by
  obtain ⟨u, g3, vu⟩ := look_view S r (P := Good N W F fx σ _) g.bind (fun z => z)
  exact ⟨u, vu, g3 F H Ext.refl S⟩
theorem Good.lkAll {α : Type} {Q : Hp → List Sl → α → Hp → Prop} (S : SRel N F fx ss σ H) : ∀ {hs : List Hd} {vs : List V} {f : List U → M α}, HRels N F σ hs vs → Good N W F fx σ Q (M.bind (lookAll hs) f ss) →
    ∃ us, Views N F fx H us vs ∧ Good N W F fx σ Q (f us ss)
  | [], vs, f, r, g => ⟨[], r, g⟩
  | h :: hs, vs, f, ⟨v, r, h1, h2, h3⟩, g => by
    have e : M.bind (lookAll (h :: hs)) f = M.bind (look h) fun u => M.bind (lookAll hs) fun us => f (u :: us) := by
      funext s
      show M.bind (M.bind (look h) fun u => M.bind (lookAll hs) fun us => M.ret (u :: us)) f s = _
      unfold M.bind
      cases look h s with
      | no => rfl
      | ex x s' => rfl
      | ok a s' =>
        simp only
        cases lookAll hs s' with
        | no => rfl
        | ex x s'' => rfl
        | ok b s'' => rfl
    rw [e] at g
    obtain ⟨u, vu, g2⟩ := Good.lk S h2 g
    obtain ⟨us, vus, g3⟩ := Good.lkAll S h3 g2
    exact ⟨u :: us, ⟨v, r, h1, vu, vus⟩, g3⟩
end
section
variable {cl : Nat → Addr} {X : Cx} {W : WX} {e a b c : Expr} {pos : Pos}
/-! ### calls of built-in things -/
/-- a call by values: what comes is frozen -/
def Cb (cl : Nat → Addr) (X : Cx) (f : Value) (g : List U → Option U) : Prop := ∃ r, CallR X f r ∧
  ∀ (F : Hp) (fx : Fx) (ss : List Sl) (σ : St) (H : Hp) (us : List U) (z : U) (xs : List V) (Q : VK), SRel (enX X cl) F fx ss σ H → Views (enX X cl) F fx H us xs → g us = some z →
    (∀ F' H' v, Ext (enX X cl) F F' → SRel (enX X cl) F' fx ss σ H' → Rep (enX X cl) F' z v → Q v H') → r xs H Q
/-- .. what comes is new -/
def CbO (cl : Nat → Addr) (X : Cx) (f : Value) (g : List U → Option U) : Prop := ∃ r, CallR X f r ∧
  ∀ (F : Hp) (fx : Fx) (ss : List Sl) (σ : St) (H : Hp) (us : List U) (z : U) (xs : List V) (Q : VK), SRel (enX X cl) F fx ss σ H → Views (enX X cl) F fx H us xs → g us = some z →
    (∀ F' H' a, Ext (enX X cl) F F' → SRel (enX X cl) F' fx (ss ++ [.ow z]) (σ ++ [some (.ref a)]) H' → Q (.ref a) H') → r xs H Q
theorem CbO.cb {f : Value} {g : List U → Option U} (h : CbO cl X f g) : Cb cl X f g := by
  obtain ⟨r, h1, h2⟩ := h
  refine ⟨r, h1, fun F fx ss σ H us z xs Q S vs hg k => h2 F fx ss σ H us z xs Q S vs hg fun F' H' a e S' => ?_⟩
  obtain ⟨F2, e2, S2, r2⟩ := S'.frozen
  exact k F2 H' _ (e.trans e2) S2 r2
def orElse1 (g g' : List U → Option U) : List U → Option U := fun us => match g us with
  | some z => some z
  | none => g' us
theorem Cb.or {f : Value} {g g' : List U → Option U} (h : Cb cl X f g) (h' : Cb cl X f g') : Cb cl X f (orElse1 g g') := by
  obtain ⟨r, h1, h2⟩ := h
  obtain ⟨r', h1', h2'⟩ := h'
  refine ⟨_, CallR.or h1 h1', fun F fx ss σ H us z xs Q S vs hg k => ?_⟩
  unfold orElse1 at hg
  cases q : g us with
  | some z' => rw [q] at hg; cases hg; exact .inl (h2 F fx ss σ H us z xs Q S vs q k)
  | none => rw [q] at hg; exact .inr (h2' F fx ss σ H us z xs Q S vs hg k)
theorem CbO.or {f : Value} {g g' : List U → Option U} (h : CbO cl X f g) (h' : CbO cl X f g') : CbO cl X f (orElse1 g g') := by
  obtain ⟨r, h1, h2⟩ := h
  obtain ⟨r', h1', h2'⟩ := h'
  refine ⟨_, CallR.or h1 h1', fun F fx ss σ H us z xs Q S vs hg k => ?_⟩
  unfold orElse1 at hg
  cases q : g us with
  | some z' => rw [q] at hg; cases hg; exact .inl (h2 F fx ss σ H us z xs Q S vs q k)
  | none => rw [q] at hg; exact .inr (h2' F fx ss σ H us z xs Q S vs hg k)
def mCb (g : List U → Option U) (m : M (List Hd)) : M U := M.bind m fun hs => M.bind (lookAll hs) fun us => M.opt (g us)
theorem cb_run {r : List V → Hp → VK → Prop} {g : List U → Option U} {m : M (List Hd)}
    (ho : ∀ (F : Hp) (fx : Fx) (ss : List Sl) (σ : St) (H : Hp) (us : List U) (z : U) (xs : List V) (Q : VK), SRel (enX X cl) F fx ss σ H → Views (enX X cl) F fx H us xs → g us = some z →
      (∀ F' H' v, Ext (enX X cl) F F' → SRel (enX X cl) F' fx ss σ H' → Rep (enX X cl) F' z v → Q v H') → r xs H Q)
    {σ : St} {H : Hp} {Q : VK} (q : lE (enX X cl) W (mCb g m) σ H Q) : tCB r (lA (enX X cl) W m) σ H Q := by
  obtain ⟨F, fx, ss, S, g0⟩ := q
  refine ⟨F, fx, ss, S, g0.bind.mono fun F1 ss1 hs H1 e1 S1 g1 vs rs => ?_⟩
  obtain ⟨us, vus, g2⟩ := Good.lkAll S1 rs g1
  obtain ⟨z, hz, g3⟩ := g2.opt
  exact ho F1 fx ss1 σ H1 us z vs Q S1 vus hz fun F' H' v e S' rv => g3 F' H' e S' v rv
theorem cbO_run {r : List V → Hp → VK → Prop} {g : List U → Option U} {m : M (List Hd)}
    (ho : ∀ (F : Hp) (fx : Fx) (ss : List Sl) (σ : St) (H : Hp) (us : List U) (z : U) (xs : List V) (Q : VK), SRel (enX X cl) F fx ss σ H → Views (enX X cl) F fx H us xs → g us = some z →
      (∀ F' H' a, Ext (enX X cl) F F' → SRel (enX X cl) F' fx (ss ++ [.ow z]) (σ ++ [some (.ref a)]) H' → Q (.ref a) H') → r xs H Q)
    {σ : St} {H : Hp} {Q : VK} (q : lO (enX X cl) W (mCb g m) σ H Q) : tCB r (lA (enX X cl) W m) σ H Q := by
  obtain ⟨F, fx, ss, S, g0⟩ := q
  refine ⟨F, fx, ss, S, g0.bind.mono fun F1 ss1 hs H1 e1 S1 g1 vs rs => ?_⟩
  obtain ⟨us, vus, g2⟩ := Good.lkAll S1 rs g1
  obtain ⟨z, hz, g3⟩ := g2.opt
  exact ho F1 fx ss1 σ H1 us z vs Q S1 vus hz fun F' H' a e S' => g3 F' H' e S'.less a S'
variable {x : Str} {p : Pos} {es : List Expr} {m : M (List Hd)} {g : List U → Option U}
theorem de_callB {id : String} (hc : Cb cl X (.builtin id) g) (hg : Gl X x) (hm : X.mg x = none) (hv : bootBuiltins x = some (.builtin id)) (ha : DA cl X W (e :: es) m) (hn : x ≠ "__name__" := by decide) (hdb : (x == ("__debug__" : Str)) = false := by decide)
    (he : starEach (e :: es) X.env = (false, eval e X.env) :: starEach es X.env := by rfl) (hpl : (backTo pos (starEach es X.env)).any (·.1) = false := by rfl) : DE cl X W (.Call (.Name x p) (e :: es) [] pos) (mCb g m) := by
  obtain ⟨r, h1, h2⟩ := hc
  exact PE.weak (pe_callB h1 hg hm hv ha hn hdb he hpl) fun σ H Q q => cb_run h2 q
theorem de_callTy {T : String} (hc : Cb cl X (.type T) g) (hg : Gl X x) (hm : X.mg x = none) (hv : bootBuiltins x = some (.type T)) (ha : DA cl X W (e :: es) m) (hn : x ≠ "__name__" := by decide) (hdb : (x == ("__debug__" : Str)) = false := by decide)
    (he : starEach (e :: es) X.env = (false, eval e X.env) :: starEach es X.env := by rfl) (hpl : (backTo pos (starEach es X.env)).any (·.1) = false := by rfl) : DE cl X W (.Call (.Name x p) (e :: es) [] pos) (mCb g m) := by
  obtain ⟨r, h1, h2⟩ := hc
  exact PE.weak (pe_callTy h1 hg hm hv ha hn hdb he hpl) fun σ H Q q => cb_run h2 q
theorem do_callB {id : String} (hc : CbO cl X (.builtin id) g) (hg : Gl X x) (hm : X.mg x = none) (hv : bootBuiltins x = some (.builtin id)) (ha : DA cl X W (e :: es) m) (hn : x ≠ "__name__" := by decide) (hdb : (x == ("__debug__" : Str)) = false := by decide)
    (he : starEach (e :: es) X.env = (false, eval e X.env) :: starEach es X.env := by rfl) (hpl : (backTo pos (starEach es X.env)).any (·.1) = false := by rfl) : DO cl X W (.Call (.Name x p) (e :: es) [] pos) (mCb g m) := by
  obtain ⟨r, h1, h2⟩ := hc
  exact PE.weak (pe_callB h1 hg hm hv ha hn hdb he hpl) fun σ H Q q => cbO_run h2 q
theorem do_callTy {T : String} (hc : CbO cl X (.type T) g) (hg : Gl X x) (hm : X.mg x = none) (hv : bootBuiltins x = some (.type T)) (ha : DA cl X W (e :: es) m) (hn : x ≠ "__name__" := by decide) (hdb : (x == ("__debug__" : Str)) = false := by decide)
    (he : starEach (e :: es) X.env = (false, eval e X.env) :: starEach es X.env := by rfl) (hpl : (backTo pos (starEach es X.env)).any (·.1) = false := by rfl) : DO cl X W (.Call (.Name x p) (e :: es) [] pos) (mCb g m) := by
  obtain ⟨r, h1, h2⟩ := hc
  exact PE.weak (pe_callTy h1 hg hm hv ha hn hdb he hpl) fun σ H Q q => cbO_run h2 q

/-! ### what is called -/
theorem views1 {N : En} {F : Hp} {fx : Fx} {H : Hp} {u : U} {xs : List V} (h : Views N F fx H [u] xs) : ∃ x, xs = [x] ∧ View N F fx H u x := by
  obtain ⟨v, r, h1, h2, h3⟩ := h
  cases h3
  exact ⟨v, h1, h2⟩
theorem views2 {N : En} {F : Hp} {fx : Fx} {H : Hp} {u w : U} {xs : List V} (h : Views N F fx H [u, w] xs) : ∃ x y, xs = [x, y] ∧ View N F fx H u x ∧ View N F fx H w y := by
  obtain ⟨v, r, h1, h2, v2, r2, h3, h4, h5⟩ := h
  cases h5
  subst h3
  exact ⟨v, v2, h1, h2, h4⟩
def gLen : List U → Option U := fun us => match us with
  | [.nd .lst xs] => some (.c (.int xs.length))
  | [.nd .tup xs] => some (.c (.int xs.length))
  | [.nd .sq xs] => some (.c (.int xs.length))
  | [.c (.str z)] => if decide (z.length ≤ sizeLine) = true then some (.c (.int z.length)) else none
  | _ => none
theorem cb_len : Cb cl X (.builtin "len") gLen := by
  refine ⟨_, call_len, fun F fx ss σ H us z xs Q S vs hg k => ?_⟩
  unfold gLen at hg
  split at hg
  · rename_i ys
    obtain ⟨x, rfl, v⟩ := views1 vs
    obtain ⟨p, ws, rfl, hq, r⟩ := v.lst S
    cases hg
    exact ⟨_, ws.length, rfl, .inl ⟨ws, SqL.of hq, rfl⟩, k F H _ Ext.refl S (by rw [← r.length]; rfl)⟩
  · rename_i ys
    obtain ⟨x, rfl, v⟩ := views1 vs
    obtain ⟨p, ws, rfl, hq, r⟩ := v.tup S
    cases hg
    exact ⟨_, ws.length, rfl, .inr ⟨ws, hq, rfl⟩, k F H _ Ext.refl S (by rw [← r.length]; rfl)⟩
  · rename_i ys
    obtain ⟨x, rfl, v⟩ := views1 vs
    obtain ⟨p, ws, rfl, hq, r⟩ := v.sq S
    cases hg
    exact ⟨_, ws.length, rfl, .inl ⟨ws, hq, rfl⟩, k F H _ Ext.refl S (by rw [← r.length]; rfl)⟩
  · rename_i y
    obtain ⟨x, rfl, v⟩ := views1 vs
    have := v.sc
    subst this
    split at hg
    · rename_i hz
      cases hg
      exact ⟨_, y.length, rfl, ⟨of_decide_eq_true hz, rfl⟩, k F H _ Ext.refl S rfl⟩
    · cases hg
  · cases hg
def gInt1 : List U → Option U := fun us => match us with
  | [.c (.int i)] => some (.c (.int i))
  | [.c (.bl b)] => some (.c (.int (if b then 1 else 0)))
  | _ => none
theorem cb_int : Cb cl X (.type "int") gInt1 := by
  refine ⟨_, call_int1, fun F fx ss σ H us z xs Q S vs hg k => ?_⟩
  unfold gInt1 at hg
  split at hg
  · obtain ⟨x, rfl, v⟩ := views1 vs
    have := v.sc
    subst this
    cases hg
    exact .inl ⟨_, rfl, k F H _ Ext.refl S rfl⟩
  · obtain ⟨x, rfl, v⟩ := views1 vs
    have := v.sc
    subst this
    cases hg
    exact .inr ⟨_, rfl, k F H _ Ext.refl S rfl⟩
  · cases hg
def gAbs : List U → Option U := fun us => match us with
  | [.c (.int i)] => some (.c (.int (if i < 0 then -i else i)))
  | _ => none
theorem cb_abs : Cb cl X (.builtin "abs") gAbs := by
  refine ⟨_, call_abs, fun F fx ss σ H us z xs Q S vs hg k => ?_⟩
  unfold gAbs at hg
  split at hg
  · obtain ⟨x, rfl, v⟩ := views1 vs
    have := v.sc
    subst this
    cases hg
    exact ⟨_, rfl, k F H _ Ext.refl S rfl⟩
  · cases hg
def gMax2 : List U → Option U := fun us => match us with
  | [.c (.int i), .c (.int j)] => some (.c (.int (if j > i then j else i)))
  | _ => none
theorem cb_max2 (hc : X.calm = true) : Cb cl X (.builtin "max") gMax2 := by
  refine ⟨_, call_max2 hc, fun F fx ss σ H us z xs Q S vs hg k => ?_⟩
  unfold gMax2 at hg
  split at hg
  · obtain ⟨x, y, rfl, v, w⟩ := views2 vs
    have := v.sc
    subst this
    have := w.sc
    subst this
    cases hg
    exact ⟨_, _, rfl, k F H _ Ext.refl S rfl⟩
  · cases hg
def gMin2 : List U → Option U := fun us => match us with
  | [.c (.int i), .c (.int j)] => some (.c (.int (if j < i then j else i)))
  | _ => none
theorem cb_min2 (hc : X.calm = true) : Cb cl X (.builtin "min") gMin2 := by
  refine ⟨_, call_min2 hc, fun F fx ss σ H us z xs Q S vs hg k => ?_⟩
  unfold gMin2 at hg
  split at hg
  · obtain ⟨x, y, rfl, v, w⟩ := views2 vs
    have := v.sc
    subst this
    have := w.sc
    subst this
    cases hg
    exact ⟨_, _, rfl, k F H _ Ext.refl S rfl⟩
  · cases hg
def gList : List U → Option U := fun us => match us with
  | [.nd .lst xs] => some (.nd .lst xs)
  | [.nd .tup xs] => some (.nd .lst xs)
  | _ => none
def gTuple : List U → Option U := fun us => match us with
  | [.nd .lst xs] => some (.nd .tup xs)
  | [.nd .tup xs] => some (.nd .tup xs)
  | _ => none
/-- list(xs) -/
theorem cb_list : CbO cl X (.type "list") gList := by
  refine ⟨_, call_list_of, fun F fx ss σ H us z xs Q S vs hg k => ?_⟩
  unfold gList at hg
  split at hg
  · obtain ⟨x, rfl, v⟩ := views1 vs
    obtain ⟨p, ws, rfl, hq, r⟩ := v.lst S
    cases hg
    exact ⟨p, ws, rfl, .inl (SqL.of hq), fun l hl => k F _ l Ext.refl (S.own (t := .lst) (vs := ws) hl upd_same r)⟩
  · obtain ⟨x, rfl, v⟩ := views1 vs
    obtain ⟨p, ws, rfl, hq, r⟩ := v.tup S
    cases hg
    exact ⟨p, ws, rfl, .inr hq, fun l hl => k F _ l Ext.refl (S.own (t := .lst) (vs := ws) hl upd_same r)⟩
  · cases hg
/-- tuple(xs) -/
theorem cb_tuple : Cb cl X (.type "tuple") gTuple := by
  refine ⟨_, call_tuple_of, fun F fx ss σ H us z xs Q S vs hg k => ?_⟩
  unfold gTuple at hg
  split at hg
  · obtain ⟨x, rfl, v⟩ := views1 vs
    obtain ⟨p, ws, rfl, hq, r⟩ := v.lst S
    cases hg
    refine ⟨p, ws, rfl, .inl ⟨SqL.of hq, fun l hl => ?_⟩⟩
    have e2 : Ext (enX X cl) F (upd F l (.tup ws)) := Ext.of (same_new (S.fh.free hl))
    exact k _ _ _ e2 (S.laid hl) ⟨l, ws, rfl, .inl (.inl upd_same), e2.reps r⟩
  · obtain ⟨x, rfl, v⟩ := views1 vs
    rcases v with v | ⟨a, _, _, _, v, _⟩
    · obtain ⟨p, ws, rfl, hq, r⟩ := id v
      cases hg
      exact ⟨p, ws, rfl, .inr ⟨Holds.mono (N := enX X cl) (t := .tup) S.fh hq, k F H _ Ext.refl S v⟩⟩
    · exact v.elim
  · cases hg
def boolsOf : List U → Option (List Bool)
  | [] => some []
  | .c (.bl b) :: r => (boolsOf r).map (b :: ·)
  | _ :: _ => none
theorem boolsOf_reps {N : En} {F : Hp} : ∀ {us : List U} {bs : List Bool} {vs : List V}, boolsOf us = some bs → Reps N F us vs → vs = bs.map V.bl
  | [], bs, vs, h, r => by cases h; exact r
  | .nd _ _ :: _, _, _, h, _ => by cases h
  | .c v :: us, bs, vs, h, ⟨v', r, h1, h2, h3⟩ => by
    cases v with
    | bl b =>
      unfold boolsOf at h
      cases q : boolsOf us with
      | none => rw [q] at h; cases h
      | some bs' =>
        rw [q] at h
        cases h
        have e := boolsOf_reps q h3
        rw [h1, e, show v' = V.bl b from h2]
        rfl
    | _ => cases h
def gAll : List U → Option U := fun us => match us with
  | [.nd .lst xs] => (boolsOf xs).map fun bs => .c (.bl (bs.all id))
  | _ => none
theorem cb_all (hc : X.calm = true) : Cb cl X (.builtin "all") gAll := by
  refine ⟨_, cr_all hc, fun F fx ss σ H us z xs Q S vs hg k => ?_⟩
  unfold gAll at hg
  split at hg
  · rename_i ys
    obtain ⟨x, rfl, v⟩ := views1 vs
    obtain ⟨p, ws, rfl, hq, r⟩ := v.lst S
    cases q : boolsOf ys with
    | none => rw [q] at hg; cases hg
    | some bs =>
      rw [q] at hg
      cases hg
      have e := boolsOf_reps q r
      subst e
      exact ⟨p, bs, rfl, SqL.of hq, k F H _ Ext.refl S rfl⟩
  · cases hg
def gAny : List U → Option U := fun us => match us with
  | [.nd .lst xs] => (boolsOf xs).map fun bs => .c (.bl (bs.any id))
  | _ => none
theorem cb_any (hc : X.calm = true) : Cb cl X (.builtin "any") gAny := by
  refine ⟨_, cr_any hc, fun F fx ss σ H us z xs Q S vs hg k => ?_⟩
  unfold gAny at hg
  split at hg
  · rename_i ys
    obtain ⟨x, rfl, v⟩ := views1 vs
    obtain ⟨p, ws, rfl, hq, r⟩ := v.lst S
    cases q : boolsOf ys with
    | none => rw [q] at hg; cases hg
    | some bs =>
      rw [q] at hg
      cases hg
      have e := boolsOf_reps q r
      subst e
      exact ⟨p, bs, rfl, SqL.of hq, k F H _ Ext.refl S rfl⟩
  · cases hg
/-! ### isinstance, built-in classes -/
inductive Ty where
  | non | bl | int | str | tup | lst | dct
  deriving DecidableEq
def Ty.name : Ty → String
  | .non => "NoneType" | .bl => "bool" | .int => "int" | .str => "str" | .tup => "tuple" | .lst => "list" | .dct => "dict"
def tyU : U → Option Ty
  | .c .non => some .non
  | .c (.bl _) => some .bl
  | .c (.int _) => some .int
  | .c (.str _) => some .str
  | .nd .tup _ => some .tup
  | .nd .lst _ => some .lst
  | .nd .sq _ => some .lst
  | .nd (.dK _) _ => some .dct
  | _ => none
def isTy (t s : Ty) : Bool := decide (t = s) || (decide (t = .bl) && decide (s = .int))
theorem isTy_kit (t s : Ty) : kitB t.name s.name = some (isTy t s) := by cases t <;> cases s <;> decide +kernel
theorem tyU_is {N : En} {F : Hp} {fx : Fx} {H : Hp} {ss : List Sl} {σ : St} {u : U} {v : V} {t : Ty} (S : SRel N F fx ss σ H) (h : View N F fx H u v) (e : tyU u = some t) : TyX N.K H v (.type t.name) := by
  cases u with
  | c w =>
    have := h.sc
    subst this
    cases v <;> cases e
    · exact .base .non
    · exact .base (.bl _)
    · exact .base (.int _)
    · exact .base (.str _)
  | nd tg xs =>
    cases tg with
    | tup =>
      cases e
      obtain ⟨a, vs, rfl, hq, _⟩ := h.tup S
      rcases hq with (hq | ⟨o, hq⟩) | ⟨o, its, n, h1, h2, _⟩
      · exact .base (.tup hq)
      · exact .fTuple hq
      · exact .kTuple h1 h2
    | lst =>
      cases e
      obtain ⟨a, vs, rfl, hq, _⟩ := h.lst S
      exact .base (.lst hq)
    | sq =>
      cases e
      obtain ⟨a, vs, rfl, hq, _⟩ := h.sq S
      rcases hq with (hq | ⟨o, hq⟩) | ⟨o, its, n, h1, h2, _⟩
      · exact .base (.lst hq)
      · exact .base (.frz hq)
      · exact .kList h1 h2
    | ab ks => cases e
    | dT ks => cases e
    | dK ks =>
      cases e
      obtain ⟨a, vs, rfl, _, hq, _⟩ := h.dK S
      rcases hq with hq | ⟨o, hq⟩
      · exact .base (.dK hq)
      · exact .fDict hq
    | ins c ns => cases e
def gIsi (s : Ty) : List U → Option U := fun us => match us with
  | [u, .c (.ty n)] => if n = s.name then (tyU u).map fun t => .c (.bl (isTy t s)) else none
  | _ => none
theorem cb_isi (s : Ty) : Cb cl X (.builtin "isinstance") (gIsi s) := by
  refine ⟨_, call_isi, fun F fx ss σ H us z xs Q S vs hg k => ?_⟩
  unfold gIsi at hg
  split at hg
  · rename_i u n
    obtain ⟨x, y, rfl, v, w⟩ := views2 vs
    have := w.sc
    subst this
    split at hg
    · rename_i hn
      subst hn
      cases q : tyU u with
      | none => rw [q] at hg; cases hg
      | some t =>
        rw [q] at hg
        cases hg
        exact ⟨x, .ty s.name, _, _, _, rfl, .ty _, tyU_is S v q, kit_ty (isTy_kit t s), k F H _ Ext.refl S rfl⟩
    · cases hg
  · cases hg
end
end Dl

set_option Elab.async false
set_option linter.all false
set_option maxRecDepth 100000
set_option maxHeartbeats 4000000
namespace Dl
open PySem L2
/-! ### statements -/
def mSeq (m m' : M Fl) : M Fl := M.bind m fun f => match f with
  | .nx => m'
  | f => M.ret f
/-- a name is set -/
def putS (i : Nat) (s : Sl) : M Unit := fun ss => match ss[i]? with
  | some (.io _) => .no
  | none => .no
  | _ => .ok () (ss.set i s)
section
variable {cl : Nat → Addr} {X : Cx} {W : WX} {e a b c : Expr} {pos : Pos} {st : Stmt} {rest : List Stmt} {m m' : M Fl}
theorem dss_nil : DSs cl X W [] (M.ret .nx) := PSs.weak pss_nil fun D σ H ⟨F, fx, ss, S, g⟩ => g F H σ Ext.refl S
theorem seq_run {N : En} {D : Ends} {σ : St} {H : Hp} (h : lS N W (mSeq m m') D σ H) : tSeq (lS N W m) (lS N W m') D σ H := by
  obtain ⟨F, fx, ss, S, g⟩ := h
  refine ⟨F, fx, ss, S, ?_⟩
  unfold mSeq M.bind at g
  cases q : m ss with
  | no => rw [q] at g; exact g
  | ex x ss' => rw [q] at g; exact g
  | ok f ss' =>
    rw [q] at g
    cases f with
    | nx => exact fun F' H' σ' e S' => ⟨F', fx, ss', S', GoodS.ext e g⟩
    | bk => exact g
    | ct => exact g
    | rt u => exact g
    | ro u => exact g
theorem dss_cons (h1 : DS cl X W st m) (h2 : DSs cl X W rest m') : DSs cl X W (st :: rest) (mSeq m m') := PSs.weak (pss_cons h1 h2) fun D σ H h => seq_run h
theorem dss_one (h1 : DS cl X W st m) : DSs cl X W [st] m := pss_one h1
theorem ds_pass : DS cl X W (.Pass pos) (M.ret .nx) := PS.weak ps_pass fun D σ H ⟨F, fx, ss, S, g⟩ => g F H σ Ext.refl S
theorem ds_break : DS cl X W (.Break pos) (M.ret .bk) := PS.weak ps_break fun D σ H ⟨F, fx, ss, S, g⟩ => g F H σ Ext.refl S
theorem ds_continue : DS cl X W (.Continue pos) (M.ret .ct) := PS.weak ps_continue fun D σ H ⟨F, fx, ss, S, g⟩ => g F H σ Ext.refl S
theorem ds_doc {x j p1 p2} : DS cl X W (.Expr (.Constant (.str x) j p1) p2) (M.ret .nx) := PS.weak ps_doc fun D σ H ⟨F, fx, ss, S, g⟩ => g F H σ Ext.refl S
/-- from a statement's wish to an expression's -/
theorem goodS_bind {N : En} {F : Hp} {fx : Fx} {D : Ends} {σ : St} {α : Type} {me : M α} {f : α → M Fl} {ss : List Sl} (g : GoodS N W F fx D (M.bind me f ss)) :
    Good N W F fx σ (fun F' ss' a H' => GoodS N W F' fx D (f a ss')) (me ss) := by
  unfold M.bind at g
  cases q : me ss with
  | no => rw [q] at g; exact g
  | ex x ss' => rw [q] at g; exact fun F' H' cls d e S x => g F' H' σ cls d e S x
  | ok u ss' => rw [q] at g; exact fun F' H' e S => GoodS.ext e g
def mDrop (m : M U) : M Fl := M.bind m fun _ => M.ret .nx
theorem ds_expr {me : M U} (h : DE cl X W e me) (hs : swapsWith e none pos.line X.env = pure false := by rfl) : DS cl X W (.Expr e pos) (mDrop me) := PS.weak (ps_expr h hs) fun D σ H ⟨F, fx, ss, S, g⟩ =>
  ⟨F, fx, ss, S, (goodS_bind (σ := σ) g).mono fun F' ss' u H' e S' g' v r => g' F' H' σ Ext.refl S'⟩
def mRet (m : M U) : M Fl := M.bind m fun u => M.ret (.rt u)
theorem ds_ret {me : M U} (h : DE cl X W e me) : DS cl X W (.Return (some e) pos) (mRet me) := PS.weak (ps_ret h) fun D σ H ⟨F, fx, ss, S, g⟩ =>
  ⟨F, fx, ss, S, (goodS_bind (σ := σ) g).mono fun F' ss' u H' e S' g' v r => g' F' H' σ v Ext.refl S' r⟩
def mRetO (m : M U) : M Fl := M.bind m fun u => M.ret (.ro u)
theorem ds_retO {me : M U} (h : DO cl X W e me) : DS cl X W (.Return (some e) pos) (mRetO me) := PS.weak (ps_ret h) fun D σ H ⟨F, fx, ss, S, g⟩ =>
  ⟨F, fx, ss, S, (goodS_bind (σ := σ) g).mono fun F' ss' u H' e S' g' a Sa => g' F' H' σ a Ext.refl Sa⟩
theorem ds_retN : DS cl X W (.Return none pos) (M.ret (.rt (.c .non))) := PS.weak ps_retN fun D σ H ⟨F, fx, ss, S, g⟩ => g F H σ .non Ext.refl S rfl
theorem ds_if {s1 s2 : List Stmt} {mc : M Bool} {m1 m2 : M Fl} (hc : DT cl X W c mc) (h1 : DSs cl X W s1 m1) (h2 : DSs cl X W s2 m2) : DS cl X W (.If c s1 s2 pos) (mIf mc m1 m2) := PS.weak (ps_if hc h1 h2) fun D σ H ⟨F, fx, ss, S, g⟩ => by
  refine ⟨F, fx, ss, S, (goodS_bind (σ := σ) g).mono fun F' ss' k H' e S' g' => ?_⟩
  cases k with
  | true => exact ⟨F', fx, ss', S', g'⟩
  | false => exact ⟨F', fx, ss', S', g'⟩
/-! ### stores -/
theorem put_inv {N : En} {F : Hp} {fx : Fx} {D : Ends} {i : Nat} {s : Sl} {ss : List Sl} {f : Unit → M Fl} (g : GoodS N W F fx D (M.bind (putS i s) f ss)) : GoodS N W F fx D (f () (ss.set i s)) := by
  unfold M.bind putS at g
  cases q : ss[i]? with
  | none => rw [q] at g; exact g.elim
  | some t =>
    rw [q] at g
    cases t with
    | io u => exact g.elim
    | no => exact g
    | fz u => exact g
    | ow u => exact g
def mSetF (i : Nat) (m : M U) : M Fl := M.bind m fun u => M.bind (putS i (.fz u)) fun _ => M.ret .nx
def mSetO (i : Nat) (m : M U) : M Fl := M.bind m fun u => M.bind (putS i (.ow u)) fun _ => M.ret .nx
theorem ds_setF {i : Nat} {x : Str} {me : M U} {pos' : Pos} (hN : X.N.Nodup) (hi : X.N[i]? = some x) (hx : Loc X.env.scope x) (he : DE cl X W e me) (hs : swapsWith e (some (.Name x pos')) pos.line X.env = pure false := by rfl)
    (hf : X.fn x = true ∨ X.env.scope.names.lookup x = some .local := by first | exact .inl rfl | exact .inr rfl | assumption) : DS cl X W (.Assign [.Name x pos'] e pos) (mSetF i me) := PS.weak (ps_set hN hi hx he hs hf) fun D σ H ⟨F, fx, ss, S, g⟩ => by
  refine ⟨F, fx, ss, S, (goodS_bind (σ := σ) g).mono fun F' ss' u H' e S' g' v r => ?_⟩
  exact put_inv g' F' H' _ Ext.refl (S'.putF r)
theorem ds_setO {i : Nat} {x : Str} {me : M U} {pos' : Pos} (hN : X.N.Nodup) (hi : X.N[i]? = some x) (hx : Loc X.env.scope x) (he : DO cl X W e me) (hs : swapsWith e (some (.Name x pos')) pos.line X.env = pure false := by rfl)
    (hf : X.fn x = true ∨ X.env.scope.names.lookup x = some .local := by first | exact .inl rfl | exact .inr rfl | assumption) : DS cl X W (.Assign [.Name x pos'] e pos) (mSetO i me) := PS.weak (ps_set hN hi hx he hs hf) fun D σ H ⟨F, fx, ss, S, g⟩ => by
  refine ⟨F, fx, ss, S, (goodS_bind (σ := σ) g).mono fun F' ss' u H' e S' g' a Sa => ?_⟩
  exact put_inv g' F' H' _ Ext.refl Sa.putO
/-- the slots but those of a target are as they were -/
def Sim (tv : List Nat) (σ σ' : St) : Prop := ∀ vs : List Nat, (∀ i ∈ tv, i ∈ vs) → wipe σ' vs = wipe σ vs
theorem Sim.refl {tv : List Nat} {σ : St} : Sim tv σ σ := fun _ _ => rfl
theorem Sim.trans {tv : List Nat} {σ σ1 σ2 : St} (a : Sim tv σ σ1) (b : Sim tv σ1 σ2) : Sim tv σ σ2 := fun vs h => (b vs h).trans (a vs h)
theorem Sim.sub {tv tv' : List Nat} {σ σ' : St} (a : Sim tv σ σ') (h : ∀ i ∈ tv, i ∈ tv') : Sim tv' σ σ' := fun vs k => a vs fun i hi => k i (h i hi)
theorem wipe_set_out {σ : St} {i : Nat} {o : Option V} : ∀ {vs : List Nat}, i ∉ vs → wipe (σ.set i o) vs = (wipe σ vs).set i o
  | [], _ => rfl
  | v :: vs, h => by
    have h1 : v ≠ i := fun e => h (by rw [e]; exact List.mem_cons_self)
    have h2 : i ∉ vs := fun z => h (List.mem_cons_of_mem _ z)
    show (wipe (σ.set i o) vs).set v none = ((wipe σ vs).set v none).set i o
    rw [wipe_set_out h2, List.set_comm _ _ (Ne.symm h1)]
theorem wipe_set {σ : St} {i : Nat} {o : Option V} : ∀ {vs : List Nat}, i ∈ vs → wipe (σ.set i o) vs = wipe σ vs
  | [], h => by cases h
  | v :: vs, h => by
    show (wipe (σ.set i o) vs).set v none = (wipe σ vs).set v none
    by_cases z : i ∈ vs
    · rw [wipe_set z]
    · rcases List.mem_cons.mp h with e | e
      · subst e
        rw [wipe_set_out z, List.set_set]
      · exact absurd e z
/-- a target's reading: what it does with a frozen value -/
def GT (N : En) (tv : List Nat) (m : U → M Unit) (t : TG) : Prop :=
  ∀ (F : Hp) (fx : Fx) (ss ss' : List Sl) (σ : St) (H : Hp) (u : U) (v : V) (Q : St → Hp → Prop), SRel N F fx ss σ H → Rep N F u v → m u ss = .ok () ss' →
    (∀ F' σ' H', Ext N F F' → SRel N F' fx ss' σ' H' → Sim tv σ σ' → Q σ' H') → t v σ H Q
def GTs (N : En) (tv : List Nat) (m : List U → M Unit) (t : TGs) : Prop :=
  ∀ (F : Hp) (fx : Fx) (ss ss' : List Sl) (σ : St) (H : Hp) (us : List U) (vs : List V) (Q : St → Hp → Prop), SRel N F fx ss σ H → Reps N F us vs → m us ss = .ok () ss' →
    (∀ F' σ' H', Ext N F F' → SRel N F' fx ss' σ' H' → Sim tv σ σ' → Q σ' H') → t vs σ H Q
def gF (i : Nat) : U → M Unit := fun u => putS i (.fz u)
theorem gt_name {N : En} {i : Nat} : GT N [i] (gF i) (gName i) := by
  refine fun F fx ss ss' σ H u v Q S r hm k => ?_
  have hm : putS i (.fz u) ss = .ok () ss' := hm
  unfold putS at hm
  have e : ss' = ss.set i (.fz u) := by
    cases q : ss[i]? with
    | none => rw [q] at hm; cases hm
    | some t =>
      rw [q] at hm
      cases t <;> first | (cases hm; rfl) | cases hm
  subst e
  exact k F _ H Ext.refl (S.putF r) (fun vs hv => wipe_set (hv i (by simp)))
def mGs0 : List U → M Unit := fun us => match us with
  | [] => M.ret ()
  | _ => M.fail
theorem gts_nil {N : En} : GTs N [] mGs0 gNil := by
  refine fun F fx ss ss' σ H us vs Q S r hm k => ?_
  cases us with
  | nil => cases hm; exact ⟨r, k F σ H Ext.refl S Sim.refl⟩
  | cons u us => cases hm
def mGs (m1 : U → M Unit) (m2 : List U → M Unit) : List U → M Unit := fun us => match us with
  | u :: r => M.bind (m1 u) fun _ => m2 r
  | [] => M.fail
theorem gts_cons {N : En} {tv tv2 : List Nat} {m1 : U → M Unit} {m2 : List U → M Unit} {t1 : TG} {t2 : TGs} (k1 : GT N tv m1 t1) (k2 : GTs N tv2 m2 t2) : GTs N (tv ++ tv2) (mGs m1 m2) (gCons t1 t2) := by
  refine fun F fx ss ss' σ H us vs Q S r hm k => ?_
  cases us with
  | nil => cases hm
  | cons u us =>
    obtain ⟨v, vr, e, r1, r2⟩ := r
    have hm : M.bind (m1 u) (fun _ => m2 us) ss = .ok () ss' := hm
    unfold M.bind at hm
    cases q : m1 u ss with
    | no => rw [q] at hm; cases hm
    | ex x s => rw [q] at hm; cases hm
    | ok w s1 =>
      rw [q] at hm
      refine ⟨v, vr, e, k1 F fx ss s1 σ H u v _ S r1 q fun F' σ' H' e' S' z1 => ?_⟩
      exact k2 F' fx s1 ss' σ' H' us vr _ S' (e'.reps r2) hm fun F2 σ2 H2 e2 S2 z2 => k F2 σ2 H2 (e'.trans e2) S2 ((z1.sub fun i hi => List.mem_append_left _ hi).trans (z2.sub fun i hi => List.mem_append_right _ hi))
def mGt (n : Nat) (m : List U → M Unit) : U → M Unit := fun u => match u with
  | .nd .tup xs => if xs.length = n then m xs else M.fail
  | _ => M.fail
theorem gt_tup {N : En} {n : Nat} {tv : List Nat} {m : List U → M Unit} {t : TGs} (kk : GTs N tv m t) : GT N tv (mGt n m) (gTup N.K n t) := by
  refine fun F fx ss ss' σ H u v Q S r hm q => ?_
  cases u with
  | c v => cases hm
  | nd tg xs =>
    cases tg with
    | tup =>
      obtain ⟨a, vs, rfl, hq, rs⟩ := r
      unfold mGt at hm
      by_cases l : xs.length = n
      · simp only [if_pos l] at hm
        exact ⟨a, vs, rfl, Holds.mono (N := N) (t := .tup) S.fh hq, by rw [← rs.length]; exact l, kk F fx ss ss' σ H xs vs Q S rs hm q⟩
      · simp only [if_neg l] at hm; cases hm
    | _ => cases hm
/-- target = value, the value frozen -/
def mAsg (m : M U) (g : U → M Unit) : M Fl := M.bind m fun u => M.bind (g u) fun _ => M.ret .nx
theorem goodS_unit {N : En} {F : Hp} {fx : Fx} {D : Ends} {mu : M Unit} {f : Unit → M Fl} {ss : List Sl} (g : GoodS N W F fx D (M.bind mu f ss)) (hx : ∀ x s, mu ss ≠ .ex x s) : ∃ ss', mu ss = .ok () ss' ∧ GoodS N W F fx D (f () ss') := by
  unfold M.bind at g
  cases q : mu ss with
  | no => rw [q] at g; exact g.elim
  | ex x s => exact absurd q (hx x s)
  | ok u s => rw [q] at g; exact ⟨s, rfl, g⟩
theorem ds_asg {tg : Expr} {tv : List Nat} {me : M U} {mg : U → M Unit} {t : TG} (he : DE cl X W e me) (p : PG X tg t) (k : GT (enX X cl) tv mg t) (hx : ∀ u ss x s, mg u ss ≠ .ex x s) (hs : swapsWithSole [tg] e pos.line X.env = pure false := by rfl) (hw : swappedStores [tg] e X.env = pure none := by rfl)
    (h1 : (assignEach [tg] X.env).map (·.2) = [assign tg X.env] := by rfl) : DS cl X W (.Assign [tg] e pos) (mAsg me mg) := by
  refine PS.weak (ps_asg he p hs hw h1) fun D σ H ⟨F, fx, ss, S, g⟩ => ?_
  refine ⟨F, fx, ss, S, (goodS_bind (σ := σ) g).mono fun F' ss' u H' e S' g' v r => ?_⟩
  obtain ⟨s2, q, g2⟩ := goodS_unit g' (hx u ss')
  exact k F' fx ss' s2 σ H' u v _ S' r q fun F2 σ2 H2 e2 S2 _ => g2 F2 H2 σ2 e2 S2
theorem nox_put {i : Nat} {s : Sl} (ss : List Sl) (x : Exn) (t : List Sl) : putS i s ss ≠ .ex x t := by
  unfold putS
  cases ss[i]? with
  | none => intro z; cases z
  | some t => cases t <;> (intro z; cases z)
theorem nox_gs {m1 : U → M Unit} {m2 : List U → M Unit} (h1 : ∀ u ss x s, m1 u ss ≠ .ex x s) (h2 : ∀ u ss x s, m2 u ss ≠ .ex x s) : ∀ u ss x s, mGs m1 m2 u ss ≠ .ex x s := fun us ss x s => by
  cases us with
  | nil => intro z; cases z
  | cons u r =>
    show M.bind (m1 u) (fun _ => m2 r) ss ≠ .ex x s
    unfold M.bind
    cases q : m1 u ss with
    | no => intro z; cases z
    | ex y t => exact absurd q (h1 u ss y t)
    | ok w t => exact h2 r t x s
theorem nox_gt {n : Nat} {m : List U → M Unit} (h : ∀ u ss x s, m u ss ≠ .ex x s) : ∀ u ss x s, mGt n m u ss ≠ .ex x s := fun u ss x s => by
  cases u with
  | c v => intro z; cases z
  | nd t xs =>
    cases t with
    | tup =>
      unfold mGt
      by_cases l : xs.length = n
      · simp only [if_pos l]; exact h xs ss x s
      · simp only [if_neg l]; intro z; cases z
    | _ => intro z; cases z
theorem nox_nil : ∀ (u : List U) ss x s, mGs0 u ss ≠ Rz.ex x s := fun u ss x s => by
  cases u with
  | nil => intro z; cases z
  | cons _ _ => intro z; cases z
/-- x op= e, scalars -/
def mAug (i : Nat) (g : V → V → Option V) (m : M Hd) : M Fl := M.bind (peek i) fun u => M.bind m fun h => M.bind (look h) fun w => match u, w with
  | .c x, .c y => M.bind (M.opt (g x y)) fun z => M.bind (putS i (.fz (.c z))) fun _ => M.ret .nx
  | _, _ => M.fail
theorem ds_aug {i : Nat} {x : Str} {me : M Hd} {op : Operator} {ti : TIp} {g : V → V → Option V} {pos' : Pos} (hN : X.N.Nodup) (hi : X.N[i]? = some x) (hx : Loc X.env.scope x) (he : DH cl X W e me) (ho : PIp X op ti) (hg : ∀ x y z H Q, g x y = some z → Q z H → ti x y H Q)
    (hf : X.fn x = true ∨ X.env.scope.names.lookup x = some .local := by first | exact .inl rfl | exact .inr rfl | assumption) :
    DS cl X W (.AugAssign (.Name x pos') op e pos) (mAug i g me) := PS.weak (ps_aug hN hi hx he ho hf) fun D σ H ⟨F, fx, ss, S, g0⟩ => by
  have g1 := goodS_bind (σ := σ) g0
  obtain ⟨v, hv⟩ := S.val (P := Good _ W F fx σ _) g1 (fun z => z)
  obtain ⟨u, g2, vu⟩ := peek_view S hv (P := Good _ W F fx σ _) g1 (fun z => z)
  refine ⟨v, hv, F, fx, ss, S, (goodS_bind (σ := σ) (g2 F H Ext.refl S)).mono fun F' ss' h H' e S' g3 y r => ?_⟩
  obtain ⟨w, g4, vw⟩ := look_view S' r (P := Good _ W F' fx σ _) (goodS_bind (σ := σ) g3) (fun z => z)
  have g5 := g4 F' H' Ext.refl S'
  cases u with
  | nd _ _ => exact g5.elim
  | c x' =>
    cases w with
    | nd _ _ => exact g5.elim
    | c y' =>
      have := vu.sc
      subst this
      have := vw.sc
      subst this
      have g6 := (goodS_bind (σ := σ) g5).opt
      obtain ⟨z, hz, g7⟩ := g6
      refine hg v y z H' _ hz ?_
      exact put_inv (g7 F' H' Ext.refl S') F' H' _ Ext.refl (S'.putF rfl)
/-! ### while -/
def mWhile (mc : M Bool) (mb : M Fl) : Nat → M Fl
  | 0 => M.fail
  | n + 1 => M.bind mc fun b => if b = true then M.bind mb fun f => match f with
      | .nx => mWhile mc mb n
      | .ct => mWhile mc mb n
      | .bk => M.ret .nx
      | f => M.ret f
    else M.ret .nx
theorem ds_while {body : List Stmt} {mc : M Bool} {mb : M Fl} (n : Nat) (hp : PassesOwn (model X.prog X.w) X.A X.env X.xe) (hc : DT cl X W c mc) (hb : DSs cl X W body mb) : DS cl X W (.While c body [] pos) (mWhile mc mb n) :=
  PS.weak (ps_while hp hc hb) fun D σ H ⟨F, fx, ss, S, g⟩ => by
    refine ⟨fun k σ H => ∃ F' ss, SRel (enX X cl) F' fx ss σ H ∧ GoodS (enX X cl) W F' fx D (mWhile mc mb k ss), ⟨n, F, ss, S, g⟩, fun k σ H ⟨F1, s1, S1, g1⟩ => ?_⟩
    cases k with
    | zero => exact g1.elim
    | succ k =>
      refine ⟨F1, fx, s1, S1, (goodS_bind (σ := σ) g1).mono fun F2 s2 b H2 e2 S2 g2 => ?_⟩
      cases b with
      | false => exact g2 F2 H2 σ Ext.refl S2
      | true =>
        refine ⟨fun σ' H' => ∃ F' ss, SRel (enX X cl) F' fx ss σ' H' ∧ GoodS (enX X cl) W F' fx D (mWhile mc mb k ss), fun σ' H' h => ⟨k, Nat.lt_succ_self k, h⟩, F2, fx, s2, S2, ?_⟩
        have g3 : GoodS (enX X cl) W F2 fx D (M.bind mb (fun f => match f with
          | .nx => mWhile mc mb k
          | .ct => mWhile mc mb k
          | .bk => M.ret .nx
          | f => M.ret f) s2) := g2
        unfold M.bind at g3
        cases q : mb s2 with
        | no => rw [q] at g3; exact g3
        | ex x s => rw [q] at g3; exact g3
        | ok f s3 =>
          rw [q] at g3
          cases f with
          | nx => exact fun F3 H3 σ3 e3 S3 => ⟨F3, s3, S3, GoodS.ext e3 g3⟩
          | ct => exact fun F3 H3 σ3 e3 S3 => ⟨F3, s3, S3, GoodS.ext e3 g3⟩
          | bk => exact g3
          | rt u => exact g3
          | ro u => exact g3
/-! ### for -/
/-- what is walked gives these values, one after the other -/
def Walks (N : En) (F : Hp) (J : It) (us : List U) : Prop := ∀ (fx : Fx) (F1 : Hp) (i : Nat) (ss : List Sl) (σ : St) (H : Hp), Ext N F F1 → SRel N F1 fx ss σ H →
  (∀ u, us[i]? = some u → J.go i H ∧ ∀ x H', J.yld i H x H' → ∃ F2, Ext N F1 F2 ∧ SRel N F2 fx ss σ H' ∧ Rep N F2 u x) ∧ (i = us.length → J.stop i H)
def lI (N : En) (W : WX) (m : M (List U)) : TI := fun σ H R => ∃ F fx ss, SRel N F fx ss σ H ∧ Good N W F fx σ (fun F' ss' us H' => ∀ J, Walks N F' J us → R J H') (m ss)
def DI (cl : Nat → Addr) (X : Cx) (W : WX) (tg e : Expr) (m : M (List U)) : Prop := PI X tg e (lI (enX X cl) W m)
theorem PI.weak {tg : Expr} {t t' : TI} (h : PI X tg e t) (w : ∀ σ H Q, t' σ H Q → t σ H Q) : PI X tg e t' := ⟨fun pins s σ H Q I q => h.run pins s σ H Q I (w σ H Q q)⟩
def mFor (g : U → M Unit) (mb : M Fl) : List U → M Fl
  | [] => M.ret .nx
  | u :: us => M.bind (g u) fun _ => M.bind mb fun f => match f with
      | .nx => mFor g mb us
      | .ct => mFor g mb us
      | .bk => M.ret .nx
      | f => M.ret f
theorem ds_for {tg : Expr} {tv : List Nat} {body : List Stmt} {mi : M (List U)} {mg : U → M Unit} {mb : M Fl} {t : TG} (hp : PassesOwn (model X.prog X.w) X.A X.env X.xe) (hc : X.calm = true) (hi : DI cl X W tg e mi) (p : PG X tg t) (kk : GT (enX X cl) tv mg t) (hx : ∀ u ss x s, mg u ss ≠ .ex x s) (hb : DSs cl X W body mb)
    (hs : ∀ x, foldedSetIterable e X.env x = pure x := by intro _; rfl) : DS cl X W (.For tg e body [] pos) (M.bind mi fun us => mFor mg mb us) := by
  refine PS.weak (ps_for hp hc hi p hb hs) fun D σ H ⟨F, fx, ss, S, g⟩ => ?_
  refine ⟨F, fx, ss, S, (goodS_bind (σ := σ) g).mono fun F0 s0 us H0 e0 S0 g0 J wk => ?_⟩
  refine ⟨fun i k σ H => i + k = us.length ∧ ∃ F' ss, Ext (enX X cl) F0 F' ∧ SRel (enX X cl) F' fx ss σ H ∧ GoodS (enX X cl) W F' fx D (mFor mg mb (us.drop i) ss), ⟨us.length, by omega, F0, s0, Ext.refl, S0, by simpa using g0⟩, fun i k σ H ⟨hik, F1, s1, e1, S1, g1⟩ => ?_⟩
  obtain ⟨w1, w2⟩ := wk fx F1 i s1 σ H e1 S1
  cases k with
  | zero =>
    have hi : i = us.length := by omega
    refine .inl ⟨w2 hi, ?_⟩
    rw [hi, List.drop_length] at g1
    exact g1 F1 H σ Ext.refl S1
  | succ k =>
    have hlt : i < us.length := by omega
    obtain ⟨go, yl⟩ := w1 us[i] (List.getElem?_eq_getElem hlt)
    refine .inr ⟨go, fun σ' H' => ∃ F' ss, Ext (enX X cl) F0 F' ∧ SRel (enX X cl) F' fx ss σ' H' ∧ GoodS (enX X cl) W F' fx D (mFor mg mb (us.drop (i + 1)) ss), fun σ' H' h => ⟨k, Nat.lt_succ_self k, by omega, h⟩, fun x H' hy => ?_⟩
    obtain ⟨F2, e2, S2, r2⟩ := yl x H' hy
    rw [List.drop_eq_getElem_cons hlt] at g1
    have g2 : GoodS (enX X cl) W F2 fx D (M.bind (mg us[i]) (fun _ => M.bind mb fun f => match f with
      | .nx => mFor mg mb (us.drop (i + 1))
      | .ct => mFor mg mb (us.drop (i + 1))
      | .bk => M.ret .nx
      | f => M.ret f) s1) := GoodS.ext e2 g1
    obtain ⟨s2, q2, g3⟩ := goodS_unit g2 (hx us[i] s1)
    refine kk F2 fx s1 s2 σ H' us[i] x _ S2 r2 q2 fun F3 σ3 H3 e3 S3 _ => ⟨F3, fx, s2, S3, ?_⟩
    have g4 := GoodS.ext e3 g3
    unfold M.bind at g4
    have e03 : Ext (enX X cl) F0 F3 := (e1.trans e2).trans e3
    cases q : mb s2 with
    | no => rw [q] at g4; exact g4
    | ex x s => rw [q] at g4; exact g4
    | ok f s4 =>
      rw [q] at g4
      cases f with
      | nx => exact fun F5 H5 σ5 e5 S5 => ⟨F5, s4, e03.trans e5, S5, GoodS.ext e5 g4⟩
      | ct => exact fun F5 H5 σ5 e5 S5 => ⟨F5, s4, e03.trans e5, S5, GoodS.ext e5 g4⟩
      | bk => exact g4
      | rt u => exact g4
      | ro u => exact g4
/-! ### what is walked -/
theorem walks_range {N : En} {F : Hp} {lo : Int} {n : Nat} : Walks N F (Itr lo n) ((List.range n).map fun (i : Nat) => .c (.int (lo + (i : Nat)))) := fun fx F1 i ss σ H e S => by
  refine ⟨fun u hu => ?_, fun hi => ?_⟩
  · rw [List.getElem?_map] at hu
    cases q : (List.range n)[i]? with
    | none => rw [q] at hu; cases hu
    | some j =>
      rw [q] at hu
      cases hu
      obtain ⟨h1, h2⟩ := List.getElem?_eq_some_iff.mp q
      simp at h1 h2
      subst h2
      exact ⟨h1, fun x H' ⟨eH, ex⟩ => ⟨F1, Ext.refl, by rw [eH]; exact S, ex⟩⟩
  · simp at hi
    show n ≤ i
    omega
def mRange1 (m : M (List Hd)) : M (List U) := M.bind m fun hs => M.bind (lookAll hs) fun us => match us with
  | [.c (.int n)] => if -(2 ^ 62) ≤ n ∧ n < 2 ^ 62 then M.ret ((List.range n.toNat).map fun (i : Nat) => .c (.int (0 + (i : Nat)))) else M.fail
  | _ => M.fail
theorem di_range1 {tg : Expr} {p : Pos} {m : M (List Hd)} {t : TA → TI} (h : ∀ {ta : TA}, PA X [a] ta → PI X tg (.Call (.Name "range" p) [a] [] pos) (iRng1 ta)) (ha : DA cl X W [a] m) : DI cl X W tg (.Call (.Name "range" p) [a] [] pos) (mRange1 m) :=
  PI.weak (h ha) fun σ H R ⟨F, fx, ss, S, g⟩ => by
    refine ⟨F, fx, ss, S, g.bind.mono fun F1 s1 hs H1 e1 S1 g1 vs rs => ?_⟩
    obtain ⟨us, vus, g2⟩ := Good.lkAll S1 rs g1
    split at g2
    · rename_i n
      obtain ⟨x, rfl, v⟩ := views1 vus
      have := v.sc
      subst this
      split at g2
      · rename_i hn
        exact ⟨n, rfl, hn.1, hn.2, g2 F1 H1 Ext.refl S1 _ walks_range⟩
      · exact g2.elim
    · exact g2.elim
def mRange2 (m : M (List Hd)) : M (List U) := M.bind m fun hs => M.bind (lookAll hs) fun us => match us with
  | [.c (.int i), .c (.int j)] => if (-(2 ^ 62) ≤ i ∧ i < 2 ^ 62) ∧ -(2 ^ 62) ≤ j ∧ j < 2 ^ 62 then M.ret ((List.range (j - i).toNat).map fun (k : Nat) => .c (.int (i + (k : Nat)))) else M.fail
  | _ => M.fail
theorem di_range2 {tg : Expr} {p : Pos} {m : M (List Hd)} (h : ∀ {ta : TA}, PA X [a, b] ta → PI X tg (.Call (.Name "range" p) [a, b] [] pos) (iRng2 ta)) (ha : DA cl X W [a, b] m) : DI cl X W tg (.Call (.Name "range" p) [a, b] [] pos) (mRange2 m) :=
  PI.weak (h ha) fun σ H R ⟨F, fx, ss, S, g⟩ => by
    refine ⟨F, fx, ss, S, g.bind.mono fun F1 s1 hs H1 e1 S1 g1 vs rs => ?_⟩
    obtain ⟨us, vus, g2⟩ := Good.lkAll S1 rs g1
    split at g2
    · rename_i i j
      obtain ⟨x, y, rfl, v, v'⟩ := views2 vus
      have := v.sc
      subst this
      have := v'.sc
      subst this
      split at g2
      · rename_i hn
        exact ⟨i, j, rfl, ⟨hn.1.1, hn.1.2, hn.2.1, hn.2.2⟩, g2 F1 H1 Ext.refl S1 _ walks_range⟩
      · exact g2.elim
    · exact g2.elim
/-- a text, sign by sign -/
def signsOf (x : Str) : List U := x.cps.toList.map fun c => .c (.str ⟨#[c]⟩)
/-- a frozen list, tuple, text -/
def mItems (m : M U) : M (List U) := M.bind m fun u => match u with
  | .nd .lst xs => M.ret xs
  | .nd .tup xs => M.ret xs
  | .nd .sq xs => M.ret xs
  | .c (.str x) => M.ret (signsOf x)
  | _ => M.fail
theorem walks_lst {N : En} {F : Hp} {a : Addr} {xs : List U} {vs : List V} (hq : SqL N.K F a vs) (r : Reps N F xs vs) : Walks N F (Itl N.K a) xs := fun fx F1 i ss σ H e S => by
  have hq1 : SqL N.K F1 a vs := e .sq a vs hq
  have hq2 : SqL N.K H a vs := S.fh.seq hq1
  refine ⟨fun u hu => ?_, fun hi => ⟨vs, hq2, by rw [← r.length]; omega⟩⟩
  obtain ⟨v, hv, rv⟩ := r.get hu
  exact ⟨⟨vs, v, hq2, hv⟩, fun x H' ⟨eH, ex⟩ => ⟨F1, Ext.refl, by rw [eH]; exact S, by
    have := ex vs hq2
    rw [hv] at this; cases this
    exact e.rep rv⟩⟩
theorem walks_tup {N : En} {F : Hp} {a : Addr} {xs : List U} {vs : List V} (hq : SqT N.K F a vs) (r : Reps N F xs vs) : Walks N F (Itt N.K a) xs := fun fx F1 i ss σ H e S => by
  have hq1 : SqT N.K F1 a vs := e .tup a vs hq
  have hq2 : SqT N.K H a vs := Holds.mono (N := N) (t := .tup) S.fh hq1
  refine ⟨fun u hu => ?_, fun hi => ⟨vs, hq2, by rw [← r.length]; omega⟩⟩
  obtain ⟨v, hv, rv⟩ := r.get hu
  exact ⟨⟨vs, v, hq2, hv⟩, fun x H' ⟨eH, ex⟩ => ⟨F1, Ext.refl, by rw [eH]; exact S, by
    have := ex vs hq2
    rw [hv] at this; cases this
    exact e.rep rv⟩⟩
end
end Dl

set_option Elab.async false
set_option linter.all false
set_option maxRecDepth 100000
set_option maxHeartbeats 4000000
namespace Dl
open PySem L2
open Classical in
section
/-! ### calls of the program's own defs -/
/-- what a def hands back -/
inductive Rt where
  | fz (u : U)
  | ow (u : U)
abbrev Fn := List Sl → Rz Rt
def GoodF (N : En) (E : XK) (F : Hp) (fx : Fx) (σ : St) (Q : VK) : Rz Rt → Prop
  | .no => False
  | .ok (.fz u) as' => ∀ F' H' v, Ext N F F' → SRel N F' fx as' σ H' → Rep N F' u v → Q v H'
  | .ok (.ow u) as' => ∀ F' H' a, Ext N F F' → SRel N F' fx (as' ++ [.ow u]) (σ ++ [some (.ref a)]) H' → Q (.ref a) H'
  | .ex e as' => ∀ F' H' cls d, Ext N F F' → SRel N F' fx as' σ H' → XRel N F' H' e cls d → E cls d H'
/-- the slots of arguments: frozen, or borrowed -/
def Sl.arg : Sl → Bool
  | .fz _ => true
  | .io _ => true
  | _ => false
def spF (N : En) (n : Nat) (fn : Fn) : Sp := fun vs H Q E => vs.length = n ∧ ∃ F fx as, SRel N F fx as (vs.map some) H ∧ (∀ s ∈ as, s.arg = true) ∧ GoodF N E F fx (vs.map some) Q (fn as)

/-! ### a def by its body -/
/-- behind the body: what was borrowed is as the body left it -/
def back1 : Sl → Sl → Option Sl
  | .io _, .io u => some (.io u)
  | .io _, _ => none
  | a, _ => some a
def back : List Sl → List Sl → Option (List Sl)
  | [], _ => some []
  | a :: as, s :: ss => (back1 a s).bind fun x => (back as ss).map (x :: ·)
  | _ :: _, [] => none
def fnOf (n : Nat) (m : M Fl) : Fn := fun as => match m (as ++ List.replicate (n - as.length) .no) with
  | .no => .no
  | .ex e ss => match back as ss with
    | some as' => .ex e as'
    | none => .no
  | .ok f ss => match back as ss with
    | none => .no
    | some as' => match f with
      | .nx => .ok (.fz (.c .non)) as'
      | .rt u => .ok (.fz u) as'
      | .ro u => .ok (.ow u) as'
      | _ => .no
section
variable {N : En} {F F' : Hp} {fx : Fx} {ss : List Sl} {σ : St} {H H' : Hp}
theorem SRel.pad (S : SRel N F fx ss σ H) : ∀ n, SRel N F fx (ss ++ List.replicate n .no) (σ ++ List.replicate n none) H
  | 0 => by simpa using S
  | n + 1 => by
    rw [List.replicate_succ', List.replicate_succ', ← List.append_assoc, ← List.append_assoc]
    exact (SRel.pad S n).snoc trivial (fun z => nomatch z)
theorem back_get : ∀ {as ss as' : List Sl}, back as ss = some as' → as'.length = as.length ∧ as.length ≤ ss.length ∧ ∀ (i : Nat) (s' : Sl), as'[i]? = some s' → ∃ a s, as[i]? = some a ∧ ss[i]? = some s ∧ back1 a s = some s'
  | [], ss, as', h => by cases h; exact ⟨rfl, Nat.zero_le _, fun i s' h => by simp at h⟩
  | _ :: _, [], _, h => by cases h
  | a :: as, s :: ss, as', h => by
    unfold back at h
    cases q : back1 a s with
    | none => rw [q] at h; cases h
    | some x =>
      rw [q] at h
      simp only [Option.bind_some] at h
      cases q2 : back as ss with
      | none => rw [q2] at h; cases h
      | some r =>
        rw [q2] at h
        cases h
        obtain ⟨h1, h2, h3⟩ := back_get q2
        refine ⟨by simp [h1], by simp [h2], fun i s' h => ?_⟩
        cases i with
        | zero => simp at h; subst h; exact ⟨a, s, rfl, rfl, q⟩
        | succ i => exact h3 i s' (by simpa using h)
/-- the body's end, seen from the arguments -/
theorem SRel.back {as as' : List Sl} {vs : List V} {σ' : St} (S : SRel N F fx as (vs.map some) H) (ha : ∀ s ∈ as, s.arg = true) (e : Ext N F F') (S' : SRel N F' fx ss σ' H') (hb : Dl.back as ss = some as') : SRel N F' fx as' (vs.map some) H' := by
  obtain ⟨h1, h2, h3⟩ := back_get hb
  have key : ∀ (i : Nat) (s' : Sl) (o : Option V), as'[i]? = some s' → (vs.map some)[i]? = some o → (∃ u, s' = .fz u ∧ as[i]? = some (.fz u)) ∨ (∃ u a, s' = .io u ∧ o = some (.ref a) ∧ ss[i]? = some (.io u) ∧ σ'[i]? = some (some (.ref a)) ∧ OwnAt N F' fx H' u a ∧ fx.B i = a) := fun i s' o g1 g2 => by
    obtain ⟨a, s, p1, p2, p3⟩ := h3 i s' g1
    have pa := ha a (List.mem_of_getElem? p1)
    cases a with
    | no => cases pa
    | ow u => cases pa
    | fz u =>
      have : s' = .fz u := by cases s <;> (cases p3; rfl)
      exact .inl ⟨u, this, p1⟩
    | io u =>
      obtain ⟨b, e1, _, e3⟩ := S.sl i _ _ p1 g2
      cases s with
      | io u' =>
        cases p3
        have hi := (List.getElem?_eq_some_iff.mp p2).1
        have hσ : σ'[i]? = some (σ'[i]'(by rw [← S'.len]; exact hi)) := List.getElem?_eq_getElem _
        obtain ⟨b', f1, f2, f3⟩ := S'.sl i _ _ p2 hσ
        rw [f1] at hσ
        have : b' = b := by rw [← f3, e3]
        subst this
        exact .inr ⟨u', b', rfl, e1, p2, hσ, f2, f3⟩
      | no => cases p3
      | fz _ => cases p3
      | ow _ => cases p3
  refine ⟨S'.fh, S'.rh, S'.fz, S'.zh, by rw [h1]; exact S.len, fun i s' o g1 g2 => ?_, fun i j s1 s2 a hij g1 g2 o1 o2 e1 e2 => ?_⟩
  · rcases key i s' o g1 g2 with ⟨u, rfl, p1⟩ | ⟨u, a, rfl, ho, p2, p3, p4, p5⟩
    · obtain ⟨v, q1, q2⟩ := S.sl i _ _ p1 g2
      exact ⟨v, q1, e.rep q2⟩
    · exact ⟨a, ho, p4, p5⟩
  · rcases key i s1 _ g1 e1 with ⟨u, rfl, _⟩ | ⟨u, a1, rfl, ho, p2, p3, _⟩
    · cases o1
    · rcases key j s2 _ g2 e2 with ⟨u, rfl, _⟩ | ⟨u', a2, rfl, ho', q2, q3, _⟩
      · cases o2
      · cases ho; cases ho'
        exact S'.dj i j _ _ a hij p2 q2 rfl rfl p3 q3
theorem SRel.backO {as as' : List Sl} {vs : List V} {σ' : St} {u : U} {r : Addr} (S : SRel N F fx as (vs.map some) H) (ha : ∀ s ∈ as, s.arg = true) (e : Ext N F F') (S' : SRel N F' fx (ss ++ [.ow u]) (σ' ++ [some (.ref r)]) H') (hb : Dl.back as ss = some as') :
    SRel N F' fx (as' ++ [.ow u]) (vs.map some ++ [some (.ref r)]) H' := by
  have S1 := S.back ha e S'.less hb
  obtain ⟨h1, h2, h3⟩ := back_get hb
  refine S1.snoc ⟨r, rfl, S'.last⟩ fun _ i t b g1 o1 e1 e2 => ?_
  cases e2
  obtain ⟨w, hw, own⟩ := S1.ownThere g1 o1 e1
  obtain ⟨a, s, p1, p2, p3⟩ := h3 i t g1
  have pa := ha a (List.mem_of_getElem? p1)
  cases a with
  | no => cases pa
  | ow u => cases pa
  | fz u =>
    have : t = .fz u := by cases s <;> (cases p3; rfl)
    subst this
    cases o1
  | io u0 =>
    cases s with
    | io u' =>
      cases p3
      have L : ss.length = σ'.length := by have := S'.len; simp at this; exact this
      have hi := (List.getElem?_eq_some_iff.mp p2).1
      have hσ : σ'[i]? = some (σ'[i]'(by rw [← L]; exact hi)) := List.getElem?_eq_getElem _
      obtain ⟨b', f1, f2, f3⟩ := S'.less.sl i _ _ p2 hσ
      obtain ⟨b2, g3, _, g5⟩ := S.sl i _ _ p1 e1
      cases g3
      have : b' = r := by rw [← f3, g5]
      subst this
      rw [f1] at hσ
      refine S'.dj i ss.length (.io u') (.ow u) b' (by omega) ?_ (by simp) rfl rfl ?_ ?_
      · rw [List.getElem?_append_left hi]; exact p2
      · rw [List.getElem?_append_left (by omega)]; exact hσ
      · rw [L]; simp
    | no => cases p3
    | fz _ => cases p3
    | ow _ => cases p3
end
/-- a def keeps a promise wherever no display is under way -/
structure FnG (P : Program) (w : World) (K : PySem.W.Frag) (mg : Str → Option Value) (base : Heap) (k : Nat) (f : Addr) (fd : FuncData) (ps : List Str) (sp : Sp) : Prop where
  len : ∀ vs H Q E, sp vs H Q E → vs.length = ps.length
  go : ∀ (A : Around) (out : List Env) (s : Shared) (H : Hp) (ar : Args) (us : List Value) (vs : List V) (Q : VK) (E : XK), Room k A → A.guards = some [] → Env0 P w K mg base A out s H → BindsTo s fd ar (ps.zip us) → Vals vs us → sp vs H Q E →
    codeAny (model P w) A (.call (.ref f) ar) (CR (L2.CX P w) out P w H s Q E) s
theorem FnG.up {P : Program} {w : World} {K : PySem.W.Frag} {mg : Str → Option Value} {base : Heap} {j k : Nat} {f : Addr} {fd : FuncData} {ps : List Str} {sp : Sp} (G : FnG P w K mg base j f fd ps sp) (h : j ≤ k) : FnG P w K mg base k f fd ps sp :=
  ⟨G.len, fun A out s H ar us vs Q E hr => G.go A out s H ar us vs Q E (hr.mono h)⟩
open PyProof.Rows in
theorem fnG_of {P : Program} {w : World} {K : PySem.W.Frag} {mg : Str → Option Value} {base : Heap} {x qual : Str} {st : Stmt} {f : Addr} {fd : FuncData} {Ns ps : List Str} {k : Nat} {sp : Sp} (Fd : Fun K x qual st f fd) (Sc : FnScope Ns ps (defScope st))
    (len : ∀ vs H Q E, sp vs H Q E → vs.length = ps.length)
    (body : ∀ (cdv : Value) (A : Around) (out : List Env) (s : Shared) (H : Hp) (vs : List V) (Q : VK) (E : XK), Room k (A.deeper (envOfC qual (defScope st) s.heap.objs.size f cdv)) → A.guards = some [] → sp vs H Q E →
      ∃ t, PSs (cxOf (L2.CX P w) P w K mg base Ns qual (defScope st) f cdv A out s H E) (defBody st) t ∧ t { nx := fun _ H' => Q .non H', rt := Q } (L2.start Ns vs) H) : FnG P w K mg base (k + 1) f fd ps sp := by
  obtain ⟨oc, od, kV, doc, pm, an, cdv, ct, osl, rfl, lk, code⟩ := Fd.ex
  refine ⟨len, fun A out s H ar us vs Q E room gd e0 hb rv hsp => ?_⟩
  have lv := len _ _ _ _ hsp
  have keep0 : ∀ b o, base.get? b = some o → s.heap.get? b = some o := fun b o q => (e0.bs b o q).1
  have kin : K.In s.heap := e0.mod.kin.keeps keep0
  have lim : s.heap.NoLimit := e0.mod.nolimit.keeps keep0
  have kinds : ∀ y ∈ ps.zip us, (defScope st).names.lookup y.1 = some .local ∨ ((defScope st).names.lookup y.1 = some .cell ∧ ((cellsFrom (s.heap.objs.size + 1) (defScope st).names []).lookup y.1).isSome = true) := by
    rintro ⟨nm, va⟩ hy
    rcases Sc.par nm (List.of_mem_zip hy).1 with z | z
    · exact Or.inl z
    · exact Or.inr ⟨z, PySem.W.cellsFrom_some _ _ _ (Or.inl z)⟩
  refine codeAny_call_function room.depth (kin _ _ lk) rfl Sc.co Sc.gen rfl (PySem.W.codeRec_of kin code) (hb _ _ _ _ ?_)
  refine wpAny_newFunctionEnv_cells Sc.kind kinds fun env henv s1 ent => ?_
  subst henv
  refine ⟨lim.keeps ent.toInCall.keep, codeAny_func ?_⟩
  obtain ⟨t, pt, qt⟩ := body cdv A out s H vs Q E (room.deeper _) gd hsp
  have inv := inv_start (CX := L2.CX P w) (mg := mg) (E := E) (outer := out) (N := Ns) Sc room.hd e0 lv rv ent
  refine wpAny_mono (pt.run [] s1 (L2.start Ns vs) H _ inv qt) (fun fl s2 hfl => ?_) fun _ _ z => z
  cases fl with
  | ret u =>
    obtain ⟨v, _, H2, J, r2, q2⟩ := hfl
    exact ⟨v, H2, J.os, J.bare, J.base, J.hok, r2, q2⟩
  | next =>
    obtain ⟨_, H2, J, q2⟩ := hfl
    exact ⟨V.non, H2, J.os, J.bare, J.base, J.hok, rfl, q2⟩
  | brk => obtain ⟨_, _, _, z⟩ := hfl; exact z.elim
  | cont => obtain ⟨_, _, _, z⟩ := hfl; exact z.elim
/-- THE RULE of a def: its body computes m, so it computes fnOf m -/
theorem fn_ok {P : Program} {w : World} {K : PySem.W.Frag} {mg : Str → Option Value} {base : Heap} {cl : Nat → Addr} {x qual : Str} {st : Stmt} {f : Addr} {fd : FuncData} {Ns ps : List Str} {k : Nat} {m : M Fl} (Fd : Fun K x qual st f fd) (Sc : FnScope Ns ps (defScope st))
    (hbody : ∀ (cdv : Value) (A : Around) (outer : List Env) (s : Shared) (H : Hp) (E : XK), Room k (A.deeper (PyProof.Rows.envOfC qual (defScope st) s.heap.objs.size f cdv)) → A.guards = some [] →
      DSs cl (cxOf (L2.CX P w) P w K mg base Ns qual (defScope st) f cdv A outer s H E) (fun cls d _ H => E cls d H) (defBody st) m) :
    FnG P w K mg base (k + 1) f fd ps (spF ⟨K, P, w, cl, soOf P w⟩ ps.length (fnOf Ns.length m)) := by
  refine fnG_of Fd Sc (fun vs H Q E h => h.1) (fun cdv A outer s H vs Q E hr hgd h => ⟨_, hbody cdv A outer s H E hr hgd, ?_⟩)
  obtain ⟨hl, F, fx, as, S, ha, g⟩ := h
  have L : as.length = vs.length := by have := S.len; simpa using this
  have S0 : SRel ⟨K, P, w, cl, soOf P w⟩ F fx (as ++ List.replicate (Ns.length - as.length) .no) (L2.start Ns vs) H := by
    unfold L2.start
    rw [L]
    exact S.pad _
  refine ⟨F, fx, _, S0, ?_⟩
  unfold fnOf at g
  cases q : m (as ++ List.replicate (Ns.length - as.length) .no) with
  | no => rw [q] at g; exact g
  | ex e ss =>
    rw [q] at g
    dsimp only at g
    cases qb : back as ss with
    | none => rw [qb] at g; exact g.elim
    | some as' =>
      rw [qb] at g
      dsimp only at g
      exact fun F' H' σ' cls d e S' x => g F' H' cls d e (S.back ha e S' qb) x
  | ok fl ss =>
    rw [q] at g
    dsimp only at g
    cases qb : back as ss with
    | none => rw [qb] at g; exact g.elim
    | some as' =>
      rw [qb] at g
      dsimp only at g
      cases fl with
      | nx => exact fun F' H' σ' e S' => g F' H' .non e (S.back ha e S' qb) rfl
      | bk => exact g.elim
      | ct => exact g.elim
      | rt u => exact fun F' H' σ' v e S' r => g F' H' v e (S.back ha e S' qb) r
      | ro u => exact fun F' H' σ' a e S' => g F' H' a e (S.backO ha e S' qb)

/-! ### the call -/
def argS (ss : List Sl) : Hd → Option Sl
  | .val u => some (.fz u)
  | .slot i => match ss[i]? with
    | some (.fz u) => some (.fz u)
    | some (.ow u) => some (.io u)
    | some (.io u) => some (.io u)
    | _ => none
theorem argS_slot {ss : List Sl} {i : Nat} : argS ss (.slot i) = match ss[i]? with
    | some (.fz u) => some (.fz u)
    | some (.ow u) => some (.io u)
    | some (.io u) => some (.io u)
    | _ => none := rfl
def argsS (ss : List Sl) : List Hd → Option (List Sl)
  | [] => some []
  | h :: r => (argS ss h).bind fun s => (argsS ss r).map (s :: ·)
/-- the slots that are lent -/
def lent (ss : List Sl) : List Hd → List Nat
  | [] => []
  | .val _ :: r => lent ss r
  | .slot i :: r => match ss[i]? with
    | some (.ow _) => i :: lent ss r
    | some (.io _) => i :: lent ss r
    | _ => lent ss r
/-- what was lent comes back -/
def backS (ss : List Sl) : List Hd → List Sl → List Sl
  | .slot i :: hs, .io u :: as => (backS ss hs as).set i (reown (ss.getD i .no) u)
  | _ :: hs, _ :: as => backS ss hs as
  | _, _ => ss
def Sl.isIo' : Sl → Bool
  | .io _ => true
  | _ => false
/-- what comes back has the form of what was given -/
def fits : List Sl → List Sl → Bool
  | [], [] => true
  | a :: r, b :: r' => (a.isIo' == b.isIo') && fits r r'
  | _, _ => false
def mCallWith (fn : Fn) (hs : List Hd) : M Rt := fun ss => match argsS ss hs with
  | none => .no
  | some as => if (lent ss hs).Nodup then match fn as with
      | .no => .no
      | .ok r as' => if fits as as' = true then .ok r (backS ss hs as') else .no
      | .ex e as' => if fits as as' = true then .ex e (backS ss hs as') else .no
    else .no
section
variable {N : En} {F F' : Hp} {fx : Fx} {ss : List Sl} {σ : St} {H H' : Hp}
theorem backS_length : ∀ (hs : List Hd) (as : List Sl), (backS ss hs as).length = ss.length
  | [], _ => rfl
  | _ :: _, [] => by simp [backS]
  | .val _ :: hs, a :: as => by
    show (backS ss hs as).length = _
    exact backS_length hs as
  | .slot i :: hs, .io u :: as => by
    show ((backS ss hs as).set i _).length = _
    rw [List.length_set]
    exact backS_length hs as
  | .slot i :: hs, .no :: as => backS_length hs as
  | .slot i :: hs, .fz u :: as => backS_length hs as
  | .slot i :: hs, .ow u :: as => backS_length hs as
/-- a slot that is not lent stays -/
theorem backS_other : ∀ (hs : List Hd) (as as0 : List Sl) (k : Nat), argsS ss hs = some as0 → (∀ (j : Nat) (u : U), as[j]? = some (.io u) → ∃ u0, as0[j]? = some (.io u0)) → k ∉ lent ss hs → (backS ss hs as)[k]? = ss[k]?
  | [], _, _, _, _, _, _ => rfl
  | _ :: _, [], _, _, _, _, _ => by simp [backS]
  | .val v :: hs, a :: as, as0, k, h0, h1, h2 => by
    unfold argsS at h0
    simp only [argS, Option.bind_some] at h0
    cases q : argsS ss hs with
    | none => rw [q] at h0; cases h0
    | some r0 =>
      rw [q] at h0
      cases h0
      exact backS_other hs as r0 k q (fun j u hj => h1 (j + 1) u hj) h2
  | .slot i :: hs, a :: as, as0, k, h0, h1, h2 => by
    unfold argsS at h0
    cases q0 : argS ss (.slot i) with
    | none => rw [q0] at h0; cases h0
    | some s0 =>
      rw [q0] at h0
      simp only [Option.bind_some] at h0
      cases q : argsS ss hs with
      | none => rw [q] at h0; cases h0
      | some r0 =>
        rw [q] at h0
        cases h0
        have sub : k ∉ lent ss hs := fun z => h2 (by
          unfold lent
          cases qi : ss[i]? with
          | none => exact z
          | some t => cases t <;> first | exact z | exact List.mem_cons_of_mem _ z)
        have ih := backS_other hs as r0 k q (fun j u hj => h1 (j + 1) u hj) sub
        cases a with
        | no => exact ih
        | fz u => exact ih
        | ow u => exact ih
        | io u =>
          obtain ⟨u0, e0⟩ := h1 0 u rfl
          simp at e0
          subst e0
          have ki : i ≠ k := fun z => by
            subst z
            apply h2
            unfold lent
            rw [argS_slot] at q0
            cases qi : ss[i]? with
            | none => rw [qi] at q0; cases q0
            | some t =>
              rw [qi] at q0
              cases t <;> first | exact List.mem_cons_self | cases q0
          show ((backS ss hs as).set i _)[k]? = _
          rw [List.getElem?_set_ne ki]
          exact ih
/-- a slot that is lent -/
theorem backS_lent : ∀ (hs : List Hd) (as as0 : List Sl) (k : Nat), argsS ss hs = some as0 → as.length = as0.length → (∀ (j : Nat) (u : U), as[j]? = some (.io u) → ∃ u0, as0[j]? = some (.io u0)) → (lent ss hs).Nodup → k ∈ lent ss hs →
    ∃ (j : Nat) (u0 : U), hs[j]? = some (.slot k) ∧ as0[j]? = some (.io u0) ∧ (ss[k]? = some (.ow u0) ∨ ss[k]? = some (.io u0)) ∧ ∀ u, as[j]? = some (.io u) → (backS ss hs as)[k]? = some (reown (ss.getD k .no) u)
  | [], _, _, _, _, _, _, _, h => by cases h
  | .val v :: hs, as, as0, k, h0, hl, h1, nd, h2 => by
    unfold argsS at h0
    simp only [argS, Option.bind_some] at h0
    cases q : argsS ss hs with
    | none => rw [q] at h0; cases h0
    | some r0 =>
      rw [q] at h0
      cases h0
      cases as with
      | nil => simp at hl
      | cons a as =>
        obtain ⟨j, u0, p1, p2, p3, p4⟩ := backS_lent hs as r0 k q (by simpa using hl) (fun j u hj => h1 (j + 1) u hj) nd h2
        exact ⟨j + 1, u0, by simpa using p1, by simpa using p2, p3, fun u hu => p4 u (by simpa using hu)⟩
  | .slot i :: hs, as, as0, k, h0, hl, h1, nd, h2 => by
    unfold argsS at h0
    cases q0 : argS ss (.slot i) with
    | none => rw [q0] at h0; cases h0
    | some s0 =>
      rw [q0] at h0
      simp only [Option.bind_some] at h0
      cases q : argsS ss hs with
      | none => rw [q] at h0; cases h0
      | some r0 =>
        rw [q] at h0
        cases h0
        cases as with
        | nil => simp at hl
        | cons a as =>
          have rec_ : (lent ss hs).Nodup → k ∈ lent ss hs → (∀ u, a = .io u → i ≠ k) → ∃ (j : Nat) (u0 : U), (Hd.slot i :: hs)[j]? = some (.slot k) ∧ (s0 :: r0)[j]? = some (.io u0) ∧ (ss[k]? = some (.ow u0) ∨ ss[k]? = some (.io u0)) ∧ ∀ u, (a :: as)[j]? = some (.io u) → (backS ss (.slot i :: hs) (a :: as))[k]? = some (reown (ss.getD k .no) u) := fun nd' hm ne => by
            obtain ⟨j, u0, p1, p2, p3, p4⟩ := backS_lent hs as r0 k q (by simpa using hl) (fun j u hj => h1 (j + 1) u hj) nd' hm
            refine ⟨j + 1, u0, by simpa using p1, by simpa using p2, p3, fun u hu => ?_⟩
            have := p4 u (by simpa using hu)
            cases a with
            | no => exact this
            | fz _ => exact this
            | ow _ => exact this
            | io u' =>
              show ((backS ss hs as).set i _)[k]? = _
              rw [List.getElem?_set_ne (ne u' rfl)]
              exact this
          have own : ∀ u0, (ss[i]? = some (.ow u0) ∨ ss[i]? = some (.io u0)) → s0 = .io u0 → lent ss (.slot i :: hs) = i :: lent ss hs → ∃ (j : Nat) (u0 : U), (Hd.slot i :: hs)[j]? = some (.slot k) ∧ (s0 :: r0)[j]? = some (.io u0) ∧ (ss[k]? = some (.ow u0) ∨ ss[k]? = some (.io u0)) ∧ ∀ u, (a :: as)[j]? = some (.io u) → (backS ss (.slot i :: hs) (a :: as))[k]? = some (reown (ss.getD k .no) u) := fun u0 hu hs0 hlent => by
            rw [hlent] at nd h2
            obtain ⟨n1, n2⟩ := List.nodup_cons.mp nd
            by_cases z : i = k
            · subst z
              refine ⟨0, u0, rfl, by simp [hs0], hu, fun u hu' => ?_⟩
              simp at hu'
              subst hu'
              show ((backS ss hs as).set i _)[i]? = _
              rw [List.getElem?_set_self (by rw [backS_length]; rcases hu with z | z <;> exact (List.getElem?_eq_some_iff.mp z).1)]
            · rcases List.mem_cons.mp h2 with z' | z'
              · exact absurd z'.symm z
              · exact rec_ n2 z' fun _ _ => z
          rw [argS_slot] at q0
          cases qi : ss[i]? with
          | none => rw [qi] at q0; cases q0
          | some t =>
            rw [qi] at q0
            cases t with
            | no => cases q0
            | fz u =>
              have hlent : lent ss (.slot i :: hs) = lent ss hs := by
                show (match ss[i]? with | some (.ow _) => i :: lent ss hs | some (.io _) => i :: lent ss hs | _ => lent ss hs) = _
                rw [qi]
              rw [hlent] at nd h2
              refine rec_ nd h2 fun u' ha => ?_
              cases q0
              subst ha
              obtain ⟨u0, e0⟩ := h1 0 u' rfl
              simp at e0
            | ow u =>
              cases q0
              exact own u (.inl qi) rfl (by
                show (match ss[i]? with | some (.ow _) => i :: lent ss hs | some (.io _) => i :: lent ss hs | _ => lent ss hs) = _
                rw [qi])
            | io u =>
              cases q0
              exact own u (.inr qi) rfl (by
                show (match ss[i]? with | some (.ow _) => i :: lent ss hs | some (.io _) => i :: lent ss hs | _ => lent ss hs) = _
                rw [qi])
end
end
end Dl

set_option Elab.async false
set_option linter.all false
set_option maxRecDepth 100000
set_option maxHeartbeats 4000000
namespace Dl
open PySem L2
section
variable {N : En} {F F' : Hp} {fx : Fx} {ss : List Sl} {σ : St} {H H' : Hp}
theorem fits_get : ∀ {as as' : List Sl}, fits as as' = true → as'.length = as.length ∧ ∀ (j : Nat) (u : U), as'[j]? = some (.io u) → ∃ u0, as[j]? = some (.io u0)
  | [], [], _ => ⟨rfl, fun j u h => by simp at h⟩
  | [], _ :: _, h => by cases h
  | _ :: _, [], h => by cases h
  | a :: r, b :: r', h => by
    unfold fits at h
    rw [Bool.and_eq_true] at h
    obtain ⟨h1, h2⟩ := fits_get h.2
    refine ⟨by simp [h1], fun j u hj => ?_⟩
    cases j with
    | zero =>
      simp at hj
      subst hj
      have e := h.1
      cases a <;> first | exact ⟨_, rfl⟩ | cases e
    | succ j => exact h2 j u (by simpa using hj)
theorem fits_get' : ∀ {as as' : List Sl}, fits as as' = true → ∀ (j : Nat) (u : U), as[j]? = some (.io u) → ∃ u0, as'[j]? = some (.io u0)
  | [], [], _, j, u, h => by simp at h
  | [], _ :: _, h, _, _, _ => by cases h
  | _ :: _, [], h, _, _, _ => by cases h
  | a :: r, b :: r', h, j, u, hj => by
    unfold fits at h
    rw [Bool.and_eq_true] at h
    cases j with
    | zero =>
      simp at hj
      subst hj
      have e := h.1
      cases b <;> first | exact ⟨_, rfl⟩ | cases e
    | succ j =>
      obtain ⟨u0, q⟩ := fits_get' h.2 j u (by simpa using hj)
      exact ⟨u0, by simpa using q⟩
theorem args_get : ∀ {hs : List Hd} {as : List Sl} {vs : List V}, argsS ss hs = some as → HRels N F σ hs vs → as.length = vs.length ∧ ∀ (j : Nat) (s : Sl), as[j]? = some s → ∃ h v, hs[j]? = some h ∧ vs[j]? = some v ∧ argS ss h = some s ∧ HRel N F σ h v
  | [], as, vs, h, r => by
    cases h
    cases r
    exact ⟨rfl, fun j s h => by simp at h⟩
  | h :: hs, as, vs, h0, ⟨v, r, e, h1, h2⟩ => by
    unfold argsS at h0
    cases q0 : argS ss h with
    | none => rw [q0] at h0; cases h0
    | some s0 =>
      rw [q0] at h0
      simp only [Option.bind_some] at h0
      cases q : argsS ss hs with
      | none => rw [q] at h0; cases h0
      | some r0 =>
        rw [q] at h0
        cases h0
        obtain ⟨g1, g2⟩ := args_get q h2
        subst e
        refine ⟨by simp [g1], fun j s hj => ?_⟩
        cases j with
        | zero => simp at hj; subst hj; exact ⟨h, v, rfl, rfl, q0, h1⟩
        | succ j => exact g2 j s (by simpa using hj)
theorem args_io {h : Hd} {u : U} (e : argS ss h = some (.io u)) : ∃ k, h = .slot k ∧ (ss[k]? = some (.ow u) ∨ ss[k]? = some (.io u)) := by
  cases h with
  | val v => cases e
  | slot k =>
    rw [argS_slot] at e
    cases q : ss[k]? with
    | none => rw [q] at e; cases e
    | some t =>
      rw [q] at e
      cases t with
      | no => cases e
      | fz _ => cases e
      | ow w => cases e; exact ⟨k, rfl, .inl q⟩
      | io w => cases e; exact ⟨k, rfl, .inr q⟩
theorem lent_mem : ∀ {hs : List Hd} {j k : Nat} {u : U}, hs[j]? = some (.slot k) → (ss[k]? = some (.ow u) ∨ ss[k]? = some (.io u)) → k ∈ lent ss hs
  | [], j, k, u, h, _ => by simp at h
  | h :: hs, 0, k, u, e, o => by
    simp at e
    subst e
    unfold lent
    rcases o with o | o <;> (rw [o]; exact List.mem_cons_self)
  | .val v :: hs, j + 1, k, u, e, o => lent_mem (hs := hs) (j := j) (by simpa using e) o
  | .slot i :: hs, j + 1, k, u, e, o => by
    have ih := lent_mem (hs := hs) (j := j) (by simpa using e) o
    unfold lent
    cases q : ss[i]? with
    | none => exact ih
    | some t => cases t <;> first | exact ih | exact List.mem_cons_of_mem _ ih
theorem lent_dup : ∀ {hs : List Hd} {i j k : Nat} {u : U}, i < j → hs[i]? = some (.slot k) → hs[j]? = some (.slot k) → (ss[k]? = some (.ow u) ∨ ss[k]? = some (.io u)) → ¬ (lent ss hs).Nodup
  | [], i, j, k, u, _, h, _, _ => by simp at h
  | h :: hs, 0, j + 1, k, u, _, e, e', o => fun nd => by
    simp at e
    subst e
    have hl : lent ss (.slot k :: hs) = k :: lent ss hs := by
      show (match ss[k]? with | some (.ow _) => k :: lent ss hs | some (.io _) => k :: lent ss hs | _ => lent ss hs) = _
      rcases o with o | o <;> rw [o]
    rw [hl] at nd
    exact (List.nodup_cons.mp nd).1 (lent_mem (j := j) (by simpa using e') o)
  | .val v :: hs, i + 1, j + 1, k, u, l, e, e', o => lent_dup (hs := hs) (i := i) (j := j) (by omega) (by simpa using e) (by simpa using e') o
  | .slot n :: hs, i + 1, j + 1, k, u, l, e, e', o => fun nd => by
    have ih := lent_dup (hs := hs) (i := i) (j := j) (by omega) (by simpa using e) (by simpa using e') o
    apply ih
    unfold lent at nd
    cases q : ss[n]? with
    | none => rw [q] at nd; exact nd
    | some t =>
      rw [q] at nd
      cases t <;> first | exact nd | exact (List.nodup_cons.mp nd).2
  | _ :: _, 0, 0, _, _, l, _, _, _ => by omega
  | _ :: _, _ + 1, 0, _, _, l, _, _, _ => by omega

/-! ### the frame of a call -/
def Lent (ss : List Sl) (σ : St) (hs : List Hd) (a : Addr) : Prop := ∃ k, k ∈ lent ss hs ∧ σ[k]? = some (some (.ref a))
def Fp (F : Hp) (fx : Fx) (ss : List Sl) (σ : St) (H : Hp) (hs : List Hd) (b : Addr) : Prop := Lent ss σ hs b ∨ ∃ a, Lent ss σ hs a ∧ H b = some (.own a) ∧ Mine F fx b
open Classical in
noncomputable def fxC (F : Hp) (fx : Fx) (ss : List Sl) (σ : St) (H : Hp) (hs : List Hd) (vs : List V) : Fx where
  R := fun b => if Fp F fx ss σ H hs b then none else H b
  Z := fun b => F b = none ∧ ¬ Fp F fx ss σ H hs b ∧ H b ≠ none
  B := fun j => match vs[j]? with
    | some (.ref a) => a
    | _ => 0
theorem lent_own : ∀ {hs : List Hd} {k : Nat}, k ∈ lent ss hs → ∃ u, ss[k]? = some (.ow u) ∨ ss[k]? = some (.io u)
  | .val _ :: hs, k, h => lent_own (hs := hs) h
  | .slot i :: hs, k, h => by
    unfold lent at h
    cases q : ss[i]? with
    | none => rw [q] at h; exact lent_own (hs := hs) h
    | some t =>
      rw [q] at h
      cases t with
      | no => exact lent_own (hs := hs) h
      | fz u => exact lent_own (hs := hs) h
      | ow u =>
        rcases List.mem_cons.mp h with e | h
        · subst e; exact ⟨u, .inl q⟩
        · exact lent_own (hs := hs) h
      | io u =>
        rcases List.mem_cons.mp h with e | h
        · subst e; exact ⟨u, .inr q⟩
        · exact lent_own (hs := hs) h
theorem SRel.slotOwn {k : Nat} {u : U} {a : Addr} (S : SRel N F fx ss σ H) (h : ss[k]? = some (.ow u) ∨ ss[k]? = some (.io u)) (e : σ[k]? = some (some (.ref a))) : OwnAt N F fx H u a := by
  rcases h with h | h
  · obtain ⟨b, q, o⟩ := S.sl k _ _ h e; cases q; exact o
  · obtain ⟨b, q, o, _⟩ := S.sl k _ _ h e; cases q; exact o
theorem SRel.slotAddr {k : Nat} {u : U} (S : SRel N F fx ss σ H) (h : ss[k]? = some (.ow u) ∨ ss[k]? = some (.io u)) : ∃ a, σ[k]? = some (some (.ref a)) := by
  have hi : k < ss.length := by rcases h with h | h <;> exact (List.getElem?_eq_some_iff.mp h).1
  have hσ : σ[k]? = some (σ[k]'(by rw [← S.len]; exact hi)) := List.getElem?_eq_getElem _
  rcases h with h | h
  · obtain ⟨b, q, _⟩ := S.sl k _ _ h hσ; rw [q] at hσ; exact ⟨b, hσ⟩
  · obtain ⟨b, q, _⟩ := S.sl k _ _ h hσ; rw [q] at hσ; exact ⟨b, hσ⟩
theorem Fp.mine {hs : List Hd} {b : Addr} (S : SRel N F fx ss σ H) (h : Fp F fx ss σ H hs b) : Mine F fx b ∧ H b ≠ none := by
  rcases h with ⟨k, h1, h2⟩ | ⟨a, _, h2, h3⟩
  · obtain ⟨u, hu⟩ := lent_own h1
    have o := S.slotOwn hu h2
    exact ⟨o.mine, o.there⟩
  · exact ⟨h3, ne_none_some h2⟩
/-- what is one's own is no dict of an instance -/
theorem OwnAt.noOwn {u : U} {a b : Addr} (o : OwnAt N F fx H u a) (h : H a = some (.own b)) : False := by
  cases u with
  | c v => exact o
  | nd t xs =>
    obtain ⟨_, vs, hO, _⟩ := o
    cases t with
    | tup => exact hO
    | sq => exact hO
    | ab _ => exact hO
    | lst => rw [show H a = _ from hO] at h; cases h
    | dK ks => rw [hO.2] at h; cases h
    | dT ks => rw [hO.2] at h; cases h
    | ins c ns => obtain ⟨_, _, h2, _⟩ := hO; rw [h2] at h; cases h
/-- the callee's view -/
theorem SRel.enter {hs : List Hd} {as : List Sl} {vs : List V} (S : SRel N F fx ss σ H) (ha : argsS ss hs = some as) (hr : HRels N F σ hs vs) (nd : (lent ss hs).Nodup) :
    SRel N F (fxC F fx ss σ H hs vs) as (vs.map some) H ∧ ∀ s ∈ as, s.arg = true := by
  obtain ⟨hl, hg⟩ := args_get ha hr
  have arg : ∀ s ∈ as, s.arg = true := fun s hs' => by
    obtain ⟨j, hj⟩ := List.getElem?_of_mem hs'
    obtain ⟨h, v, _, _, q, _⟩ := hg j s hj
    cases h with
    | val u => cases q; rfl
    | slot k =>
      rw [argS_slot] at q
      cases q2 : ss[k]? with
      | none => rw [q2] at q; cases q
      | some t =>
        rw [q2] at q
        cases t <;> first | (cases q; rfl) | cases q
  refine ⟨⟨S.fh, fun b o e => ?_, fun a ha z => ha z.1, fun a z => z.2.2, by simp [hl], fun j s o h1 h2 => ?_, fun i j s1 s2 a hij h1 h2 o1 o2 e1 e2 => ?_⟩, arg⟩
  · dsimp only [fxC] at e
    split at e
    · cases e
    · exact e
  · obtain ⟨h, v, p1, p2, p3, p4⟩ := hg j s h1
    rw [List.getElem?_map, p2] at h2
    cases h2
    cases s with
    | no => trivial
    | ow u => exact absurd (arg _ (List.mem_of_getElem? h1)) (by simp [Sl.arg])
    | fz u =>
      refine ⟨v, rfl, ?_⟩
      cases h with
      | val w => cases p3; exact p4
      | slot k =>
        rw [argS_slot] at p3
        cases q2 : ss[k]? with
        | none => rw [q2] at p3; cases p3
        | some t =>
          rw [q2] at p3
          cases t <;> first | (cases p3; done) | skip
          cases p3
          obtain ⟨w, e, r⟩ := S.sl k _ _ q2 p4
          cases e
          exact r
    | io u =>
      obtain ⟨k, rfl, hk⟩ := args_io p3
      obtain ⟨a, hσ⟩ := S.slotAddr hk
      have e : v = .ref a := by
        have p4' : σ[k]? = some (some v) := p4
        rw [hσ] at p4'; cases p4'; rfl
      subst e
      have lm := lent_mem p1 hk
      have la : Lent ss σ hs a := ⟨k, lm, hσ⟩
      have own := S.slotOwn hk hσ
      have mm : ∀ b, Fp F fx ss σ H hs b → Mine F (fxC F fx ss σ H hs vs) b := fun b fb => ⟨(fb.mine S).1.1, by dsimp only [fxC]; rw [if_pos fb], fun z => z.2.1 fb⟩
      refine ⟨a, rfl, ?_, by dsimp only [fxC]; rw [p2]⟩
      cases u with
      | c w => exact own.elim
      | nd t xs =>
        obtain ⟨m, ws, hO, r⟩ := own
        refine ⟨mm a (.inl la), ws, ?_, r⟩
        cases t with
        | tup => exact hO
        | sq => exact hO
        | ab _ => exact hO
        | lst => exact hO
        | dK ks => exact hO
        | dT ks => exact hO
        | ins c ns =>
          obtain ⟨g1, dx, g2, g3, g4⟩ := hO
          exact ⟨g1, dx, g2, g3, mm dx (.inr ⟨a, la, g3, g4⟩)⟩
  · obtain ⟨x1, v1, p1, p2, p3, p4⟩ := hg i s1 h1
    obtain ⟨x2, v2, q1, q2, q3, q4⟩ := hg j s2 h2
    have a1 := arg _ (List.mem_of_getElem? h1)
    have a2 := arg _ (List.mem_of_getElem? h2)
    cases s1 with
    | no => cases o1
    | fz u => cases o1
    | ow u => cases a1
    | io u1 =>
      cases s2 with
      | no => cases o2
      | fz u => cases o2
      | ow u => cases a2
      | io u2 =>
        obtain ⟨k1, rfl, hk1⟩ := args_io p3
        obtain ⟨k2, rfl, hk2⟩ := args_io q3
        rw [List.getElem?_map, p2] at e1
        rw [List.getElem?_map, q2] at e2
        cases e1; cases e2
        by_cases hk : k1 = k2
        · subst hk
          rcases Nat.lt_or_ge i j with l | l
          · exact lent_dup l p1 q1 hk1 nd
          · exact lent_dup (by omega) q1 p1 hk1 nd
        · have w1 : ∃ s, ss[k1]? = some s ∧ s.owns = true := by rcases hk1 with z | z <;> exact ⟨_, z, rfl⟩
          have w2 : ∃ s, ss[k2]? = some s ∧ s.owns = true := by rcases hk2 with z | z <;> exact ⟨_, z, rfl⟩
          obtain ⟨t1, z1, y1⟩ := w1
          obtain ⟨t2, z2, y2⟩ := w2
          exact S.dj k1 k2 t1 t2 a hk z1 z2 y1 y2 p4 q4
/-- back in the caller -/
theorem SRel.leave {hs : List Hd} {as as' : List Sl} {vs : List V} (S : SRel N F fx ss σ H) (ha : argsS ss hs = some as) (hr : HRels N F σ hs vs) (nd : (lent ss hs).Nodup) (e : Ext N F F') (hf : fits as as' = true)
    (S' : SRel N F' (fxC F fx ss σ H hs vs) as' (vs.map some) H') : SRel N F' fx (backS ss hs as') σ H' := by
  obtain ⟨hl, hg⟩ := args_get ha hr
  obtain ⟨fl, fg⟩ := fits_get hf
  have keep : ∀ b o, ¬ Fp F fx ss σ H hs b → H b = some o → H' b = some o := fun b o nf q => S'.rh b o (by dsimp only [fxC]; rw [if_neg nf]; exact q)
  have nofp : ∀ b, fx.Z b → ¬ Fp F fx ss σ H hs b := fun b z f => (f.mine S).1.2.2 z
  have frz' : ∀ b, F b = none → ¬ Fp F fx ss σ H hs b → H b ≠ none → F' b = none := fun b h1 h2 h3 => by
    cases q : F' b with
    | none => rfl
    | some o => exact absurd ⟨h1, h2, h3⟩ (S'.fz b (ne_none_some q))
  -- a slot's own thing that is not lent
  have apart : ∀ {k : Nat} {u : U} {b : Addr}, (ss[k]? = some (.ow u) ∨ ss[k]? = some (.io u)) → σ[k]? = some (some (.ref b)) → k ∉ lent ss hs → ¬ Fp F fx ss σ H hs b := fun {k u b} hk hσ nl f => by
    have own := S.slotOwn hk hσ
    rcases f with ⟨j, h1, h2⟩ | ⟨a, _, h2, _⟩
    · have hkj : k ≠ j := fun z => nl (z ▸ h1)
      obtain ⟨u', hu'⟩ := lent_own h1
      have w1 : ∃ s, ss[k]? = some s ∧ s.owns = true := by rcases hk with z | z <;> exact ⟨_, z, rfl⟩
      have w2 : ∃ s, ss[j]? = some s ∧ s.owns = true := by rcases hu' with z | z <;> exact ⟨_, z, rfl⟩
      obtain ⟨t1, z1, y1⟩ := w1
      obtain ⟨t2, z2, y2⟩ := w2
      exact S.dj k j t1 t2 b hkj z1 z2 y1 y2 hσ h2
    · exact own.noOwn h2
  have stay : ∀ {k : Nat} {u : U} {b : Addr}, (ss[k]? = some (.ow u) ∨ ss[k]? = some (.io u)) → σ[k]? = some (some (.ref b)) → k ∉ lent ss hs → OwnAt N F' fx H' u b := fun {k u b} hk hσ nl => by
    have own := S.slotOwn hk hσ
    have na := apart hk hσ nl
    have mi := own.mine
    have mv : ∀ c, Mine F fx c → ¬ Fp F fx ss σ H hs c → H c ≠ none → Mine F' fx c := fun c m n h => ⟨frz' c m.1 n h, m.2.1, m.2.2⟩
    cases u with
    | c w => exact own.elim
    | nd t xs =>
      obtain ⟨m, ws, hO, r⟩ := own
      have hb := hO.there
      refine ⟨mv b m na hb, ws, ?_, e.reps r⟩
      cases t with
      | tup => exact hO
      | sq => exact hO
      | ab _ => exact hO
      | lst => exact keep b _ na hO
      | dK ks => exact ⟨hO.1, keep b _ na hO.2⟩
      | dT ks => exact ⟨hO.1, keep b _ na hO.2⟩
      | ins c ns =>
        obtain ⟨g1, dx, g2, g3, g4⟩ := hO
        have nd' : ¬ Fp F fx ss σ H hs dx := fun f => by
          rcases f with ⟨j, h1, h2⟩ | ⟨a, ⟨j, h1, h2⟩, h3, _⟩
          · obtain ⟨u', hu'⟩ := lent_own h1
            exact (S.slotOwn hu' h2).noOwn g3
          · rw [g3] at h3
            have z := HO.own.inj (Option.some.inj h3)
            subst z
            exact na (.inl ⟨j, h1, h2⟩)
        exact ⟨g1, dx, keep b _ na g2, keep dx _ nd' g3, mv dx g4 nd' (ne_none_some g3)⟩
  -- what was lent
  have lentS : ∀ {k : Nat}, k ∈ lent ss hs → ∃ (u u0 : U) (b : Addr), (ss[k]? = some (.ow u0) ∨ ss[k]? = some (.io u0)) ∧ (backS ss hs as')[k]? = some (reown (ss.getD k .no) u) ∧ σ[k]? = some (some (.ref b)) ∧ OwnAt N F' fx H' u b := fun {k} hk => by
    obtain ⟨j, u0, p1, p2, p3, p4⟩ := backS_lent hs as' as k ha fl fg nd hk
    obtain ⟨u, hu⟩ := fits_get' hf j u0 p2
    obtain ⟨h, v, q1, q2, q3, q4⟩ := hg j _ p2
    rw [p1] at q1
    cases q1
    obtain ⟨b, hσ⟩ := S.slotAddr p3
    have ev : v = .ref b := by
      have q4' : σ[k]? = some (some v) := q4
      rw [hσ] at q4'; cases q4'; rfl
    subst ev
    obtain ⟨b', f1, f2, f3⟩ := S'.sl j _ (some (.ref b)) hu (by rw [List.getElem?_map, q2]; rfl)
    cases f1
    have own0 := S.slotOwn p3 hσ
    have mi := own0.mine
    refine ⟨u, u0, b, p3, p4 u hu, hσ, ?_⟩
    cases u with
    | c w => exact f2.elim
    | nd t xs =>
      obtain ⟨m, ws, hO, r⟩ := f2
      refine ⟨⟨m.1, mi.2.1, mi.2.2⟩, ws, ?_, r⟩
      cases t with
      | tup => exact hO
      | sq => exact hO
      | ab _ => exact hO
      | lst => exact hO
      | dK ks => exact hO
      | dT ks => exact hO
      | ins c ns =>
        obtain ⟨g1, dx, g2, g3, g4⟩ := hO
        refine ⟨g1, dx, g2, g3, g4.1, ?_⟩
        have rd : (fxC F fx ss σ H hs vs).R dx = none := g4.2.1
        dsimp only [fxC] at rd
        by_cases fd : Fp F fx ss σ H hs dx
        · exact (fd.mine S).1.2
        · rw [if_neg fd] at rd
          exact ⟨S.rh.free rd, fun z => S.zh dx z rd⟩
  have kind : ∀ (k : Nat) (s : Sl), (backS ss hs as')[k]? = some s → k ∈ lent ss hs ∨ (k ∉ lent ss hs ∧ ss[k]? = some s) := fun k s hk => by
    by_cases z : k ∈ lent ss hs
    · exact .inl z
    · exact .inr ⟨z, by rw [← backS_other hs as' as k ha fg z]; exact hk⟩
  refine ⟨S'.fh, fun b o q => keep b o (fun f => by have := (f.mine S).1.2.1; rw [q] at this; cases this) (S.rh b o q), fun a ha' z => ?_, fun a z => ?_, by rw [backS_length]; exact S.len, fun k s o h1 h2 => ?_, fun i j s1 s2 a hij h1 h2 o1 o2 e1 e2 => ?_⟩
  · have hz := S.zh a z
    have fa : F a = none := by
      cases q : F a with
      | none => rfl
      | some o => exact absurd z (S.fz a (ne_none_some q))
    exact ha' (frz' a fa (nofp a z) hz)
  · cases q : H a with
    | none => exact absurd q (S.zh a z)
    | some o => exact ne_none_some (keep a o (nofp a z) q)
  · rcases kind k s h1 with hk | ⟨nk, h1'⟩
    · obtain ⟨u, u0, b, hu, hb, hσ, own⟩ := lentS hk
      rw [hb] at h1
      cases h1
      rw [hσ] at h2
      cases h2
      rcases hu with hu | hu
      · rw [show ss.getD k .no = .ow u0 from by simp [List.getD, hu]]
        exact ⟨b, rfl, own⟩
      · rw [show ss.getD k .no = .io u0 from by simp [List.getD, hu]]
        obtain ⟨b', f1, _, f3⟩ := S.sl k _ _ hu hσ
        cases f1
        exact ⟨b, rfl, own, f3⟩
    · have q := S.sl k s o h1' h2
      cases s with
      | no => trivial
      | fz u => obtain ⟨v, q1, q2⟩ := q; exact ⟨v, q1, e.rep q2⟩
      | ow u => obtain ⟨b, q1, q2⟩ := q; subst q1; exact ⟨b, rfl, stay (.inl h1') h2 nk⟩
      | io u => obtain ⟨b, q1, q2, q3⟩ := q; subst q1; exact ⟨b, rfl, stay (.inr h1') h2 nk, q3⟩
  · have orig : ∀ (k : Nat) (s : Sl), (backS ss hs as')[k]? = some s → s.owns = true → ∃ t, ss[k]? = some t ∧ t.owns = true := fun k s hk ho => by
      rcases kind k s hk with z | ⟨_, z⟩
      · obtain ⟨u, hu⟩ := lent_own z
        rcases hu with z | z <;> exact ⟨_, z, rfl⟩
      · exact ⟨s, z, ho⟩
    obtain ⟨t1, z1, y1⟩ := orig i s1 h1 o1
    obtain ⟨t2, z2, y2⟩ := orig j s2 h2 o2
    exact S.dj i j t1 t2 a hij z1 z2 y1 y2 e1 e2
theorem SRel.leaveO {hs : List Hd} {as as' : List Sl} {vs : List V} {u : U} {r : Addr} (S : SRel N F fx ss σ H) (ha : argsS ss hs = some as) (hr : HRels N F σ hs vs) (nd : (lent ss hs).Nodup) (e : Ext N F F') (hf : fits as as' = true)
    (S' : SRel N F' (fxC F fx ss σ H hs vs) (as' ++ [.ow u]) (vs.map some ++ [some (.ref r)]) H') : SRel N F' fx (backS ss hs as' ++ [.ow u]) (σ ++ [some (.ref r)]) H' := by
  have S1 := S.leave ha hr nd e hf S'.less
  have own := S'.last
  obtain ⟨fl, fg⟩ := fits_get hf
  obtain ⟨hl, hg⟩ := args_get ha hr
  have mv : ∀ c, Mine F' (fxC F fx ss σ H hs vs) c → Mine F' fx c := fun c m => by
    refine ⟨m.1, ?_⟩
    have rd : (fxC F fx ss σ H hs vs).R c = none := m.2.1
    dsimp only [fxC] at rd
    by_cases fd : Fp F fx ss σ H hs c
    · exact (fd.mine S).1.2
    · rw [if_neg fd] at rd
      exact ⟨S.rh.free rd, fun z => S.zh c z rd⟩
  refine S1.snoc ⟨r, rfl, ?_⟩ fun _ k t b h1 o1 e1 e2 => ?_
  · cases u with
    | c w => exact own.elim
    | nd t xs =>
      obtain ⟨m, ws, hO, rr⟩ := own
      refine ⟨mv r m, ws, ?_, rr⟩
      cases t with
      | tup => exact hO
      | sq => exact hO
      | ab _ => exact hO
      | lst => exact hO
      | dK ks => exact hO
      | dT ks => exact hO
      | ins c ns =>
        obtain ⟨g1, dx, g2, g3, g4⟩ := hO
        exact ⟨g1, dx, g2, g3, mv dx g4⟩
  · cases e2
    by_cases hk : k ∈ lent ss hs
    · obtain ⟨j, u0, p1, p2, p3, p4⟩ := backS_lent hs as' as k ha fl fg nd hk
      obtain ⟨u', hu⟩ := fits_get' hf j u0 p2
      obtain ⟨h, v, q1, q2, q3, q4⟩ := hg j _ p2
      rw [p1] at q1
      cases q1
      have ev : v = .ref r := by
        have q4' : σ[k]? = some (some v) := q4
        rw [e1] at q4'; cases q4'; rfl
      subst ev
      have L : as'.length = (vs.map some).length := by have := S'.len; simp at this; simp; exact this
      have lj := (List.getElem?_eq_some_iff.mp hu).1
      refine S'.dj j as'.length (.io u') (.ow u) r (by omega) ?_ (by simp) rfl rfl ?_ ?_
      · rw [List.getElem?_append_left lj]; exact hu
      · rw [List.getElem?_append_left (by omega), List.getElem?_map, q2]; rfl
      · rw [L]; simp
    · have h1' : ss[k]? = some t := by rw [← backS_other hs as' as k ha fg hk]; exact h1
      obtain ⟨w, hw, _⟩ := S.ownThere h1' o1 e1
      have hk' : ss[k]? = some (.ow w) ∨ ss[k]? = some (.io w) := by rcases hw with z | z <;> rw [z] at h1' <;> simp [h1']
      have ow := S.slotOwn hk' e1
      -- r is not in the frame that the callee keeps
      have rd : (fxC F fx ss σ H hs vs).R r = none := own.mine.2.1
      dsimp only [fxC] at rd
      by_cases fd : Fp F fx ss σ H hs r
      · rcases fd with ⟨j, g1, g2⟩ | ⟨a, _, g2, _⟩
        · have hkj : k ≠ j := fun z => hk (z ▸ g1)
          obtain ⟨u', hu'⟩ := lent_own g1
          have w2 : ∃ s, ss[j]? = some s ∧ s.owns = true := by rcases hu' with z | z <;> exact ⟨_, z, rfl⟩
          obtain ⟨t2, z2, y2⟩ := w2
          exact S.dj k j t t2 r hkj h1' z2 o1 y2 e1 g2
        · exact ow.noOwn g2
      · rw [if_neg fd] at rd
        exact ow.there rd
end
end Dl

set_option Elab.async false
set_option linter.all false
set_option maxRecDepth 100000
set_option maxHeartbeats 4000000
namespace Dl
open PySem L2
section
variable {cl : Nat → Addr} {X : Cx} {W : WX} {e a b c : Expr} {pos : Pos}
/-! ### f(e, ..) -/
def mCallE (fn : Fn) (m : M (List Hd)) : M U := M.bind m fun hs => M.bind (mCallWith fn hs) fun r => match r with
  | .fz u => M.ret u
  | .ow u => M.ret u
def mCallO (fn : Fn) (m : M (List Hd)) : M U := M.bind m fun hs => M.bind (mCallWith fn hs) fun r => match r with
  | .ow u => M.ret u
  | .fz _ => M.fail
/-- a call's wish, from what is wanted behind it -/
theorem callWith_sp {N : En} {fn : Fn} {n : Nat} {F : Hp} {fx : Fx} {ss : List Sl} {σ : St} {H : Hp} {hs : List Hd} {vs : List V} {Q : VK} {E : XK} {f : Rt → M U} {Qg : Hp → List Sl → U → Hp → Prop} (hn : vs.length = n) (S : SRel N F fx ss σ H) (hr : HRels N F σ hs vs)
    (g : Good N W F fx σ Qg (M.bind (mCallWith fn hs) f ss))
    (kf : ∀ u F' ss' H' v, Ext N F F' → SRel N F' fx ss' σ H' → Good N W F' fx σ Qg (f (.fz u) ss') → Rep N F' u v → Q v H')
    (ko : ∀ u F' ss' H' r, Ext N F F' → SRel N F' fx (ss' ++ [.ow u]) (σ ++ [some (.ref r)]) H' → Good N W F' fx σ Qg (f (.ow u) ss') → Q (.ref r) H')
    (kx : ∀ cls d H', W cls d σ H' → E cls d H') : spF N n fn vs H Q E := by
  unfold M.bind mCallWith at g
  cases qa : argsS ss hs with
  | none => rw [qa] at g; exact g.elim
  | some as =>
    rw [qa] at g
    dsimp only at g
    by_cases nd : (lent ss hs).Nodup
    · rw [if_pos nd] at g
      obtain ⟨S1, ar⟩ := S.enter qa hr nd
      refine ⟨hn, F, fxC F fx ss σ H hs vs, as, S1, ar, ?_⟩
      cases qf : fn as with
      | no => rw [qf] at g; exact g.elim
      | ex x as' =>
        rw [qf] at g
        dsimp only at g
        by_cases hf : fits as as' = true
        · rw [if_pos hf] at g
          exact fun F' H' cls d e S' xr => kx cls d H' (g F' H' cls d e (S.leave qa hr nd e hf S') xr)
        · rw [if_neg hf] at g; exact g.elim
      | ok r as' =>
        rw [qf] at g
        dsimp only at g
        by_cases hf : fits as as' = true
        · rw [if_pos hf] at g
          cases r with
          | fz u => exact fun F' H' v e S' rv => kf u F' _ H' v e (S.leave qa hr nd e hf S') (g.ext e) rv
          | ow u => exact fun F' H' r e S' => ko u F' _ H' r e (S.leaveO qa hr nd e hf S') (g.ext e)
        · rw [if_neg hf] at g; exact g.elim
    · rw [if_neg nd] at g; exact g.elim
theorem runG {k : Nat} {f : Addr} {fd : FuncData} {ps : List Str} {sp : Sp} {pins : List (Addr × Obj)} {σ : St} {H : Hp} {s : Shared} {Q : VK} {us : List Value} {vs : List V} {E : St → XK} (G : FnG X.prog X.w X.K X.mg X.base k f fd ps sp) (room : Room k X.A) (gd : X.A.guards = some [])
    (bs : Binds X.K fd ps []) (ps' : PassesAt (L2.CX X.prog X.w) X σ (E σ)) (inv : Inv X pins σ H s) (rv : Vals vs us) (hsp : sp vs H Q (E σ)) : wpAny (model X.prog X.w) X.A (call (.ref f) us) (EP X pins σ Q) X.xe s := by
  have lu : us.length = ps.length := by rw [← rv.length]; exact G.len _ _ _ _ hsp
  have bd := bs s us inv.kIn (by rw [List.append_nil]; exact lu)
  rw [List.append_nil] at bd
  refine wpAny_call (codeAny_mono (G.go X.A X.stack s H ⟨us, []⟩ us vs Q (E σ) room gd inv.env0 bd rv hsp) fun res s2 hres => ?_)
  cases res with
  | error x => exact ps' pins H s x s2 inv hres
  | ok fl =>
    cases fl with
    | ret u => exact inv.after hres
    | next => exact hres.elim
    | brk => exact hres.elim
    | cont => exact hres.elim
theorem pe_callG {k : Nat} {f : Addr} {fd : FuncData} {ps : List Str} {sp : Sp} {E : St → XK} {x : Str} {p : Pos} {es : List Expr} {t : TA} (G : FnG X.prog X.w X.K X.mg X.base k f fd ps sp) (room : Room k X.A) (gd : X.A.guards = some []) (hg : Gl X x) (hm : X.mg x = some (.ref f)) (hk : PySem.W.keepIn X.K (.ref f) = true)
    (bs : Binds X.K fd ps []) (hx : ∀ σ, PassesAt (L2.CX X.prog X.w) X σ (E σ)) (pa : PA X (e :: es) t) (hdb : (x == ("__debug__" : Str)) = false := by decide) (he : starEach (e :: es) X.env = (false, eval e X.env) :: starEach es X.env := by rfl)
    (hpl : (backTo pos (starEach es X.env)).any (·.1) = false := by rfl) : PE X (.Call (.Name x p) (e :: es) [] pos) (tCallS sp E t) :=
  ⟨fun pins s σ H Q inv h => wpAny_Call_Name_kw (ld_glob inv hg hm (PySem.W.callWith_K (h₀ := X.base) inv.ok.mod.kin hk (thn (pa.run pos pins s σ H _ inv h) fun us s1 hh => by
    obtain ⟨vs, H1, inv1, rv, q⟩ := hh
    exact ⟨inv1.kIn, runG G room gd bs (hx σ) inv1 rv q⟩) he hpl) hdb)⟩
theorem pe_callG0 {k : Nat} {f : Addr} {fd : FuncData} {ps : List Str} {sp : Sp} {E : St → XK} {x : Str} {p : Pos} (G : FnG X.prog X.w X.K X.mg X.base k f fd ps sp) (room : Room k X.A) (gd : X.A.guards = some []) (hg : Gl X x) (hm : X.mg x = some (.ref f)) (hk : PySem.W.keepIn X.K (.ref f) = true)
    (bs : Binds X.K fd ps []) (hx : ∀ σ, PassesAt (L2.CX X.prog X.w) X σ (E σ)) (hdb : (x == ("__debug__" : Str)) = false := by decide) : PE X (.Call (.Name x p) [] [] pos) (tCallS sp E tNil) :=
  ⟨fun pins s σ H Q inv h => wpAny_Call_Name_kw (ld_glob inv hg hm (PySem.W.callWith_K0 inv.kIn hk (runG (us := []) G room gd bs (hx σ) inv .nil h)) hdb)⟩
variable {k n : Nat} {f : Addr} {fd : FuncData} {ps : List Str} {fn : Fn} {x : Str} {p : Pos} {es : List Expr} {m : M (List Hd)}
theorem hrels_len {N : En} {F : Hp} {σ : St} : ∀ {hs : List Hd} {vs : List V}, HRels N F σ hs vs → vs.length = hs.length
  | [], _, r => by cases r; rfl
  | _ :: _, _, ⟨_, _, e, _, h⟩ => by subst e; simp [hrels_len h]
def mLen (n : Nat) (m : M (List Hd)) : M (List Hd) := M.bind m fun hs => if hs.length = n then M.ret hs else M.fail
theorem de_call (Fo : FnG X.prog X.w X.K X.mg X.base k f fd ps (spF (enX X cl) n fn)) (hr : Room k X.A) (hG : X.A.guards = some []) (hg : Gl X x) (hm : X.mg x = some (.ref f)) (hk : PySem.W.keepIn X.K (.ref f) = true) (hb : Binds X.K fd ps []) (tk : Takes X W) (ha : DA cl X W (e :: es) m)
    (hdb : (x == ("__debug__" : Str)) = false := by decide) (he : starEach (e :: es) X.env = (false, eval e X.env) :: starEach es X.env := by rfl) (hpl : (backTo pos (starEach es X.env)).any (·.1) = false := by rfl) :
    DE cl X W (.Call (.Name x p) (e :: es) [] pos) (mCallE fn (mLen n m)) :=
  PE.weak (pe_callG Fo hr hG hg hm hk hb (fun σ => passAt tk σ) ha hdb he hpl) fun σ H Q ⟨F, fx, ss, S, g⟩ => by
    refine ⟨F, fx, ss, S, g.bind.bind.mono fun F1 s1 hs H1 e1 S1 g1 vs rs => ?_⟩
    by_cases hl : hs.length = n
    · rw [if_pos hl] at g1
      refine callWith_sp (by rw [hrels_len rs]; exact hl) S1 rs (g1 F1 H1 Ext.refl S1) (fun u F2 s2 H2 v e2 S2 g2 r => g2 F2 H2 Ext.refl S2 v r) (fun u F2 s2 H2 r e2 S2 g2 => ?_) (fun cls d H' w => w)
      obtain ⟨F3, e3, S3, r3⟩ := S2.frozen
      exact g2 F3 H2 e3 S3 _ r3
    · rw [if_neg hl] at g1; exact g1.elim
theorem do_call (Fo : FnG X.prog X.w X.K X.mg X.base k f fd ps (spF (enX X cl) n fn)) (hr : Room k X.A) (hG : X.A.guards = some []) (hg : Gl X x) (hm : X.mg x = some (.ref f)) (hk : PySem.W.keepIn X.K (.ref f) = true) (hb : Binds X.K fd ps []) (tk : Takes X W) (ha : DA cl X W (e :: es) m)
    (hdb : (x == ("__debug__" : Str)) = false := by decide) (he : starEach (e :: es) X.env = (false, eval e X.env) :: starEach es X.env := by rfl) (hpl : (backTo pos (starEach es X.env)).any (·.1) = false := by rfl) :
    DO cl X W (.Call (.Name x p) (e :: es) [] pos) (mCallO fn (mLen n m)) :=
  PE.weak (pe_callG Fo hr hG hg hm hk hb (fun σ => passAt tk σ) ha hdb he hpl) fun σ H Q ⟨F, fx, ss, S, g⟩ => by
    refine ⟨F, fx, ss, S, g.bind.bind.mono fun F1 s1 hs H1 e1 S1 g1 vs rs => ?_⟩
    by_cases hl : hs.length = n
    · rw [if_pos hl] at g1
      exact callWith_sp (by rw [hrels_len rs]; exact hl) S1 rs (g1 F1 H1 Ext.refl S1) (fun u F2 s2 H2 v e2 S2 g2 r => g2.elim) (fun u F2 s2 H2 r e2 S2 g2 => g2 F2 H2 Ext.refl S2.less r S2) (fun cls d H' w => w)
    · rw [if_neg hl] at g1; exact g1.elim
theorem de_call0 (Fo : FnG X.prog X.w X.K X.mg X.base k f fd ps (spF (enX X cl) 0 fn)) (hr : Room k X.A) (hG : X.A.guards = some []) (hg : Gl X x) (hm : X.mg x = some (.ref f)) (hk : PySem.W.keepIn X.K (.ref f) = true) (hb : Binds X.K fd ps []) (tk : Takes X W)
    (hdb : (x == ("__debug__" : Str)) = false := by decide) : DE cl X W (.Call (.Name x p) [] [] pos) (mCallE fn (M.ret [])) :=
  PE.weak (pe_callG0 (E := WE W) Fo hr hG hg hm hk hb (fun σ => passAt tk σ) hdb) fun σ H Q ⟨F, fx, ss, S, g⟩ => by
    refine callWith_sp (hs := []) rfl S rfl g (fun u F2 s2 H2 v e2 S2 g2 r => g2 F2 H2 Ext.refl S2 v r) (fun u F2 s2 H2 r e2 S2 g2 => ?_) (fun cls d H' w => w)
    obtain ⟨F3, e3, S3, r3⟩ := S2.frozen
    exact g2 F3 H2 e3 S3 _ r3

/-! ### what is walked, whatever it is -/
theorem PI.or {tg : Expr} {t t' : TI} (h : PI X tg e t) (h' : PI X tg e t') : PI X tg e (fun σ H Q => t σ H Q ∨ t' σ H Q) := ⟨fun pins s σ H Q I q => by
  rcases q with q | q
  · exact h.run pins s σ H Q I q
  · exact h'.run pins s σ H Q I q⟩
theorem PE.or {t t' : TE} (h : PE X e t) (h' : PE X e t') : PE X e (fun σ H Q => t σ H Q ∨ t' σ H Q) := ⟨fun pins s σ H Q I q => by
  rcases q with q | q
  · exact h.run pins s σ H Q I q
  · exact h'.run pins s σ H Q I q⟩
theorem walks_str {N : En} {F : Hp} {x : Str} : Walks N F (Its x) (signsOf x) := fun fx F1 i ss σ H e S => by
  unfold signsOf
  refine ⟨fun u hu => ?_, fun hi => ?_⟩
  · rw [List.getElem?_map] at hu
    cases q : x.cps.toList[i]? with
    | none => rw [q] at hu; cases hu
    | some c =>
      rw [q] at hu
      cases hu
      have hc : x.cps[i]? = some c := by simpa using q
      refine ⟨?_, fun y H' hy => ⟨F1, Ext.refl, ?_, ?_⟩⟩
      · have := (Array.getElem?_eq_some_iff.mp hc).1
        first | exact this | exact ⟨c, hc⟩ | exact hc
      · rw [hy.1]; exact S
      · first
          | (have := hy.2; show y = _; simpa [hc] using this)
          | (obtain ⟨c', h1, h2⟩ := hy.2; rw [hc] at h1; cases h1; exact h2)
  · simp at hi
    first | exact Nat.le_of_eq hi.symm | (show x.cps.size ≤ i; omega) | (show x.cps[i]? = none; rw [hi]; simp)
theorem di_items {tg : Expr} {me : M U} (h : DE cl X W e me) (hl : ∀ {t : TE}, PE X e t → PI X tg e (iList X.K t)) (ht : ∀ {t : TE}, PE X e t → PI X tg e (iTup X.K t)) (hs : ∀ {t : TE}, PE X e t → PI X tg e (iStr t)) : DI cl X W tg e (mItems me) :=
  PI.weak (PI.or (PI.or (hl h) (ht h)) (hs h)) fun σ H R ⟨F, fx, ss, S, g⟩ => by
    have g0 := g.bind
    cases q : me ss with
    | no => rw [q] at g0; exact g0.elim
    | ex x s => rw [q] at g0; exact .inr ⟨F, fx, ss, S, by rw [q]; exact g0⟩
    | ok u s1 =>
      have sh : (∃ xs, u = .nd .lst xs ∨ u = .nd .sq xs) ∨ (∃ xs, u = .nd .tup xs) ∨ (∃ x, u = .c (.str x)) ∨ ∀ F' H', Ext (enX X cl) F F' → SRel (enX X cl) F' fx s1 σ H' → False := by
        cases u with
        | c v => cases v <;> first | exact .inr (.inr (.inl ⟨_, rfl⟩)) | exact .inr (.inr (.inr fun F' H' e S' => by rw [q] at g0; exact g0 F' H' e S'))
        | nd t xs => cases t <;> first | exact .inl ⟨_, .inl rfl⟩ | exact .inl ⟨_, .inr rfl⟩ | exact .inr (.inl ⟨_, rfl⟩) | exact .inr (.inr (.inr fun F' H' e S' => by rw [q] at g0; exact g0 F' H' e S'))
      rcases sh with ⟨xs, rfl | rfl⟩ | ⟨xs, rfl⟩ | ⟨x, rfl⟩ | no
      · refine .inl (.inl ⟨F, fx, ss, S, ?_⟩)
        rw [q] at g0 ⊢
        intro F' H' e S' v r
        obtain ⟨p, vs, rfl, hq, rs⟩ := r
        exact ⟨p, rfl, ⟨vs, SqL.of (S'.fh _ _ hq)⟩, g0 F' H' e S' F' H' Ext.refl S' _ (walks_lst (SqL.of hq) rs)⟩
      · refine .inl (.inl ⟨F, fx, ss, S, ?_⟩)
        rw [q] at g0 ⊢
        intro F' H' e S' v r
        obtain ⟨p, vs, rfl, hq, rs⟩ := r
        exact ⟨p, rfl, ⟨vs, S'.fh.seq hq⟩, g0 F' H' e S' F' H' Ext.refl S' _ (walks_lst hq rs)⟩
      · refine .inl (.inr ⟨F, fx, ss, S, ?_⟩)
        rw [q] at g0 ⊢
        intro F' H' e S' v r
        obtain ⟨p, vs, rfl, hq, rs⟩ := r
        exact ⟨p, rfl, ⟨vs, Holds.mono (N := enX X cl) (t := .tup) S'.fh hq⟩, g0 F' H' e S' F' H' Ext.refl S' _ (walks_tup hq rs)⟩
      · refine .inr ⟨F, fx, ss, S, ?_⟩
        rw [q] at g0 ⊢
        intro F' H' e S' v r
        exact ⟨x, r, g0 F' H' e S' F' H' Ext.refl S' _ walks_str⟩
      · refine .inr ⟨F, fx, ss, S, ?_⟩
        rw [q]
        intro F' H' e S' v r
        exact (no F' H' e S').elim
end
end Dl

set_option Elab.async false
set_option linter.all false
set_option maxRecDepth 100000
set_option maxHeartbeats 4000000
namespace Dl
open PySem L2
/-! ### a list under way: it stands in the frame -/
section
variable {N : En} {F F' : Hp} {fx fx' : Fx} {ss : List Sl} {σ : St} {H H' : Hp}
theorem OwnAt.frame (eF : ∀ b, Mine F fx b → H b ≠ none → Mine F' fx' b) (kp : ∀ b o, Mine F fx b → H b = some o → H' b = some o) (e : Ext N F F') {u : U} {a : Addr} (h : OwnAt N F fx H u a) : OwnAt N F' fx' H' u a := by
  cases u with
  | c v => exact h.elim
  | nd t xs =>
    obtain ⟨m, vs, h1, h2⟩ := h
    refine ⟨eF a m h1.there, vs, ?_, e.reps h2⟩
    cases t with
    | tup => exact h1
    | sq => exact h1
    | ab _ => exact h1
    | lst => exact kp _ _ m h1
    | dK ks => exact ⟨h1.1, kp _ _ m h1.2⟩
    | dT ks => exact ⟨h1.1, kp _ _ m h1.2⟩
    | ins c ns =>
      obtain ⟨g1, dx, g2, g3, g4⟩ := h1
      exact ⟨g1, dx, kp _ _ m g2, kp _ _ g4 g3, eF _ g4 (ne_none_some g3)⟩
theorem SRel.frame (S : SRel N F fx ss σ H) (e : Ext N F F') (hB : fx'.B = fx.B) (eF : ∀ b, Mine F fx b → H b ≠ none → Mine F' fx' b) (kp : ∀ b o, Mine F fx b → H b = some o → H' b = some o) (fh : Same F' H') (rh : Same fx'.R H') (fz : ∀ a, F' a ≠ none → ¬ fx'.Z a) (zh : ∀ a, fx'.Z a → H' a ≠ none) : SRel N F' fx' ss σ H' := by
  refine ⟨fh, rh, fz, zh, S.len, fun i s o h1 h2 => ?_, S.dj⟩
  have q := S.sl i s o h1 h2
  cases s with
  | no => trivial
  | fz u => obtain ⟨v, q1, q2⟩ := q; exact ⟨v, q1, e.rep q2⟩
  | ow u => obtain ⟨b, q1, q2⟩ := q; exact ⟨b, q1, q2.frame eF kp e⟩
  | io u => obtain ⟨b, q1, q2, q3⟩ := q; exact ⟨b, q1, q2.frame eF kp e, by rw [hB]; exact q3⟩
/-- the frame with a thing at D that is being made -/
def fxB (fx : Fx) (D : Addr) (o : HO) : Fx := { R := upd fx.R D o, Z := fun b => fx.Z b ∨ b = D, B := fx.B }
theorem SRel.hide {D : Addr} {o : HO} (S : SRel N F fx ss σ H) (h : H D = none) : SRel N F (fxB fx D o) ss σ (upd H D o) := by
  have fD : F D = none := S.fh.free h
  refine S.frame Ext.refl rfl (fun b m hb => ?_) (fun b u m hb => same_new h _ _ hb) (fun b u q => same_new h _ _ (S.fh _ _ q)) (same_upd2 S.rh) (fun a ha z => ?_) (fun a z => ?_)
  · have nb : b ≠ D := fun z => hb (z ▸ h)
    exact ⟨m.1, by show upd fx.R D o b = none; rw [upd_ne nb]; exact m.2.1, fun z => z.elim m.2.2 nb⟩
  · rcases z with z | z
    · exact S.fz a ha z
    · subst z; exact ha fD
  · rcases z with z | z
    · by_cases q : a = D
      · subst q; exact ne_none_some upd_same
      · rw [upd_ne q]; exact S.zh a z
    · subst z; exact ne_none_some upd_same
theorem SRel.hid {D : Addr} {o : HO} (S : SRel N F (fxB fx D o) ss σ H) : H D = some o := S.rh D o upd_same
theorem SRel.rehide {D : Addr} {o o' : HO} (S : SRel N F (fxB fx D o) ss σ H) : SRel N F (fxB fx D o') ss σ (upd H D o') := by
  have fD : F D = none := by
    cases q : F D with
    | none => rfl
    | some x => exact absurd (.inr rfl) (S.fz D (ne_none_some q))
  have ne : ∀ b, Mine F (fxB fx D o) b → b ≠ D := fun b m z => m.2.2 (.inr z)
  refine S.frame Ext.refl rfl (fun b m hb => ⟨m.1, ?_, m.2.2⟩) (fun b u m hb => by rw [upd_ne (ne b m)]; exact hb) (fun b u q => ?_) (fun b u q => ?_) (fun a ha z => S.fz a ha z) (fun a z => ?_)
  · have r : upd fx.R D o b = none := m.2.1
    show upd fx.R D o' b = none
    rw [upd_ne (ne b m)] at r ⊢
    exact r
  · rw [upd_ne fun z => by subst z; rw [fD] at q; cases q]; exact S.fh _ _ q
  · have q' : upd fx.R D o' b = some u := q
    by_cases z : b = D
    · subst z
      rw [upd_same] at q' ⊢
      exact q'
    · rw [upd_ne z] at q' ⊢
      exact S.rh b u (by show upd fx.R D o b = some u; rw [upd_ne z]; exact q')
  · by_cases q : a = D
    · subst q; exact ne_none_some upd_same
    · rw [upd_ne q]; exact S.zh a z
/-- it is done: one's own -/
theorem SRel.unhide {D : Addr} {o : HO} (S : SRel N F (fxB fx D o) ss σ H) (hR : fx.R D = none) (hZ : ¬ fx.Z D) : SRel N F fx ss σ H ∧ Mine F fx D ∧ ∀ (i : Nat) (t : Sl) (a : Addr), ss[i]? = some t → t.owns = true → σ[i]? = some (some (.ref a)) → a ≠ D := by
  have fD : F D = none := by
    cases q : F D with
    | none => rfl
    | some x => exact absurd (.inr rfl) (S.fz D (ne_none_some q))
  refine ⟨S.frame Ext.refl rfl (fun b m hb => ?_) (fun b u m hb => hb) S.fh (fun b u q => ?_) (fun a ha z => S.fz a ha (.inl z)) (fun a z => S.zh a (.inl z)), ⟨fD, hR, hZ⟩, fun i t a h1 h2 h3 z => ?_⟩
  · have nb : b ≠ D := fun z => m.2.2 (.inr z)
    have r : upd fx.R D o b = none := m.2.1
    rw [upd_ne nb] at r
    exact ⟨m.1, r, fun z => m.2.2 (.inl z)⟩
  · refine S.rh b u ?_
    show upd fx.R D o b = some u
    rw [upd_ne fun z => by subst z; rw [hR] at q; cases q]
    exact q
  · subst z
    obtain ⟨u, _, ow⟩ := S.ownThere h1 h2 h3
    exact ow.mine.2.2 (.inr rfl)
end
/-! ### the own names of a comprehension -/
def wipeS : List Nat → List Sl → Option (List Sl)
  | [], ss => some ss
  | v :: vs, ss => (wipeS vs ss).bind fun s => match s[v]? with
    | some (.fz _) => some (s.set v .no)
    | some .no => some (s.set v .no)
    | _ => none
def restore : List Nat → List Sl → List Sl → List Sl
  | [], _, ss => ss
  | v :: vs, s0, ss => (restore vs s0 ss).set v (s0.getD v .no)
section
variable {N : En} {F F' : Hp} {fx fx' : Fx} {ss : List Sl} {σ : St} {H H' : Hp}
theorem SRel.wiped : ∀ {vs : List Nat} {s : List Sl}, SRel N F fx ss σ H → wipeS vs ss = some s → SRel N F fx s (wipe σ vs) H
  | [], s, S, h => by cases h; exact S
  | v :: vs, s, S, h => by
    unfold wipeS at h
    cases q : wipeS vs ss with
    | none => rw [q] at h; cases h
    | some s1 =>
      rw [q] at h
      simp only [Option.bind_some] at h
      have S1 := SRel.wiped S q
      cases q2 : s1[v]? with
      | none => rw [q2] at h; cases h
      | some t =>
        rw [q2] at h
        cases t <;> first | (cases h; exact S1.putNo) | cases h
theorem wipeS_plain : ∀ {vs : List Nat} {s : List Sl}, wipeS vs ss = some s → s.length = ss.length ∧ (∀ i ∈ vs, ∃ t, ss[i]? = some t ∧ t.owns = false) ∧ ∀ i, i ∉ vs → s[i]? = ss[i]?
  | [], s, h => by cases h; exact ⟨rfl, (fun i hi => by cases hi), fun _ _ => rfl⟩
  | v :: vs, s, h => by
    unfold wipeS at h
    cases q : wipeS vs ss with
    | none => rw [q] at h; cases h
    | some s1 =>
      rw [q] at h
      simp only [Option.bind_some] at h
      obtain ⟨h1, h2, h3⟩ := wipeS_plain q
      have fin : ∀ t, s1[v]? = some t → t.owns = false → s = s1.set v .no → s.length = ss.length ∧ (∀ i ∈ v :: vs, ∃ t, ss[i]? = some t ∧ t.owns = false) ∧ ∀ i, i ∉ v :: vs → s[i]? = ss[i]? := fun t ht ho es => by
        subst es
        refine ⟨by simp [h1], fun i hi => ?_, fun i hi => ?_⟩
        · by_cases z : i ∈ vs
          · exact h2 i z
          · rcases List.mem_cons.mp hi with e | e
            · subst e
              exact ⟨t, by rw [← h3 i z]; exact ht, ho⟩
            · exact absurd e z
        · have a1 : v ≠ i := fun e => hi (by rw [e]; exact List.mem_cons_self)
          rw [List.getElem?_set_ne a1]
          exact h3 i fun z => hi (List.mem_cons_of_mem _ z)
      cases q2 : s1[v]? with
      | none => rw [q2] at h; cases h
      | some t =>
        rw [q2] at h
        cases t with
        | no => cases h; exact fin _ q2 rfl rfl
        | fz u => cases h; exact fin _ q2 rfl rfl
        | ow u => cases h
        | io u => cases h
theorem restore_length {s0 : List Sl} : ∀ {vs : List Nat}, (restore vs s0 ss).length = ss.length
  | [] => rfl
  | v :: vs => by unfold restore; rw [List.length_set, restore_length]
theorem restore_in {s0 : List Sl} {i : Nat} (hi : i < ss.length) : ∀ {vs : List Nat}, i ∈ vs → (restore vs s0 ss)[i]? = some (s0.getD i .no)
  | [], h => by cases h
  | v :: vs, h => by
    unfold restore
    by_cases z : v = i
    · subst z
      rw [List.getElem?_set_self (by rw [restore_length]; exact hi)]
    · rw [List.getElem?_set_ne z]
      rcases List.mem_cons.mp h with e | e
      · exact absurd e.symm z
      · exact restore_in hi e
theorem restore_out {s0 : List Sl} {i : Nat} : ∀ {vs : List Nat}, i ∉ vs → (restore vs s0 ss)[i]? = ss[i]?
  | [], _ => rfl
  | v :: vs, h => by
    unfold restore
    have a1 : v ≠ i := fun e => h (by rw [e]; exact List.mem_cons_self)
    rw [List.getElem?_set_ne a1]
    exact restore_out fun z => h (List.mem_cons_of_mem _ z)
/-- behind the comprehension the names of the def are as before -/
theorem SRel.restored {vs : List Nat} {s0 sw : List Sl} {H0 : Hp} {fx0 : Fx} (S0 : SRel N F fx0 s0 σ H0) (hw : wipeS vs s0 = some sw) (e : Ext N F F') (S : SRel N F' fx ss (wipe σ vs) H) : SRel N F' fx (restore vs s0 ss) σ H := by
  obtain ⟨w1, w2, w3⟩ := wipeS_plain hw
  have L : ss.length = σ.length := by rw [S.len, wipe_length]
  refine ⟨S.fh, S.rh, S.fz, S.zh, by rw [restore_length]; exact L, fun i s o h1 h2 => ?_, fun i j s1 s2 a hij h1 h2 o1 o2 e1 e2 => ?_⟩
  · have li : i < ss.length := by rw [L]; exact (List.getElem?_eq_some_iff.mp h2).1
    by_cases z : i ∈ vs
    · rw [restore_in li z] at h1
      obtain ⟨t, g1, g2⟩ := w2 i z
      have et : s0.getD i .no = t := by simp [List.getD, g1]
      rw [et] at h1
      cases h1
      have q := S0.sl i s o g1 h2
      cases s with
      | no => trivial
      | fz u => obtain ⟨v, q1, q2⟩ := q; exact ⟨v, q1, e.rep q2⟩
      | ow u => cases g2
      | io u => cases g2
    · rw [restore_out z] at h1
      exact S.sl i s o h1 (by rw [wipe_out z]; exact h2)
  · have far : ∀ (i : Nat) (s : Sl), (restore vs s0 ss)[i]? = some s → s.owns = true → i ∉ vs ∧ ss[i]? = some s := fun i s h ho => by
      by_cases z : i ∈ vs
      · obtain ⟨t, g1, g2⟩ := w2 i z
        have li : i < ss.length := by
          have := (List.getElem?_eq_some_iff.mp h).1
          rw [restore_length] at this
          exact this
        rw [restore_in li z] at h
        have et : s0.getD i .no = t := by simp [List.getD, g1]
        rw [et] at h
        cases h
        rw [g2] at ho; cases ho
      · exact ⟨z, by rw [← restore_out z]; exact h⟩
    obtain ⟨n1, k1⟩ := far i s1 h1 o1
    obtain ⟨n2, k2⟩ := far j s2 h2 o2
    exact S.dj i j s1 s2 a hij k1 k2 o1 o2 (by rw [wipe_out n1]; exact e1) (by rw [wipe_out n2]; exact e2)
end
/-! ### [e for tg in iter if t] -/
def wipeM (vs : List Nat) : M Unit := fun ss => match wipeS vs ss with
  | some s => .ok () s
  | none => .no
def lcLoop (vs : List Nat) (g : U → M Unit) (mt : M Bool) (me : M U) : List U → List U → M (List U)
  | [], acc => M.ret acc
  | u :: us, acc => M.bind (g u) fun _ => M.bind mt fun b => if b = true then M.bind me fun y => if acc.length < sizeLine then M.bind (wipeM vs) fun _ => lcLoop vs g mt me us (acc ++ [y]) else M.fail
    else M.bind (wipeM vs) fun _ => lcLoop vs g mt me us acc
def mLc (mi : M (List U)) (vs : List Nat) (g : U → M Unit) (mt : M Bool) (me : M U) : M U := M.bind mi fun us => fun ss => match wipeS vs ss with
  | none => .no
  | some sw => match lcLoop vs g mt me us [] sw with
    | .ok acc s2 => .ok (.nd .lst acc) (restore vs ss s2)
    | _ => .no
section
variable {cl : Nat → Addr} {X : Cx} {W : WX} {e a b c : Expr} {pos : Pos}
abbrev W0 : WX := fun _ _ _ _ => False
def DTs (cl : Nat → Addr) (X : Cx) (W : WX) (ifs : List Expr) (m : M Bool) : Prop := PTs X ifs (lT (enX X cl) W m)
theorem PTs.weak {ifs : List Expr} {t t' : TT} (h : PTs X ifs t) (w : ∀ σ H Q, t' σ H Q → t σ H Q) : PTs X ifs t' := ⟨fun pins s σ H Q I q => h.run pins s σ H Q I (w σ H Q q)⟩
theorem dts_nil : DTs cl X W [] (M.ret true) := PTs.weak pts_nil fun σ H Q ⟨F, fx, ss, S, g⟩ => g F H Ext.refl S
theorem dts_one {m : M Bool} (h : DT cl X W c m) : DTs cl X W [c] m := pts_one h
/-- the loop of a comprehension, without exceptions -/
def GoodL (N : En) (F : Hp) (fx : Fx) (D : Addr) (σw : St) (Qe : Hp → List Sl → List U → Hp → Prop) : Rz (List U) → Prop
  | .ok acc s2 => ∀ F' H' vs, Ext N F F' → Reps N F' acc vs → SRel N F' (fxB fx D (.lst vs)) s2 σw H' → Qe F' s2 acc H'
  | _ => False
theorem GoodL.ext {N : En} {F F1 : Hp} {fx : Fx} {D : Addr} {σw : St} {Qe : Hp → List Sl → List U → Hp → Prop} {r : Rz (List U)} (e : Ext N F F1) (h : GoodL N F fx D σw Qe r) : GoodL N F1 fx D σw Qe r := by
  cases r with
  | no => exact h
  | ex _ _ => exact h
  | ok a s => exact fun F' H' vs e' r S => h F' H' vs (e.trans e') r S
theorem GoodL.bind {N : En} {F : Hp} {fx fx' : Fx} {D : Addr} {σw σ : St} {Qe : Hp → List Sl → List U → Hp → Prop} {α : Type} {m : M α} {f : α → M (List U)} {ss : List Sl} (g : GoodL N F fx D σw Qe (M.bind m f ss)) :
    Good N W0 F fx' σ (fun F' ss' a _ => GoodL N F' fx D σw Qe (f a ss')) (m ss) := by
  unfold M.bind at g
  cases q : m ss with
  | no => rw [q] at g; exact g
  | ex x s => rw [q] at g; exact g.elim
  | ok a s => rw [q] at g; exact fun F' H' e S => GoodL.ext e g
theorem goodL_unit {N : En} {F : Hp} {fx : Fx} {D : Addr} {σw : St} {Qe : Hp → List Sl → List U → Hp → Prop} {mu : M Unit} {f : Unit → M (List U)} {ss : List Sl} (g : GoodL N F fx D σw Qe (M.bind mu f ss)) : ∃ ss', mu ss = .ok () ss' ∧ GoodL N F fx D σw Qe (f () ss') := by
  unfold M.bind at g
  cases q : mu ss with
  | no => rw [q] at g; exact g.elim
  | ex x s => rw [q] at g; exact g.elim
  | ok u s => rw [q] at g; exact ⟨s, rfl, g⟩
theorem wipeM_inv {vs : List Nat} {ss s : List Sl} (h : wipeM vs ss = .ok () s) : wipeS vs ss = some s := by
  unfold wipeM at h
  cases q : wipeS vs ss with
  | none => rw [q] at h; cases h
  | some t => rw [q] at h; cases h; rfl
theorem wipe_sim {tv vs : List Nat} {σ σ' : St} (h : Sim tv σ σ') (hv : ∀ i ∈ tv, i ∈ vs) : wipe σ' vs = wipe σ vs := h vs hv
theorem wipe_wipe {σ : St} {vs : List Nat} : wipe (wipe σ vs) vs = wipe σ vs := by
  refine List.ext_getElem? fun i => ?_
  by_cases z : i ∈ vs
  · have key : ∀ (τ : St) (ws : List Nat), i ∈ ws → (wipe τ ws)[i]? = if i < τ.length then some none else none := fun τ ws => by
      induction ws with
      | nil => intro h; cases h
      | cons v ws ih =>
        intro h
        unfold wipe
        by_cases q : v = i
        · subst q
          by_cases l : v < τ.length
          · rw [List.getElem?_set_self (by rw [wipe_length]; exact l), if_pos l]
          · rw [if_neg l, List.getElem?_eq_none (by rw [List.length_set, wipe_length]; omega)]
        · rw [List.getElem?_set_ne q]
          rcases List.mem_cons.mp h with e | e
          · exact absurd e.symm q
          · exact ih e
    rw [key _ _ z, key _ _ z, wipe_length]
  · rw [wipe_out z]
theorem do_lc {elt tg iter : Expr} {ifs : List Expr} {scope : Scope} {own : List (Str × Nat)} {tv : List Nat} {mi : M (List U)} {mg : U → M Unit} {mt : M Bool} {me : M U} (hc : X.calm = true) (hN : X.N.Nodup) (hi : DI cl X W tg iter mi) (ok : BlkOk X.N X.env.scope scope own) (htv : ∀ i ∈ tv, i ∈ own.map (·.2))
    {t : TG} (ht0 : ∀ (s : Shared) (H : Hp) (C : Addr) (cls : List (Str × Addr)) (fp : List Addr), PG (X.blk s H scope (compEnvC scope cls C X.env) fp) tg t) (kk : GT (enX X cl) tv mg t)
    (ht : ∀ (s : Shared) (H : Hp) (C : Addr) (cls : List (Str × Addr)) (fp : List Addr), DTs cl (X.blk s H scope (compEnvC scope cls C X.env) fp) W0 ifs mt)
    (he : ∀ (s : Shared) (H : Hp) (C : Addr) (cls : List (Str × Addr)) (fp : List Addr), DE cl (X.blk s H scope (compEnvC scope cls C X.env) fp) W0 elt me) (hs : ∀ x, foldedSetIterable iter X.env x = pure x := by intro _; rfl) :
    DO cl X W (.ListComp elt [⟨tg, iter, ifs, 0⟩] scope pos) (mLc mi (own.map (·.2)) mg mt me) := by
  refine PE.weak (pe_lc (own := own) (te := lE (enX X cl) W0 me) (tt := lT (enX X cl) W0 mt) (g := t) hc hN hi ok ht0 ht he hs) fun σ H Q ⟨F, fx, ss, S, g⟩ => ?_
  refine ⟨F, fx, ss, S, g.bind.mono fun F1 s1 us H1 e1 S1 g1 J wk D hD => ?_⟩
  cases hw : wipeS (own.map (·.2)) s1 with
  | none => rw [hw] at g1; exact g1.elim
  | some sw =>
    rw [hw] at g1
    dsimp only at g1
    have mD : fx.R D = none ∧ ¬ fx.Z D := (S1.mineNew hD).2
    have Sw : SRel (enX X cl) F1 fx sw (wipe σ (own.map (·.2))) H1 := S1.wiped hw
    have gl : GoodL (enX X cl) F1 fx D (wipe σ (own.map (·.2))) (fun F' s2 acc H' => ∀ vs, Reps (enX X cl) F' acc vs → SRel (enX X cl) F' (fxB fx D (.lst vs)) s2 (wipe σ (own.map (·.2))) H' → Ext (enX X cl) F1 F' → Q (.ref D) H') (lcLoop (own.map (·.2)) mg mt me us [] sw) := by
      cases q : lcLoop (own.map (·.2)) mg mt me us [] sw with
      | no => rw [q] at g1; exact g1.elim
      | ex x s => rw [q] at g1; exact g1.elim
      | ok acc s2 =>
        rw [q] at g1
        intro F' H' ws e' r' S' vs r Sv eF
        obtain ⟨U1, U2, U3⟩ := Sv.unhide mD.1 mD.2
        have S2 := SRel.restored S1 hw eF U1
        refine g1 F' H' eF S2 D ?_
        have hH : H' D = some (.lst vs) := Sv.hid
        refine S2.snoc ⟨D, rfl, U2, vs, hH, r⟩ fun _ i t a h1 o1 e1 e2 => ?_
        cases e2
        obtain ⟨w, _, ow⟩ := S2.ownThere h1 o1 e1
        -- a slot of the def that stands at D
        obtain ⟨w1, w2, w3⟩ := wipeS_plain hw
        have ni : i ∉ own.map (·.2) := fun z => by
          obtain ⟨t', g1', g2'⟩ := w2 i z
          have li : i < s2.length := by have := (List.getElem?_eq_some_iff.mp h1).1; rw [restore_length] at this; exact this
          rw [restore_in li z] at h1
          have et : s1.getD i .no = t' := by simp [List.getD, g1']
          rw [et] at h1
          cases h1
          rw [g2'] at o1; cases o1
        rw [restore_out ni] at h1
        exact U3 i t D h1 o1 (by rw [wipe_out ni]; exact e1) rfl
    have SD : SRel (enX X cl) F1 (fxB fx D (.lst [])) sw (wipe σ (own.map (·.2))) (upd H1 D (.lst [])) := Sw.hide hD
    refine ⟨fun i k H => i + k = us.length ∧ ∃ F' s acc vs, Ext (enX X cl) F1 F' ∧ SRel (enX X cl) F' (fxB fx D (.lst vs)) s (wipe σ (own.map (·.2))) H ∧ Reps (enX X cl) F' acc vs ∧ GoodL (enX X cl) F' fx D (wipe σ (own.map (·.2))) (fun F' s2 acc H' => ∀ vs, Reps (enX X cl) F' acc vs → SRel (enX X cl) F' (fxB fx D (.lst vs)) s2 (wipe σ (own.map (·.2))) H' → Ext (enX X cl) F1 F' → Q (.ref D) H') (lcLoop (own.map (·.2)) mg mt me (us.drop i) acc s),
      ⟨us.length, by omega, F1, sw, [], [], Ext.refl, SD, rfl, by simpa using gl⟩, fun i k H ⟨hik, F2, s2, acc, vs, e2, S2, r2, g2⟩ => ?_⟩
    obtain ⟨w1, w2⟩ := wk (fxB fx D (.lst vs)) F2 i s2 (wipe σ (own.map (·.2))) H e2 S2
    cases k with
    | zero =>
      have hi : i = us.length := by omega
      refine .inl ⟨w2 hi, ?_⟩
      rw [hi, List.drop_length] at g2
      exact g2 F2 H vs Ext.refl r2 S2 vs r2 S2 e2
    | succ k =>
      have hlt : i < us.length := by omega
      obtain ⟨go, yl⟩ := w1 us[i] (List.getElem?_eq_getElem hlt)
      refine .inr ⟨go, fun H' => ∃ F' s acc vs, Ext (enX X cl) F1 F' ∧ SRel (enX X cl) F' (fxB fx D (.lst vs)) s (wipe σ (own.map (·.2))) H' ∧ Reps (enX X cl) F' acc vs ∧ GoodL (enX X cl) F' fx D (wipe σ (own.map (·.2))) (fun F' s2 acc H' => ∀ vs, Reps (enX X cl) F' acc vs → SRel (enX X cl) F' (fxB fx D (.lst vs)) s2 (wipe σ (own.map (·.2))) H' → Ext (enX X cl) F1 F' → Q (.ref D) H') (lcLoop (own.map (·.2)) mg mt me (us.drop (i + 1)) acc s),
        fun H' h => ⟨k, Nat.lt_succ_self k, by omega, h⟩, fun x H' hy => ?_⟩
      obtain ⟨F3, e3, S3, r3⟩ := yl x H' hy
      rw [List.drop_eq_getElem_cons hlt] at g2
      have g3 := GoodL.ext e3 g2
      unfold lcLoop at g3
      obtain ⟨s3, q3, g4⟩ := goodL_unit g3
      refine kk F3 (fxB fx D (.lst vs)) s2 s3 _ H' us[i] x _ S3 r3 q3 fun F4 σ4 H4 e4 S4 sim => ?_
      have hw4 : wipe σ4 (own.map (·.2)) = wipe σ (own.map (·.2)) := (sim _ htv).trans wipe_wipe
      refine ⟨hw4, F4, fxB fx D (.lst vs), s3, S4, ((GoodL.ext e4 g4).bind (fx' := fxB fx D (.lst vs)) (σ := σ4)).mono fun F5 s5 b H5 e5 S5 g5 => ?_⟩
      have e15 : Ext (enX X cl) F1 F5 := ((e2.trans e3).trans e4).trans e5
      have e25 : Ext (enX X cl) F2 F5 := (e3.trans e4).trans e5
      cases b with
      | false =>
        obtain ⟨s6, q6, g6⟩ := goodL_unit g5
        have S6 := S5.wiped (wipeM_inv q6)
        rw [hw4] at S6
        exact ⟨F5, s6, acc, vs, e15, S6, e25.reps r2, g6⟩
      | true =>
        refine ⟨F5, fxB fx D (.lst vs), s5, S5, (GoodL.bind (fx' := fxB fx D (.lst vs)) (σ := σ4) g5).mono fun F6 s6 y H6 e6 S6 g6 v rv => ?_⟩
        have hD6 : H6 D = some (.lst vs) := S6.hid
        by_cases hl : acc.length < sizeLine
        · rw [if_pos hl] at g6
          have rr := (e25.trans e6).reps r2
          refine ⟨vs, hD6, by rw [← rr.length]; exact hl, ?_⟩
          obtain ⟨s7, q7, g7⟩ := goodL_unit g6
          have S7 := S6.wiped (wipeM_inv q7)
          rw [hw4] at S7
          exact ⟨F6, s7, acc ++ [y], vs ++ [v], e15.trans e6, S7.rehide, rr.append ⟨v, [], rfl, rv, rfl⟩, g7⟩
        · rw [if_neg hl] at g6; exact g6.elim
end
end Dl

set_option Elab.async false
set_option linter.all false
set_option maxRecDepth 100000
set_option maxHeartbeats 4000000
namespace Dl
open PySem L2
/-! ### values as data: equality, repr -/
mutual
def toData : U → Option PyData
  | .c .non => some .none
  | .c (.bl b) => some (.bool b)
  | .c (.int i) => some (.int i)
  | .c (.str x) => some (.str x)
  | .nd .lst xs => (toDatas xs).map .list
  | .nd .tup xs => (toDatas xs).map .tuple
  | _ => none
def toDatas : List U → Option (List PyData)
  | [] => some []
  | x :: xs => (toData x).bind fun d => (toDatas xs).map (d :: ·)
end
section
variable {N : En} {F F' : Hp} {fx : Fx} {ss : List Sl} {σ : St} {H H' : Hp}
mutual
theorem toData_dp (S : SRel N F fx ss σ H) : ∀ (u : U) (v : V) (d : PyData), View N F fx H u v → toData u = some d → Dp N.K H v d
  | .c w, v, d, h, e => by
    have := h.sc
    subst this
    cases v <;> cases e
    · exact .non
    · exact .bl _
    · exact .int _
    · exact .str _
  | .nd .lst xs, v, d, h, e => by
    obtain ⟨a, vs, rfl, hq, r⟩ := h.lst S
    unfold toData at e
    cases q : toDatas xs with
    | none => rw [q] at e; cases e
    | some ds =>
      rw [q] at e
      cases e
      exact .lst (SqL.of hq) (toDatas_dp S xs vs ds r q)
  | .nd .tup xs, v, d, h, e => by
    obtain ⟨a, vs, rfl, hq, r⟩ := h.tup S
    unfold toData at e
    cases q : toDatas xs with
    | none => rw [q] at e; cases e
    | some ds =>
      rw [q] at e
      cases e
      exact .tup hq (toDatas_dp S xs vs ds r q)
  | .nd (.dK _) _, _, _, _, e => by cases e
  | .nd (.dT _) _, _, _, _, e => by cases e
  | .nd (.ab _) _, _, _, _, e => by cases e
  | .nd .sq _, _, _, _, e => by cases e
  | .nd (.ins _ _) _, _, _, _, e => by cases e
theorem toDatas_dp (S : SRel N F fx ss σ H) : ∀ (us : List U) (vs : List V) (ds : List PyData), Reps N F us vs → toDatas us = some ds → DpAll N.K H vs ds
  | [], vs, ds, h, e => by
    cases e
    cases h
    exact .nil
  | x :: xs, vs, ds, ⟨v, r, h1, h2, h3⟩, e => by
    unfold toDatas at e
    cases q : toData x with
    | none => rw [q] at e; cases e
    | some d =>
      rw [q] at e
      simp only [Option.bind_some] at e
      cases q2 : toDatas xs with
      | none => rw [q2] at e; cases e
      | some r2 =>
        rw [q2] at e
        cases e
        subst h1
        exact .cons (toData_dp S x v d (.inl h2) q) (toDatas_dp S xs r r2 h3 q2)
end
end
section
variable {cl : Nat → Addr} {X : Cx} {W : WX} {e a b c : Expr} {pos : Pos}
def gData2 (f : PyData → PyData → Bool) : U → U → Option U := fun u w => match toData u, toData w with
  | some d, some d' => if (SeqAt.shaped d && SeqAt.shaped d') = true then some (.c (.bl (f d d'))) else none
  | _, _ => none
theorem gData2_inv {f : PyData → PyData → Bool} {u w z : U} (h : gData2 f u w = some z) : ∃ d d', toData u = some d ∧ toData w = some d' ∧ SeqAt.shaped d = true ∧ SeqAt.shaped d' = true ∧ z = .c (.bl (f d d')) := by
  unfold gData2 at h
  cases q : toData u with
  | none => rw [q] at h; cases h
  | some d =>
    cases q2 : toData w with
    | none => rw [q, q2] at h; cases h
    | some d' =>
      rw [q, q2] at h
      dsimp only at h
      by_cases s : (SeqAt.shaped d && SeqAt.shaped d') = true
      · rw [if_pos s] at h
        cases h
        rw [Bool.and_eq_true] at s
        exact ⟨d, d', rfl, rfl, s.1, s.2, rfl⟩
      · rw [if_neg s] at h; cases h
theorem o_eqD (hu : X.A.units + 64 < cLine) : Op2 cl X (compareOp .Eq) (gData2 PyData.eqv) := by
  refine ⟨_, op_eqD hu, fun F fx ss σ H u w z x y Q S vu vw hg k => ?_⟩
  obtain ⟨d, d', h1, h2, h3, h4, rfl⟩ := gData2_inv hg
  exact ⟨d, d', toData_dp S u x d vu h1, toData_dp S w y d' vw h2, h3, h4, k F H _ Ext.refl S rfl⟩
theorem o_neD (hu : X.A.units + 64 < cLine) : Op2 cl X (compareOp .NotEq) (gData2 fun d d' => !PyData.eqv d d') := by
  refine ⟨_, op_neD hu, fun F fx ss σ H u w z x y Q S vu vw hg k => ?_⟩
  obtain ⟨d, d', h1, h2, h3, h4, rfl⟩ := gData2_inv hg
  exact ⟨d, d', toData_dp S u x d vu h1, toData_dp S w y d' vw h2, h3, h4, k F H _ Ext.refl S rfl⟩
/-- == of anything that is data; scalars first -/
theorem o_eqA (hu : X.A.units + 64 < cLine) : Op2 cl X (compareOp .Eq) (orElse2 (sc2 fun x y => if scal x y = true then some (.bl (decide (x = y))) else none) (gData2 PyData.eqv)) := o_eq.or (o_eqD hu)
theorem o_neA (hu : X.A.units + 64 < cLine) : Op2 cl X (compareOp .NotEq) (orElse2 (sc2 fun x y => if scal x y = true then some (.bl (!decide (x = y))) else none) (gData2 fun d d' => !PyData.eqv d d')) := o_ne.or (o_neD hu)
/-- repr of data without dicts -/
def rRepr (K : PySem.W.Frag) : List V → Hp → VK → Prop := fun xs H Q => ∃ x d, xs = [x] ∧ Dp K H x d ∧ d.showable = true ∧ d.hasDict = false ∧ d.depth ≤ 64 ∧ d.shown.length ≤ sizeLine ∧ Q (.str d.shown) H
theorem call_reprD (hG : X.A.guards = some []) (hu : X.A.units + 70 < cLine) : CallR X (.builtin "repr") (rRepr X.K) := by
  intro pins s σ H xs us Q I r h
  obtain ⟨x, d, rfl, hd, h1, h2, h3, h4, q⟩ := h
  obtain ⟨u, rfl, rx⟩ := vals1 r
  obtain ⟨as, rd⟩ := Dp.reads I d x u hd rx
  cases rd with
  | none => exact P.repr_of_none ⟨.str _, H, I.tok _, ⟨_, rfl⟩, q⟩
  | bool b => exact P.repr_of_bool ⟨.str _, H, I.tok _, ⟨_, rfl⟩, by
      cases b
      · exact q
      · exact q⟩
  | int i t => exact P.repr_of_int (by simpa [PyData.showable] using h1) ⟨.str _, H, I.tok _, ⟨_, rfl⟩, q⟩
  | str y t => exact P.repr_of_str ⟨.str _, H, I.tok _, ⟨_, rfl⟩, q⟩ (by simpa only [PyData.shown] using h4)
  | list g1 g2 g3 g4 => exact repr_of_reads' (.list g1 g2 g3 g4) h1 (PyData.noDict_hsm h2) hG (by omega) (fun _ _ z => z) (fun h' w tk hk => ⟨.str _, H, I.kept hk, ⟨_, rfl⟩, q⟩) h4
  | tuple g1 g2 g3 g4 => exact repr_of_reads' (.tuple g1 g2 g3 g4) h1 (PyData.noDict_hsm h2) hG (by omega) (fun _ _ z => z) (fun h' w tk hk => ⟨.str _, H, I.kept hk, ⟨_, rfl⟩, q⟩) h4
  | dict g1 g2 g3 g4 g5 => simp [PyData.hasDict] at h2
def gRepr : List U → Option U := fun us => match us with
  | [u] => (toData u).bind fun d => if (d.showable && !d.hasDict && decide (d.depth ≤ 64) && decide (d.shown.length ≤ sizeLine)) = true then some (.c (.str d.shown)) else none
  | _ => none
theorem cb_repr (hG : X.A.guards = some []) (hu : X.A.units + 70 < cLine) : Cb cl X (.builtin "repr") gRepr := by
  refine ⟨_, call_reprD hG hu, fun F fx ss σ H us z xs Q S vs hg k => ?_⟩
  unfold gRepr at hg
  split at hg
  · rename_i u
    obtain ⟨x, rfl, v⟩ := views1 vs
    cases q : toData u with
    | none => rw [q] at hg; cases hg
    | some d =>
      rw [q] at hg
      simp only [Option.bind_some] at hg
      split at hg
      · rename_i hs
        simp only [Bool.and_eq_true, Bool.not_eq_true', decide_eq_true_eq] at hs
        obtain ⟨⟨⟨s1, s2⟩, s3⟩, s4⟩ := hs
        cases hg
        exact ⟨x, d, rfl, toData_dp S u x d v q, s1, s2, s3, s4, k F H _ Ext.refl S rfl⟩
      · cases hg
  · cases hg
/-! ### subscripts -/
def keyU : U → Option Key
  | .c (.int i) => some (.inl i)
  | .c (.str x) => some (.inr x)
  | _ => none
theorem keyU_is {N : En} {F : Hp} {fx : Fx} {H : Hp} {u : U} {v : V} {k : Key} (h : View N F fx H u v) (e : keyU u = some k) : v = kV k := by
  cases u with
  | nd _ _ => cases e
  | c w =>
    have := h.sc
    subst this
    cases v <;> cases e <;> rfl
def lookK (k : Key) : List Key → List U → Option U
  | k' :: ks, u :: us => if k' = k then some u else lookK k ks us
  | _, _ => none
theorem lookK_val {N : En} {F : Hp} {k : Key} : ∀ {ks : List Key} {us : List U} {vs : List V}, Reps N F us vs → (∀ u, lookK k ks us = some u → ∃ v, valV (ks.zip vs) k = some v ∧ Rep N F u v) ∧ (ks.length = us.length → lookK k ks us = none → valV (ks.zip vs) k = none)
  | [], us, vs, _ => ⟨(fun u h => by cases us <;> cases h), fun _ _ => rfl⟩
  | k' :: ks, [], vs, r => ⟨(fun u h => by cases h), fun h => by simp at h⟩
  | k' :: ks, u :: us, vs, ⟨v, vr, e, h1, h2⟩ => by
    subst e
    obtain ⟨i1, i2⟩ := lookK_val (k := k) (ks := ks) h2
    refine ⟨fun w h => ?_, fun hl h => ?_⟩
    · unfold lookK at h
      by_cases z : k' = k
      · rw [if_pos z] at h
        cases h
        exact ⟨v, valV_pos (p := (k', v)) z, h1⟩
      · rw [if_neg z] at h
        obtain ⟨v', g1, g2⟩ := i1 w h
        exact ⟨v', by rw [List.zip_cons_cons, valV_neg (p := (k', v)) z]; exact g1, g2⟩
    · unfold lookK at h
      by_cases z : k' = k
      · rw [if_pos z] at h; cases h
      · rw [if_neg z] at h
        rw [List.zip_cons_cons, valV_neg (p := (k', v)) z]
        exact i2 (by simpa using hl) h
theorem atI_reps {N : En} {F : Hp} {us : List U} {vs : List V} {i : Int} {u : U} (r : Reps N F us vs) (h : atI us i = some u) : ∃ v, atI vs i = some v ∧ Rep N F u v := by
  unfold atI at h ⊢
  rw [← r.length]
  cases q : ixN us.length i with
  | none => rw [q] at h; cases h
  | some j =>
    rw [q] at h
    exact r.get h
def gIx (u w : U) : Option U := match u, w with
  | .nd .lst xs, .c (.int i) => atI xs i
  | .nd .tup xs, .c (.int i) => atI xs i
  | .nd .sq xs, .c (.int i) => atI xs i
  | .c (.str z), .c (.int i) => if decide (z.length ≤ sizeLine) = true then (atI z.cps.toList i).map fun c => .c (.str ⟨#[c]⟩) else none
  | .nd (.dK ks) xs, w => (keyU w).bind fun k => lookK k ks xs
  | _, _ => none
/-- d[k], by values -/
def rIxD : R2 := fun x y H Q => ∃ p v, x = .ref p ∧ DGet H p y (some v) ∧ Q v H
theorem ix_dict (hu : X.A.units + 1 < cLine) : IxR X rIxD := by
  intro value slice pins s σ H x y v u Q I rx ry h hs
  obtain ⟨p, w, rfl, hd, q⟩ := h
  cases rx
  exact PyProof.Rows.tail_any (dict_typeIs I hd) PySem.F.slot_dict_getitem.lookup (d_getItem hu I hd ry fun w' s3 I3 rw' => ⟨w, H, I3, rw', q⟩) hs
theorem de_ix {ma mb : M Hd} (hu : X.A.units + 1 < cLine) (ha : DH cl X W a ma) (hb : DH cl X W b mb) (hs : PlainIx b) : DE cl X W (.Subscript a b pos) (mOp2 gIx ma mb) := by
  refine PE.weak (pe_ix (ix_seq.or (ix_dict hu)) ha hb hs) fun σ H Q q => op2_run (f := fun _ _ => Sem.unsupported "") (fun F fx ss σ H u w z x y Q S vu vw hg k => ?_) q
  unfold gIx at hg
  split at hg
  · have := vw.sc
    subst this
    obtain ⟨p, vs, rfl, hq, r⟩ := vu.lst S
    obtain ⟨v, h1, h2⟩ := atI_reps r hg
    exact .inl (.inl ⟨p, vs, _, v, rfl, rfl, SqL.of hq, h1, k F H v Ext.refl S h2⟩)
  · have := vw.sc
    subst this
    obtain ⟨p, vs, rfl, hq, r⟩ := vu.tup S
    obtain ⟨v, h1, h2⟩ := atI_reps r hg
    exact .inl (.inr (.inl ⟨p, vs, _, v, rfl, rfl, hq, h1, k F H v Ext.refl S h2⟩))
  · have := vw.sc
    subst this
    obtain ⟨p, vs, rfl, hq, r⟩ := vu.sq S
    obtain ⟨v, h1, h2⟩ := atI_reps r hg
    exact .inl (.inl ⟨p, vs, _, v, rfl, rfl, hq, h1, k F H v Ext.refl S h2⟩)
  · rename_i z' i
    have := vw.sc
    subst this
    have := vu.sc
    subst this
    split at hg
    · rename_i hz
      cases q2 : atI z'.cps.toList i with
      | none => rw [q2] at hg; cases hg
      | some c =>
        rw [q2] at hg
        cases hg
        exact .inl (.inr (.inr ⟨z', i, c, rfl, rfl, of_decide_eq_true hz, q2, k F H _ Ext.refl S rfl⟩))
    · cases hg
  · rename_i ks xs w'
    obtain ⟨p, vs, rfl, hl, hq, r⟩ := vu.dK S
    cases q2 : keyU w with
    | none => rw [q2] at hg; cases hg
    | some ky =>
      rw [q2] at hg
      simp only [Option.bind_some] at hg
      obtain ⟨v, h1, h2⟩ := (lookK_val r).1 _ hg
      exact .inr ⟨p, v, rfl, .inl ⟨_, ky, hq, keyU_is vw q2, h1.symm⟩, k F H v Ext.refl S h2⟩
  · cases hg
/-- k in d, x in t, by values -/
def rInD (neg : Bool) : R2 := fun x y H Q => ∃ p o, y = .ref p ∧ DGet H p x o ∧ Q (.bl (if neg then !o.isSome else o.isSome)) H
theorem op_inD (hu : X.A.units + 1 < cLine) : OpR X (compareOp .In) (rInD false) := by
  intro pins s σ H x y v u Q I rx ry h
  obtain ⟨p, o, rfl, hd, q⟩ := h
  cases ry
  exact d_in hu I hd rx fun s' I' => ⟨.bl _, H, I', rfl, q⟩
theorem op_notInD (hu : X.A.units + 1 < cLine) : OpR X (compareOp .NotIn) (rInD true) := by
  intro pins s σ H x y v u Q I rx ry h
  obtain ⟨p, o, rfl, hd, q⟩ := h
  cases ry
  exact d_notIn hu I hd rx fun s' I' => ⟨.bl _, H, I', rfl, q⟩
def gInD (neg : Bool) : U → U → Option U := fun u w => match w with
  | .nd (.dK ks) xs => if ks.length = xs.length then (keyU u).map fun k => .c (.bl (if neg then !(lookK k ks xs).isSome else (lookK k ks xs).isSome)) else none
  | _ => none
theorem gInD_run {neg : Bool} {F : Hp} {fx : Fx} {ss : List Sl} {σ : St} {H : Hp} {u w z : U} {x y : V} {Q : VK} (S : SRel (enX X cl) F fx ss σ H) (vu : View (enX X cl) F fx H u x) (vw : View (enX X cl) F fx H w y) (hg : gInD neg u w = some z)
    (k : ∀ F' H' v, Ext (enX X cl) F F' → SRel (enX X cl) F' fx ss σ H' → Rep (enX X cl) F' z v → Q v H') : rInD neg x y H Q := by
  unfold gInD at hg
  split at hg
  · rename_i ks xs
    obtain ⟨p, vs, rfl, hl, hq, r⟩ := vw.dK S
    split at hg
    · rename_i hkl
      cases q : keyU u with
      | none => rw [q] at hg; cases hg
      | some ky =>
        rw [q] at hg
        cases hg
        have e : (valV (ks.zip vs) ky).isSome = (lookK ky ks xs).isSome := by
          cases q2 : lookK ky ks xs with
          | none => rw [(lookK_val r).2 hkl q2]; rfl
          | some u' =>
            obtain ⟨v, h1, _⟩ := (lookK_val r).1 _ q2
            rw [h1]; rfl
        refine ⟨p, _, rfl, .inl ⟨_, ky, hq, keyU_is vu q, rfl⟩, ?_⟩
        rw [e]
        exact k F H _ Ext.refl S rfl
    · cases hg
  · cases hg
theorem o_inD (hu : X.A.units + 1 < cLine) : Op2 cl X (compareOp .In) (gInD false) := ⟨_, op_inD hu, fun F fx ss σ H u w z x y Q S vu vw hg k => gInD_run S vu vw hg k⟩
theorem o_notInD (hu : X.A.units + 1 < cLine) : Op2 cl X (compareOp .NotIn) (gInD true) := ⟨_, op_notInD hu, fun F fx ss σ H u w z x y Q S vu vw hg k => gInD_run S vu vw hg k⟩
/-- x in xs, x flat, items flat -/
def flats : List U → Option (List V)
  | [] => some []
  | .c v :: r => if flatV v = true then (flats r).map (v :: ·) else none
  | _ :: _ => none
theorem flats_reps {N : En} {F : Hp} : ∀ {us : List U} {ws vs : List V}, flats us = some ws → Reps N F us vs → vs = ws ∧ ws.all flatV = true
  | [], ws, vs, h, r => by cases h; exact ⟨r, rfl⟩
  | .nd _ _ :: _, _, _, h, _ => by cases h
  | .c v :: us, ws, vs, h, ⟨v', r, h1, h2, h3⟩ => by
    unfold flats at h
    by_cases f : flatV v = true
    · rw [if_pos f] at h
      cases q : flats us with
      | none => rw [q] at h; cases h
      | some ws' =>
        rw [q] at h
        cases h
        obtain ⟨e1, e2⟩ := flats_reps q h3
        refine ⟨by rw [h1, e1, show v' = v from h2], ?_⟩
        simp [f]
        simpa using e2
    · rw [if_neg f] at h; cases h
def gInS (neg : Bool) : U → U → Option U := fun u w => match u, w with
  | .c x, .nd .lst xs => if flatV x = true then (flats xs).map fun ws => .c (.bl (if neg then !inV x ws else inV x ws)) else none
  | .c x, .nd .tup xs => if flatV x = true then (flats xs).map fun ws => .c (.bl (if neg then !inV x ws else inV x ws)) else none
  | _, _ => none
theorem gInS_run {neg : Bool} {F : Hp} {fx : Fx} {ss : List Sl} {σ : St} {H : Hp} {u w z : U} {x y : V} {Q : VK} (S : SRel (enX X cl) F fx ss σ H) (vu : View (enX X cl) F fx H u x) (vw : View (enX X cl) F fx H w y) (hg : gInS neg u w = some z)
    (k : ∀ F' H' v, Ext (enX X cl) F F' → SRel (enX X cl) F' fx ss σ H' → Rep (enX X cl) F' z v → Q v H') : rIn X.K neg x y H Q := by
  unfold gInS at hg
  split at hg
  · rename_i x' xs
    have := vu.sc
    subst this
    obtain ⟨p, vs, rfl, hq, r⟩ := vw.lst S
    split at hg
    · rename_i hf
      cases q : flats xs with
      | none => rw [q] at hg; cases hg
      | some ws =>
        rw [q] at hg
        cases hg
        obtain ⟨e1, e2⟩ := flats_reps q r
        subst e1
        exact ⟨p, vs, rfl, .inl (SqL.of hq), hf, e2, k F H _ Ext.refl S rfl⟩
    · cases hg
  · rename_i x' xs
    have := vu.sc
    subst this
    obtain ⟨p, vs, rfl, hq, r⟩ := vw.tup S
    split at hg
    · rename_i hf
      cases q : flats xs with
      | none => rw [q] at hg; cases hg
      | some ws =>
        rw [q] at hg
        cases hg
        obtain ⟨e1, e2⟩ := flats_reps q r
        subst e1
        exact ⟨p, vs, rfl, .inr hq, hf, e2, k F H _ Ext.refl S rfl⟩
    · cases hg
  · cases hg
theorem o_inS : Op2 cl X (compareOp .In) (gInS false) := ⟨_, op_in_seq, fun F fx ss σ H u w z x y Q S vu vw hg k => gInS_run S vu vw hg k⟩
theorem o_notInS : Op2 cl X (compareOp .NotIn) (gInS true) := ⟨_, op_notIn_seq, fun F fx ss σ H u w z x y Q S vu vw hg k => gInS_run S vu vw hg k⟩
/-! ### slices -/
def mPart (m : M Hd) : M (Option Int) := M.bind m fun h => M.bind (look h) fun u => match u with
  | .c (.int i) => M.ret (some i)
  | _ => M.fail
def lP (N : En) (W : WX) (m : M (Option Int)) : TO := fun σ H Q => ∃ F fx ss, SRel N F fx ss σ H ∧ Good N W F fx σ (fun _ _ i H' => Q i H') (m ss)
def DP (cl : Nat → Addr) (X : Cx) (W : WX) (e : Option Expr) (m : M (Option Int)) : Prop := PO X e (lP (enX X cl) W m)
theorem PO.weak {o : Option Expr} {t t' : TO} (h : PO X o t) (w : ∀ σ H Q, t' σ H Q → t σ H Q) : PO X o t' := ⟨fun pins s σ H Q I q => h.run pins s σ H Q I (w σ H Q q)⟩
theorem dp_none : DP cl X W none (M.ret none) := PO.weak po_none fun σ H Q ⟨F, fx, ss, S, g⟩ => g F H Ext.refl S
theorem dp_some {m : M Hd} (h : DH cl X W e m) : DP cl X W (some e) (mPart m) := PO.weak (po_some h) fun σ H Q ⟨F, fx, ss, S, g⟩ => by
  refine ⟨F, fx, ss, S, g.bind.mono fun F1 s1 h H1 e1 S1 g1 v r => ?_⟩
  obtain ⟨u, vu, g2⟩ := Good.lk S1 r g1
  cases u with
  | nd _ _ => exact g2.elim
  | c w =>
    cases w with
    | int i => exact ⟨i, vu.sc, g2 F1 H1 Ext.refl S1⟩
    | _ => exact g2.elim
def cutU (xs : List U) (lo hi : Option Int) : List U := (xs.drop (HT.sIx xs.length 0 lo)).take (HT.sIx xs.length xs.length hi - HT.sIx xs.length 0 lo)
theorem cutU_reps {N : En} {F : Hp} {us : List U} {vs : List V} {lo hi : Option Int} (r : Reps N F us vs) : Reps N F (cutU us lo hi) (cutV vs lo hi) := by
  unfold cutU cutV
  rw [← r.length]
  exact (r.drop _).take _
/-- s[lo:hi], a text -/
def mSlice (ma : M Hd) (ml mh : M (Option Int)) : M U := M.bind ma fun h => M.bind ml fun lo => M.bind mh fun hi => M.bind (look h) fun u => match u with
  | .c (.str z) => if decide (z.length ≤ sizeLine) = true then M.ret (.c (.str (cutS z lo hi))) else M.fail
  | .nd .tup xs => if HT.sIx xs.length 0 lo = 0 ∧ HT.sIx xs.length xs.length hi = xs.length then M.fail else M.ret (.nd .tup (cutU xs lo hi))
  | .nd .lst xs => M.ret (.nd .lst (cutU xs lo hi))
  | _ => M.fail
theorem de_slice {lo hi : Option Expr} {p2 : Pos} {ma : M Hd} {ml mh : M (Option Int)} (ha : DH cl X W a ma) (hl : DP cl X W lo ml) (hh : DP cl X W hi mh) : DE cl X W (.Subscript a (.Slice lo hi none p2) pos) (mSlice ma ml mh) :=
  PE.weak (pe_slice (SlR.or sl_str (SlR.or sl_list sl_tup)) ha hl hh) fun σ H Q ⟨F, fx, ss, S, g⟩ => by
    refine ⟨F, fx, ss, S, g.bind.mono fun F1 s1 h H1 e1 S1 g1 x rx => ?_⟩
    refine ⟨F1, fx, s1, S1, g1.bind.mono fun F2 s2 lo' H2 e2 S2 g2 => ?_⟩
    refine ⟨F2, fx, s2, S2, g2.bind.mono fun F3 s3 hi' H3 e3 S3 g3 => ?_⟩
    obtain ⟨u, vu, g4⟩ := Good.lk S3 (rx.ext (e2.trans e3)) g3
    cases u with
    | c w =>
      cases w with
      | str z =>
        have := vu.sc
        subst this
        by_cases hz : decide (z.length ≤ sizeLine) = true
        · simp only [if_pos hz] at g4
          exact .inl ⟨z, rfl, of_decide_eq_true hz, g4 F3 H3 Ext.refl S3 _ rfl⟩
        · simp only [if_neg hz] at g4; exact g4.elim
      | _ => exact g4.elim
    | nd t xs =>
      cases t with
      | lst =>
        obtain ⟨p, vs, rfl, hq, r⟩ := vu.lst S3
        refine .inr (.inl ⟨p, vs, rfl, SqL.of hq, fun q hq2 => ?_⟩)
        have So := S3.own (p := q) (t := .lst) (xs := cutU xs lo' hi') (vs := cutV vs lo' hi') (o := .lst (cutV vs lo' hi')) hq2 upd_same (cutU_reps r)
        obtain ⟨F4, e4, S4, r4⟩ := So.frozen
        exact g4 F4 _ e4 S4 _ r4
      | tup =>
        obtain ⟨p, vs, rfl, hq, r⟩ := vu.tup S3
        by_cases hw : HT.sIx xs.length 0 lo' = 0 ∧ HT.sIx xs.length xs.length hi' = xs.length
        · simp only [if_pos hw] at g4; exact g4.elim
        · simp only [if_neg hw] at g4
          refine .inr (.inr ⟨p, vs, rfl, hq, by rw [← r.length]; exact hw, fun q hq2 => ?_⟩)
          have e4 : Ext (enX X cl) F3 (upd F3 q (.tup (cutV vs lo' hi'))) := Ext.of (same_new (S3.fh.free hq2))
          exact g4 _ _ e4 (S3.laid hq2) _ ⟨q, _, rfl, .inl (.inl upd_same), e4.reps (cutU_reps r)⟩
      | _ => exact g4.elim
end
end Dl

set_option Elab.async false
set_option linter.all false
set_option maxRecDepth 100000
set_option maxHeartbeats 4000000
namespace Dl
open PySem L2
section
variable {cl : Nat → Addr} {X : Cx} {W : WX} {e a b c : Expr} {pos : Pos}
/-! ### operations that make a new thing -/
def Op2O (cl : Nat → Addr) (X : Cx) (f : Value → Value → Sem Value) (g : U → U → Option U) : Prop := ∃ r : R2, OpR X f r ∧
  ∀ (F : Hp) (fx : Fx) (ss : List Sl) (σ : St) (H : Hp) (u w z : U) (x y : V) (Q : VK), SRel (enX X cl) F fx ss σ H → View (enX X cl) F fx H u x → View (enX X cl) F fx H w y → g u w = some z →
    (∀ F' H' a, Ext (enX X cl) F F' → SRel (enX X cl) F' fx (ss ++ [.ow z]) (σ ++ [some (.ref a)]) H' → Q (.ref a) H') → r x y H Q
theorem Op2O.op2 {f : Value → Value → Sem Value} {g : U → U → Option U} (h : Op2O cl X f g) : Op2 cl X f g := by
  obtain ⟨r, h1, h2⟩ := h
  refine ⟨r, h1, fun F fx ss σ H u w z x y Q S vu vw hg k => h2 F fx ss σ H u w z x y Q S vu vw hg fun F' H' a e S' => ?_⟩
  obtain ⟨F2, e2, S2, r2⟩ := S'.frozen
  exact k F2 H' _ (e.trans e2) S2 r2
theorem do_bin {op : Operator} {g : U → U → Option U} {ma mb : M Hd} (ho : Op2O cl X (binaryOp op) g) (ha : DH cl X W a ma) (hb : DH cl X W b mb) : DO cl X W (.BinOp a op b pos) (mOp2 g ma mb) := by
  obtain ⟨r, h1, h2⟩ := ho
  refine PE.weak (pe_op h1 ha hb) fun σ H Q ⟨F, fx, ss, S, g0⟩ => ?_
  refine ⟨F, fx, ss, S, g0.bind.mono fun F1 ss1 h H1 e1 S1 g1 x rx => ?_⟩
  refine ⟨F1, fx, ss1, S1, g1.bind.mono fun F2 ss2 k H2 e2 S2 g2 y ry => ?_⟩
  obtain ⟨u, vu, g3⟩ := Good.lk S2 (rx.ext e2) g2
  obtain ⟨w, vw, g4⟩ := Good.lk S2 ry g3
  obtain ⟨z, hz, g5⟩ := g4.opt
  exact h2 F2 fx ss2 σ H2 u w z x y Q S2 vu vw hz fun F' H' p e S' => g5 F' H' e S'.less p S'
/-- xs + ys -/
def gCat : U → U → Option U := fun u w => match u, w with
  | .nd .lst xs, .nd .lst ys => if decide (xs.length + ys.length ≤ sizeLine) = true then some (.nd .lst (xs ++ ys)) else none
  | _, _ => none
theorem o_cat : Op2O cl X (binaryOp .Add) gCat := by
  refine ⟨_, op_cat, fun F fx ss σ H u w z x y Q S vu vw hg k => ?_⟩
  unfold gCat at hg
  split at hg
  · rename_i xs ys
    obtain ⟨p, vs, rfl, h1, r1⟩ := vu.lst S
    obtain ⟨q, ws, rfl, h2, r2⟩ := vw.lst S
    split at hg
    · rename_i hl
      cases hg
      have hl' : vs.length + ws.length ≤ sizeLine := by rw [← r1.length, ← r2.length]; exact of_decide_eq_true hl
      exact ⟨p, q, vs, ws, rfl, rfl, h1, h2, hl', fun n hn => k F _ n Ext.refl (S.own (t := .lst) (vs := vs ++ ws) hn upd_same (r1.append r2))⟩
    · cases hg
  · cases hg
/-- xs * n -/
def repU (n : Nat) (xs : List U) : List U := (List.replicate n xs).flatten
theorem repU_reps {N : En} {F : Hp} {us : List U} {vs : List V} (r : Reps N F us vs) : ∀ n, Reps N F (repU n us) (List.replicate n vs).flatten
  | 0 => rfl
  | n + 1 => by
    unfold repU
    rw [List.replicate_succ, List.replicate_succ, List.flatten_cons, List.flatten_cons]
    exact r.append (repU_reps r n)
def gRep : U → U → Option U := fun u w => match u, w with
  | .nd .lst xs, .c (.int k) => if (decide (-(2 ^ 63) ≤ k) && decide (k < 2 ^ 63) && decide (xs.length * k.toNat ≤ sizeLine)) = true then some (.nd .lst (repU k.toNat xs)) else none
  | _, _ => none
theorem o_rep : Op2O cl X (binaryOp .Mult) gRep := by
  refine ⟨_, op_rep, fun F fx ss σ H u w z x y Q S vu vw hg k => ?_⟩
  unfold gRep at hg
  split at hg
  · rename_i xs j
    obtain ⟨p, vs, rfl, h1, r1⟩ := vu.lst S
    have := vw.sc
    subst this
    split at hg
    · rename_i hl
      simp only [Bool.and_eq_true, decide_eq_true_eq] at hl
      cases hg
      exact ⟨p, j, vs, rfl, rfl, h1, hl.1.1, hl.1.2, by rw [← r1.length]; exact hl.2, fun n hn => k F _ n Ext.refl (S.own (t := .lst) (vs := _) hn upd_same (repU_reps r1 _))⟩
    · cases hg
  · cases hg
/-- s * n -/
def mulOkB (x : Str) (n : Int) : Bool := decide (-(2 ^ 63) ≤ n) && decide (n < 2 ^ 63) && decide (x.length * n.toNat ≤ sizeLine)
theorem mulOk_of {x : Str} {n : Int} (h : mulOkB x n = true) : MulOk x n := by
  unfold mulOkB at h
  simp only [Bool.and_eq_true, decide_eq_true_eq] at h
  obtain ⟨⟨h1, h2⟩, h3⟩ := h
  have e : sizeLine = 16777216 := sizeLine_eq
  refine ⟨?_, fun h4 h5 h6 => ?_, fun h4 h5 => ?_⟩
  · have a1 : decide (n < -(2 ^ 63 : Int)) = false := decide_eq_false (by omega)
    have a2 : decide (n ≥ 2 ^ 63) = false := decide_eq_false (by omega)
    rw [a1, a2]; rfl
  · have hn : 0 < n := by omega
    have h7 : ((2 : Int) ^ 63 - 1) < (x.length : Int) * n := by
      have := Int.lt_mul_of_ediv_lt hn h6
      exact this
    have h8 : (x.length : Int) * n = ((x.length * n.toNat : Nat) : Int) := by
      rw [Int.natCast_mul]
      congr 1
      omega
    rw [h8] at h7
    omega
  · unfold Builtin.Str.tooLong
    first
      | exact decide_eq_false (by omega)
      | (simp; omega)
theorem op_mulS : OpR X (binaryOp .Mult) (fun x y H Q => ∃ i n, x = .str i ∧ y = .int n ∧ MulOk i n ∧ Q (.str (Txt.mul i n)) H) := by
  intro pins s σ H x y v u Q I rx ry h
  obtain ⟨i, n, rfl, rfl, ok, q⟩ := h
  obtain ⟨t, rfl⟩ := rx
  obtain ⟨t', rfl⟩ := ry
  exact SB.mul ok fun t2 k => ⟨.str _, H, I.tok k, ⟨_, rfl⟩, q⟩
def gMulS : V → V → Option V := fun x y => match x, y with
  | .str i, .int n => if mulOkB i n = true then some (.str (Txt.mul i n)) else none
  | _, _ => none
theorem o_mulS : Op2 cl X (binaryOp .Mult) (sc2 gMulS) := Op2.sc op_mulS fun x y z H Q h q => by
  unfold gMulS at h
  split at h
  · rename_i i n
    split at h
    · rename_i hm
      cases h
      exact ⟨i, n, rfl, rfl, mulOk_of hm, q⟩
    · cases h
  · cases h
/-- list(s) -/
theorem call_listS (hc : X.calm = true) : CallR X (.type "list") (fun xs H Q => ∃ z, xs = [.str z] ∧ z.length ≤ sizeLine ∧ ∀ l, H l = none → Q (.ref l) (upd H l (.lst (z.cps.toList.map fun c => .str ⟨#[c]⟩)))) := by
  intro pins s σ H xs us Q I r h
  obtain ⟨z, rfl, hz, q⟩ := h
  obtain ⟨u, rfl, t, rfl⟩ := vals1 r
  have hf : H s.heap.objs.size = none := I.hok.fresh (Nat.le_refl _)
  refine PySem.call_list_str (I.ok.hd hc) z t (fun h' tk acc c' hk hS hacc => ?_) (hn := hz)
  refine ⟨.ref _, _, I.laid (o := .lst (z.cps.toList.map fun c => .str ⟨#[c]⟩)) (t' := tk) hk (Nat.le_refl _) (show ObjOk X.prog X.w _ h' _ (.lst _) from ⟨?_, acc.toList, c', ?_, by simpa using hS⟩), rfl, q _ hf⟩
  · rw [List.length_map]; exact hz
  · have hl : acc.size = z.cps.size := hacc.1
    have key : ∀ (n : Nat) (l : List Nat) (a : List Value), l.length = n → a.length = n → (∀ (j : Nat) (v : Value), a[j]? = some v → ∃ cc uu, l[j]? = some cc ∧ v = .str ⟨#[cc]⟩ uu) → Vals (l.map fun cc => V.str ⟨#[cc]⟩) a := by
      intro n
      induction n with
      | zero =>
        intro l a h1 h2 h3
        cases l with
        | nil =>
          cases a with
          | nil => exact .nil
          | cons _ _ => simp at h2
        | cons _ _ => simp at h1
      | succ n ih =>
        intro l a h1 h2 h3
        cases l with
        | nil => simp at h1
        | cons cc l =>
          cases a with
          | nil => simp at h2
          | cons v a =>
            obtain ⟨c2, u2, g1, g2⟩ := h3 0 v rfl
            simp at g1
            subst g1
            exact .cons ⟨u2, g2⟩ (ih l a (by simpa using h1) (by simpa using h2) fun j w hj => by
              obtain ⟨c3, u3, k1, k2⟩ := h3 (j + 1) w (by simpa using hj)
              exact ⟨c3, u3, by simpa using k1, k2⟩)
    refine key z.cps.size _ _ (by simp) (by simp [hl]) fun j v hj => ?_
    obtain ⟨cc, uu, k1, k2⟩ := hacc.2 j v (by simpa using hj)
    exact ⟨cc, uu, by simpa using k1, k2⟩
def gListS : List U → Option U := fun us => match us with
  | [.c (.str z)] => if decide (z.length ≤ sizeLine) = true then some (.nd .lst (signsOf z)) else none
  | _ => none
theorem signs_reps {N : En} {F : Hp} (z : Str) : Reps N F (signsOf z) (z.cps.toList.map fun c => V.str ⟨#[c]⟩) := by
  have := Reps.scal (N := N) (F := F) (z.cps.toList.map fun c => V.str ⟨#[c]⟩)
  rw [List.map_map] at this
  exact this
theorem cb_listS (hc : X.calm = true) : CbO cl X (.type "list") gListS := by
  refine ⟨_, call_listS hc, fun F fx ss σ H us z xs Q S vs hg k => ?_⟩
  unfold gListS at hg
  split at hg
  · rename_i y
    obtain ⟨x, rfl, v⟩ := views1 vs
    have := v.sc
    subst this
    split at hg
    · rename_i hz
      cases hg
      exact ⟨y, rfl, of_decide_eq_true hz, fun l hl => k F _ l Ext.refl (S.own (t := .lst) (vs := _) hl upd_same (signs_reps y))⟩
    · cases hg
  · cases hg
/-! ### sep.join(xs) -/
def strsOf : List U → Option (List Str)
  | [] => some []
  | .c (.str x) :: r => (strsOf r).map (x :: ·)
  | _ :: _ => none
theorem strsOf_reps {N : En} {F : Hp} : ∀ {us : List U} {ys : List Str} {vs : List V}, strsOf us = some ys → Reps N F us vs → vs = ys.map V.str
  | [], ys, vs, h, r => by cases h; exact r
  | .nd _ _ :: _, _, _, h, _ => by cases h
  | .c v :: us, ys, vs, h, ⟨v', r, h1, h2, h3⟩ => by
    cases v with
    | str b =>
      unfold strsOf at h
      cases q : strsOf us with
      | none => rw [q] at h; cases h
      | some ys' =>
        rw [q] at h
        cases h
        have e := strsOf_reps q h3
        rw [h1, e, show v' = V.str b from h2]
        rfl
    | _ => cases h
def gJoin (x : Str) (ys : List Str) : Option U := if decide ((ys.map (·.length)).sum + ys.length * x.length ≤ 16777216) = true then some (.c (.str (Txt.join x ys))) else none
def mJoin (ma mb : M Hd) : M U := M.bind ma fun h => M.bind (look h) fun u => match u with
  | .c (.str x) => M.bind mb fun k => M.bind (look k) fun w => match w with
    | .nd .lst xs => M.opt ((strsOf xs).bind (gJoin x))
    | .nd .tup xs => M.opt ((strsOf xs).bind (gJoin x))
    | _ => M.fail
  | _ => M.fail
theorem join_inv {x : Str} {xs : List U} {z : U} (h : (strsOf xs).bind (gJoin x) = some z) : ∃ ys, strsOf xs = some ys ∧ (ys.map (·.length)).sum + ys.length * x.length ≤ 16777216 ∧ z = .c (.str (Txt.join x ys)) := by
  cases q : strsOf xs with
  | none => rw [q] at h; cases h
  | some ys =>
    rw [q] at h
    simp only [Option.bind_some, gJoin] at h
    split at h
    · rename_i hl
      cases h
      exact ⟨ys, rfl, of_decide_eq_true hl, rfl⟩
    · cases h
theorem de_join {apos : Pos} {ma mb : M Hd} (ha : DH cl X W a ma) (hb : DH cl X W b mb) (hs : starEach [b] X.env = [(false, eval b X.env)] := by rfl) (hbase : attributeBase a "join" X.env (eval a X.env) = eval a X.env := by rfl) (hline : (apos.endLine == pos.line) = true := by rfl) :
    DE cl X W (.Call (.Attribute a "join" apos) [b] [] pos) (mJoin ma mb) := PE.weak (pe_join ha hb hs hbase hline) fun σ H Q ⟨F, fx, ss, S, g⟩ => by
  refine ⟨F, fx, ss, S, g.bind.mono fun F1 s1 h H1 e1 S1 g1 x rx => ?_⟩
  obtain ⟨u, vu, g2⟩ := Good.lk S1 rx g1
  cases u with
  | nd _ _ => exact g2.elim
  | c w =>
    cases w with
    | str y =>
      have := vu.sc
      subst this
      refine ⟨⟨y, rfl⟩, F1, fx, s1, S1, g2.bind.mono fun F2 s2 k H2 e2 S2 g3 v rv => ?_⟩
      obtain ⟨w, vw, g4⟩ := Good.lk S2 rv g3
      cases w with
      | c _ => exact g4.elim
      | nd t xs =>
        cases t with
        | lst =>
          obtain ⟨z, hz, g5⟩ := g4.opt
          obtain ⟨ys, h1, h2, rfl⟩ := join_inv hz
          obtain ⟨p, vs, rfl, hq, r⟩ := vw.lst S2
          have ev := strsOf_reps h1 r
          subst ev
          exact ⟨y, p, ys, rfl, rfl, .inl (SqL.of hq), h2, g5 F2 H2 Ext.refl S2 _ rfl⟩
        | tup =>
          obtain ⟨z, hz, g5⟩ := g4.opt
          obtain ⟨ys, h1, h2, rfl⟩ := join_inv hz
          obtain ⟨p, vs, rfl, hq, r⟩ := vw.tup S2
          have ev := strsOf_reps h1 r
          subst ev
          exact ⟨y, p, ys, rfl, rfl, .inr hq, h2, g5 F2 H2 Ext.refl S2 _ rfl⟩
        | _ => exact g4.elim
    | _ => exact g2.elim
/-- s.startswith(t) and its like, by values -/
def mMt1 (g : Str → Str → V) (ma mb : M Hd) : M U := M.bind ma fun h => M.bind (look h) fun u => match u with
  | .c (.str x) => M.bind mb fun k => M.bind (look k) fun w => match w with
    | .c (.str y) => M.ret (.c (g x y))
    | _ => M.fail
  | _ => M.fail
theorem de_mt1 {id : String} {name : Str} {g : Str → Str → V} {apos : Pos} {ma mb : M Hd} (slot : Slot "str" name id) (ty : typeOf (.builtin id) = pure (.type "method_descriptor")) (rule : MtR X id (fun x xs H Q => ∃ a b, x = .str a ∧ xs = [.str b] ∧ Q (g a b) H)) (ha : DH cl X W a ma) (hb : DH cl X W b mb)
    (hs : starEach [b] X.env = [(false, eval b X.env)] := by rfl) (hbase : attributeBase a name X.env (eval a X.env) = eval a X.env := by rfl) (hline : (apos.endLine == pos.line) = true := by rfl) :
    DE cl X W (.Call (.Attribute a name apos) [b] [] pos) (mMt1 g ma mb) := PE.weak (pe_m1 slot ty rule ha hb hs hbase hline) fun σ H Q ⟨F, fx, ss, S, g⟩ => by
  refine ⟨F, fx, ss, S, g.bind.mono fun F1 s1 h H1 e1 S1 g1 x rx => ?_⟩
  obtain ⟨u, vu, g2⟩ := Good.lk S1 rx g1
  cases u with
  | nd _ _ => exact g2.elim
  | c w =>
    cases w with
    | str y =>
      have := vu.sc
      subst this
      refine ⟨⟨y, rfl⟩, F1, fx, s1, S1, g2.bind.mono fun F2 s2 k H2 e2 S2 g3 v rv => ?_⟩
      obtain ⟨w, vw, g4⟩ := Good.lk S2 rv g3
      cases w with
      | nd _ _ => exact g4.elim
      | c w =>
        cases w with
        | str z =>
          have := vw.sc
          subst this
          exact ⟨y, z, rfl, rfl, g4 F2 H2 Ext.refl S2 _ rfl⟩
        | _ => exact g4.elim
    | _ => exact g2.elim
/-! ### what one has is changed -/
/-- the thing of one's own in a slot -/
def mine (i : Nat) : M (Tag × List U) := fun ss => match ss[i]? with
  | some (.ow (.nd t xs)) => .ok (t, xs) ss
  | some (.io (.nd t xs)) => .ok (t, xs) ss
  | _ => .no
def remine (i : Nat) (t : Tag) (xs : List U) : M Unit := fun ss => .ok () (ss.set i (reown (ss.getD i .no) (.nd t xs)))
theorem mine_inv {N : En} {F : Hp} {fx : Fx} {ss : List Sl} {σ : St} {H : Hp} {D : Ends} {i : Nat} {f : Tag × List U → M Fl} (S : SRel N F fx ss σ H) (g : GoodS N W F fx D (M.bind (mine i) f ss)) :
    ∃ s t xs p, ss[i]? = some s ∧ (s = .ow (.nd t xs) ∨ s = .io (.nd t xs)) ∧ σ[i]? = some (some (.ref p)) ∧ (∃ vs, HoldsO N F fx H t p vs ∧ Reps N F xs vs) ∧ GoodS N W F fx D (f (t, xs) ss) := by
  unfold M.bind mine at g
  cases q : ss[i]? with
  | none => rw [q] at g; exact g.elim
  | some s =>
    rw [q] at g
    cases s with
    | no => exact g.elim
    | fz u => exact g.elim
    | ow u =>
      cases u with
      | c _ => exact g.elim
      | nd t xs =>
        obtain ⟨p, hp⟩ := S.slotAddr (.inl q)
        have ow := S.slotOwn (.inl q) hp
        exact ⟨_, t, xs, p, rfl, .inl rfl, hp, ow.2, g⟩
    | io u =>
      cases u with
      | c _ => exact g.elim
      | nd t xs =>
        obtain ⟨p, hp⟩ := S.slotAddr (.inr q)
        have ow := S.slotOwn (.inr q) hp
        exact ⟨_, t, xs, p, rfl, .inr rfl, hp, ow.2, g⟩
/-- it is a list -/
def isL (i : Nat) : M Unit := M.bind (mine i) fun (t, _) => match t with
  | .lst => M.ret ()
  | _ => M.fail
theorem isL_inv {N : En} {F : Hp} {fx : Fx} {ss : List Sl} {σ : St} {H : Hp} {D : Ends} {i : Nat} {f : Unit → M Fl} (S : SRel N F fx ss σ H) (g : GoodS N W F fx D (M.bind (isL i) f ss)) : (∃ p vs, σ[i]? = some (some (.ref p)) ∧ H p = some (.lst vs)) ∧ GoodS N W F fx D (f () ss) := by
  have e : M.bind (isL i) f = M.bind (mine i) fun (t, xs) => match t with
    | .lst => f ()
    | _ => M.fail := by
    funext s
    unfold isL M.bind
    cases mine i s with
    | no => rfl
    | ex _ _ => rfl
    | ok a s' =>
      obtain ⟨t, xs⟩ := a
      cases t <;> rfl
  rw [e] at g
  obtain ⟨s, t, xs, p, h1, h2, h3, ⟨vs, h4, _⟩, h5⟩ := mine_inv S g
  cases t with
  | lst => exact ⟨⟨p, vs, h3, h4⟩, h5⟩
  | _ => exact h5.elim
theorem remine_inv {N : En} {F : Hp} {fx : Fx} {D : Ends} {ss : List Sl} {i : Nat} {s : Sl} {t : Tag} {xs : List U} {f : Unit → M Fl} (h : ss[i]? = some s) (g : GoodS N W F fx D (M.bind (remine i t xs) f ss)) : GoodS N W F fx D (f () (ss.set i (reown s (.nd t xs)))) := by
  have e : ss.getD i .no = s := by simp [List.getD, h]
  unfold M.bind remine at g
  rw [e] at g
  exact g
/-- x.append(e) -/
def mAppend (i : Nat) (m : M U) : M Fl := M.bind (isL i) fun _ => M.bind m fun u => M.bind (mine i) fun (t, xs) => match t with
  | .lst => if xs.length < sizeLine then M.bind (remine i .lst (xs ++ [u])) fun _ => M.ret .nx else M.fail
  | _ => M.fail
theorem ds_append {i : Nat} {x : Expr} {apos cpos : Pos} {me : M U} (hx : PE X x (tVar i)) (he : DE cl X W e me) (hbase : attributeBase x "append" X.env (eval x X.env) = eval x X.env := by rfl)
    (hfew : ((backTo cpos (starEach [e] X.env)).all (fun x => !x.1) && (backToKw cpos (keywordEach [] X.env)).all (fun x => x.1.isSome) && decide ([e].length + ([] : List Keyword).length + (if ([] : List Keyword).isEmpty then 0 else 1) < 30)) = true := by rfl)
    (hline : (apos.endLine == cpos.line) = true := by rfl) (hs : starEach [e] X.env = (false, eval e X.env) :: starEach [] X.env := by rfl) (hplain : (backTo cpos (starEach [] X.env)).any (·.1) = false := by rfl)
    (hsw : swapsWith (.Call (.Attribute x "append" apos) [e] [] cpos) none pos.line X.env = pure false := by rfl) :
    DS cl X W (.Expr (.Call (.Attribute x "append" apos) [e] [] cpos) pos) (mAppend i me) := by
  have pa : PA X [e] (tCons (lE (enX X cl) W me) tNil) := pa_cons he pa_nil hs
  refine PS.weak (ps_expr (pe_bm PySem.F.plainAttrs_list PySem.F.slot_list_append PySem.F.type_list_append mt_append hx pa hbase hfew hline hs hplain) hsw) fun D σ H ⟨F, fx, ss, S, g⟩ => ?_
  obtain ⟨⟨p, ws, h1, h2⟩, g1⟩ := isL_inv S g
  refine ⟨_, h1, .inl ⟨rfl, ws, SqL.of h2⟩, F, fx, ss, S, (goodS_bind (σ := σ) g1).mono fun F1 s1 u H1 e1 S1 g2 v rv => ?_⟩
  obtain ⟨s, t, xs, p', q1, q2, q3, ⟨vs, q4, q5⟩, g3⟩ := mine_inv S1 g2
  rw [h1] at q3
  cases q3
  cases t with
  | lst =>
    dsimp only at g3
    split at g3
    · rename_i hl
      have hl' : vs.length < sizeLine := by rw [← q5.length]; exact hl
      refine ⟨p, vs, v, rfl, rfl, q4, hl', ?_⟩
      have S2 := S1.write (o := .lst (vs ++ [v])) (t' := .lst) (xs' := xs ++ [u]) (vs' := vs ++ [v]) q1 q2 h1 upd_same (q5.append ⟨v, [], rfl, rv, rfl⟩)
      exact remine_inv q1 g3 F1 _ σ Ext.refl S2
    · exact g3.elim
  | _ => exact g3.elim
/-- x.extend(ys) -/
def mExtend (i : Nat) (m : M Hd) : M Fl := M.bind (isL i) fun _ => M.bind m fun h => M.bind (look h) fun w => M.bind (mine i) fun (t, xs) => match t, w with
  | .lst, .nd .lst ys => if xs.length + ys.length ≤ sizeLine then M.bind (remine i .lst (xs ++ ys)) fun _ => M.ret .nx else M.fail
  | _, _ => M.fail
theorem ds_extend {i : Nat} {x : Expr} {apos cpos : Pos} {me : M Hd} (hx : PE X x (tVar i)) (he : DH cl X W e me) (hbase : attributeBase x "extend" X.env (eval x X.env) = eval x X.env := by rfl)
    (hfew : ((backTo cpos (starEach [e] X.env)).all (fun x => !x.1) && (backToKw cpos (keywordEach [] X.env)).all (fun x => x.1.isSome) && decide ([e].length + ([] : List Keyword).length + (if ([] : List Keyword).isEmpty then 0 else 1) < 30)) = true := by rfl)
    (hline : (apos.endLine == cpos.line) = true := by rfl) (hs : starEach [e] X.env = (false, eval e X.env) :: starEach [] X.env := by rfl) (hplain : (backTo cpos (starEach [] X.env)).any (·.1) = false := by rfl)
    (hsw : swapsWith (.Call (.Attribute x "extend" apos) [e] [] cpos) none pos.line X.env = pure false := by rfl) :
    DS cl X W (.Expr (.Call (.Attribute x "extend" apos) [e] [] cpos) pos) (mExtend i me) := by
  have pa : PA X [e] (tCons (lH (enX X cl) W me) tNil) := pa_cons he pa_nil hs
  refine PS.weak (ps_expr (pe_bm PySem.F.plainAttrs_list PySem.F.slot_list_extend PySem.F.type_list_extend mt_extend hx pa hbase hfew hline hs hplain) hsw) fun D σ H ⟨F, fx, ss, S, g⟩ => ?_
  obtain ⟨⟨p, ws, h1, h2⟩, g1⟩ := isL_inv S g
  refine ⟨_, h1, .inl ⟨rfl, ws, SqL.of h2⟩, F, fx, ss, S, (goodS_bind (σ := σ) g1).mono fun F1 s1 h H1 e1 S1 g2 v rv => ?_⟩
  obtain ⟨w, g2', vw⟩ := look_view S1 rv (P := Good _ W F1 fx σ _) (goodS_bind (σ := σ) g2) (fun z => z)
  obtain ⟨s, t, xs, p', q1, q2, q3, ⟨vs, q4, q5⟩, g3⟩ := mine_inv S1 (g2' F1 H1 Ext.refl S1)
  rw [h1] at q3
  cases q3
  cases t with
  | lst =>
    cases w with
    | c _ => exact g3.elim
    | nd t2 ys =>
      cases t2 with
      | lst =>
        dsimp only at g3
        split at g3
        · rename_i hl
          obtain ⟨b, us, rfl, hb, rb⟩ := vw.lst S1
          have hl' : vs.length + us.length ≤ sizeLine := by rw [← q5.length, ← rb.length]; exact hl
          refine ⟨p, b, vs, us, rfl, rfl, q4, hb, hl', ?_⟩
          have S2 := S1.write (o := .lst (vs ++ us)) (t' := .lst) (xs' := xs ++ ys) (vs' := vs ++ us) q1 q2 h1 upd_same (q5.append rb)
          exact remine_inv q1 g3 F1 _ σ Ext.refl S2
        · exact g3.elim
      | _ => exact g3.elim
  | _ => exact g3.elim
end
end Dl

set_option Elab.async false
set_option linter.all false
set_option maxRecDepth 100000
set_option maxHeartbeats 4000000
namespace Dl
open PySem L2
/-! ### x[i] = e -/
section
variable {κ α : Type} [DecidableEq κ]
def zipSet (k : κ) (u : α) : List κ → List α → List α
  | k' :: ks, x :: xs => (if k' = k then u else x) :: zipSet k u ks xs
  | _, xs => xs
def hasK (k : κ) (ks : List κ) : Bool := ks.any fun k' => decide (k' = k)
def putKs (k : κ) (ks : List κ) : List κ := if hasK k ks = true then ks else ks ++ [k]
def putUs (k : κ) (u : α) (ks : List κ) (xs : List α) : List α := if hasK k ks = true then zipSet k u ks xs else xs ++ [u]
theorem zipSet_length {k : κ} {u : α} : ∀ {ks : List κ} {xs : List α}, (zipSet k u ks xs).length = xs.length
  | [], xs => by unfold zipSet; rfl
  | _ :: _, [] => by unfold zipSet; rfl
  | _ :: ks, _ :: xs => by unfold zipSet; simp [zipSet_length (ks := ks) (xs := xs)]
theorem zip_any {k : κ} : ∀ {ks : List κ} {vs : List V}, ks.length = vs.length → ((ks.zip vs).any fun kv => decide (kv.1 = k)) = hasK k ks
  | [], _, _ => rfl
  | _ :: _, [], h => by simp at h
  | k' :: ks, v :: vs, h => by
    have := zip_any (k := k) (ks := ks) (vs := vs) (by simpa using h)
    unfold hasK at this ⊢
    simp [List.any_cons, this]
theorem zip_set {k : κ} {v : V} : ∀ {ks : List κ} {vs : List V}, (ks.zip vs).map (fun kv => if kv.1 = k then (kv.1, v) else kv) = ks.zip (zipSet k v ks vs)
  | [], _ => rfl
  | _ :: _, [] => rfl
  | k' :: ks, w :: vs => by
    have := zip_set (k := k) (v := v) (ks := ks) (vs := vs)
    unfold zipSet
    rw [List.zip_cons_cons, List.map_cons, List.zip_cons_cons, this]
    by_cases e : k' = k
    · rw [if_pos e, if_pos e]
    · rw [if_neg e, if_neg e]
theorem zip_snoc {β : Type} : ∀ {ks : List κ} {vs : List β} {k : κ} {v : β}, ks.length = vs.length → ks.zip vs ++ [(k, v)] = (ks ++ [k]).zip (vs ++ [v])
  | [], [], _, _, _ => rfl
  | [], _ :: _, _, _, h => by simp at h
  | _ :: _, [], _, _, h => by simp at h
  | _ :: ks, _ :: vs, k, v, h => by
    have := zip_snoc (ks := ks) (vs := vs) (k := k) (v := v) (by simpa using h)
    simp [this]
theorem putK_zip {k : κ} {v : V} {ks : List κ} {vs : List V} (h : ks.length = vs.length) : putK (ks.zip vs) k v = (putKs k ks).zip (putUs k v ks vs) ∧ (putKs k ks).length = (putUs k v ks vs).length := by
  unfold putK putKs putUs
  rw [zip_any h]
  by_cases e : hasK k ks = true
  · rw [if_pos e, if_pos e, if_pos e, zip_set]
    exact ⟨rfl, by rw [zipSet_length]; exact h⟩
  · rw [if_neg e, if_neg e, if_neg e, zip_snoc h]
    exact ⟨rfl, by simp [h]⟩
theorem zipSet_reps {N : En} {F : Hp} {k : κ} {u : U} {v : V} (r : Rep N F u v) : ∀ {ks : List κ} {us : List U} {vs : List V}, Reps N F us vs → Reps N F (zipSet k u ks us) (zipSet k v ks vs)
  | [], us, vs, h => by unfold zipSet; exact h
  | _ :: _, [], _, h => by cases h; exact rfl
  | k' :: ks, x :: us, _, ⟨w, vr, e, h1, h2⟩ => by
    subst e
    unfold zipSet
    refine ⟨_, _, rfl, ?_, zipSet_reps r h2⟩
    by_cases e : k' = k
    · rw [if_pos e, if_pos e]; exact r
    · rw [if_neg e, if_neg e]; exact h1
theorem putUs_reps {N : En} {F : Hp} {k : κ} {u : U} {v : V} {ks : List κ} {us : List U} {vs : List V} (r : Rep N F u v) (h : Reps N F us vs) : Reps N F (putUs k u ks us) (putUs k v ks vs) := by
  unfold putUs
  by_cases e : hasK k ks = true
  · rw [if_pos e, if_pos e]; exact zipSet_reps r h
  · rw [if_neg e, if_neg e]; exact h.append ⟨v, [], rfl, r, rfl⟩
end
theorem PSet.or {X : Cx} {t t' : TSet} (h : PSet X t) (h' : PSet X t') : PSet X (fun o i v H Q => t o i v H Q ∨ t' o i v H Q) := fun pins s σ H o i v ov iv u Q I ro ri rv q => by
  rcases q with q | q
  · exact h pins s σ H o i v ov iv u Q I ro ri rv q
  · exact h' pins s σ H o i v ov iv u Q I ro ri rv q
section
variable {cl : Nat → Addr} {X : Cx} {W : WX} {e a b c : Expr} {pos : Pos}
def setU (t : Tag) (xs : List U) (w u : U) : Option (Tag × List U) := match t with
  | .lst => match w with
    | .c (.int k) => (ixN xs.length k).map fun j => (.lst, xs.set j u)
    | _ => none
  | .dK ks => (keyU w).bind fun k => if decide (ks.length = xs.length ∧ xs.length < sizeLine) = true then some (.dK (putKs k ks), putUs k u ks xs) else none
  | _ => none
def mSetIx (i : Nat) (mi : M Hd) (me : M U) : M Fl := M.bind me fun u => M.bind (peek i) fun _ => M.bind mi fun h => M.bind (look h) fun w => M.bind (mine i) fun (t, xs) => match setU t xs w u with
  | some (t', xs') => M.bind (remine i t' xs') fun _ => M.ret .nx
  | none => M.fail
theorem ds_setIx {i : Nat} {o ix : Expr} {ps : Pos} {mi : M Hd} {me : M U} (hu : X.A.units + 1 < cLine) (ho : PE X o (tVar i)) (hi : DH cl X W ix mi) (he : DE cl X W e me)
    (ha : ∀ v, assign (.Subscript o ix ps) X.env v = (do
      let ov ← holding [v] (eval o X.env)
      let iv ← holding [v, ov] (eval ix X.env)
      standAt ps
      holding [v, ov, iv] (setItem ov iv v)
      release [v, ov, iv] []) := by intro _; rfl)
    (hs : swapsWithSole [.Subscript o ix ps] e pos.line X.env = pure false := by rfl) (hw : swappedStores [.Subscript o ix ps] e X.env = pure none := by rfl)
    (h1 : (assignEach [.Subscript o ix ps] X.env).map (·.2) = [assign (.Subscript o ix ps) X.env] := by rfl) : DS cl X W (.Assign [.Subscript o ix ps] e pos) (mSetIx i mi me) := by
  refine PS.weak (ps_asg he (pg_sub ho hi (PSet.or set_list (set_dict hu)) ha) hs hw h1) fun D σ H ⟨F, fx, ss, S, g⟩ => ?_
  refine ⟨F, fx, ss, S, (goodS_bind (σ := σ) g).mono fun F1 s1 u H1 e1 S1 g1 v rv => ?_⟩
  have g1' := goodS_bind (σ := σ) g1
  obtain ⟨p, hp⟩ := S1.val (P := Good _ W F1 fx σ _) g1' (fun z => z)
  obtain ⟨u0, g2, _⟩ := peek_view S1 hp (P := Good _ W F1 fx σ _) g1' (fun z => z)
  refine ⟨p, hp, F1, fx, s1, S1, (goodS_bind (σ := σ) (g2 F1 H1 Ext.refl S1)).mono fun F2 s2 h H2 e2 S2 g3 y ry => ?_⟩
  obtain ⟨w, g4, vw⟩ := look_view S2 ry (P := Good _ W F2 fx σ _) (goodS_bind (σ := σ) g3) (fun z => z)
  obtain ⟨s, t, xs, p', q1, q2, q3, ⟨vs, q4, q5⟩, g5⟩ := mine_inv S2 (g4 F2 H2 Ext.refl S2)
  rw [hp] at q3
  cases q3
  have rv2 := e2.rep rv
  dsimp only at g5
  cases hq : setU t xs w u with
  | none => rw [hq] at g5; exact g5.elim
  | some tx =>
    obtain ⟨t', xs'⟩ := tx
    rw [hq] at g5
    dsimp only at g5
    unfold setU at hq
    split at hq
    · split at hq
      · rename_i k
        cases vw.sc
        cases hj : ixN xs.length k with
        | none => rw [hj] at hq; cases hq
        | some j =>
          rw [hj] at hq
          cases hq
          refine .inl ⟨p', vs, k, j, rfl, rfl, q4, by rw [← q5.length]; exact hj, ?_⟩
          have S3 := S2.write (o := .lst (vs.set j v)) (t' := .lst) (xs' := xs.set j u) (vs' := vs.set j v) q1 q2 hp upd_same (q5.set rv2)
          exact remine_inv q1 g5 F2 _ σ Ext.refl S3
      · cases hq
    · rename_i ks
      cases hk : keyU w with
      | none => rw [hk] at hq; cases hq
      | some k =>
        rw [hk] at hq
        simp only [Option.bind_some] at hq
        split at hq
        · rename_i hl
          have hl := of_decide_eq_true hl
          cases hq
          have hy := keyU_is vw hk
          subst hy
          obtain ⟨ql, qH⟩ := q4
          have lz : (ks.zip vs).length < sizeLine := by rw [List.length_zip, ← ql, Nat.min_self, hl.1]; exact hl.2
          obtain ⟨z1, z2⟩ := putK_zip (k := k) (v := v) ql
          refine .inr ⟨p', _, rfl, DPut.k qH lz, ?_⟩
          have S3 := S2.write (o := .dK (putK (ks.zip vs) k v)) (t' := .dK (putKs k ks)) (xs' := putUs k u ks xs) (vs' := putUs k v ks vs) q1 q2 hp ⟨z2, by rw [upd_same, z1]⟩ (putUs_reps rv2 q5)
          exact remine_inv q1 g5 F2 _ σ Ext.refl S3
        · cases hq
    · cases hq
/-! ### a, b = e1, e2 -/
def put2 (i j : Nat) (hs : List Hd) : M Fl := M.bind (M.opt (vals hs)) fun us => match us with
  | [u, w] => M.bind (putS i (.fz u)) fun _ => M.bind (putS j (.fz w)) fun _ => M.ret .nx
  | _ => M.fail
def put3 (i j k : Nat) (hs : List Hd) : M Fl := M.bind (M.opt (vals hs)) fun us => match us with
  | [u, w, z] => M.bind (putS i (.fz u)) fun _ => M.bind (putS j (.fz w)) fun _ => M.bind (putS k (.fz z)) fun _ => M.ret .nx
  | _ => M.fail
theorem optS_inv {α : Type} {N : En} {F : Hp} {fx : Fx} {D : Ends} {ss : List Sl} {o : Option α} {f : α → M Fl} (g : GoodS N W F fx D (M.bind (M.opt o) f ss)) : ∃ a, o = some a ∧ GoodS N W F fx D (f a ss) := by
  cases o with
  | none => exact g.elim
  | some a => exact ⟨a, rfl, g⟩
theorem ds_par {i j : Nat} {x y : Str} {ma : M (List Hd)} {px py pt : Pos} {kt k2 pt2} (hc : X.calm = true) (hN : X.N.Nodup) (hi : X.N[i]? = some x) (hj : X.N[j]? = some y) (hij : i ≠ j)
    (hx : X.env.scope.names.lookup x = some .local) (hy : X.env.scope.names.lookup y = some .local) (ha : DA cl X W [a, b] ma)
    (hw : swappedStores [.Tuple [.Name x px, .Name y py] kt pt] (.Tuple [a, b] k2 pt2) X.env = pure (some [x, y]))
    (hs : swapsWithSole [.Tuple [.Name x px, .Name y py] kt pt] (.Tuple [a, b] k2 pt2) pos.line X.env = pure false := by rfl) :
    DS cl X W (.Assign [.Tuple [.Name x px, .Name y py] kt pt] (.Tuple [a, b] k2 pt2) pos) (M.bind ma (put2 i j)) := by
  refine PS.weak (ps_par hc hN hi hj hij hx hy ha hw hs) fun D σ H ⟨F, fx, ss, S, g⟩ => ?_
  refine ⟨F, fx, ss, S, (goodS_bind (σ := σ) g).mono fun F1 s1 hs H1 e1 S1 g1 vs rs => ?_⟩
  obtain ⟨us, hq, g1⟩ := optS_inv g1
  match us, hq, g1 with
  | [u, w], hq, g1 =>
    obtain ⟨v1, r1, rfl, h1, v2, r2, rfl, h2, h3⟩ := vals_reps hq rs
    cases h3
    exact ⟨v1, v2, rfl, put_inv (put_inv g1) F1 H1 _ Ext.refl ((S1.putF h1).putF h2)⟩
  | [], _, g1 => exact g1.elim
  | [_], _, g1 => exact g1.elim
  | _ :: _ :: _ :: _, _, g1 => exact g1.elim
theorem ds_par3 {i j l : Nat} {x y z : Str} {ma : M (List Hd)} {px py pz pt : Pos} {kt k2 pt2} (hc : X.calm = true) (hN : X.N.Nodup) (hi : X.N[i]? = some x) (hj : X.N[j]? = some y) (hl : X.N[l]? = some z) (hij : i ≠ j) (hil : i ≠ l) (hjl : j ≠ l)
    (hx : X.env.scope.names.lookup x = some .local) (hy : X.env.scope.names.lookup y = some .local) (hz : X.env.scope.names.lookup z = some .local) (ha : DA cl X W [a, b, c] ma)
    (hw : swappedStores [.Tuple [.Name x px, .Name y py, .Name z pz] kt pt] (.Tuple [a, b, c] k2 pt2) X.env = pure (some [x, y, z]))
    (hs : swapsWithSole [.Tuple [.Name x px, .Name y py, .Name z pz] kt pt] (.Tuple [a, b, c] k2 pt2) pos.line X.env = pure false := by rfl) :
    DS cl X W (.Assign [.Tuple [.Name x px, .Name y py, .Name z pz] kt pt] (.Tuple [a, b, c] k2 pt2) pos) (M.bind ma (put3 i j l)) := by
  refine PS.weak (ps_par3 hc hN hi hj hl hij hil hjl hx hy hz ha hw hs) fun D σ H ⟨F, fx, ss, S, g⟩ => ?_
  refine ⟨F, fx, ss, S, (goodS_bind (σ := σ) g).mono fun F1 s1 hs H1 e1 S1 g1 vs rs => ?_⟩
  obtain ⟨us, hq, g1⟩ := optS_inv g1
  match us, hq, g1 with
  | [u, w, z], hq, g1 =>
    obtain ⟨v1, r1, rfl, h1, v2, r2, rfl, h2, v3, r3, rfl, h3, h4⟩ := vals_reps hq rs
    cases h4
    exact ⟨v1, v2, v3, rfl, put_inv (put_inv (put_inv g1)) F1 H1 _ Ext.refl (((S1.putF h1).putF h2).putF h3)⟩
  | [], _, g1 => exact g1.elim
  | [_], _, g1 => exact g1.elim
  | [_, _], _, g1 => exact g1.elim
  | _ :: _ :: _ :: _ :: _, _, g1 => exact g1.elim
/-! ### {k: v, ..} -/
theorem Good.hid {α : Type} {N : En} {F : Hp} {fx : Fx} {σ : St} {Q : Hp → List Sl → α → Hp → Prop} {r : Rz α} {D : Addr} {o : HO} (g : Good N W F fx σ Q r) (hR : fx.R D = none) (hZ : ¬ fx.Z D) : Good N W F (fxB fx D o) σ Q r := by
  cases r with
  | no => exact g
  | ok a ss => exact fun F' H' e S' => g F' H' e (S'.unhide hR hZ).1
  | ex x ss => exact fun F' H' cls d e S' x => g F' H' cls d e (S'.unhide hR hZ).1 x
def mPairs : List (M U × M U) → M (List (Key × U))
  | [] => M.ret []
  | (mk, mv) :: r => M.bind mk fun ku => match keyU ku with
    | none => M.fail
    | some k => M.bind mv fun u => M.bind (mPairs r) fun ps => M.ret ((k, u) :: ps)
def trsOf (N : En) (W : WX) (ms : List (M U × M U)) : List (TE × TE) := ms.map fun p => (lE N W p.1, lE N W p.2)
def DPs (cl : Nat → Addr) (X : Cx) (W : WX) (pos : Pos) (keys : List (Option Expr)) (values : List Expr) (ms : List (M U × M U)) : Prop := PPs X pos keys values (trsOf (enX X cl) W ms)
theorem dps_nil : DPs cl X W pos [] [] [] := pps_nil
theorem dps_cons {k v : Expr} {ks : List (Option Expr)} {vs : List Expr} {mk mv : M U} {ms : List (M U × M U)} (hk : DE cl X W k mk) (hv : DE cl X W v mv) (hr : DPs cl X W pos ks vs ms) : DPs cl X W pos (some k :: ks) (v :: vs) ((mk, mv) :: ms) := pps_cons hk hv hr
/-- the values of the pairs -/
def RepKs (N : En) (F : Hp) : List (Key × U) → List (Key × V) → Prop
  | [], vs => vs = []
  | p :: ps, vs => ∃ v r, vs = (p.1, v) :: r ∧ Rep N F p.2 v ∧ RepKs N F ps r
theorem pairs_run {N : En} {fx : Fx} {σ : St} : ∀ {ms : List (M U × M U)} {F : Hp} {ss : List Sl} {H : Hp} {Q : List (V × V) → Hp → Prop}, SRel N F fx ss σ H →
    Good N W F fx σ (fun F' ss' kus H' => ∀ kvs, RepKs N F' kus kvs → Q (kvs.map fun kv => (kV kv.1, kv.2)) H') (mPairs ms ss) → tPairs (trsOf N W ms) σ H Q
  | [], F, ss, H, Q, S, g => g F H Ext.refl S [] rfl
  | (mk, mv) :: ms, F, ss, H, Q, S, g => by
    unfold mPairs at g
    refine ⟨F, fx, ss, S, g.bind.mono fun F1 s1 ku H1 e1 S1 g1 x rx => ?_⟩
    cases hk : keyU ku with
    | none => rw [hk] at g1; exact g1.elim
    | some k =>
      rw [hk] at g1
      have ex : x = kV k := keyU_is (fx := fx) (H := H1) (.inl rx) hk
      subst ex
      refine ⟨F1, fx, s1, S1, g1.bind.mono fun F2 s2 u H2 e2 S2 g2 y ry => ?_⟩
      refine pairs_run S2 (g2.bind.mono fun F3 s3 ps H3 e3 S3 g3 kvs rk => ?_)
      exact g3 F3 H3 Ext.refl S3 ((k, y) :: kvs) ⟨y, kvs, rfl, e3.rep ry, rk⟩
def mergeU (ps : List (Key × U)) : List Key × List U := ps.foldl (fun (acc : List Key × List U) p => (putKs p.1 acc.1, putUs p.1 p.2 acc.1 acc.2)) ([], [])
theorem merge_run {N : En} {F : Hp} : ∀ {ps : List (Key × U)} {kvs : List (Key × V)} {ks : List Key} {us : List U} {vs : List V}, RepKs N F ps kvs → ks.length = vs.length → Reps N F us vs →
    ∃ vs', mergeK (ks.zip vs) kvs = (ps.foldl (fun (acc : List Key × List U) p => (putKs p.1 acc.1, putUs p.1 p.2 acc.1 acc.2)) (ks, us)).1.zip vs' ∧ (ps.foldl (fun (acc : List Key × List U) p => (putKs p.1 acc.1, putUs p.1 p.2 acc.1 acc.2)) (ks, us)).1.length = vs'.length ∧
      Reps N F (ps.foldl (fun (acc : List Key × List U) p => (putKs p.1 acc.1, putUs p.1 p.2 acc.1 acc.2)) (ks, us)).2 vs'
  | [], _, ks, us, vs, r, hl, ru => by cases r; exact ⟨vs, rfl, hl, ru⟩
  | p :: ps, _, ks, us, vs, ⟨v, r, e, h1, h2⟩, hl, ru => by
    subst e
    obtain ⟨z1, z2⟩ := putK_zip (k := p.1) (v := v) hl
    obtain ⟨vs', a, b, c⟩ := merge_run (ps := ps) h2 z2 (putUs_reps (k := p.1) (ks := ks) h1 ru)
    refine ⟨vs', ?_, b, c⟩
    rw [← z1] at a
    exact a
def mDict (ms : List (M U × M U)) : M U := M.bind (mPairs ms) fun ps => if decide (ps.length ≤ 15) = true then M.ret (.nd (.dK (mergeU ps).1) (mergeU ps).2) else M.fail
theorem repKs_length {N : En} {F : Hp} : ∀ {ps : List (Key × U)} {kvs : List (Key × V)}, RepKs N F ps kvs → kvs.length = ps.length
  | [], _, h => by cases h; rfl
  | _ :: _, _, ⟨_, _, e, _, h⟩ => by subst e; simp [repKs_length h]
theorem do_dict {keys : List (Option Expr)} {values : List Expr} {ms : List (M U × M U)} (h : DPs cl X W pos keys values ms) (hall : keys.all (·.isSome) = true := by rfl) (hl : keys.length = values.length := by rfl) (h0 : keys ≠ [] := by simp)
    (h15 : keys.length ≤ 15 := by decide) : DO cl X W (.Dict keys values pos) (mDict ms) := by
  refine PE.weak (pe_disp h hall hl h0 h15) fun σ H Q ⟨F, fx, ss, S, g⟩ p hp => ?_
  have mD : fx.R p = none ∧ ¬ fx.Z p := (S.mineNew hp).2
  refine pairs_run (S.hide (o := .dK []) hp) (((g.bind).hid (o := .dK []) mD.1 mD.2).mono fun F1 s1 kus H1 e1 S1 g1 kvs rk => ?_)
  split at g1
  · rename_i h15
    have h15 := of_decide_eq_true h15
    refine ⟨S1.hid, kvs, rfl, by rw [repKs_length rk]; exact h15, ?_⟩
    obtain ⟨vs, m1, m2, m3⟩ := merge_run (ks := []) (us := []) (vs := []) rk rfl rfl
    have S2 := S1.rehide (o' := .dK (mergeK [] kvs))
    obtain ⟨U1, U2, U3⟩ := S2.unhide mD.1 mD.2
    refine g1 F1 _ Ext.refl U1 p (U1.snoc ⟨p, rfl, U2, vs, ⟨m2, ?_⟩, m3⟩ fun _ i t a h1 o1 e1 e2 => ?_)
    · rw [upd_same]; exact congrArg (fun z => some (HO.dK z)) m1
    · cases e2; exact U3 i t p h1 o1 e1 rfl
  · exact g1.elim
theorem do_dict0 : DO cl X W (.Dict [] [] pos) (M.ret (.nd (.dK []) [])) := PE.weak pe_dnewK fun σ H Q ⟨F, fx, ss, S, g⟩ p hp => by
  have So := S.own (p := p) (t := .dK []) (xs := []) (vs := []) (o := .dK []) hp ⟨rfl, upd_same⟩ rfl
  exact g F _ Ext.refl So.less p So
end
end Dl

set_option Elab.async false
set_option linter.all false
set_option maxRecDepth 100000
set_option maxHeartbeats 4000000
namespace Dl
open PySem PySem.Spec L2 PyProof.Rows
/-! ### sets of texts -/
def addT (k : Str) (ks : List Str) : List Str := if decide (k ∈ ks) = true then ks else ks ++ [k]
section
variable {P : Program} {w : World} {A : Around} {E : Value → Shared → Prop} {s : Shared} {a : Addr} {ks : List Str}
theorem SetR1.keep {h h' : Heap} (R : SetR1 w h a ks) (k : ∀ o, h.get? a = some o → h'.get? a = some o) : SetR1 w h' a ks := by
  obtain ⟨o, es, ep, t, ho, r⟩ := R
  exact ⟨o, es, ep, t, k o ho, r⟩
theorem goodT_elems {l : List (Int × Value)} (g : ∀ e ∈ l, GoodT w e) : ElemsOf (PySem.strKind P w) l := fun e he => by
  obtain ⟨k, tk, h1, h2⟩ := g e he
  exact ⟨⟨k, by rw [h1]; exact PySem.Froz.is_str k tk, h2⟩, by rw [h1] <;> rfl⟩
theorem goodT_is {e : Int × Value} (g : GoodT w e) (k : Str) : (PySem.strKind P w).is k e.2 = true ↔ textE e = k := by
  obtain ⟨k0, tk, h1, _⟩ := g
  have h0 : (PySem.strKind P w).is k0 e.2 = true := by rw [h1]; exact PySem.Froz.is_str k0 tk
  have ht : textE e = k0 := by unfold textE; rw [h1]
  rw [ht]
  exact ⟨fun z => (PySem.strKind P w).inj e.2 k0 k h0 z, fun z => z ▸ h0⟩
theorem goodT_mem {l : List (Int × Value)} (g : ∀ e ∈ l, GoodT w e) (k : Str) : k ∈ l.map textE ↔ ∃ e ∈ l, (PySem.strKind P w).is k e.2 = true := by
  rw [List.mem_map]
  exact ⟨fun ⟨e, he, q⟩ => ⟨e, he, (goodT_is (g e he) k).2 q⟩, fun ⟨e, he, q⟩ => ⟨e, he, (goodT_is (g e he) k).1 q⟩⟩
theorem addT_tail {gv : Bool → Sem Unit} (hgv : ∀ (b : Bool) (s1 : Shared) (Q1 : Unit → Shared → Prop), Q1 () s1 → wpAny (model P w) A (gv b) Q1 E s1)
    {o : Obj} {es0 : Array (Int × Value)} {ep : Nat} {t0 : SetTable} (ho : s.heap.get? a = some o) (hex : o.ExactSet) (hd : o.data = .set es0 ep t0)
    {es : Array (Int × Value)} {t : SetTable} (ge : ∀ e ∈ es.toList, GoodT w e) (pe : (es.toList.map textE).Perm ks) (nd : ks.Nodup)
    (hb : es.size < scanBound) (hf : t.fits es.size = true) (hr : Ris t.place.toList) (hl : w.params.followText "set-order" = true ∨ t.led = true) {wd : Bool} {R : Option Bool → Shared → Prop}
    (hR : ∀ h', Heap.SameBut a s.heap h' → SetR1 w h' a ks → R (some true) { s with heap := h' }) :
    wpAny (model P w) A (do
        storeSet a es t
        if (!wd && t.tooFull) = true then do
            gv (relayAll t es (SetTable.grown es.size)).2.2
            storeSet a (relayAll t es (SetTable.grown es.size)).1 (relayAll t es (SetTable.grown es.size)).2.1
            pure (some true)
          else pure (some true)) R E s := by
  have st1 := store_at (es' := es) (t' := t) ho hd
  have same1 := Heap.SameBut.update s.heap a (Obj.putSet es t)
  refine wpAny_bind (wpAny_storeSet_of ho hd ?_ (fits_of_scanBound hb))
  by_cases full : (!wd && t.tooFull) = true
  · rw [if_pos full]
    have p2 := relayAll_perm t es (SetTable.grown es.size)
    have f2 := relayAll_fits t es (SetTable.grown es.size)
    have r2 := relayAll_ris t es (SetTable.grown es.size)
    have l2 := relayAll_led t es (SetTable.grown es.size)
    generalize relayAll t es (SetTable.grown es.size) = Y at p2 f2 r2 l2 ⊢
    obtain ⟨es2, t2, gave⟩ := Y
    dsimp only at p2 f2 r2 l2 ⊢
    have z2 : es2.size = es.size := by rw [← Array.length_toList, p2.length_eq, Array.length_toList]
    have b2 : es2.size < scanBound := z2 ▸ hb
    refine wpAny_bind (hgv _ _ _ (wpAny_bind (wpAny_storeSet_of st1 rfl ?_ (fits_of_scanBound b2))))
    have st2 := store_at (es' := es2) (t' := t2) st1 rfl
    exact wpAny_pure (hR _ (same1.trans (Heap.SameBut.update _ a _)) ⟨_, es2, _, t2, st2, hex, rfl, fun e he => ge e (p2.mem_iff.mp he), (p2.map textE).trans pe, nd, b2, f2, r2, hl.imp id fun z => l2.trans z⟩)
  · rw [if_neg full]
    exact wpAny_pure (hR _ same1 ⟨_, es, _, t, st1, hex, rfl, ge, pe, nd, hb, hf, hr, hl⟩)
theorem addT_hashed {k : Str} {u : Tok} {Q : Bool → Shared → Prop} (R : SetR1 w s.heap a ks) (room : ks.length + 1 < scanBound)
    (hQ : ∀ h', Heap.SameBut a s.heap h' → SetR1 w h' a (addT k ks) → Q (!decide (k ∈ ks)) { s with heap := h' }) :
    wpAny (model P w) A (setAddHashed a (.str k u) ((PySem.strKind P w).hash k)) Q E s := by
  obtain ⟨o, es, ep, t, ho, hex, hd, ge, pe, nd, hb, hf, hr, hl⟩ := R
  have kk : (PySem.strKind P w).is k (.str k u) = true := PySem.Froz.is_str k u
  have sc : (Value.str k u).scannable = true := rfl
  have el : ElemsOf (PySem.strKind P w) es.toList := goodT_elems ge
  unfold setAddHashed setAddHashedIn
  refine wpAny_holding (wpAny_bind (wpAny_setState_of ho hd hf ?_))
  dsimp only
  rw [byScan_of sc hb el]
  simp only [↓reduceIte]
  unfold setAddByScan
  refine wpAny_bind (wpAny_bind (wpAny_rule (wpAny_bind (wpAny_setScan_of kk ho hd hf el ?_))))
  have hmem : k ∈ ks ↔ ∃ e ∈ es.toList, (PySem.strKind P w).is k e.2 = true := by rw [← pe.mem_iff]; exact goodT_mem ge k
  cases hfi : List.findIdx? (fun e => (PySem.strKind P w).is k e.2) es.toList with
  | some j =>
    dsimp only
    obtain ⟨hj, pj, _⟩ := List.findIdx?_eq_some_iff_getElem.mp hfi
    have hin : k ∈ ks := hmem.2 ⟨es.toList[j], List.getElem_mem hj, pj⟩
    have hin' : decide (k ∈ ks) = true := decide_eq_true hin
    have e1 : addT k ks = ks := by unfold addT; rw [if_pos hin']
    have q := hQ s.heap (Heap.SameBut.refl a s.heap) (e1.symm ▸ ⟨o, es, ep, t, ho, hex, hd, ge, pe, nd, hb, hf, hr, hl⟩)
    rw [hin'] at q
    exact wpAny_pure (wpAny_pure q)
  | none =>
    dsimp only
    have hnin : k ∉ ks := fun z => by
      obtain ⟨e, he, q⟩ := hmem.1 z
      have c := List.findIdx?_eq_none_iff.mp hfi e he
      rw [q] at c
      cases c
    have hnin' : decide (k ∈ ks) = false := decide_eq_false hnin
    have e1 : addT k ks = ks ++ [k] := by unfold addT; rw [hnin']; rfl
    rw [hnin', e1] at hQ
    have gw : ∀ (b : Bool) {s1 : Shared} {Q1 : Unit → Shared → Prop}, Q1 () s1 → wpAny (model P w) A (match b with | true => rule "set.scan.the-table-gave-way" | false => pure ()) Q1 E s1 := fun b s1 Q1 q => by
      cases b
      · exact wpAny_pure q
      · exact wpAny_rule q
    have p1 := layNew_perm t es ((PySem.strKind P w).hash k) (.str k u)
    have f1 := layNew_fits t es ((PySem.strKind P w).hash k) (.str k u)
    have r1 := layNew_ris t es ((PySem.strKind P w).hash k) (.str k u) hr
    have l1 := layNew_led t es ((PySem.strKind P w).hash k) (.str k u)
    generalize layNew t es ((PySem.strKind P w).hash k) (.str k u) = Y at p1 f1 r1 l1 ⊢
    obtain ⟨es1, t1, wd, gave⟩ := Y
    dsimp only at p1 f1 r1 l1 ⊢
    rw [Array.toList_push] at p1
    have ge1 : ∀ e ∈ es1.toList, GoodT w e := fun e he => by
      rcases List.mem_append.mp (p1.mem_iff.mp he) with z | z
      · exact ge e z
      · rw [List.mem_singleton.mp z]; exact ⟨k, u, rfl, rfl⟩
    have pe1 : (es1.toList.map textE).Perm (ks ++ [k]) := by
      have q := p1.map textE
      rw [List.map_append] at q
      exact q.trans (pe.append_right _)
    have nd1 : (ks ++ [k]).Nodup := by
      rw [List.nodup_append]
      exact ⟨nd, by simp, fun x hx y hy => by rw [List.mem_singleton.mp hy]; intro z; exact hnin (z ▸ hx)⟩
    have z1 : es1.size = ks.length + 1 := by
      have q := pe1.length_eq
      rw [List.length_map, Array.length_toList, List.length_append] at q
      exact q
    have b1 : es1.size < scanBound := z1 ▸ room
    have led1 : w.params.followText "set-order" = true ∨ t1.led = true := hl.imp id fun z => l1.trans z
    refine wpAny_bind (gw _ ?_)
    split
    · refine wpAny_bind ?_
      rw [hashByValue_scannable 8 sc]
      refine wpAny_pure ?_
      refine addT_tail ?_ ho hex hd ge1 pe1 nd1 b1 ?_ ?_ ?_ ?_
      · intro b s1 Q1 q
        cases b
        · exact wpAny_pure q
        · exact wpAny_rule q
      · split
        · exact SetTable.fits_plain_off f1
        · exact f1
      · split <;> exact r1
      · split <;> exact led1
      · exact fun h' sb r => wpAny_pure (hQ h' sb r)
    · refine wpAny_bind (wpAny_pure ?_)
      simp only [↓reduceIte]
      refine addT_tail ?_ ho hex hd ge1 pe1 nd1 b1 f1 r1 led1 ?_
      · intro b s1 Q1 q
        cases b
        · exact wpAny_pure q
        · exact wpAny_rule q
      · exact fun h' sb r => wpAny_pure (hQ h' sb r)
theorem setR1_new {h : Heap} (ho : h.get? a = some { cls := .type "set", dict := none, data := .set #[] 0 (.fresh 0 0 (!w.params.followText "set-order")) }) : SetR1 w h a [] := by
  refine ⟨_, #[], 0, _, ho, ⟨rfl, rfl, rfl⟩, rfl, fun e he => by simp at he, List.Perm.nil, List.nodup_nil, by decide, by rfl, List.Pairwise.nil, ?_⟩
  cases q : w.params.followText "set-order"
  · exact .inr rfl
  · exact .inl rfl
def addAll (xs : List Str) (ks : List Str) : List Str := xs.foldl (fun acc k => addT k acc) ks
theorem addT_le (k : Str) (ks : List Str) : (addT k ks).length ≤ ks.length + 1 := by
  unfold addT
  split <;> simp
theorem addAll_le : ∀ (xs ks : List Str), (addAll xs ks).length ≤ ks.length + xs.length
  | [], ks => Nat.le_refl _
  | x :: xs, ks => by
    have h1 := addAll_le xs (addT x ks)
    have h2 := addT_le x ks
    show (addAll xs (addT x ks)).length ≤ _
    rw [List.length_cons]; omega
/-- the loop of set.update over texts -/
theorem update_texts {I : Addr} {fp wr : List Addr} {G : Array GenState → Array GenState → Prop} {n : Nat} {Pv : Nat → Value → Prop} {St : Nat → Shared → Prop} {R : Result → Shared → Prop}
    (Wk : WalksS P w A.in1 I fp wr G n Pv St) (D : Addr) (hD : D ∉ fp) (xs : List Str) (hn : n = xs.length) (hb : xs.length + 1 < scanBound) (hval : ∀ i v, Pv i v → ∃ k u, xs[i]? = some k ∧ v = .str k u) :
    ∀ (m i : Nat) (s : Shared), n - i = m → i ≤ n → St i s → SetR1 w s.heap D (addAll (xs.take i) []) →
      (∀ s', Moved (D :: wr) G s s' → SetR1 w s'.heap D (addAll xs []) → R (.ok (.ret .none)) s') →
      codeAny (model P w) A (.builtin "set.update.loop" ⟨[.ref D, .ref I], []⟩) R s := by
  have nw : D ∉ wr := fun z => hD (Wk.sub _ z)
  have sub : ∀ b ∈ wr, b ∈ D :: wr := fun b z => List.mem_cons_of_mem _ z
  intro m
  induction m with
  | zero =>
    intro i s hm hi st hS hR
    have hi' : i = n := by omega
    subst hi'
    refine codeAny_builtin PyProof.Rows.F.entry_set_update_loop ?_
    rw [Around.under_plainId PyProof.Rows.F.plain_set_update_loop _]
    refine wpAny_bind (m := pyNext (.ref I)) (Wk.done s _ _ st fun s' mv => wpAny_pure (hR s' (mv.mono sub) ?_))
    rw [List.take_of_length_le (by omega)] at hS
    exact hS.keep fun o e => mv.heap D o nw e
  | succ m ih =>
    intro i s hm hi st hS hR
    have lt : i < n := by omega
    refine codeAny_builtin PyProof.Rows.F.entry_set_update_loop ?_
    rw [Around.under_plainId PyProof.Rows.F.plain_set_update_loop _]
    refine wpAny_bind (m := pyNext (.ref I)) (Wk.item i s _ _ lt st fun v s' pv st' mv => ?_)
    obtain ⟨z, u, hz, rfl⟩ := hval i v pv
    have hS' : SetR1 w s'.heap D (addAll (xs.take i) []) := hS.keep fun o e => mv.heap D o nw e
    refine wpAny_bind (m := holding [Value.str z u] (setAdd D (.str z u))) (wpAny_holding ?_)
    unfold setAdd
    refine wpAny_holding (wpAny_bind ((PySem.strKind P w).pyHash (k := z) (PySem.Froz.is_str _ _) ?_))
    have room : (addAll (xs.take i) []).length + 1 < scanBound := by
      have q := addAll_le (xs.take i) []
      rw [List.length_take] at q
      have : min i xs.length ≤ xs.length := Nat.min_le_right ..
      simp only [List.length_nil, Nat.zero_add] at q
      omega
    refine addT_hashed (s := { s' with toks := s'.toks + 1 }) hS' room fun h' sb hS2 => ?_
    have e2 : addT z (addAll (xs.take i) []) = addAll (xs.take (i + 1)) [] := by
      rw [List.take_add_one, hz]
      unfold addAll
      rw [List.foldl_append]
      rfl
    rw [e2] at hS2
    refine wpAny_pure ⟨plainId_quiet PyProof.Rows.F.plain_set_update_loop _, ih (i + 1) _ (by omega) lt (Wk.frame _ s' _ _ st' (Nat.le_succ _) fun b hb' o e => ?_) hS2 fun s2 mv2 hS3 => ?_⟩
    · rw [sb.2 b fun z => hD (z ▸ hb')]; exact e
    · refine hR s2 (Moved.trans Wk.gtrans ((mv.mono sub).then_heap (Nat.le_succ _) fun b o hb' e => ?_) mv2) hS3
      rw [sb.2 b fun z => hb' (z ▸ List.mem_cons_self)]; exact e
end
end Dl

set_option Elab.async false
set_option linter.all false
set_option maxRecDepth 100000
set_option maxHeartbeats 4000000
namespace Dl
open PySem PySem.Spec L2 PyProof.Rows
/-- x can be walked, and gives the texts xs -/
structure GivesT (P : Program) (w : World) (s0 : Shared) (x : Value) (T : String) (xs : List Str) : Prop where
  ty : ∀ s1 : Shared, (∀ b o, s0.heap.get? b = some o → s1.heap.get? b = some o) → s1.TypeIs x T
  ns : isSubtype (.type T) (.type "set") = pure false
  nf : isSubtype (.type T) (.type "frozenset") = pure false
  nd : (Value.type T == Value.type "dict") = false
  go : ∀ (A' : Around) (E' : Value → Shared → Prop) (s1 : Shared) (Q : Value → Shared → Prop), (∀ b o, s0.heap.get? b = some o → s1.heap.get? b = some o) → s0.heap.objs.size ≤ s1.heap.objs.size →
    (∀ (ob : Obj) (fp : List Addr) (Pv : Nat → Value → Prop) (St : Nat → Heap → Prop), (∀ A2 : Around, A2.handled = none → PySem.Walks P w A2 s1.heap.objs.size fp [s1.heap.objs.size] xs.length Pv St) →
      (∀ b ∈ fp, b = s1.heap.objs.size ∨ b < s0.heap.objs.size) → (∀ i v, Pv i v → ∃ k u, xs[i]? = some k ∧ v = .str k u) → St 0 (s1.heap.push ob) → Q (.ref s1.heap.objs.size) { s1 with heap := s1.heap.push ob }) →
    wpAny (model P w) A' (pyIter x) Q E' s1
section
variable {P : Program} {w : World} {A : Around} {E : Value → Shared → Prop} {s s0 : Shared} {x : Value} {T : String} {xs : List Str}
theorem updateFrom_texts {id : String} {D : Addr} {Q : Unit → Shared → Prop} (hh : A.handled = none) (g : GivesT P w s0 x T xs) (hk : ∀ b o, s0.heap.get? b = some o → s.heap.get? b = some o) (hz : s0.heap.objs.size ≤ s.heap.objs.size) (hD : s0.heap.objs.size ≤ D)
    (hS : SetR1 w s.heap D []) (hb : xs.length + 1 < scanBound)
    (h : ∀ (h' : Heap) (tk : Nat), SetR1 w h' D (addAll xs []) → (∀ b o, b ≠ D → s.heap.get? b = some o → h'.get? b = some o) → Q () { s with heap := h', toks := tk }) :
    wpAny (model P w) A (Builtin.Frozenset.updateFrom id D x) Q E s := by
  have hT := g.ty s hk
  have hDl : D < s.heap.objs.size := let ⟨_, _, _, _, ho, _⟩ := hS; Heap.lt_size ho
  unfold Builtin.Frozenset.updateFrom Builtin.Frozenset.isAnySet orM
  refine wpAny_bind (wpAny_bind (wpAny_isInstance hT g.ns ?_))
  refine wpAny_isInstance hT g.nf ?_
  rw [if_neg (by decide)]
  refine wpAny_bind (wpAny_typeOf hT ?_)
  rw [g.nd]
  rw [if_neg (by decide)]
  refine wpAny_bind (g.go _ _ s _ hk hz fun ob fp Pv St wk hfp hv st => ?_)
  have nD : D ∉ fp := fun z => by
    rcases hfp D z with q | q
    · exact absurd q (Nat.ne_of_lt hDl)
    · exact absurd hD (Nat.not_le_of_lt q)
  refine wpAny_bind (wpAny_runValue ?_)
  refine update_texts ((wk A.in1 hh).toS) D nD xs rfl hb hv xs.length 0 _ (by omega) (Nat.zero_le _) st (hS.keep fun o e => Heap.get?_push_of_some _ e) fun s' mv hS' => ?_
  obtain ⟨h', g', d', tk', os'⟩ := s'
  have eg : g' = s.gens := mv.gens
  have ed : d' = s.drawn := mv.drawn
  have eo : os' = s.os := mv.os
  subst eg ed eo
  refine wpAny_pure (h h' tk' hS' fun b o nb e => ?_)
  have lb : b < s.heap.objs.size := Heap.lt_size e
  refine mv.heap b o (fun z => ?_) (Heap.get?_push_of_some _ e)
  rcases List.mem_cons.mp z with q | q
  · exact nb q
  · exact absurd (List.mem_singleton.mp q) (Nat.ne_of_lt lb)
theorem call_set_texts {Q : Value → Shared → Prop} (hh : A.handled = none) (g : GivesT P w s x T xs) (hb : xs.length + 1 < scanBound)
    (h : ∀ (h' : Heap) (tk : Nat), SetR1 w h' s.heap.objs.size (addAll xs []) → (∀ b o, s.heap.get? b = some o → h'.get? b = some o) → Q (.ref s.heap.objs.size) { s with heap := h', toks := tk }) :
    wpAny (model P w) A (call (.type "set") [x]) Q E s := by
  obtain ⟨c, tl, hmro⟩ := PySem.F.called_set.mro
  have hmade := PySem.F.called_set.made
  have hsub := PySem.F.called_set.sub
  refine wpAny_call (codeAny_of_tree (wpAny_pure ⟨Code.quiet_builtin _ (by decide +kernel), codeAny_builtin PySem.F.entry_type_call ?_⟩))
  rw [Around.under_plain (weight_type_call_type "set" [x] []) rfl]
  have h1 := PySem.F.called_set.notType
  have h2 := PySem.F.called_set.canCreate
  have hct := PySem.F.typeCall_set_1 x
  repeat (any_goals (first | assumption | wp_step))
  refine codeAny_mono (code_set_led1 x (E := E) (Q₁ := fun ob s1 => ob = .ref s.heap.objs.size ∧ s1 = { s with heap := s.heap.push { cls := .type "set", dict := none, data := .set #[] 0 (.fresh 0 0 (!w.params.followText "set-order")) } }) ⟨rfl, rfl⟩) fun r s1 hr => ?_
  cases r with
  | error e => exact hr
  | ok fl =>
    cases fl with
    | ret ob =>
      obtain ⟨rfl, rfl⟩ := hr
      have st : (s.heap.push { cls := .type "set", dict := none, data := .set #[] 0 (.fresh 0 0 (!w.params.followText "set-order")) }).get? s.heap.objs.size = some { cls := .type "set", dict := none, data := .set #[] 0 (.fresh 0 0 (!w.params.followText "set-order")) } := Heap.get?_push_size _ rfl
      have hT : Shared.TypeIs { s with heap := s.heap.push { cls := .type "set", dict := none, data := .set #[] 0 (.fresh 0 0 (!w.params.followText "set-order")) } } (.ref s.heap.objs.size) "set" := ⟨_, st, rfl⟩
      have hli := PySem.F.called_set.init.lookup
      have hbi := PySem.F.called_set.init.bind (.ref s.heap.objs.size)
      repeat (any_goals (first | assumption | wp_step))
      refine codeAny_mono (codeAny_call_builtin (R := wants (fun r s2 => r = .none ∧ ∃ h' tk, s2 = { s with heap := h', toks := tk } ∧ SetR1 w h' s.heap.objs.size (addAll xs []) ∧ (∀ b o, s.heap.get? b = some o → h'.get? b = some o)) E)
        PySem.F.called_set.init.plain PySem.F.entry_set_init (check_set_init_1 hT ?_)) fun r2 s2 hr2 => ?_
      · unfold Builtin.«set.__init__» noKeywords
        generalize hU : Builtin.Frozenset.updateFrom = U
        wp_walk
        subst hU
        refine updateFrom_texts (s := { s with heap := s.heap.push { cls := .type "set", dict := none, data := .set #[] 0 (.fresh 0 0 (!w.params.followText "set-order")) } }) (by simp [hh]) g (fun b o e => Heap.get?_push_of_some _ e) (by show _ ≤ (Heap.push _ _).objs.size; rw [Heap.size_push]; exact Nat.le_succ _) (Nat.le_refl _) (setR1_new st) hb fun h' tk hS' hk' => ?_
        refine wpAny_pure ⟨rfl, h', tk, rfl, hS', fun b o e => hk' b o (Nat.ne_of_lt (Heap.lt_size e)) (Heap.get?_push_of_some _ e)⟩
      · cases r2 with
        | error e => exact hr2
        | ok fl2 =>
          cases fl2 with
          | ret r =>
            obtain ⟨rfl, h', tk, rfl, hS', hk'⟩ := hr2
            repeat (any_goals (first | assumption | wp_step))
            exact h _ _ hS' hk'
          | _ => exact hr2.elim
    | _ => exact hr.elim
theorem givesT_str (z : Str) (t : Tok) : GivesT P w s (.str z t) "str" (z.cps.toList.map fun c => ⟨#[c]⟩) where
  ty := fun s1 _ => typeIs_str _ _ _
  ns := PySem.F.sub_str_set
  nf := PySem.F.sub_str_frozenset
  nd := by decide
  go := fun A' E' s1 Q hk hz hQ => wpAny_pyIter_str fun o St wk st => hQ o [s1.heap.objs.size] (SignAt z) St (by
      rw [List.length_map, Array.length_toList]
      exact wk) (fun b hb => .inl (List.mem_singleton.mp hb)) (fun i v ⟨c, u, h1, h2⟩ => ⟨⟨#[c]⟩, u, by rw [List.getElem?_map, Array.getElem?_toList, h1]; rfl, h2⟩) st
theorem strs_get : ∀ {us : List Value} {xs : List Str} {i : Nat} {v : Value}, Vals (xs.map V.str) us → us[i]? = some v → ∃ k u, xs[i]? = some k ∧ v = .str k u
  | [], [], _, _, _, h => by simp at h
  | _ :: _, [], _, _, r, _ => by cases r
  | [], _ :: _, _, _, r, _ => by cases r
  | u :: us, x :: xs, 0, v, r, h => by
    cases r with
    | cons p q =>
      obtain ⟨t, e⟩ := p
      simp at h
      subst h
      exact ⟨x, t, rfl, e⟩
  | u :: us, x :: xs, i + 1, v, r, h => by
    cases r with
    | cons p q => exact strs_get (us := us) (xs := xs) (i := i) q (by simpa using h)
theorem givesT_tup {l : Addr} {its : List Value} (hl : s.heap.IsTuple l its.toArray) (r : Vals (xs.map V.str) its) : GivesT P w s (.ref l) "tuple" xs where
  ty := fun s1 hk => (hl.at fun o e => hk l o e).typeIs
  ns := PySem.F.sub_tuple_set
  nf := PySem.F.sub_tuple_frozenset
  nd := by decide
  go := fun A' E' s1 Q hk hz hQ => by
    have hl1 : s1.heap.IsTuple l its.toArray := hl.at fun o e => hk l o e
    have lt : l < s.heap.objs.size := let ⟨_, h, _⟩ := hl; Heap.lt_size h
    have e : xs.length = its.toArray.size := by rw [List.size_toArray, ← r.length, List.length_map]
    refine wpAny_pyIter_tuple hl1 (hQ _ _ _ _ (fun A2 h2 => e ▸ PySem.Walks.tuple h2 s1.heap.objs.size l (Nat.ne_of_lt (Nat.lt_of_lt_of_le lt hz)) its.toArray) (fun b hb => ?_) (fun i v hv => strs_get r (by simpa using hv)) ⟨⟨_, Heap.get?_push_size _ rfl, rfl, rfl⟩, hl1.push _⟩)
    rcases List.mem_cons.mp hb with q | q
    · exact .inl q
    · exact .inr (List.mem_singleton.mp q ▸ lt)
theorem givesT_lst {l : Addr} {its : List Value} (hl : s.heap.IsList l its.toArray) (r : Vals (xs.map V.str) its) : GivesT P w s (.ref l) "list" xs where
  ty := fun s1 hk => (hl.at fun o e => hk l o e).typeIs
  ns := PySem.F.sub_list_set
  nf := PySem.F.sub_list_frozenset
  nd := by decide
  go := fun A' E' s1 Q hk hz hQ => by
    have hl1 : s1.heap.IsList l its.toArray := hl.at fun o e => hk l o e
    have lt : l < s.heap.objs.size := let ⟨_, h, _⟩ := hl; Heap.lt_size h
    have e : xs.length = its.toArray.size := by rw [List.size_toArray, ← r.length, List.length_map]
    refine wpAny_pyIter_list hl1 (hQ _ _ _ _ (fun A2 h2 => e ▸ PySem.Walks.list h2 s1.heap.objs.size l (Nat.ne_of_lt (Nat.lt_of_lt_of_le lt hz)) its.toArray) (fun b hb => ?_) (fun i v hv => strs_get r (by simpa using hv)) ⟨⟨_, Heap.get?_push_size _ rfl, rfl, rfl⟩, hl1.push _⟩)
    rcases List.mem_cons.mp hb with q | q
    · exact .inl q
    · exact .inr (List.mem_singleton.mp q ▸ lt)
end
end Dl

set_option Elab.async false
set_option linter.all false
set_option maxRecDepth 100000
set_option maxHeartbeats 4000000
namespace Dl
open PySem PySem.Spec L2 PyProof.Rows PySem.W
/-! ### sorting texts -/
def leT (a b : Str) : Bool := decide (a.cps.toList ≤ b.cps.toList)
theorem leT_total (a b : Str) : (leT a b || leT b a) = true := by
  unfold leT
  rcases List.le_total a.cps.toList b.cps.toList with h | h
  · simp [h]
  · simp [h]
theorem leT_trans (a b c : Str) (h : leT a b = true) (k : leT b c = true) : leT a c = true := by
  unfold leT at *
  exact decide_eq_true (List.le_trans (of_decide_eq_true h) (of_decide_eq_true k))
theorem leT_anti {a b : Str} (h : leT a b = true) (k : leT b a = true) : a = b := by
  unfold leT at *
  have e := List.le_antisymm (of_decide_eq_true h) (of_decide_eq_true k)
  cases a; cases b
  exact congrArg _ (Array.toList_inj.mp e)
def insT (k : Str) : List Str → List Str
  | [] => [k]
  | x :: xs => if leT k x = true then k :: x :: xs else x :: insT k xs
def sortT (ks : List Str) : List Str := ks.foldr insT []
theorem insT_perm (k : Str) : ∀ xs, (insT k xs).Perm (k :: xs)
  | [] => .refl _
  | x :: xs => by
    unfold insT
    split
    · exact .refl _
    · exact ((insT_perm k xs).cons x).trans (.swap ..)
theorem sortT_perm : ∀ xs, (sortT xs).Perm xs
  | [] => .refl _
  | x :: xs => (insT_perm x (sortT xs)).trans ((sortT_perm xs).cons x)
theorem insT_sorted (k : Str) : ∀ {xs : List Str}, xs.Pairwise (fun a b => leT a b = true) → (insT k xs).Pairwise (fun a b => leT a b = true)
  | [], _ => List.pairwise_singleton _ _
  | x :: xs, h => by
    obtain ⟨h1, h2⟩ := List.pairwise_cons.mp h
    unfold insT
    split
    · rename_i q
      exact List.pairwise_cons.mpr ⟨fun y hy => by
        rcases List.mem_cons.mp hy with e | e
        · rw [e]; exact q
        · exact leT_trans _ _ _ q (h1 y e), h⟩
    · rename_i q
      refine List.pairwise_cons.mpr ⟨fun y hy => ?_, insT_sorted k h2⟩
      rcases List.mem_cons.mp ((insT_perm k xs).mem_iff.mp hy) with e | e
      · rw [e]
        have t := leT_total k x
        rw [Bool.or_eq_true] at t
        exact t.resolve_left q
      · exact h1 y e
theorem sortT_sorted : ∀ xs, (sortT xs).Pairwise (fun a b => leT a b = true)
  | [] => List.Pairwise.nil
  | x :: xs => insT_sorted x (sortT_sorted xs)
theorem merge_sortT {bs ks : List Str} (p : bs.Perm ks) : bs.mergeSort (dataLe false PyData.str) = sortT ks := by
  have e : dataLe false PyData.str = fun a b => leT a b := dataLe_str (fun b : Str => b)
  rw [e]
  refine List.Perm.eq_of_pairwise (le := fun a b => leT a b = true) (fun a b _ _ h k => leT_anti h k) ?_ (sortT_sorted ks) (((List.mergeSort_perm bs _).trans p).trans (sortT_perm ks).symm)
  exact List.pairwise_mergeSort (fun a b c h k => leT_trans a b c h k) (fun a b => leT_total a b) bs
section
variable {P : Program} {w : World} {A : Around} {E : Value → Shared → Prop} {s : Shared} {ks : List Str}
def IsT (v : Value) (x : Str) : Prop := ∃ t, v = .str x t
theorem isT_vals : ∀ {vs : List Value} {xs : List Str}, EachIs IsT vs xs → Vals (xs.map V.str) vs
  | _, _, .nil => .nil
  | _, _, .cons h t => .cons h (isT_vals t)
theorem vals_isT : ∀ {vs : List Value} {xs : List Str}, Vals (xs.map V.str) vs → EachIs IsT vs xs
  | [], [], _ => .nil
  | _ :: _, [], r => by cases r
  | [], _ :: _, r => by cases r
  | _ :: _, _ :: _, .cons p q => .cons p (vals_isT q)
/-- the items of a list or a tuple, gathered -/
theorem collect_both {it : Addr} {T : String} {o : Obj} {items : Array Value} {n : Nat} {Q : List Value → Shared → Prop} (hT : T = "list" ∨ T = "tuple") (ho : s.heap.get? it = some o) (hc : o.cls = .type T) (hd : o.data = .seq items n) (hsz : items.size ≤ sizeLine)
    (hQ : ∀ h', (∀ b o', s.heap.get? b = some o' → h'.get? b = some o') → s.heap.objs.size ≤ h'.objs.size → Q items.toList { s with heap := h' }) : wpAny (model P w) A (collect (.ref it)) Q E s := by
  unfold collect
  refine wpAny_bind (wpAny_runValue (codeAny_builtin entry_proto_collect' ?_))
  refine wpAny_bind (m := newList []) (wpAny_newList (wpAny_pure ⟨Code.quiet_builtin _ (by decide +kernel), codeAny_builtin entry_list_iadd' ?_⟩))
  have new0 : (s.heap.push (seqObj "list" #[] 0)).get? s.heap.objs.size = some (seqObj "list" #[] 0) := Heap.get?_push_size _ rfl
  show wpAny _ _ (Builtin.List.listExtendWith (.ref s.heap.objs.size) (.ref it) (.ref s.heap.objs.size)) _ _ { s with heap := s.heap.push (seqObj "list" #[] 0) }
  unfold Builtin.List.listExtendWith
  have old := Heap.get?_push_of_some (seqObj "list" #[] 0) ho
  refine wpAny_bind (wpAny_typeOf (T := T) ⟨o, old, hc⟩ ?_)
  have yes : (Builtin.List.listSameRef (.ref s.heap.objs.size) (.ref it) || Value.type T == Value.type "list" || Value.type T == Value.type "tuple") = true := by
    rcases hT with rfl | rfl
    · rw [show (Value.type "list" == Value.type "list") = true by rfl]; simp
    · rw [show (Value.type "tuple" == Value.type "tuple") = true by rfl]; simp
  rw [if_pos yes]
  refine wpAny_bind (listItems_at old hd (wpAny_bind (listItems_at (xs := #[]) (n := 0) new0 rfl ?_)))
  rw [if_neg (by simp)]
  refine wpAny_bind (listUpdate_at (xs := #[]) (n := 0) new0 rfl (wpAny_pure ?_) (Nat.zero_le _) (by show (#[] ++ items).size ≤ sizeLine + 1; rw [Array.size_append]; simp; omega))
  refine wpAny_bind (m := load s.heap.objs.size) (wpAny_load (get?_update_seq new0 _) (wpAny_pure ?_))
  have q := hQ ((s.heap.push (seqObj "list" #[] 0)).update s.heap.objs.size (Obj.mapSeq (· ++ items))) (fun b o' hb => (Heap.get?_update_other _ _ (Nat.ne_of_gt (Heap.lt_size hb))).trans (Heap.get?_push_of_some _ hb)) (by rw [Heap.size_update, Heap.size_push]; exact Nat.le_succ _)
  have e : ((#[] : Array Value) ++ items).toList = items.toList := by simp
  show Q ((#[] : Array Value) ++ items).toList _
  rw [e]
  exact q
/-- sorted(x), where x gives texts -/
theorem sorted_texts {x : Value} {Q : Value → Shared → Prop} (hu : A.units + 8 < cLine) (hz : ks.length ≤ sizeLine)
    (hc : ∀ (A' : Around) (E' : Value → Shared → Prop) (Q' : List Value → Shared → Prop), A'.handled = A.handled → (∀ s' vs bs, (∀ b o, s.heap.get? b = some o → s'.heap.get? b = some o) → s.heap.objs.size ≤ s'.heap.objs.size → s'.gens = s.gens → s'.os = s.os → EachIs IsT vs bs → bs.Perm ks → Q' vs s') → wpAny (model P w) A' (collect x) Q' E' s)
    (hQ : ∀ s' p (out : List Value) (c : Nat), (∀ b o, s.heap.get? b = some o → s'.heap.get? b = some o) → s'.gens = s.gens → s'.os = s.os → s.heap.objs.size ≤ p → s'.heap.get? p = some (seqObj "list" out.toArray c) → EachIs IsT out (sortT ks) → Q (.ref p) s') :
    wpAny (model P w) A (call (.builtin "sorted") [x]) Q E s := by
  refine Calls.call_function_entry kind_sorted plain_sorted entry_sorted (args_sorted1 _) ?_
  unfold Builtin.«sorted»
  refine wpAny_bind (m := checkCount "sorted" 1 1 _) (wpAny_pure (wpAny_bind (hc A.in1 _ _ rfl fun s1 vs bs k1 z1 g1 o1 et pm => ?_)))
  have lv : vs.length = ks.length := et.length.trans pm.length_eq
  refine wpAny_bind (wpAny_newList ?_ (by rw [lv]; exact hz))
  have hoL : (s1.heap.push (seqObj "list" vs.toArray 0)).get? s1.heap.objs.size = some (seqObj "list" vs.toArray 0) := Heap.get?_push_size _ rfl
  refine wpAny_bind (wpAny_holding ?_)
  refine list_sort_data (s := { s1 with heap := s1.heap.push (seqObj "list" vs.toArray 0) }) (R := IsT) (enc := PyData.str) (bs := bs) hoL et (et.mono fun v b ⟨t, e⟩ => ⟨[], by rw [e]; exact .str _ _, by simp⟩) (AllAlike.of fun _ _ => rfl) (Sortable.others fun b => ⟨(fun z => nomatch z), (fun xs z => nomatch z)⟩) (by rw [pm.length_eq]; exact hz) (fun b _ => ?_) fun out ho eo => ?_
  · have e1 : (A.in1).units ≤ A.units + 1 := Nat.le_refl _
    show A.in1.units + 1 + 0 < cLine
    omega
  rw [merge_sortT pm] at eo
  obtain ⟨c, hc'⟩ := sortedHeap_at (vs := vs) (out := out.toArray) hoL
  refine wpAny_pure ⟨_, rfl, hQ _ s1.heap.objs.size out c (fun b u e => ?_) g1 o1 z1 hc' eo⟩
  have q := k1 b u e
  have lt := Heap.lt_size q
  show (sortedHeap (s1.heap.push (seqObj "list" vs.toArray 0)) s1.heap.objs.size vs out.toArray).get? b = some u
  rw [sortedHeap_old (Nat.ne_of_lt lt) (by rw [size_push']; exact Nat.lt_succ_of_lt lt)]
  exact Heap.get?_push_of_some _ q
end
section
variable {cl : Nat → Addr} {X : Cx} {W : WX} {e a b c : Expr} {pos : Pos}
theorem so_new {w : World} {P : Program} {H : Hp} {h : Heap} {a : Addr} {ks : List Str} (R : SetR1 w h a ks) : ObjOk P w H h a (soOf P w a ks) := by
  have ⟨o, _, _, _, ho, _⟩ := R
  exact ⟨R, ⟨o, ho⟩, fun h1 h2 p k => SetR1.keep p k⟩
theorem so_get {pins : List (Addr × Obj)} {σ : L2.St} {H : Hp} {s : Shared} {a : Addr} {ks : List Str} (I : Inv X pins σ H s) (ha : H a = some (soOf X.prog X.w a ks)) : SetR1 X.w s.heap a ks := (I.hok a _ ha).1
def signs (z : Str) : List Str := z.cps.toList.map fun c => ⟨#[c]⟩
/-- set(x) of texts -/
def rSetT (K : PySem.W.Frag) (P : Program) (w : World) : List V → Hp → VK → Prop := fun vs H Q => ∃ (x : V) (xs : List Str), vs = [x] ∧ xs.length + 1 < scanBound ∧ ((∃ z, x = .str z ∧ xs = signs z) ∨ ∃ p, x = .ref p ∧ (SqL K H p (xs.map V.str) ∨ SqT K H p (xs.map V.str))) ∧
  ∀ p, H p = none → Q (.ref p) (upd H p (soOf P w p (addAll xs [])))
theorem cr_setT (hc : X.calm = true) : CallR X (.type "set") (rSetT X.K X.prog X.w) := by
  intro pins s σ H vs us Q I r h
  obtain ⟨x, xs, rfl, hb, hx, q⟩ := h
  have fin : ∀ (v : Value) (T : String), GivesT X.prog X.w s v T xs → wpAny (model X.prog X.w) X.A (call (.type "set") [v]) (EP X pins σ Q) X.xe s := fun v T g => by
    refine call_set_texts (I.ok.hd hc) g hb fun h' tk hS hk => ?_
    exact ⟨.ref _, _, I.laid (a := s.heap.objs.size) (o := soOf X.prog X.w s.heap.objs.size (addAll xs [])) (t' := tk) hk (Nat.le_refl _) (so_new hS), rfl, q _ (I.hok.fresh (Nat.le_refl _))⟩
  rcases hx with ⟨z, rfl, rfl⟩ | ⟨p, rfl, hq | hq⟩
  · obtain ⟨v, rfl, t, rfl⟩ := vals1 r
    exact fin _ _ (givesT_str z t)
  · obtain rfl := Vals.ref1 r
    obtain ⟨its, rv, pl, hz⟩ := I.list hq
    exact fin _ _ (givesT_lst pl.isList rv)
  · obtain rfl := Vals.ref1 r
    obtain ⟨its, rv, pl, hz⟩ := I.tuple hq
    exact fin _ _ (givesT_tup pl rv)
def gSet : List U → Option U := fun us => match us with
  | [.c (.str z)] => if decide ((signs z).length + 1 < scanBound) = true then some (.nd (.ab (addAll (signs z) [])) []) else none
  | [.nd .lst xs] => (strsOf xs).bind fun ys => if decide (ys.length + 1 < scanBound) = true then some (.nd (.ab (addAll ys [])) []) else none
  | [.nd .tup xs] => (strsOf xs).bind fun ys => if decide (ys.length + 1 < scanBound) = true then some (.nd (.ab (addAll ys [])) []) else none
  | _ => none
theorem set_inv {xs : List U} {z : U} (h : ((strsOf xs).bind fun ys => if decide (ys.length + 1 < scanBound) = true then some (U.nd (.ab (addAll ys [])) []) else none) = some z) : ∃ ys, strsOf xs = some ys ∧ ys.length + 1 < scanBound ∧ z = .nd (.ab (addAll ys [])) [] := by
  cases q : strsOf xs with
  | none => rw [q] at h; cases h
  | some ys =>
    rw [q] at h
    simp only [Option.bind_some] at h
    split at h
    · rename_i hl
      cases h
      exact ⟨ys, rfl, of_decide_eq_true hl, rfl⟩
    · cases h
theorem set_end {F : Hp} {fx : Fx} {ss : List Sl} {σ : L2.St} {H : Hp} {ks : List Str} {Q : VK} {p : Addr} (S : SRel (enX X cl) F fx ss σ H) (hp : H p = none)
    (k : ∀ F' H' v, Ext (enX X cl) F F' → SRel (enX X cl) F' fx ss σ H' → Rep (enX X cl) F' (.nd (.ab ks) []) v → Q v H') : Q (.ref p) (upd H p (soOf X.prog X.w p ks)) :=
  k _ _ _ (Ext.of (same_new (S.fh.free hp))) (S.laid (o := soOf X.prog X.w p ks) hp) ⟨p, [], rfl, ⟨rfl, upd_same⟩, rfl⟩
theorem cb_set (hc : X.calm = true) : Cb cl X (.type "set") gSet := by
  refine ⟨_, cr_setT hc, fun F fx ss σ H us z xs Q S vs hg k => ?_⟩
  unfold gSet at hg
  split at hg
  · rename_i y
    obtain ⟨x, rfl, v⟩ := views1 vs
    have := v.sc
    subst this
    split at hg
    · rename_i hb
      cases hg
      exact ⟨_, signs y, rfl, of_decide_eq_true hb, .inl ⟨y, rfl, rfl⟩, fun p hp => set_end S hp k⟩
    · cases hg
  · rename_i ys
    obtain ⟨x, rfl, v⟩ := views1 vs
    obtain ⟨ts, h1, hb, rfl⟩ := set_inv hg
    obtain ⟨p, ws, rfl, hq, r⟩ := v.lst S
    have ev := strsOf_reps h1 r
    subst ev
    exact ⟨_, ts, rfl, hb, .inr ⟨p, rfl, .inl (SqL.of hq)⟩, fun p hp => set_end S hp k⟩
  · rename_i ys
    obtain ⟨x, rfl, v⟩ := views1 vs
    obtain ⟨ts, h1, hb, rfl⟩ := set_inv hg
    obtain ⟨p, ws, rfl, hq, r⟩ := v.tup S
    have ev := strsOf_reps h1 r
    subst ev
    exact ⟨_, ts, rfl, hb, .inr ⟨p, rfl, .inr hq⟩, fun p hp => set_end S hp k⟩
  · cases hg
/-- sorted(x) of texts -/
def rSortT (K : PySem.W.Frag) (P : Program) (w : World) : List V → Hp → VK → Prop := fun vs H Q => ∃ (p : Addr) (ks : List Str), vs = [.ref p] ∧ (H p = some (soOf P w p ks) ∨ SqL K H p (ks.map V.str) ∨ SqT K H p (ks.map V.str)) ∧
  ∀ l, H l = none → Q (.ref l) (upd H l (.lst ((sortT ks).map V.str)))
theorem cr_sortT (hc : X.calm = true) (hu : X.A.units + 8 < cLine) : CallR X (.builtin "sorted") (rSortT X.K X.prog X.w) := by
  intro pins s σ H vs us Q I r h
  obtain ⟨p, ks, rfl, hx, q⟩ := h
  rw [Vals.ref1 r]
  have hz : ks.length ≤ sizeLine := by
    rcases hx with hx | hx | hx
    · obtain ⟨o, es, ep, t, _, _, _, _, pe, _, hb, _⟩ := so_get I hx
      have e := pe.length_eq
      rw [List.length_map, Array.length_toList] at e
      have := fits_of_scanBound hb
      rw [← e]; exact this
    · obtain ⟨_, _, _, hz⟩ := I.list hx
      rw [List.length_map] at hz; exact hz
    · obtain ⟨_, _, _, hz⟩ := I.tuple hx
      rw [List.length_map] at hz; exact hz
  refine sorted_texts (ks := ks) hu hz (fun A' E' Q' hA k => ?_) fun s' l out c hk g o hl hg hi => ?_
  · rcases hx with hx | hx | hx
    · obtain ⟨o, es, ep, t, ho, hex, hd, ge, pe, nd, hb, hf, hr, hled⟩ := so_get I hx
      refine collect_set (hA.trans (I.ok.hd hc)) ⟨o, ho, hex.1, hd⟩ hf hb hr hled fun s1 vs k1 hz1 g1 o1 pm => ?_
      have gv : ∀ v ∈ vs, ∃ k tk, v = Value.str k tk := fun v hv => by
        obtain ⟨e, he, q⟩ := List.mem_map.mp (pm.mem_iff.mp hv)
        obtain ⟨k, tk, h1, _⟩ := ge e he
        exact ⟨k, tk, by rw [← q]; exact h1⟩
      have tv : ∀ l : List Value, (∀ v ∈ l, ∃ k tk, v = Value.str k tk) → EachIs IsT l (l.map fun v => textE (0, v)) := fun l => by
        induction l with
        | nil => exact fun _ => .nil
        | cons v l ih =>
          intro h
          obtain ⟨k, tk, rfl⟩ := h v List.mem_cons_self
          exact .cons ⟨tk, rfl⟩ (ih fun u hu => h u (List.mem_cons_of_mem _ hu))
      refine k s1 vs _ k1 hz1 g1 o1 (tv vs gv) ?_
      have p2 := pm.map fun v => textE (0, v)
      rw [List.map_map] at p2
      exact p2.trans pe
    · obtain ⟨its, rv, pl, hz1⟩ := I.list hx
      obtain ⟨o, ho, hcl, n, hd⟩ := pl.isList
      exact collect_both (.inl rfl) ho hcl hd (by rw [List.size_toArray, ← rv.length]; exact hz1) fun h' hk hs => k _ _ _ hk hs rfl rfl (vals_isT (by simpa using rv)) (.refl _)
    · obtain ⟨its, rv, pl, hz1⟩ := I.tuple hx
      obtain ⟨o, ho, hcl, n, hd⟩ := pl
      exact collect_both (.inr rfl) ho hcl hd (by rw [List.size_toArray, ← rv.length]; exact hz1) fun h' hk hs => k _ _ _ hk hs rfl rfl (vals_isT (by simpa using rv)) (.refl _)
  · have lt : ((sortT ks).map V.str).length ≤ sizeLine := by rw [List.length_map, (sortT_perm ks).length_eq]; exact hz
    have hn : H l = none := I.hok.fresh hl
    have J : Inv X pins σ (upd H l (.lst ((sortT ks).map V.str))) { s with heap := s'.heap, gens := s'.gens, drawn := s'.drawn, toks := s'.toks } :=
      I.call (ch := []) (Un.laid hk hl hn) (I.hok.laid hk hl ⟨lt, out, c, isT_vals hi, hg⟩) (by rw [g]; exact I.bare) (fun _ z => nomatch z)
    have e : s' = { s with heap := s'.heap, gens := s'.gens, drawn := s'.drawn, toks := s'.toks } := by
      cases s'
      cases s
      cases o
      rfl
    rw [e]
    exact ⟨.ref l, _, J, rfl, q l hn⟩
def gSortT : List U → Option U := fun us => match us with
  | [.nd (.ab ks) []] => some (.nd .lst ((sortT ks).map fun k => .c (.str k)))
  | [.nd .lst xs] => (strsOf xs).map fun ks => .nd .lst ((sortT ks).map fun k => .c (.str k))
  | [.nd .tup xs] => (strsOf xs).map fun ks => .nd .lst ((sortT ks).map fun k => .c (.str k))
  | _ => none
theorem reps_strs {N : En} {F : Hp} (ks : List Str) : Reps N F (ks.map fun k => .c (.str k)) (ks.map V.str) := by
  have := Reps.scal (N := N) (F := F) (ks.map V.str)
  rw [List.map_map] at this
  exact this
theorem cb_sortT (hc : X.calm = true) (hu : X.A.units + 8 < cLine) : CbO cl X (.builtin "sorted") gSortT := by
  refine ⟨_, cr_sortT hc hu, fun F fx ss σ H us z xs Q S vs hg k => ?_⟩
  have fin : ∀ ks l, H l = none → (∀ F' H' a, Ext (enX X cl) F F' → SRel (enX X cl) F' fx (ss ++ [.ow (.nd .lst ((sortT ks).map fun k => .c (.str k)))]) (σ ++ [some (.ref a)]) H' → Q (.ref a) H') → Q (.ref l) (upd H l (.lst ((sortT ks).map V.str))) := fun ks l hl k =>
    k F _ l Ext.refl (S.own (t := .lst) (vs := _) hl upd_same (reps_strs _))
  unfold gSortT at hg
  split at hg
  · rename_i ks
    obtain ⟨x, rfl, v⟩ := views1 vs
    obtain ⟨p, rfl, hp⟩ := v.ab S
    cases hg
    exact ⟨p, ks, rfl, .inl hp, fun l hl => fin ks l hl k⟩
  · rename_i ys
    obtain ⟨x, rfl, v⟩ := views1 vs
    obtain ⟨p, ws, rfl, hq, r⟩ := v.lst S
    cases q : strsOf ys with
    | none => rw [q] at hg; cases hg
    | some ks =>
      rw [q] at hg
      cases hg
      have ev := strsOf_reps q r
      subst ev
      exact ⟨p, ks, rfl, .inr (.inl (SqL.of hq)), fun l hl => fin ks l hl k⟩
  · rename_i ys
    obtain ⟨x, rfl, v⟩ := views1 vs
    obtain ⟨p, ws, rfl, hq, r⟩ := v.tup S
    cases q : strsOf ys with
    | none => rw [q] at hg; cases hg
    | some ks =>
      rw [q] at hg
      cases hg
      have ev := strsOf_reps q r
      subst ev
      exact ⟨p, ks, rfl, .inr (.inr hq), fun l hl => fin ks l hl k⟩
  · cases hg
end
end Dl

set_option Elab.async false
set_option linter.all false
set_option maxRecDepth 100000
set_option maxHeartbeats 4000000
namespace Dl
open PySem PySem.Spec L2 PyProof.Rows
/-! ### the end: the law's def at the caller -/
/-- all that is tracked is the script, and it is frozen -/
def Alone (H : Hp) : Prop := ∀ b, H b ≠ none → ∃ ob us, H b = some (.frz ob (.lst us))
section
variable {P : Program} {w : World} {K : PySem.W.Frag} {mg mb : Str → Option Value} {k : Nat} {fa a : Addr} {fd : FuncData} {x : Str} {sp : Sp} {t : Shared} {vs : List Value} {ns : List Int}
abbrev Ended (t : Shared) : Result → Shared → Prop := fun r s' => r = .ok (.ret (.bool true)) ∧ OldK t.heap s'.heap ∧ s'.os = t.os ∧ AllBare s'.gens
theorem lawG_at {H : Hp} (KX : K.In t.heap) (hns : t.heap.Ns mainGlobals mg) (hb : t.heap.Ns builtinsNs mb) (hbb : ∀ y : Str, y ≠ "__name__" → mb y = bootBuiltins y) (hlim : t.heap.NoLimit) (hg : t.gens = #[])
    (ha : t.heap.get? a = some { cls := .type "list", data := .seq vs.toArray }) (room : Room k callerA)
    (F : ∀ base : Heap, K.In base → base.Ns mainGlobals mg → FnG P w K mg base k fa fd [x] sp) (bnd : ∀ (s : Shared) (u : Value), BindsTo s fd ⟨[u], []⟩ [(x, u)])
    (al : Alone H) (hok : HOk P w H t.heap) (one : ∀ b, H b ≠ none → b = a) (nk : H a ≠ none → K.lookup a = none) (hsp : sp [.ref a] H (fun v _ => v = .bl true) fun _ _ _ => False) :
    codeAny (model P w) callerA (.call (.ref fa) ⟨[.ref a], []⟩) (Ended t) t := by
  have free : ∀ {b : Addr} {o : Obj} {es : Array DictEntry} {ep : Nat}, t.heap.get? b = some o → o.data = .dict es ep → H b = none := fun {b o es ep} e d => by
    cases q : H b with
    | none => rfl
    | some u =>
      have eb := one b (by rw [q]; exact fun z => nomatch z)
      subst eb
      rw [ha] at e
      cases e
      exact nomatch (show Data.seq vs.toArray _ = Data.dict es ep from d)
  have names : ∀ {b : Addr} {m : Str → Option Value}, t.heap.Ns b m → (hidT t.heap H).Ns b m := by
    rintro b m ⟨o, es, ep, e, d, r⟩
    exact ⟨o, es, ep, hidT_get e (free e d), d, r⟩
  have inK : K.In (hidT t.heap H) := by
    intro b o e
    refine hidT_get (KX b o e) ?_
    cases q : H b with
    | none => rfl
    | some u =>
      have eb := one b (by rw [q]; exact fun z => nomatch z)
      subst eb
      rw [nk (by rw [q]; exact fun z => nomatch z)] at e
      cases e
  have lim : (hidT t.heap H).NoLimit := by
    obtain ⟨mc, l1, l2⟩ := hlim
    exact ⟨mc, names l1, l2⟩
  have none0 : ∀ b : Addr, b ∈ ([] : List Addr) → False := fun b z => by cases z
  have env0 : Env0 P w K mg (hidT t.heap H) callerA [] t H := ⟨rfl, ⟨inK, names hns, ⟨mb, names hb, hbb⟩, lim⟩, fun b o e => of_hidT e, Nat.le_of_eq (hidT_size _ _), trivial, fun b z => (none0 b z).elim, hok, .of_eq hg⟩
  refine codeAny_mono ((F _ inK (names hns)).go callerA [] t H ⟨[.ref a], []⟩ [.ref a] [.ref a] _ _ room rfl env0 (bnd t (.ref a)) (.cons rfl .nil) hsp) fun r s' h => ?_
  rcases r with e | fl
  · obtain ⟨_, _, _, _, _, _, _, _, _, _, _, _, z⟩ := h
    exact False.elim z
  · cases fl with
    | next => exact False.elim h
    | brk => exact False.elim h
    | cont => exact False.elim h
    | ret u =>
      obtain ⟨v, H', os, bare, un, hok', r', q⟩ := h
      have ev : v = .bl true := q
      subst ev
      obtain rfl : u = Value.bool true := r'
      refine ⟨rfl, OldK.of_keep fun b o e => ?_, os, bare⟩
      cases q : H b with
      | none => exact un.keep b o e q (fun z => none0 b z) (by simp)
      | some c =>
        obtain ⟨ob, us, z⟩ := al b (by rw [q]; exact fun z => nomatch z)
        have z1 := (hok b _ z).1
        have z2 := (hok' b _ (un.frzs b ob _ z)).1
        rw [z1] at e
        cases e
        exact z2
theorem lawG (KX : K.In t.heap) (hns : t.heap.Ns mainGlobals mg) (hb : t.heap.Ns builtinsNs mb) (hbb : ∀ y : Str, y ≠ "__name__" → mb y = bootBuiltins y) (hlim : t.heap.NoLimit) (hg : t.gens = #[])
    (ha : t.heap.get? a = some { cls := .type "list", data := .seq vs.toArray }) (hi : IntsAre vs ns) (hl : ns.length ≤ sizeLine) (room : Room k callerA)
    (F : ∀ base : Heap, K.In base → base.Ns mainGlobals mg → FnG P w K mg base k fa fd [x] sp) (bnd : ∀ (s : Shared) (u : Value), BindsTo s fd ⟨[u], []⟩ [(x, u)])
    (hsp : ∀ H : Hp, SqL K H a (ns.map V.int) → sp [.ref a] H (fun v _ => v = .bl true) fun _ _ _ => False) :
    codeAny (model P w) callerA (.call (.ref fa) ⟨[.ref a], []⟩) (Ended t) t := by
  have rv := vals_ints hi
  by_cases own : K.lookup a = none
  · refine lawG_at (H := fun b => if b = a then some (.frz { cls := .type "list", data := .seq vs.toArray } (.lst (ns.map V.int))) else none) KX hns hb hbb hlim hg ha room F bnd (fun b nb => ?_) (fun b o e => ?_) (fun b nb => ?_) (fun _ => own) (hsp _ (.inl (.inr ⟨_, if_pos rfl⟩)))
    · by_cases eb : b = a
      · exact ⟨_, _, if_pos eb⟩
      · exact absurd (if_neg eb) nb
    · by_cases eb : b = a
      · subst eb
        have e' := (if_pos rfl).symm.trans e
        cases e'
        exact ⟨ha, by rw [List.length_map]; exact hl, vs, _, rv, ha⟩
      · exact nomatch (if_neg eb).symm.trans e
    · by_cases eb : b = a
      · exact eb
      · exact absurd (if_neg eb) nb
  · obtain ⟨o, lk⟩ : ∃ o, K.lookup a = some o := by
      cases q : K.lookup a with
      | none => exact absurd q own
      | some o => exact ⟨o, rfl⟩
    have e := KX a o lk
    rw [ha] at e
    cases e
    have lz : vs.toArray.size ≤ sizeLine := by rw [List.size_toArray, hi.length]; exact hl
    exact lawG_at (H := fun _ => none) KX hns hb hbb hlim hg ha room F bnd (fun b nb => absurd rfl nb) (fun b u z => nomatch z) (fun b nb => absurd rfl nb) (fun nb => absurd rfl nb) (hsp _ (.inr ⟨_, vs.toArray, _, lk, rfl, rfl, rfl, lz, by simpa using rv⟩))
end
/-- the script as a value -/
def scriptU (ns : List Int) : U := .nd .sq (ns.map fun i => .c (.int i))
theorem walkG {l : PySem.W.OpenLaw} {n k : Nat} {q : Program} {loose : List Str} {XP : (Str → Option Value) → Heap → Prop} {YP : World → Heap → Prop} {d : DefRec} {K : Params → PySem.W.Frag} {cl : World → Nat → Addr} {fn : Fn} {x : Str}
    (hn : l.most = some n) (hn2 : n ≤ sizeLine) (hdf : d.params.defaults = []) (room : Room k callerA) (hY : ∀ (w : World) (h : Heap), YP w h → (K w.params).In h)
    (F : ∀ (w : World) (mg : Str → Option Value) (fa : Addr) (h : Heap), (K w.params).In h → h.Ns mainGlobals mg → mg d.name = some (.ref fa) →
      ∃ fd : FuncData, (∀ (s : Shared) (u : Value), BindsTo s fd ⟨[u], []⟩ [(x, u)]) ∧
        ∀ base : Heap, (K w.params).In base → base.Ns mainGlobals mg → FnG l.prog w (K w.params) mg base k fa fd [x] (spF ⟨K w.params, l.prog, w, cl w, soOf l.prog w⟩ 1 fn))
    (hlaw : ∀ ns : List Int, ns.length ≤ n → ∃ ss, fn [.fz (scriptU ns)] = .ok (.fz (.c (.bl true))) ss) :
    PySem.W.WalkO q loose XP YP l.row.toRowW d [] (fun f vs => PySem.call f vs) := by
  refine Att.attach_call hn hdf fun w s0 t mg mb fa o pm cd doc a vs ns G Y ho hd hcd hmg hobj hints hlen hg => ?_
  have KX := hY w _ Y
  obtain ⟨fd, bnd, hF⟩ := F w mg fa _ KX G.T.g hmg
  refine lawG KX G.T.g G.T.b G.T.builtins G.T.nolimit hg hobj hints (Nat.le_trans hlen hn2) room hF bnd fun H hS => ⟨rfl, H, ⟨fun _ => none, fun _ => False, fun _ => 0⟩, [.fz (scriptU ns)], ?_, ?_, ?_⟩
  · refine ⟨fun _ _ e => e, (fun _ _ e => nomatch e), fun _ _ z => z, fun _ z => False.elim z, rfl, fun i s o h1 h2 => ?_, fun i j s u b hij h1 h2 o1 o2 e1 e2 => ?_⟩
    · match i with
      | 0 =>
        cases h1
        cases h2
        have r : Reps ⟨K w.params, l.prog, w, cl w, soOf l.prog w⟩ H (ns.map fun i => .c (.int i)) (ns.map V.int) := by
          have := Reps.scal (N := ⟨K w.params, l.prog, w, cl w, soOf l.prog w⟩) (F := H) (ns.map V.int)
          rw [List.map_map] at this
          exact this
        exact ⟨.ref a, rfl, a, ns.map V.int, rfl, hS, r⟩
      | i + 1 => simp at h1
    · match i with
      | 0 => cases h1; cases o1
      | i + 1 => simp at h1
  · intro s hs
    rw [List.mem_singleton.mp hs]
    rfl
  · obtain ⟨ss, e⟩ := hlaw ns hlen
    rw [e]
    exact fun F' H' v _ _ r => r
end Dl

set_option Elab.async false
set_option linter.all false
set_option maxRecDepth 100000
set_option maxHeartbeats 4000000
namespace Dl
open PySem L2
section
variable {cl : Nat → Addr} {X : Cx} {W : WX} {e a b c : Expr} {pos : Pos}
/-! ### operators whatever the values are -/
def gAdd : U → U → Option U := orElse2 (sc2 (gInt fun i j => some (.int (i + j)))) (orElse2 (sc2 (gStr fun i j => if decide (i.length + j.length ≤ sizeLine) = true then some (.str (i ++ j)) else none)) gCat)
theorem oAdd : Op2 cl X (binaryOp .Add) gAdd := o_add.or (o_adds.or o_cat.op2)
def gMul : U → U → Option U := orElse2 (sc2 (gInt fun i j => if cMulW i j = true then some (.int (i * j)) else none)) (orElse2 (sc2 gMulS) gRep)
theorem oMul : Op2 cl X (binaryOp .Mult) gMul := o_mul.or (o_mulS.or o_rep.op2)
def gIn : U → U → Option U := orElse2 (sc2 (gStr fun i j => some (.bl (inStr i j)))) (orElse2 (gInD false) (gInS false))
theorem oIn (hu : X.A.units + 1 < cLine) : Op2 cl X (compareOp .In) gIn := o_instr.or ((o_inD hu).or o_inS)
def gNotIn : U → U → Option U := orElse2 (sc2 (gStr fun i j => some (.bl (!inStr i j)))) (orElse2 (gInD true) (gInS true))
theorem oNotIn (hu : X.A.units + 1 < cLine) : Op2 cl X (compareOp .NotIn) gNotIn := o_notinstr.or ((o_notInD hu).or o_notInS)
def gEq : U → U → Option U := orElse2 (sc2 fun x y => if scal x y = true then some (.bl (decide (x = y))) else none) (gData2 PyData.eqv)
theorem oEq (hu : X.A.units + 64 < cLine) : Op2 cl X (compareOp .Eq) gEq := o_eqA hu
def gNe : U → U → Option U := orElse2 (sc2 fun x y => if scal x y = true then some (.bl (!decide (x = y))) else none) (gData2 fun d d' => !PyData.eqv d d')
theorem oNe (hu : X.A.units + 64 < cLine) : Op2 cl X (compareOp .NotEq) gNe := o_neA hu
def gSub : U → U → Option U := sc2 (gInt fun i j => some (.int (i - j)))
theorem oSub : Op2 cl X (binaryOp .Sub) gSub := o_sub
def gMod : U → U → Option U := sc2 (gInt fun i j => if decide (0 < j) = true then some (.int (i % j)) else none)
theorem oMod : Op2 cl X (binaryOp .Mod) gMod := o_mod
def gDiv : U → U → Option U := sc2 (gInt fun i j => if cDivW i j = true then some (.int (i / j)) else none)
theorem oDiv : Op2 cl X (binaryOp .FloorDiv) gDiv := o_fdiv
def gPow : U → U → Option U := sc2 (gInt fun i j => if cPow i j = true then some (.int (i ^ j.toNat)) else none)
theorem oPow : Op2 cl X (binaryOp .Pow) gPow := o_pow
def gLt : U → U → Option U := sc2 (gInt fun i j => some (.bl (decide (i < j))))
theorem oLt : Op2 cl X (compareOp .Lt) gLt := o_lt
def gLe : U → U → Option U := sc2 (gInt fun i j => some (.bl (decide (i ≤ j))))
theorem oLe : Op2 cl X (compareOp .LtE) gLe := o_le
def gGt : U → U → Option U := sc2 (gInt fun i j => some (.bl (decide (j < i))))
theorem oGt : Op2 cl X (compareOp .Gt) gGt := o_gt
def gGe : U → U → Option U := sc2 (gInt fun i j => some (.bl (decide (j ≤ i))))
theorem oGe : Op2 cl X (compareOp .GtE) gGe := o_ge
def gIsN : U → U → Option U := fun u w => match w with | .c .non => some (.c (.bl (match u with | .c .non => true | _ => false))) | _ => none
theorem oIs : Op2 cl X (compareOp .Is) gIsN := o_isN
def gNotN : U → U → Option U := fun u w => match w with | .c .non => some (.c (.bl (match u with | .c .non => false | _ => true))) | _ => none
theorem oIsNot : Op2 cl X (compareOp .IsNot) gNotN := o_notN
def mNeg (ma : M Hd) : M U := M.bind ma fun h => M.bind (look h) fun u => match u with | .c (.int i) => M.ret (.c (.int (-i))) | _ => M.fail
theorem de_neg {ma : M Hd} (ha : DH cl X W a ma) : DE cl X W (.UnaryOp .USub a pos) (mNeg ma) := de_un un_neg ha
/-- what one has, given away -/
def mMove (i : Nat) : M U := fun ss => match ss[i]? with
  | some (.ow u) => .ok u (ss.set i .no)
  | _ => .no
theorem SRel.moved {N : En} {F : Hp} {fx : Fx} {ss : List Sl} {σ : St} {H : Hp} {i : Nat} {u : U} (S : SRel N F fx ss σ H) (h : ss[i]? = some (.ow u)) : ∃ p, σ[i]? = some (some (.ref p)) ∧ SRel N F fx (ss.set i .no ++ [.ow u]) (σ ++ [some (.ref p)]) H := by
  obtain ⟨p, hp⟩ := S.slotAddr (.inl h)
  have ow := S.slotOwn (.inl h) hp
  refine ⟨p, hp, ?_⟩
  have e : σ.set i (some (.ref p)) = σ := by
    apply List.ext_getElem?
    intro j
    by_cases hj : i = j
    · subst hj
      rw [List.getElem?_set_self (List.getElem?_eq_some_iff.mp hp).1, hp]
    · rw [List.getElem?_set_ne hj]
  have S1 : SRel N F fx (ss.set i .no) σ H := by
    have := S.putNo (i := i) (o := some (.ref p))
    rw [e] at this
    exact this
  refine S1.snoc ⟨p, rfl, ow⟩ fun _ j t q h1 o1 e1 e2 => ?_
  cases e2
  rcases get_set h1 with ⟨rfl, rfl, _⟩ | ⟨nj, h1⟩
  · cases o1
  · exact S.dj j i t _ p nj h1 h o1 rfl e1 hp
theorem do_move {i : Nat} (h : PE X e (tVar i)) : DO cl X W e (mMove i) := PE.weak h fun σ H Q ⟨F, fx, ss, S, g⟩ => by
  unfold mMove at g
  cases q : ss[i]? with
  | none => rw [q] at g; exact g.elim
  | some s =>
    rw [q] at g
    cases s with
    | no => exact g.elim
    | fz u => exact g.elim
    | io u => exact g.elim
    | ow u =>
      obtain ⟨p, hp, S1⟩ := S.moved q
      exact ⟨_, hp, g F H Ext.refl S1.less p S1⟩
/-- list(..), set(..), sorted(..) whatever comes -/
def gListA : List U → Option U := orElse1 gList gListS
theorem cbList (hc : X.calm = true) : CbO cl X (.type "list") gListA := cb_list.or (cb_listS hc)
theorem room_u {k : Nat} {A : Around} (r : Room k A) : A.units + 200 < cLine := Nat.lt_of_le_of_lt (by omega) r.un
theorem room_1 {k : Nat} {A : Around} (r : Room k A) : A.units + 1 < cLine := by have := room_u r; omega
theorem room_8 {k : Nat} {A : Around} (r : Room k A) : A.units + 8 < cLine := by have := room_u r; omega
theorem room_64 {k : Nat} {A : Around} (r : Room k A) : A.units + 64 < cLine := by have := room_u r; omega
theorem room_70 {k : Nat} {A : Around} (r : Room k A) : A.units + 70 < cLine := by have := room_u r; omega
/-- isinstance(x, T) -/
theorem dt_of {m : M U} (h : DT cl X W e (mTruth m)) : DT cl X W e (mTruth m) := h
end
end Dl

set_option Elab.async false
set_option linter.all false
set_option maxRecDepth 100000
namespace K01
open PySem L2 Dl
/-! printed by gen.py -/
abbrev Pg : Program := PySem.Challenge.pw_findsown_k01_signs_and_texts
def topS (i : Nat) : Stmt := Pg.main.body.getD i (.Pass ⟨0, 0, 0, 0⟩)
def m_is_sign : M Fl := (mRet (mAndV (mCb (gIsi .str) (mCons (mSlot 0) (mCons (mVal (M.ret (.c (.ty "str")))) (M.ret [])))) (mAndV (mOp2 gEq (mVal (mCb gLen (mCons (mSlot 0) (M.ret [])))) (mVal (M.ret (.c (.int 1))))) (mOp2 gIn (mSlot 0) (mVal (M.ret (.c (.str "+-./0123456789ABCDEFGHIJKLMNOPQRSTUVWXYZ_abcdefghijklmnopqrstuvwxyz~"))))))))
def f_is_sign : Fn := fnOf 1 m_is_sign
def m_is_text : M Fl := (mRet (mAndV (mCb (gIsi .str) (mCons (mSlot 0) (mCons (mVal (M.ret (.c (.ty "str")))) (M.ret [])))) (mCb gAll (mCons (mVal (mLc (mItems (mTake 0)) [1] (gF 1) (M.ret true) (mOp2 gIn (mSlot 1) (mVal (M.ret (.c (.str "+-./0123456789ABCDEFGHIJKLMNOPQRSTUVWXYZ_abcdefghijklmnopqrstuvwxyz~"))))))) (M.ret [])))))
def f_is_text : Fn := fnOf 2 m_is_text
def m__law_dice : M Fl := (mSeq (mSetF 2 (mOp2 gAdd (mVal (mOp2 gMul (mVal (M.ret (.c (.int 37)))) (mSlot 1))) (mVal (M.ret (.c (.int 11))))))
    (mSeq (mIf (mTruth (mOp2 gLt (mSlot 1) (mVal (mCb gLen (mCons (mSlot 0) (M.ret [])))))) (mSetF 2 (mOp2 gIx (mSlot 0) (mSlot 1))) (M.ret .nx))
    (mSeq (mSetF 3 (mOp2 gMod (mVal (mCb gInt1 (mCons (mVal (mCb gAbs (mCons (mSlot 2) (M.ret [])))) (M.ret [])))) (mVal (mOp2 gPow (mVal (mOp2 gPow (mVal (M.ret (.c (.int 10)))) (mVal (M.ret (.c (.int 60)))))) (mVal (M.ret (.c (.int 12))))))))
    (mSeq (mSetF 4 (mOp2 gAdd (mVal (mOp2 gAdd (mVal (mOp2 gAdd (mVal (mOp2 gMul (mVal (mOp2 gMod (mVal (mCb gInt1 (mCons (mSlot 3) (M.ret [])))) (mVal (M.ret (.c (.int 2147483543)))))) (mVal (M.ret (.c (.int 60169)))))) (mVal (mOp2 gMul (mVal (M.ret (.c (.int 4201)))) (mSlot 1))))) (mVal (mOp2 gMul (mVal (M.ret (.c (.int 19)))) (mVal (mCb gInt1 (mCons (mVal (mOp2 gLt (mSlot 2) (mVal (M.ret (.c (.int 0)))))) (M.ret [])))))))) (mVal (M.ret (.c (.int 47))))))
    (mRetO (mLst (mCons (mVal (mCb gMax2 (mCons (mVal (M.ret (.c (.int 0)))) (mCons (mVal (mOp2 gSub (mSlot 3) (mVal (mOp2 gPow (mVal (M.ret (.c (.int 10)))) (mVal (M.ret (.c (.int 18)))))))) (M.ret []))))) (mCons (mVal (mOp2 gMod (mVal (mCb gInt1 (mCons (mSlot 4) (M.ret [])))) (mVal (M.ret (.c (.int 2305843009213693907)))))) (mCons (mVal (M.ret (.c (.int 0)))) (M.ret []))))))))))
def f__law_dice : Fn := fnOf 5 m__law_dice
def m__law_roll : M Fl := (mSeq (mIf (mTruth (mOp2 gGt (mVal (mOp2 gIx (mSlot 0) (mVal (M.ret (.c (.int 0)))))) (mVal (M.ret (.c (.int 0)))))) (mSeq (mSetF 4 (mOp2 gMod (mVal (mCb gInt1 (mCons (mVal (mOp2 gIx (mSlot 0) (mVal (M.ret (.c (.int 0)))))) (M.ret [])))) (mSlot 1)))
    (mSeq (mSetIx 0 (mVal (M.ret (.c (.int 0)))) (mOp2 gDiv (mVal (mOp2 gIx (mSlot 0) (mVal (M.ret (.c (.int 0)))))) (mSlot 1)))
    (mRet (mTake 4)))) (M.ret .nx))
    (mSeq (mSetIx 0 (mVal (M.ret (.c (.int 2)))) (mOp2 gAdd (mVal (mOp2 gIx (mSlot 0) (mVal (M.ret (.c (.int 2)))))) (mVal (M.ret (.c (.int 1))))))
    (mSeq (mSetF 2 (mOp2 gMod (mVal (mCb gInt1 (mCons (mVal (mOp2 gAdd (mVal (mOp2 gIx (mSlot 0) (mVal (M.ret (.c (.int 1)))))) (mVal (mOp2 gMul (mVal (M.ret (.c (.int 1000211)))) (mVal (mOp2 gIx (mSlot 0) (mVal (M.ret (.c (.int 2)))))))))) (M.ret [])))) (mVal (M.ret (.c (.int 2305843009213693951))))))
    (mSeq (mSetF 3 (mOp2 gAdd (mVal (mOp2 gMul (mVal (mOp2 gMod (mVal (mCb gInt1 (mCons (mVal (mOp2 gMul (mSlot 2) (mSlot 2))) (M.ret [])))) (mVal (M.ret (.c (.int 2305843009213693921)))))) (mSlot 2))) (mVal (mOp2 gMul (mVal (M.ret (.c (.int 8231)))) (mVal (mOp2 gIx (mSlot 0) (mVal (M.ret (.c (.int 2))))))))))
    (mSeq (mSetF 3 (mOp2 gMod (mVal (mCb gInt1 (mCons (mSlot 3) (M.ret [])))) (mVal (M.ret (.c (.int 2305843009213693907))))))
    (mRet (mOp2 gMod (mVal (mCb gInt1 (mCons (mVal (mOp2 gDiv (mSlot 3) (mVal (M.ret (.c (.int 8192)))))) (M.ret [])))) (mSlot 1))))))))
def f__law_roll : Fn := fnOf 5 m__law_roll
def m__law_all_signs : M Fl := (mRet (M.ret (.c (.str "+-./0123456789ABCDEFGHIJKLMNOPQRSTUVWXYZ_abcdefghijklmnopqrstuvwxyz~"))))
def f__law_all_signs : Fn := fnOf 0 m__law_all_signs
def m__law_printable : M Fl := (mSeq (mSetF 0 (M.ret (.c (.str "abcdefghijklmnopqrstuvwxyzABCDEFGHIJKLMNOPQRSTUVWXYZ0123456789 !#$&'()*+,-./:;<=>?\x40[]^_{|}~"))))
    (mRet (mOp2 gAdd (mVal (mOp2 gAdd (mVal (mOp2 gAdd (mVal (mOp2 gAdd (mSlot 0) (mVal (M.ret (.c (.str "\"")))))) (mVal (M.ret (.c (.str "`")))))) (mVal (M.ret (.c (.str "\\")))))) (mVal (M.ret (.c (.str "\n")))))))
def f__law_printable : Fn := fnOf 1 m__law_printable
def m__law_one_of : M Fl := (mRet (mOp2 gIx (mSlot 1) (mVal (mCallE f__law_roll (mLen 2 (mCons (mSlot 0) (mCons (mVal (mCb gLen (mCons (mSlot 1) (M.ret [])))) (M.ret []))))))))
def f__law_one_of : Fn := fnOf 2 m__law_one_of
def m__law_is_text : M Fl := (mSeq (mIf (mNot (mTruth (mCb (gIsi .str) (mCons (mSlot 0) (mCons (mVal (M.ret (.c (.ty "str")))) (M.ret [])))))) (mRet (M.ret (.c (.bl false)))) (M.ret .nx))
    (mRet (mOp2 gEq (mVal (mLc (mItems (mTake 0)) [1] (gF 1) (mTruth (mOp2 gNotIn (mSlot 1) (mVal (mCallE f__law_all_signs (M.ret []))))) (mTake 1))) (mVal (mLst (M.ret []))))))
def f__law_is_text : Fn := fnOf 2 m__law_is_text
def m__law_odd : M Fl := (mSeq (mSetF 1 (mLst (mCons (mVal (M.ret (.c .non))) (mCons (mVal (M.ret (.c (.bl true)))) (mCons (mVal (M.ret (.c (.bl false)))) (mCons (mVal (M.ret (.c (.int 0)))) (mCons (mVal (M.ret (.c (.int 1)))) (mCons (mVal (mNeg (mVal (M.ret (.c (.int 1)))))) (mCons (mVal (mOp2 gPow (mVal (M.ret (.c (.int 10)))) (mVal (M.ret (.c (.int 50)))))) (mCons (mVal (mTup (M.ret []))) (mCons (mVal (mLst (M.ret []))) (mCons (mVal (M.ret (.nd (.dK []) []))) (mCons (mVal (M.ret (.c (.str "a b")))) (mCons (mVal (M.ret (.c (.str "a=")))) (mCons (mVal (M.ret (.c (.str "\n")))) (mCons (mVal (M.ret (.c (.str "(")))) (mCons (mVal (mTup (mCons (mVal (M.ret (.c (.str "a")))) (M.ret [])))) (mCons (mVal (mLst (mCons (mVal (M.ret (.c (.str "a")))) (M.ret [])))) (mCons (mVal (mDict [((M.ret (.c (.str "a"))), (M.ret (.c (.str "a"))))])) (M.ret []))))))))))))))))))))
    (mSeq (mSetF 1 (mOp2 gAdd (mSlot 1) (mVal (mLst (mCons (mVal (mTup (mCons (mVal (M.ret (.c (.str "b")))) (mCons (mVal (M.ret (.c (.str "a")))) (M.ret []))))) (mCons (mVal (mTup (mCons (mVal (M.ret (.c (.str "a")))) (mCons (mVal (M.ret (.c (.str "a")))) (M.ret []))))) (mCons (mVal (mTup (mCons (mVal (M.ret (.c (.str "")))) (M.ret [])))) (mCons (mVal (mTup (mCons (mVal (M.ret (.c (.str "ab")))) (M.ret [])))) (mCons (mVal (mTup (mCons (mVal (M.ret (.c (.str "a")))) (mCons (mVal (M.ret (.c (.int 1)))) (M.ret []))))) (mCons (mVal (mTup (mCons (mVal (M.ret (.c (.str "a")))) (mCons (mVal (M.ret (.c .non))) (M.ret []))))) (mCons (mVal (mOp2 gMul (mVal (M.ret (.c (.str "a")))) (mVal (M.ret (.c (.int 4001)))))) (mCons (mVal (mTup (mCons (mVal (mTup (M.ret []))) (M.ret [])))) (mCons (mVal (mDict [((M.ret (.c (.str "a"))), (mTup (mCons (mVal (M.ret (.c (.str "a")))) (mCons (mVal (M.ret (.c (.int 0)))) (M.ret [])))))])) (M.ret []))))))))))))))
    (mRet (mCallE f__law_one_of (mLen 2 (mCons (mSlot 0) (mCons (mSlot 1) (M.ret []))))))))
def f__law_odd : Fn := fnOf 2 m__law_odd
def m__law_is_sign : M Fl := (mRet (mAndV (mCallE f__law_is_text (mLen 1 (mCons (mSlot 0) (M.ret [])))) (mOp2 gEq (mVal (mCb gLen (mCons (mSlot 0) (M.ret [])))) (mVal (M.ret (.c (.int 1)))))))
def f__law_is_sign : Fn := fnOf 1 m__law_is_sign
def m__law_string : M Fl := (mSeq (M.bind (mCons (mVal (mCallE f__law_roll (mLen 2 (mCons (mSlot 0) (mCons (mVal (M.ret (.c (.int 4)))) (M.ret [])))))) (mCons (mVal (M.ret (.c (.str "")))) (mCons (mVal (mCallE f__law_all_signs (M.ret []))) (M.ret [])))) (put3 2 3 4))
    (mSeq (M.bind (mRange1 (mCons (mVal (mCallE f__law_roll (mLen 2 (mCons (mSlot 0) (mCons (mVal (M.ret (.c (.int 11)))) (M.ret [])))))) (M.ret []))) fun us => mFor (gF 1)
    (mSetF 3 (mOp2 gAdd (mSlot 3) (mVal (mCallE f__law_one_of (mLen 2 (mCons (mSlot 0) (mCons (mVal (mIf (mTruth (mOp2 gGt (mSlot 2) (mVal (M.ret (.c (.int 0)))))) (mTake 4) (mCallE f__law_printable (M.ret [])))) (M.ret [])))))))) us)
    (mSeq (mIf (mTruth (mOp2 gEq (mSlot 2) (mVal (M.ret (.c (.int 1)))))) (mSeq (mSetF 5 (mCallE f__law_roll (mLen 2 (mCons (mSlot 0) (mCons (mVal (mOp2 gAdd (mVal (mCb gLen (mCons (mSlot 3) (M.ret [])))) (mVal (M.ret (.c (.int 1)))))) (M.ret []))))))
    (mSetF 3 (mOp2 gAdd (mVal (mOp2 gAdd (mVal (mSlice (mSlot 3) (M.ret none) (mPart (mSlot 5)))) (mVal (mCallE f__law_one_of (mLen 2 (mCons (mSlot 0) (mCons (mVal (mCallE f__law_printable (M.ret []))) (M.ret [])))))))) (mVal (mSlice (mSlot 3) (mPart (mVal (mOp2 gAdd (mSlot 5) (mVal (M.ret (.c (.int 1))))))) (M.ret none)))))) (M.ret .nx))
    (mRet (mOp2 gMul (mSlot 3) (mVal (mCallE f__law_one_of (mLen 2 (mCons (mSlot 0) (mCons (mVal (mLst (mCons (mVal (M.ret (.c (.int 1)))) (mCons (mVal (M.ret (.c (.int 1)))) (mCons (mVal (M.ret (.c (.int 2)))) (mCons (mVal (M.ret (.c (.int 100)))) (M.ret []))))))) (M.ret [])))))))))))
def f__law_string : Fn := fnOf 6 m__law_string
def m__law_right : M Fl := (mSeq (M.bind (mItems (mTup (mCons (mVal (mCallE f__law_string (mLen 1 (mCons (mSlot 0) (M.ret []))))) (mCons (mVal (mCallE f__law_string (mLen 1 (mCons (mSlot 0) (M.ret []))))) (mCons (mVal (mCallE f__law_odd (mLen 1 (mCons (mSlot 0) (M.ret []))))) (mCons (mVal (mCallE f__law_one_of (mLen 2 (mCons (mSlot 0) (mCons (mVal (mCallE f__law_printable (M.ret []))) (M.ret [])))))) (M.ret []))))))) fun us => mFor (gF 1)
    (mIf (mTruth (mOp2 gNe (mVal (mCb gRepr (mCons (mVal (mLst (mCons (mVal (mCallE f_is_sign (mLen 1 (mCons (mSlot 1) (M.ret []))))) (mCons (mVal (mCallE f_is_text (mLen 1 (mCons (mSlot 1) (M.ret []))))) (M.ret []))))) (M.ret [])))) (mVal (mCb gRepr (mCons (mVal (mLst (mCons (mVal (mCallE f__law_is_sign (mLen 1 (mCons (mSlot 1) (M.ret []))))) (mCons (mVal (mCallE f__law_is_text (mLen 1 (mCons (mSlot 1) (M.ret []))))) (M.ret []))))) (M.ret [])))))) (mRet (M.ret (.c (.bl false)))) (M.ret .nx)) us)
    (mRet (M.ret (.c (.bl true)))))
def f__law_right : Fn := fnOf 2 m__law_right
def m_law : M Fl := (mSeq (M.bind (mRange1 (mCons (mVal (mCb gMax2 (mCons (mVal (M.ret (.c (.int 1)))) (mCons (mVal (mCb gMin2 (mCons (mVal (M.ret (.c (.int 6)))) (mCons (mVal (mCb gLen (mCons (mSlot 0) (M.ret [])))) (M.ret []))))) (M.ret []))))) (M.ret []))) fun us => mFor (gF 1)
    (mSeq (mSetO 4 (mCallO f__law_dice (mLen 2 (mCons (mSlot 0) (mCons (mSlot 1) (M.ret []))))))
    (M.bind (mRange1 (mCons (mVal (M.ret (.c (.int 12)))) (M.ret []))) fun us => mFor (gF 5)
    (mIf (mNot (mTruth (mCallE f__law_right (mLen 1 (mCons (mSlot 4) (M.ret [])))))) (mRet (M.ret (.c (.bl false)))) (M.ret .nx)) us)) us)
    (mSeq (M.bind (mItems (mCallE f__law_printable (M.ret []))) fun us => mFor (gF 2)
    (mIf (mOr (mTruth (mOp2 gNe (mVal (mCallE f_is_sign (mLen 1 (mCons (mSlot 2) (M.ret []))))) (mVal (mOp2 gIn (mSlot 2) (mVal (M.ret (.c (.str "+-./0123456789ABCDEFGHIJKLMNOPQRSTUVWXYZ_abcdefghijklmnopqrstuvwxyz~")))))))) (mOr (mTruth (mOp2 gNe (mVal (mCallE f_is_text (mLen 1 (mCons (mVal (mOp2 gAdd (mVal (M.ret (.c (.str "a")))) (mSlot 2))) (M.ret []))))) (mVal (mOp2 gIn (mSlot 2) (mVal (M.ret (.c (.str "+-./0123456789ABCDEFGHIJKLMNOPQRSTUVWXYZ_abcdefghijklmnopqrstuvwxyz~")))))))) (mTruth (mCallE f_is_sign (mLen 1 (mCons (mVal (mOp2 gAdd (mSlot 2) (mVal (M.ret (.c (.str "a")))))) (M.ret []))))))) (mRet (M.ret (.c (.bl false)))) (M.ret .nx)) us)
    (mSeq (mIf (mOr (mTruth (mOp2 gNe (mVal (mCb gListA (mCons (mVal (M.ret (.c (.str "+-./0123456789ABCDEFGHIJKLMNOPQRSTUVWXYZ_abcdefghijklmnopqrstuvwxyz~")))) (M.ret [])))) (mVal (mCb gSortT (mCons (mVal (mCb gSet (mCons (mVal (M.ret (.c (.str "+-./0123456789ABCDEFGHIJKLMNOPQRSTUVWXYZ_abcdefghijklmnopqrstuvwxyz~")))) (M.ret [])))) (M.ret [])))))) (mTruth (mOp2 gNe (mVal (M.ret (.c (.str "+-./0123456789ABCDEFGHIJKLMNOPQRSTUVWXYZ_abcdefghijklmnopqrstuvwxyz~")))) (mVal (mCallE f__law_all_signs (M.ret [])))))) (mRet (M.ret (.c (.bl false)))) (M.ret .nx))
    (mSeq (mSetF 3 (mLst (mCons (mVal (mCallE f_is_sign (mLen 1 (mCons (mVal (M.ret (.c (.str "")))) (M.ret []))))) (mCons (mVal (mCallE f_is_text (mLen 1 (mCons (mVal (M.ret (.c (.str "")))) (M.ret []))))) (mCons (mVal (mCallE f_is_text (mLen 1 (mCons (mVal (mOp2 gMul (mVal (M.ret (.c (.str "a")))) (mVal (M.ret (.c (.int 5000)))))) (M.ret []))))) (mCons (mVal (mCallE f_is_sign (mLen 1 (mCons (mVal (M.ret (.c (.str "ab")))) (M.ret []))))) (mCons (mVal (mCallE f_is_text (mLen 1 (mCons (mVal (mTup (mCons (mVal (M.ret (.c (.str "a")))) (M.ret [])))) (M.ret []))))) (mCons (mVal (mCallE f_is_sign (mLen 1 (mCons (mVal (M.ret (.c (.int 0)))) (M.ret []))))) (mCons (mVal (mCallE f_is_text (mLen 1 (mCons (mVal (M.ret (.c .non))) (M.ret []))))) (M.ret []))))))))))
    (mRet (mAndV (mOp2 gEq (mSlot 3) (mVal (mLst (mCons (mVal (M.ret (.c (.bl false)))) (mCons (mVal (M.ret (.c (.bl true)))) (mCons (mVal (M.ret (.c (.bl true)))) (mCons (mVal (M.ret (.c (.bl false)))) (mCons (mVal (M.ret (.c (.bl false)))) (mCons (mVal (M.ret (.c (.bl false)))) (mCons (mVal (M.ret (.c (.bl false)))) (M.ret []))))))))))) (mOp2 gEq (mVal (mCb gLen (mCons (mVal (M.ret (.c (.str "+-./0123456789ABCDEFGHIJKLMNOPQRSTUVWXYZ_abcdefghijklmnopqrstuvwxyz~")))) (M.ret [])))) (mVal (M.ret (.c (.int 68)))))))))))
def f_law : Fn := fnOf 6 m_law
theorem sc_is_sign : FnScope ["value"] ["value"] (defScope (topS 2)) := ⟨rfl, rfl, rfl, by decide +kernel, rfl, by decide +kernel, by decide +kernel⟩
theorem sc_is_text : FnScope ["value", "sign"] ["value"] (defScope (topS 3)) := ⟨rfl, rfl, rfl, by decide +kernel, rfl, by decide +kernel, by decide +kernel⟩
theorem sc__law_dice : FnScope ["_law_script", "_law_at", "_law_cell", "_law_great", "_law_mixed"] ["_law_script", "_law_at"] (defScope (topS 5)) := ⟨rfl, rfl, rfl, by decide +kernel, rfl, by decide +kernel, by decide +kernel⟩
theorem sc__law_roll : FnScope ["_law_dice_here", "_law_total", "_law_one", "_law_two", "_law_found"] ["_law_dice_here", "_law_total"] (defScope (topS 6)) := ⟨rfl, rfl, rfl, by decide +kernel, rfl, by decide +kernel, by decide +kernel⟩
theorem sc__law_all_signs : FnScope [] [] (defScope (topS 8)) := ⟨rfl, rfl, rfl, by decide +kernel, rfl, by decide +kernel, by decide +kernel⟩
theorem sc__law_printable : FnScope ["_law_found"] [] (defScope (topS 12)) := ⟨rfl, rfl, rfl, by decide +kernel, rfl, by decide +kernel, by decide +kernel⟩
theorem sc__law_one_of : FnScope ["_law_dice_here", "_law_items"] ["_law_dice_here", "_law_items"] (defScope (topS 7)) := ⟨rfl, rfl, rfl, by decide +kernel, rfl, by decide +kernel, by decide +kernel⟩
theorem sc__law_is_text : FnScope ["_law_value", "_law_sign"] ["_law_value"] (defScope (topS 10)) := ⟨rfl, rfl, rfl, by decide +kernel, rfl, by decide +kernel, by decide +kernel⟩
theorem sc__law_odd : FnScope ["_law_dice_here", "_law_some"] ["_law_dice_here"] (defScope (topS 9)) := ⟨rfl, rfl, rfl, by decide +kernel, rfl, by decide +kernel, by decide +kernel⟩
theorem sc__law_is_sign : FnScope ["_law_value"] ["_law_value"] (defScope (topS 11)) := ⟨rfl, rfl, rfl, by decide +kernel, rfl, by decide +kernel, by decide +kernel⟩
theorem sc__law_string : FnScope ["_law_dice_here", "_law_turn", "_law_way", "_law_word", "_law_signs", "_law_at"] ["_law_dice_here"] (defScope (topS 13)) := ⟨rfl, rfl, rfl, by decide +kernel, rfl, by decide +kernel, by decide +kernel⟩
theorem sc__law_right : FnScope ["_law_dice_here", "_law_value"] ["_law_dice_here"] (defScope (topS 14)) := ⟨rfl, rfl, rfl, by decide +kernel, rfl, by decide +kernel, by decide +kernel⟩
theorem sc_law : FnScope ["_law_script", "_law_at", "_law_sign", "_law_told", "_law_dice_here", "_law_turn"] ["_law_script"] (defScope (topS 15)) := ⟨rfl, rfl, rfl, by decide +kernel, rfl, by decide +kernel, by decide +kernel⟩
/-- where the top put things -/
structure Ad where
  a_is_sign : Addr
  d_is_sign : FuncData
  a_is_text : Addr
  d_is_text : FuncData
  a__law_dice : Addr
  d__law_dice : FuncData
  a__law_roll : Addr
  d__law_roll : FuncData
  a__law_all_signs : Addr
  d__law_all_signs : FuncData
  a__law_printable : Addr
  d__law_printable : FuncData
  a__law_one_of : Addr
  d__law_one_of : FuncData
  a__law_is_text : Addr
  d__law_is_text : FuncData
  a__law_odd : Addr
  d__law_odd : FuncData
  a__law_is_sign : Addr
  d__law_is_sign : FuncData
  a__law_string : Addr
  d__law_string : FuncData
  a__law_right : Addr
  d__law_right : FuncData
  a_law : Addr
  d_law : FuncData
  t_SIGNS : Tok
structure Top (K : PySem.W.Frag) (mg : Str → Option Value) (A : Ad) : Prop where
  m_is_sign : mg "is_sign" = some (.ref A.a_is_sign)
  F_is_sign : Fun K "is_sign" "is_sign" (topS 2) A.a_is_sign A.d_is_sign
  b_is_sign : Binds K A.d_is_sign ["value"] []
  m_is_text : mg "is_text" = some (.ref A.a_is_text)
  F_is_text : Fun K "is_text" "is_text" (topS 3) A.a_is_text A.d_is_text
  b_is_text : Binds K A.d_is_text ["value"] []
  m__law_dice : mg "_law_dice" = some (.ref A.a__law_dice)
  F__law_dice : Fun K "_law_dice" "_law_dice" (topS 5) A.a__law_dice A.d__law_dice
  b__law_dice : Binds K A.d__law_dice ["_law_script", "_law_at"] []
  m__law_roll : mg "_law_roll" = some (.ref A.a__law_roll)
  F__law_roll : Fun K "_law_roll" "_law_roll" (topS 6) A.a__law_roll A.d__law_roll
  b__law_roll : Binds K A.d__law_roll ["_law_dice_here", "_law_total"] []
  m__law_all_signs : mg "_law_all_signs" = some (.ref A.a__law_all_signs)
  F__law_all_signs : Fun K "_law_all_signs" "_law_all_signs" (topS 8) A.a__law_all_signs A.d__law_all_signs
  b__law_all_signs : Binds K A.d__law_all_signs [] []
  m__law_printable : mg "_law_printable" = some (.ref A.a__law_printable)
  F__law_printable : Fun K "_law_printable" "_law_printable" (topS 12) A.a__law_printable A.d__law_printable
  b__law_printable : Binds K A.d__law_printable [] []
  m__law_one_of : mg "_law_one_of" = some (.ref A.a__law_one_of)
  F__law_one_of : Fun K "_law_one_of" "_law_one_of" (topS 7) A.a__law_one_of A.d__law_one_of
  b__law_one_of : Binds K A.d__law_one_of ["_law_dice_here", "_law_items"] []
  m__law_is_text : mg "_law_is_text" = some (.ref A.a__law_is_text)
  F__law_is_text : Fun K "_law_is_text" "_law_is_text" (topS 10) A.a__law_is_text A.d__law_is_text
  b__law_is_text : Binds K A.d__law_is_text ["_law_value"] []
  m__law_odd : mg "_law_odd" = some (.ref A.a__law_odd)
  F__law_odd : Fun K "_law_odd" "_law_odd" (topS 9) A.a__law_odd A.d__law_odd
  b__law_odd : Binds K A.d__law_odd ["_law_dice_here"] []
  m__law_is_sign : mg "_law_is_sign" = some (.ref A.a__law_is_sign)
  F__law_is_sign : Fun K "_law_is_sign" "_law_is_sign" (topS 11) A.a__law_is_sign A.d__law_is_sign
  b__law_is_sign : Binds K A.d__law_is_sign ["_law_value"] []
  m__law_string : mg "_law_string" = some (.ref A.a__law_string)
  F__law_string : Fun K "_law_string" "_law_string" (topS 13) A.a__law_string A.d__law_string
  b__law_string : Binds K A.d__law_string ["_law_dice_here"] []
  m__law_right : mg "_law_right" = some (.ref A.a__law_right)
  F__law_right : Fun K "_law_right" "_law_right" (topS 14) A.a__law_right A.d__law_right
  b__law_right : Binds K A.d__law_right ["_law_dice_here"] []
  m_law : mg "law" = some (.ref A.a_law)
  F_law : Fun K "law" "law" (topS 15) A.a_law A.d_law
  b_law : Binds K A.d_law ["_law_script"] []
  g_SIGNS : mg "SIGNS" = some (.str "+-./0123456789ABCDEFGHIJKLMNOPQRSTUVWXYZ_abcdefghijklmnopqrstuvwxyz~" A.t_SIGNS)
  n_abs : mg "abs" = none
  n_all : mg "all" = none
  n_int : mg "int" = none
  n_isinstance : mg "isinstance" = none
  n_len : mg "len" = none
  n_list : mg "list" = none
  n_max : mg "max" = none
  n_min : mg "min" = none
  n_range : mg "range" = none
  n_repr : mg "repr" = none
  n_set : mg "set" = none
  n_sorted : mg "sorted" = none
  n_str : mg "str" = none
section
variable {w : World} {K : PySem.W.Frag} {mg : Str → Option Value} {base : Heap} {cl : Nat → Addr} {A : Ad}
set_option maxHeartbeats 0 in
theorem ok_is_sign (T : Top K mg A) : FnG Pg w K mg base 1 A.a_is_sign A.d_is_sign ["value"] (spF ⟨K, Pg, w, cl, soOf Pg w⟩ 1 f_is_sign) :=
  fn_ok T.F_is_sign sc_is_sign fun cdv Ar outer s H E hr hgd =>
    (dss_one (ds_ret (de_and (de_callB (cb_isi .str) (by rfl) T.n_isinstance (by decide +kernel) (da_cons (dh_slot (pv 0)) (da_cons (dh_val (de_const (pe_bltn (v := .ty "str") (by rfl) T.n_str (u := .type "str") (by decide +kernel) rfl))) da_nil))) (de_and (de_cmp (oEq (room_64 hr)) (dh_val (de_callB cb_len (by rfl) T.n_len (by decide +kernel) (da_cons (dh_slot (pv 0)) da_nil))) (dh_val (de_const pe_int)) rfl) (de_one (de_cmp (oIn (room_1 hr)) (dh_slot (pv 0)) (dh_val (de_const (pe_glob (by rfl) T.g_SIGNS ⟨_, rfl⟩))) rfl))))))
set_option maxHeartbeats 0 in
theorem ok_is_text (T : Top K mg A) : FnG Pg w K mg base 1 A.a_is_text A.d_is_text ["value"] (spF ⟨K, Pg, w, cl, soOf Pg w⟩ 1 f_is_text) :=
  fn_ok T.F_is_text sc_is_text fun cdv Ar outer s H E hr hgd =>
    (dss_one (ds_ret (de_and (de_callB (cb_isi .str) (by rfl) T.n_isinstance (by decide +kernel) (da_cons (dh_slot (pv 0)) (da_cons (dh_val (de_const (pe_bltn (v := .ty "str") (by rfl) T.n_str (u := .type "str") (by decide +kernel) rfl))) da_nil))) (de_one (de_callB (cb_all rfl) (by rfl) T.n_all (by decide +kernel) (da_cons (dh_val (de_new (do_lc (own := [("sign", 1)]) (tv := [1]) rfl sc_is_text.nd (di_items (de_take (pv 0)) (fun h => pi_list h) (fun h => pi_tup h) (fun h => pi_str h)) (blkOk_by (N := ["value", "sign"]) (sc := defScope (topS 3)) (by decide +kernel)) (by decide) (fun _ _ _ _ _ => (pg_name (i := 1) sc_is_text.nd rfl (by first | exact .inl rfl | exact .inr rfl))) (gt_name (i := 1)) (fun _ _ _ _ _ => dts_nil) (fun _ _ _ _ _ => (de_cmp (oIn (room_1 hr)) (dh_slot (pv 1)) (dh_val (de_const (pe_glob (by rfl) T.g_SIGNS ⟨_, rfl⟩))) rfl))))) da_nil))))))
set_option maxHeartbeats 0 in
theorem ok__law_dice (T : Top K mg A) : FnG Pg w K mg base 1 A.a__law_dice A.d__law_dice ["_law_script", "_law_at"] (spF ⟨K, Pg, w, cl, soOf Pg w⟩ 2 f__law_dice) :=
  fn_ok T.F__law_dice sc__law_dice fun cdv Ar outer s H E hr hgd =>
    (dss_cons (ds_setF (i := 2) sc__law_dice.nd rfl (by first | exact .inl rfl | exact .inr rfl) (de_bin oAdd (dh_val (de_bin oMul (dh_val (de_const pe_int)) (dh_slot (pv 1)))) (dh_val (de_const pe_int))))
    (dss_cons (ds_if (dt_cmp oLt (dh_slot (pv 1)) (dh_val (de_callB cb_len (by rfl) T.n_len (by decide +kernel) (da_cons (dh_slot (pv 0)) da_nil))) rfl) (dss_one (ds_setF (i := 2) sc__law_dice.nd rfl (by first | exact .inl rfl | exact .inr rfl) (de_ix (room_1 hr) (dh_slot (pv 0)) (dh_slot (pv 1)) (fun _ _ => rfl)))) dss_nil)
    (dss_cons (ds_setF (i := 3) sc__law_dice.nd rfl (by first | exact .inl rfl | exact .inr rfl) (de_bin oMod (dh_val (de_callTy cb_int (by rfl) T.n_int (by decide +kernel) (da_cons (dh_val (de_callB cb_abs (by rfl) T.n_abs (by decide +kernel) (da_cons (dh_slot (pv 2)) da_nil))) da_nil))) (dh_val (de_bin oPow (dh_val (de_bin oPow (dh_val (de_const pe_int)) (dh_val (de_const pe_int)))) (dh_val (de_const pe_int))))))
    (dss_cons (ds_setF (i := 4) sc__law_dice.nd rfl (by first | exact .inl rfl | exact .inr rfl) (de_bin oAdd (dh_val (de_bin oAdd (dh_val (de_bin oAdd (dh_val (de_bin oMul (dh_val (de_bin oMod (dh_val (de_callTy cb_int (by rfl) T.n_int (by decide +kernel) (da_cons (dh_slot (pv 3)) da_nil))) (dh_val (de_const pe_int)))) (dh_val (de_const pe_int)))) (dh_val (de_bin oMul (dh_val (de_const pe_int)) (dh_slot (pv 1)))))) (dh_val (de_bin oMul (dh_val (de_const pe_int)) (dh_val (de_callTy cb_int (by rfl) T.n_int (by decide +kernel) (da_cons (dh_val (de_cmp oLt (dh_slot (pv 2)) (dh_val (de_const pe_int)) rfl)) da_nil))))))) (dh_val (de_const pe_int))))
    (dss_one (ds_retO (do_lst (da_cons (dh_val (de_callB (cb_max2 rfl) (by rfl) T.n_max (by decide +kernel) (da_cons (dh_val (de_const pe_int)) (da_cons (dh_val (de_bin oSub (dh_slot (pv 3)) (dh_val (de_bin oPow (dh_val (de_const pe_int)) (dh_val (de_const pe_int)))))) da_nil)))) (da_cons (dh_val (de_bin oMod (dh_val (de_callTy cb_int (by rfl) T.n_int (by decide +kernel) (da_cons (dh_slot (pv 4)) da_nil))) (dh_val (de_const pe_int)))) (da_cons (dh_val (de_const pe_int)) da_nil))))))))))
set_option maxHeartbeats 0 in
theorem ok__law_roll (T : Top K mg A) : FnG Pg w K mg base 1 A.a__law_roll A.d__law_roll ["_law_dice_here", "_law_total"] (spF ⟨K, Pg, w, cl, soOf Pg w⟩ 2 f__law_roll) :=
  fn_ok T.F__law_roll sc__law_roll fun cdv Ar outer s H E hr hgd =>
    (dss_cons (ds_if (dt_cmp oGt (dh_val (de_ix (room_1 hr) (dh_slot (pv 0)) (dh_val (de_const pe_int)) (fun _ _ => rfl))) (dh_val (de_const pe_int)) rfl) (dss_cons (ds_setF (i := 4) sc__law_roll.nd rfl (by first | exact .inl rfl | exact .inr rfl) (de_bin oMod (dh_val (de_callTy cb_int (by rfl) T.n_int (by decide +kernel) (da_cons (dh_val (de_ix (room_1 hr) (dh_slot (pv 0)) (dh_val (de_const pe_int)) (fun _ _ => rfl))) da_nil))) (dh_slot (pv 1))))
    (dss_cons (ds_setIx (i := 0) (room_1 hr) (pv 0) (dh_val (de_const pe_int)) (de_bin oDiv (dh_val (de_ix (room_1 hr) (dh_slot (pv 0)) (dh_val (de_const pe_int)) (fun _ _ => rfl))) (dh_slot (pv 1))))
    (dss_one (ds_ret (de_take (pv 4)))))) dss_nil)
    (dss_cons (ds_setIx (i := 0) (room_1 hr) (pv 0) (dh_val (de_const pe_int)) (de_bin oAdd (dh_val (de_ix (room_1 hr) (dh_slot (pv 0)) (dh_val (de_const pe_int)) (fun _ _ => rfl))) (dh_val (de_const pe_int))))
    (dss_cons (ds_setF (i := 2) sc__law_roll.nd rfl (by first | exact .inl rfl | exact .inr rfl) (de_bin oMod (dh_val (de_callTy cb_int (by rfl) T.n_int (by decide +kernel) (da_cons (dh_val (de_bin oAdd (dh_val (de_ix (room_1 hr) (dh_slot (pv 0)) (dh_val (de_const pe_int)) (fun _ _ => rfl))) (dh_val (de_bin oMul (dh_val (de_const pe_int)) (dh_val (de_ix (room_1 hr) (dh_slot (pv 0)) (dh_val (de_const pe_int)) (fun _ _ => rfl))))))) da_nil))) (dh_val (de_const pe_int))))
    (dss_cons (ds_setF (i := 3) sc__law_roll.nd rfl (by first | exact .inl rfl | exact .inr rfl) (de_bin oAdd (dh_val (de_bin oMul (dh_val (de_bin oMod (dh_val (de_callTy cb_int (by rfl) T.n_int (by decide +kernel) (da_cons (dh_val (de_bin oMul (dh_slot (pv 2)) (dh_slot (pv 2)))) da_nil))) (dh_val (de_const pe_int)))) (dh_slot (pv 2)))) (dh_val (de_bin oMul (dh_val (de_const pe_int)) (dh_val (de_ix (room_1 hr) (dh_slot (pv 0)) (dh_val (de_const pe_int)) (fun _ _ => rfl)))))))
    (dss_cons (ds_setF (i := 3) sc__law_roll.nd rfl (by first | exact .inl rfl | exact .inr rfl) (de_bin oMod (dh_val (de_callTy cb_int (by rfl) T.n_int (by decide +kernel) (da_cons (dh_slot (pv 3)) da_nil))) (dh_val (de_const pe_int))))
    (dss_one (ds_ret (de_bin oMod (dh_val (de_callTy cb_int (by rfl) T.n_int (by decide +kernel) (da_cons (dh_val (de_bin oDiv (dh_slot (pv 3)) (dh_val (de_const pe_int)))) da_nil))) (dh_slot (pv 1))))))))))
set_option maxHeartbeats 0 in
theorem ok__law_all_signs (T : Top K mg A) : FnG Pg w K mg base 1 A.a__law_all_signs A.d__law_all_signs [] (spF ⟨K, Pg, w, cl, soOf Pg w⟩ 0 f__law_all_signs) :=
  fn_ok T.F__law_all_signs sc__law_all_signs fun cdv Ar outer s H E hr hgd =>
    (dss_one (ds_ret (de_const pe_str)))
set_option maxHeartbeats 0 in
theorem ok__law_printable (T : Top K mg A) : FnG Pg w K mg base 1 A.a__law_printable A.d__law_printable [] (spF ⟨K, Pg, w, cl, soOf Pg w⟩ 0 f__law_printable) :=
  fn_ok T.F__law_printable sc__law_printable fun cdv Ar outer s H E hr hgd =>
    (dss_cons (ds_setF (i := 0) sc__law_printable.nd rfl (by first | exact .inl rfl | exact .inr rfl) (de_const pe_str))
    (dss_one (ds_ret (de_bin oAdd (dh_val (de_bin oAdd (dh_val (de_bin oAdd (dh_val (de_bin oAdd (dh_slot (pv 0)) (dh_val (de_const pe_str)))) (dh_val (de_const pe_str)))) (dh_val (de_const pe_str)))) (dh_val (de_const pe_str))))))
set_option maxHeartbeats 0 in
theorem ok__law_one_of (T : Top K mg A) : FnG Pg w K mg base 2 A.a__law_one_of A.d__law_one_of ["_law_dice_here", "_law_items"] (spF ⟨K, Pg, w, cl, soOf Pg w⟩ 2 f__law_one_of) :=
  fn_ok T.F__law_one_of sc__law_one_of fun cdv Ar outer s H E hr hgd =>
    (dss_one (ds_ret (de_ix (room_1 hr) (dh_slot (pv 1)) (dh_val (de_call (ok__law_roll T) (hr.mono (by decide)) hgd (by rfl) T.m__law_roll T.F__law_roll.kp T.b__law_roll (takes_of rfl rfl rfl rfl) (da_cons (dh_slot (pv 0)) (da_cons (dh_val (de_callB cb_len (by rfl) T.n_len (by decide +kernel) (da_cons (dh_slot (pv 1)) da_nil))) da_nil)))) (fun _ _ => rfl))))
set_option maxHeartbeats 0 in
theorem ok__law_is_text (T : Top K mg A) : FnG Pg w K mg base 2 A.a__law_is_text A.d__law_is_text ["_law_value"] (spF ⟨K, Pg, w, cl, soOf Pg w⟩ 1 f__law_is_text) :=
  fn_ok T.F__law_is_text sc__law_is_text fun cdv Ar outer s H E hr hgd =>
    (dss_cons (ds_if (dt_not (dt_val (de_callB (cb_isi .str) (by rfl) T.n_isinstance (by decide +kernel) (da_cons (dh_slot (pv 0)) (da_cons (dh_val (de_const (pe_bltn (v := .ty "str") (by rfl) T.n_str (u := .type "str") (by decide +kernel) rfl))) da_nil))))) (dss_one (ds_ret (de_const pe_bl))) dss_nil)
    (dss_one (ds_ret (de_cmp (oEq (room_64 hr)) (dh_val (de_new (do_lc (own := [("_law_sign", 1)]) (tv := [1]) rfl sc__law_is_text.nd (di_items (de_take (pv 0)) (fun h => pi_list h) (fun h => pi_tup h) (fun h => pi_str h)) (blkOk_by (N := ["_law_value", "_law_sign"]) (sc := defScope (topS 10)) (by decide +kernel)) (by decide) (fun _ _ _ _ _ => (pg_name (i := 1) sc__law_is_text.nd rfl (by first | exact .inl rfl | exact .inr rfl))) (gt_name (i := 1)) (fun _ _ _ _ _ => (dts_one (dt_cmp (oNotIn (room_1 hr)) (dh_slot (pv 1)) (dh_val (de_call0 (ok__law_all_signs T) (hr.mono (by decide)) hgd (by rfl) T.m__law_all_signs T.F__law_all_signs.kp T.b__law_all_signs takes0)) rfl))) (fun _ _ _ _ _ => (de_take (pv 1)))))) (dh_val (de_new (do_lst da_nil))) rfl))))
set_option maxHeartbeats 0 in
theorem ok__law_odd (T : Top K mg A) : FnG Pg w K mg base 3 A.a__law_odd A.d__law_odd ["_law_dice_here"] (spF ⟨K, Pg, w, cl, soOf Pg w⟩ 1 f__law_odd) :=
  fn_ok T.F__law_odd sc__law_odd fun cdv Ar outer s H E hr hgd =>
    (dss_cons (ds_setF (i := 1) sc__law_odd.nd rfl (by first | exact .inl rfl | exact .inr rfl) (de_new (do_lst (da_cons (dh_val (de_const pe_non)) (da_cons (dh_val (de_const pe_bl)) (da_cons (dh_val (de_const pe_bl)) (da_cons (dh_val (de_const pe_int)) (da_cons (dh_val (de_const pe_int)) (da_cons (dh_val (de_neg (dh_val (de_const pe_int)))) (da_cons (dh_val (de_bin oPow (dh_val (de_const pe_int)) (dh_val (de_const pe_int)))) (da_cons (dh_val (de_tup da_nil)) (da_cons (dh_val (de_new (do_lst da_nil))) (da_cons (dh_val (de_new do_dict0)) (da_cons (dh_val (de_const pe_str)) (da_cons (dh_val (de_const pe_str)) (da_cons (dh_val (de_const pe_str)) (da_cons (dh_val (de_const pe_str)) (da_cons (dh_val (de_tup (da_cons (dh_val (de_const pe_str)) da_nil))) (da_cons (dh_val (de_new (do_lst (da_cons (dh_val (de_const pe_str)) da_nil)))) (da_cons (dh_val (de_new (do_dict (dps_cons (de_const pe_str) (de_const pe_str) dps_nil)))) da_nil))))))))))))))))))))
    (dss_cons (ds_setF (i := 1) sc__law_odd.nd rfl (by first | exact .inl rfl | exact .inr rfl) (de_bin oAdd (dh_slot (pv 1)) (dh_val (de_new (do_lst (da_cons (dh_val (de_tup (da_cons (dh_val (de_const pe_str)) (da_cons (dh_val (de_const pe_str)) da_nil)))) (da_cons (dh_val (de_tup (da_cons (dh_val (de_const pe_str)) (da_cons (dh_val (de_const pe_str)) da_nil)))) (da_cons (dh_val (de_tup (da_cons (dh_val (de_const pe_str)) da_nil))) (da_cons (dh_val (de_tup (da_cons (dh_val (de_const pe_str)) da_nil))) (da_cons (dh_val (de_tup (da_cons (dh_val (de_const pe_str)) (da_cons (dh_val (de_const pe_int)) da_nil)))) (da_cons (dh_val (de_tup (da_cons (dh_val (de_const pe_str)) (da_cons (dh_val (de_const pe_non)) da_nil)))) (da_cons (dh_val (de_bin oMul (dh_val (de_const pe_str)) (dh_val (de_const pe_int)))) (da_cons (dh_val (de_tup (da_cons (dh_val (de_tup da_nil)) da_nil))) (da_cons (dh_val (de_new (do_dict (dps_cons (de_const pe_str) (de_tup (da_cons (dh_val (de_const pe_str)) (da_cons (dh_val (de_const pe_int)) da_nil))) dps_nil)))) da_nil))))))))))))))
    (dss_one (ds_ret (de_call (ok__law_one_of T) (hr.mono (by decide)) hgd (by rfl) T.m__law_one_of T.F__law_one_of.kp T.b__law_one_of (takes_of rfl rfl rfl rfl) (da_cons (dh_slot (pv 0)) (da_cons (dh_slot (pv 1)) da_nil)))))))
set_option maxHeartbeats 0 in
theorem ok__law_is_sign (T : Top K mg A) : FnG Pg w K mg base 3 A.a__law_is_sign A.d__law_is_sign ["_law_value"] (spF ⟨K, Pg, w, cl, soOf Pg w⟩ 1 f__law_is_sign) :=
  fn_ok T.F__law_is_sign sc__law_is_sign fun cdv Ar outer s H E hr hgd =>
    (dss_one (ds_ret (de_and (de_call (ok__law_is_text T) (hr.mono (by decide)) hgd (by rfl) T.m__law_is_text T.F__law_is_text.kp T.b__law_is_text (takes_of rfl rfl rfl rfl) (da_cons (dh_slot (pv 0)) da_nil)) (de_one (de_cmp (oEq (room_64 hr)) (dh_val (de_callB cb_len (by rfl) T.n_len (by decide +kernel) (da_cons (dh_slot (pv 0)) da_nil))) (dh_val (de_const pe_int)) rfl)))))
set_option maxHeartbeats 0 in
theorem ok__law_string (T : Top K mg A) : FnG Pg w K mg base 3 A.a__law_string A.d__law_string ["_law_dice_here"] (spF ⟨K, Pg, w, cl, soOf Pg w⟩ 1 f__law_string) :=
  fn_ok T.F__law_string sc__law_string fun cdv Ar outer s H E hr hgd =>
    (dss_cons (ds_par3 (i := 2) (j := 3) (l := 4) rfl sc__law_string.nd rfl rfl rfl (by decide) (by decide) (by decide) rfl rfl rfl (da_cons (dh_val (de_call (ok__law_roll T) (hr.mono (by decide)) hgd (by rfl) T.m__law_roll T.F__law_roll.kp T.b__law_roll (takes_of rfl rfl rfl rfl) (da_cons (dh_slot (pv 0)) (da_cons (dh_val (de_const pe_int)) da_nil)))) (da_cons (dh_val (de_const pe_str)) (da_cons (dh_val (de_call0 (ok__law_all_signs T) (hr.mono (by decide)) hgd (by rfl) T.m__law_all_signs T.F__law_all_signs.kp T.b__law_all_signs (takes_of rfl rfl rfl rfl))) da_nil))) rfl)
    (dss_cons (ds_for (tv := [1]) (passes_of rfl) rfl (di_range1 (t := iRng1) (fun h => pi_range1 (by rfl) T.n_range h) (da_cons (dh_val (de_call (ok__law_roll T) (hr.mono (by decide)) hgd (by rfl) T.m__law_roll T.F__law_roll.kp T.b__law_roll (takes_of rfl rfl rfl rfl) (da_cons (dh_slot (pv 0)) (da_cons (dh_val (de_const pe_int)) da_nil)))) da_nil)) (pg_name (i := 1) sc__law_string.nd rfl (by first | exact .inl rfl | exact .inr rfl)) (gt_name (i := 1)) (fun _ ss x s => nox_put ss x s)
    (dss_one (ds_setF (i := 3) sc__law_string.nd rfl (by first | exact .inl rfl | exact .inr rfl) (de_bin oAdd (dh_slot (pv 3)) (dh_val (de_call (ok__law_one_of T) (hr.mono (by decide)) hgd (by rfl) T.m__law_one_of T.F__law_one_of.kp T.b__law_one_of (takes_of rfl rfl rfl rfl) (da_cons (dh_slot (pv 0)) (da_cons (dh_val (de_if (dt_cmp oGt (dh_slot (pv 2)) (dh_val (de_const pe_int)) rfl) (de_take (pv 4)) (de_call0 (ok__law_printable T) (hr.mono (by decide)) hgd (by rfl) T.m__law_printable T.F__law_printable.kp T.b__law_printable (takes_of rfl rfl rfl rfl)))) da_nil))))))))
    (dss_cons (ds_if (dt_cmp (oEq (room_64 hr)) (dh_slot (pv 2)) (dh_val (de_const pe_int)) rfl) (dss_cons (ds_setF (i := 5) sc__law_string.nd rfl (by first | exact .inl rfl | exact .inr rfl) (de_call (ok__law_roll T) (hr.mono (by decide)) hgd (by rfl) T.m__law_roll T.F__law_roll.kp T.b__law_roll (takes_of rfl rfl rfl rfl) (da_cons (dh_slot (pv 0)) (da_cons (dh_val (de_bin oAdd (dh_val (de_callB cb_len (by rfl) T.n_len (by decide +kernel) (da_cons (dh_slot (pv 3)) da_nil))) (dh_val (de_const pe_int)))) da_nil))))
    (dss_one (ds_setF (i := 3) sc__law_string.nd rfl (by first | exact .inl rfl | exact .inr rfl) (de_bin oAdd (dh_val (de_bin oAdd (dh_val (de_slice (dh_slot (pv 3)) dp_none (dp_some (dh_slot (pv 5))))) (dh_val (de_call (ok__law_one_of T) (hr.mono (by decide)) hgd (by rfl) T.m__law_one_of T.F__law_one_of.kp T.b__law_one_of (takes_of rfl rfl rfl rfl) (da_cons (dh_slot (pv 0)) (da_cons (dh_val (de_call0 (ok__law_printable T) (hr.mono (by decide)) hgd (by rfl) T.m__law_printable T.F__law_printable.kp T.b__law_printable (takes_of rfl rfl rfl rfl))) da_nil)))))) (dh_val (de_slice (dh_slot (pv 3)) (dp_some (dh_val (de_bin oAdd (dh_slot (pv 5)) (dh_val (de_const pe_int))))) dp_none)))))) dss_nil)
    (dss_one (ds_ret (de_bin oMul (dh_slot (pv 3)) (dh_val (de_call (ok__law_one_of T) (hr.mono (by decide)) hgd (by rfl) T.m__law_one_of T.F__law_one_of.kp T.b__law_one_of (takes_of rfl rfl rfl rfl) (da_cons (dh_slot (pv 0)) (da_cons (dh_val (de_new (do_lst (da_cons (dh_val (de_const pe_int)) (da_cons (dh_val (de_const pe_int)) (da_cons (dh_val (de_const pe_int)) (da_cons (dh_val (de_const pe_int)) da_nil))))))) da_nil))))))))))
set_option maxHeartbeats 0 in
theorem ok__law_right (T : Top K mg A) : FnG Pg w K mg base 4 A.a__law_right A.d__law_right ["_law_dice_here"] (spF ⟨K, Pg, w, cl, soOf Pg w⟩ 1 f__law_right) :=
  fn_ok T.F__law_right sc__law_right fun cdv Ar outer s H E hr hgd =>
    (dss_cons (ds_for (tv := [1]) (passes_of rfl) rfl (di_items (de_tup (da_cons (dh_val (de_call (ok__law_string T) (hr.mono (by decide)) hgd (by rfl) T.m__law_string T.F__law_string.kp T.b__law_string (takes_of rfl rfl rfl rfl) (da_cons (dh_slot (pv 0)) da_nil))) (da_cons (dh_val (de_call (ok__law_string T) (hr.mono (by decide)) hgd (by rfl) T.m__law_string T.F__law_string.kp T.b__law_string (takes_of rfl rfl rfl rfl) (da_cons (dh_slot (pv 0)) da_nil))) (da_cons (dh_val (de_call (ok__law_odd T) (hr.mono (by decide)) hgd (by rfl) T.m__law_odd T.F__law_odd.kp T.b__law_odd (takes_of rfl rfl rfl rfl) (da_cons (dh_slot (pv 0)) da_nil))) (da_cons (dh_val (de_call (ok__law_one_of T) (hr.mono (by decide)) hgd (by rfl) T.m__law_one_of T.F__law_one_of.kp T.b__law_one_of (takes_of rfl rfl rfl rfl) (da_cons (dh_slot (pv 0)) (da_cons (dh_val (de_call0 (ok__law_printable T) (hr.mono (by decide)) hgd (by rfl) T.m__law_printable T.F__law_printable.kp T.b__law_printable (takes_of rfl rfl rfl rfl))) da_nil)))) da_nil))))) (fun h => pi_list h) (fun h => pi_tup h) (fun h => pi_str h)) (pg_name (i := 1) sc__law_right.nd rfl (by first | exact .inl rfl | exact .inr rfl)) (gt_name (i := 1)) (fun _ ss x s => nox_put ss x s)
    (dss_one (ds_if (dt_cmp (oNe (room_64 hr)) (dh_val (de_callB (cb_repr hgd (room_70 hr)) (by rfl) T.n_repr (by decide +kernel) (da_cons (dh_val (de_new (do_lst (da_cons (dh_val (de_call (ok_is_sign T) (hr.mono (by decide)) hgd (by rfl) T.m_is_sign T.F_is_sign.kp T.b_is_sign (takes_of rfl rfl rfl rfl) (da_cons (dh_slot (pv 1)) da_nil))) (da_cons (dh_val (de_call (ok_is_text T) (hr.mono (by decide)) hgd (by rfl) T.m_is_text T.F_is_text.kp T.b_is_text (takes_of rfl rfl rfl rfl) (da_cons (dh_slot (pv 1)) da_nil))) da_nil))))) da_nil))) (dh_val (de_callB (cb_repr hgd (room_70 hr)) (by rfl) T.n_repr (by decide +kernel) (da_cons (dh_val (de_new (do_lst (da_cons (dh_val (de_call (ok__law_is_sign T) (hr.mono (by decide)) hgd (by rfl) T.m__law_is_sign T.F__law_is_sign.kp T.b__law_is_sign (takes_of rfl rfl rfl rfl) (da_cons (dh_slot (pv 1)) da_nil))) (da_cons (dh_val (de_call (ok__law_is_text T) (hr.mono (by decide)) hgd (by rfl) T.m__law_is_text T.F__law_is_text.kp T.b__law_is_text (takes_of rfl rfl rfl rfl) (da_cons (dh_slot (pv 1)) da_nil))) da_nil))))) da_nil))) rfl) (dss_one (ds_ret (de_const pe_bl))) dss_nil)))
    (dss_one (ds_ret (de_const pe_bl))))
set_option maxHeartbeats 0 in
theorem ok_law (T : Top K mg A) : FnG Pg w K mg base 5 A.a_law A.d_law ["_law_script"] (spF ⟨K, Pg, w, cl, soOf Pg w⟩ 1 f_law) :=
  fn_ok T.F_law sc_law fun cdv Ar outer s H E hr hgd =>
    (dss_cons (ds_for (tv := [1]) (passes_of rfl) rfl (di_range1 (t := iRng1) (fun h => pi_range1 (by rfl) T.n_range h) (da_cons (dh_val (de_callB (cb_max2 rfl) (by rfl) T.n_max (by decide +kernel) (da_cons (dh_val (de_const pe_int)) (da_cons (dh_val (de_callB (cb_min2 rfl) (by rfl) T.n_min (by decide +kernel) (da_cons (dh_val (de_const pe_int)) (da_cons (dh_val (de_callB cb_len (by rfl) T.n_len (by decide +kernel) (da_cons (dh_slot (pv 0)) da_nil))) da_nil)))) da_nil)))) da_nil)) (pg_name (i := 1) sc_law.nd rfl (by first | exact .inl rfl | exact .inr rfl)) (gt_name (i := 1)) (fun _ ss x s => nox_put ss x s)
    (dss_cons (ds_setO (i := 4) sc_law.nd rfl (by first | exact .inl rfl | exact .inr rfl) (do_call (ok__law_dice T) (hr.mono (by decide)) hgd (by rfl) T.m__law_dice T.F__law_dice.kp T.b__law_dice (takes_of rfl rfl rfl rfl) (da_cons (dh_slot (pv 0)) (da_cons (dh_slot (pv 1)) da_nil))))
    (dss_one (ds_for (tv := [5]) (passes_of rfl) rfl (di_range1 (t := iRng1) (fun h => pi_range1 (by rfl) T.n_range h) (da_cons (dh_val (de_const pe_int)) da_nil)) (pg_name (i := 5) sc_law.nd rfl (by first | exact .inl rfl | exact .inr rfl)) (gt_name (i := 5)) (fun _ ss x s => nox_put ss x s)
    (dss_one (ds_if (dt_not (dt_val (de_call (ok__law_right T) (hr.mono (by decide)) hgd (by rfl) T.m__law_right T.F__law_right.kp T.b__law_right (takes_of rfl rfl rfl rfl) (da_cons (dh_slot (pv 4)) da_nil)))) (dss_one (ds_ret (de_const pe_bl))) dss_nil))))))
    (dss_cons (ds_for (tv := [2]) (passes_of rfl) rfl (di_items (de_call0 (ok__law_printable T) (hr.mono (by decide)) hgd (by rfl) T.m__law_printable T.F__law_printable.kp T.b__law_printable (takes_of rfl rfl rfl rfl)) (fun h => pi_list h) (fun h => pi_tup h) (fun h => pi_str h)) (pg_name (i := 2) sc_law.nd rfl (by first | exact .inl rfl | exact .inr rfl)) (gt_name (i := 2)) (fun _ ss x s => nox_put ss x s)
    (dss_one (ds_if (dt_w (dw_or (dt_cmp (oNe (room_64 hr)) (dh_val (de_call (ok_is_sign T) (hr.mono (by decide)) hgd (by rfl) T.m_is_sign T.F_is_sign.kp T.b_is_sign (takes_of rfl rfl rfl rfl) (da_cons (dh_slot (pv 2)) da_nil))) (dh_val (de_cmp (oIn (room_1 hr)) (dh_slot (pv 2)) (dh_val (de_const (pe_glob (by rfl) T.g_SIGNS ⟨_, rfl⟩))) rfl)) rfl) (dw_or (dt_cmp (oNe (room_64 hr)) (dh_val (de_call (ok_is_text T) (hr.mono (by decide)) hgd (by rfl) T.m_is_text T.F_is_text.kp T.b_is_text (takes_of rfl rfl rfl rfl) (da_cons (dh_val (de_bin oAdd (dh_val (de_const pe_str)) (dh_slot (pv 2)))) da_nil))) (dh_val (de_cmp (oIn (room_1 hr)) (dh_slot (pv 2)) (dh_val (de_const (pe_glob (by rfl) T.g_SIGNS ⟨_, rfl⟩))) rfl)) rfl) (dw_or1 (dt_val (de_call (ok_is_sign T) (hr.mono (by decide)) hgd (by rfl) T.m_is_sign T.F_is_sign.kp T.b_is_sign (takes_of rfl rfl rfl rfl) (da_cons (dh_val (de_bin oAdd (dh_slot (pv 2)) (dh_val (de_const pe_str)))) da_nil))))))) (dss_one (ds_ret (de_const pe_bl))) dss_nil)))
    (dss_cons (ds_if (dt_w (dw_or (dt_cmp (oNe (room_64 hr)) (dh_val (de_new (do_callTy (cbList rfl) (by rfl) T.n_list (by decide +kernel) (da_cons (dh_val (de_const (pe_glob (by rfl) T.g_SIGNS ⟨_, rfl⟩))) da_nil)))) (dh_val (de_new (do_callB (cb_sortT rfl (room_8 hr)) (by rfl) T.n_sorted (by decide +kernel) (da_cons (dh_val (de_callTy (cb_set rfl) (by rfl) T.n_set (by decide +kernel) (da_cons (dh_val (de_const (pe_glob (by rfl) T.g_SIGNS ⟨_, rfl⟩))) da_nil))) da_nil)))) rfl) (dw_or1 (dt_cmp (oNe (room_64 hr)) (dh_val (de_const (pe_glob (by rfl) T.g_SIGNS ⟨_, rfl⟩))) (dh_val (de_call0 (ok__law_all_signs T) (hr.mono (by decide)) hgd (by rfl) T.m__law_all_signs T.F__law_all_signs.kp T.b__law_all_signs (takes_of rfl rfl rfl rfl))) rfl)))) (dss_one (ds_ret (de_const pe_bl))) dss_nil)
    (dss_cons (ds_setF (i := 3) sc_law.nd rfl (by first | exact .inl rfl | exact .inr rfl) (de_new (do_lst (da_cons (dh_val (de_call (ok_is_sign T) (hr.mono (by decide)) hgd (by rfl) T.m_is_sign T.F_is_sign.kp T.b_is_sign (takes_of rfl rfl rfl rfl) (da_cons (dh_val (de_const pe_str)) da_nil))) (da_cons (dh_val (de_call (ok_is_text T) (hr.mono (by decide)) hgd (by rfl) T.m_is_text T.F_is_text.kp T.b_is_text (takes_of rfl rfl rfl rfl) (da_cons (dh_val (de_const pe_str)) da_nil))) (da_cons (dh_val (de_call (ok_is_text T) (hr.mono (by decide)) hgd (by rfl) T.m_is_text T.F_is_text.kp T.b_is_text (takes_of rfl rfl rfl rfl) (da_cons (dh_val (de_bin oMul (dh_val (de_const pe_str)) (dh_val (de_const pe_int)))) da_nil))) (da_cons (dh_val (de_call (ok_is_sign T) (hr.mono (by decide)) hgd (by rfl) T.m_is_sign T.F_is_sign.kp T.b_is_sign (takes_of rfl rfl rfl rfl) (da_cons (dh_val (de_const pe_str)) da_nil))) (da_cons (dh_val (de_call (ok_is_text T) (hr.mono (by decide)) hgd (by rfl) T.m_is_text T.F_is_text.kp T.b_is_text (takes_of rfl rfl rfl rfl) (da_cons (dh_val (de_tup (da_cons (dh_val (de_const pe_str)) da_nil))) da_nil))) (da_cons (dh_val (de_call (ok_is_sign T) (hr.mono (by decide)) hgd (by rfl) T.m_is_sign T.F_is_sign.kp T.b_is_sign (takes_of rfl rfl rfl rfl) (da_cons (dh_val (de_const pe_int)) da_nil))) (da_cons (dh_val (de_call (ok_is_text T) (hr.mono (by decide)) hgd (by rfl) T.m_is_text T.F_is_text.kp T.b_is_text (takes_of rfl rfl rfl rfl) (da_cons (dh_val (de_const pe_non)) da_nil))) da_nil))))))))))
    (dss_one (ds_ret (de_and (de_cmp (oEq (room_64 hr)) (dh_slot (pv 3)) (dh_val (de_new (do_lst (da_cons (dh_val (de_const pe_bl)) (da_cons (dh_val (de_const pe_bl)) (da_cons (dh_val (de_const pe_bl)) (da_cons (dh_val (de_const pe_bl)) (da_cons (dh_val (de_const pe_bl)) (da_cons (dh_val (de_const pe_bl)) (da_cons (dh_val (de_const pe_bl)) da_nil)))))))))) rfl) (de_one (de_cmp (oEq (room_64 hr)) (dh_val (de_callB cb_len (by rfl) T.n_len (by decide +kernel) (da_cons (dh_val (de_const (pe_glob (by rfl) T.g_SIGNS ⟨_, rfl⟩))) da_nil))) (dh_val (de_const pe_int)) rfl)))))))))
end
theorem all_mk {w : World} {K : PySem.W.Frag} {h : Heap} {mg : Str → Option Value} {cl : Nat → Addr} {fa : Addr} (X : K.In h) (G : h.Ns mainGlobals mg) (hfa : mg "law" = some (.ref fa))
    {f0 : Addr} {od0 an0 : Option Addr} {sl0 : Array (Option Value)} {oc0 kV0 dc0 pm0 cd0 ct0 : Value}
    (a0 : PySem.W.nsIn K mainGlobals "is_sign" = some (some (.ref f0))) (l0 : K.lookup f0 = some ⟨oc0, od0, .func (PySem.W.fnOf "is_sign" "is_sign" (defArgs (topS 2)) (defBody (topS 2)) (defScope (topS 2)) .none kV0 dc0 pm0 an0 cd0 ct0), sl0⟩) (c0 : PySem.W.codeIn K cd0 "is_sign" = true) (k0 : PySem.W.keepIn K (.ref f0) = true)
    {f1 : Addr} {od1 an1 : Option Addr} {sl1 : Array (Option Value)} {oc1 kV1 dc1 pm1 cd1 ct1 : Value}
    (a1 : PySem.W.nsIn K mainGlobals "is_text" = some (some (.ref f1))) (l1 : K.lookup f1 = some ⟨oc1, od1, .func (PySem.W.fnOf "is_text" "is_text" (defArgs (topS 3)) (defBody (topS 3)) (defScope (topS 3)) .none kV1 dc1 pm1 an1 cd1 ct1), sl1⟩) (c1 : PySem.W.codeIn K cd1 "is_text" = true) (k1 : PySem.W.keepIn K (.ref f1) = true)
    {f2 : Addr} {od2 an2 : Option Addr} {sl2 : Array (Option Value)} {oc2 kV2 dc2 pm2 cd2 ct2 : Value}
    (a2 : PySem.W.nsIn K mainGlobals "_law_dice" = some (some (.ref f2))) (l2 : K.lookup f2 = some ⟨oc2, od2, .func (PySem.W.fnOf "_law_dice" "_law_dice" (defArgs (topS 5)) (defBody (topS 5)) (defScope (topS 5)) .none kV2 dc2 pm2 an2 cd2 ct2), sl2⟩) (c2 : PySem.W.codeIn K cd2 "_law_dice" = true) (k2 : PySem.W.keepIn K (.ref f2) = true)
    {f3 : Addr} {od3 an3 : Option Addr} {sl3 : Array (Option Value)} {oc3 kV3 dc3 pm3 cd3 ct3 : Value}
    (a3 : PySem.W.nsIn K mainGlobals "_law_roll" = some (some (.ref f3))) (l3 : K.lookup f3 = some ⟨oc3, od3, .func (PySem.W.fnOf "_law_roll" "_law_roll" (defArgs (topS 6)) (defBody (topS 6)) (defScope (topS 6)) .none kV3 dc3 pm3 an3 cd3 ct3), sl3⟩) (c3 : PySem.W.codeIn K cd3 "_law_roll" = true) (k3 : PySem.W.keepIn K (.ref f3) = true)
    {f4 : Addr} {od4 an4 : Option Addr} {sl4 : Array (Option Value)} {oc4 kV4 dc4 pm4 cd4 ct4 : Value}
    (a4 : PySem.W.nsIn K mainGlobals "_law_all_signs" = some (some (.ref f4))) (l4 : K.lookup f4 = some ⟨oc4, od4, .func (PySem.W.fnOf "_law_all_signs" "_law_all_signs" (defArgs (topS 8)) (defBody (topS 8)) (defScope (topS 8)) .none kV4 dc4 pm4 an4 cd4 ct4), sl4⟩) (c4 : PySem.W.codeIn K cd4 "_law_all_signs" = true) (k4 : PySem.W.keepIn K (.ref f4) = true)
    {f5 : Addr} {od5 an5 : Option Addr} {sl5 : Array (Option Value)} {oc5 kV5 dc5 pm5 cd5 ct5 : Value}
    (a5 : PySem.W.nsIn K mainGlobals "_law_printable" = some (some (.ref f5))) (l5 : K.lookup f5 = some ⟨oc5, od5, .func (PySem.W.fnOf "_law_printable" "_law_printable" (defArgs (topS 12)) (defBody (topS 12)) (defScope (topS 12)) .none kV5 dc5 pm5 an5 cd5 ct5), sl5⟩) (c5 : PySem.W.codeIn K cd5 "_law_printable" = true) (k5 : PySem.W.keepIn K (.ref f5) = true)
    {f6 : Addr} {od6 an6 : Option Addr} {sl6 : Array (Option Value)} {oc6 kV6 dc6 pm6 cd6 ct6 : Value}
    (a6 : PySem.W.nsIn K mainGlobals "_law_one_of" = some (some (.ref f6))) (l6 : K.lookup f6 = some ⟨oc6, od6, .func (PySem.W.fnOf "_law_one_of" "_law_one_of" (defArgs (topS 7)) (defBody (topS 7)) (defScope (topS 7)) .none kV6 dc6 pm6 an6 cd6 ct6), sl6⟩) (c6 : PySem.W.codeIn K cd6 "_law_one_of" = true) (k6 : PySem.W.keepIn K (.ref f6) = true)
    {f7 : Addr} {od7 an7 : Option Addr} {sl7 : Array (Option Value)} {oc7 kV7 dc7 pm7 cd7 ct7 : Value}
    (a7 : PySem.W.nsIn K mainGlobals "_law_is_text" = some (some (.ref f7))) (l7 : K.lookup f7 = some ⟨oc7, od7, .func (PySem.W.fnOf "_law_is_text" "_law_is_text" (defArgs (topS 10)) (defBody (topS 10)) (defScope (topS 10)) .none kV7 dc7 pm7 an7 cd7 ct7), sl7⟩) (c7 : PySem.W.codeIn K cd7 "_law_is_text" = true) (k7 : PySem.W.keepIn K (.ref f7) = true)
    {f8 : Addr} {od8 an8 : Option Addr} {sl8 : Array (Option Value)} {oc8 kV8 dc8 pm8 cd8 ct8 : Value}
    (a8 : PySem.W.nsIn K mainGlobals "_law_odd" = some (some (.ref f8))) (l8 : K.lookup f8 = some ⟨oc8, od8, .func (PySem.W.fnOf "_law_odd" "_law_odd" (defArgs (topS 9)) (defBody (topS 9)) (defScope (topS 9)) .none kV8 dc8 pm8 an8 cd8 ct8), sl8⟩) (c8 : PySem.W.codeIn K cd8 "_law_odd" = true) (k8 : PySem.W.keepIn K (.ref f8) = true)
    {f9 : Addr} {od9 an9 : Option Addr} {sl9 : Array (Option Value)} {oc9 kV9 dc9 pm9 cd9 ct9 : Value}
    (a9 : PySem.W.nsIn K mainGlobals "_law_is_sign" = some (some (.ref f9))) (l9 : K.lookup f9 = some ⟨oc9, od9, .func (PySem.W.fnOf "_law_is_sign" "_law_is_sign" (defArgs (topS 11)) (defBody (topS 11)) (defScope (topS 11)) .none kV9 dc9 pm9 an9 cd9 ct9), sl9⟩) (c9 : PySem.W.codeIn K cd9 "_law_is_sign" = true) (k9 : PySem.W.keepIn K (.ref f9) = true)
    {f10 : Addr} {od10 an10 : Option Addr} {sl10 : Array (Option Value)} {oc10 kV10 dc10 pm10 cd10 ct10 : Value}
    (a10 : PySem.W.nsIn K mainGlobals "_law_string" = some (some (.ref f10))) (l10 : K.lookup f10 = some ⟨oc10, od10, .func (PySem.W.fnOf "_law_string" "_law_string" (defArgs (topS 13)) (defBody (topS 13)) (defScope (topS 13)) .none kV10 dc10 pm10 an10 cd10 ct10), sl10⟩) (c10 : PySem.W.codeIn K cd10 "_law_string" = true) (k10 : PySem.W.keepIn K (.ref f10) = true)
    {f11 : Addr} {od11 an11 : Option Addr} {sl11 : Array (Option Value)} {oc11 kV11 dc11 pm11 cd11 ct11 : Value}
    (a11 : PySem.W.nsIn K mainGlobals "_law_right" = some (some (.ref f11))) (l11 : K.lookup f11 = some ⟨oc11, od11, .func (PySem.W.fnOf "_law_right" "_law_right" (defArgs (topS 14)) (defBody (topS 14)) (defScope (topS 14)) .none kV11 dc11 pm11 an11 cd11 ct11), sl11⟩) (c11 : PySem.W.codeIn K cd11 "_law_right" = true) (k11 : PySem.W.keepIn K (.ref f11) = true)
    {f12 : Addr} {od12 an12 : Option Addr} {sl12 : Array (Option Value)} {oc12 kV12 dc12 pm12 cd12 ct12 : Value}
    (a12 : PySem.W.nsIn K mainGlobals "law" = some (some (.ref f12))) (l12 : K.lookup f12 = some ⟨oc12, od12, .func (PySem.W.fnOf "law" "law" (defArgs (topS 15)) (defBody (topS 15)) (defScope (topS 15)) .none kV12 dc12 pm12 an12 cd12 ct12), sl12⟩) (c12 : PySem.W.codeIn K cd12 "law" = true) (k12 : PySem.W.keepIn K (.ref f12) = true)
    {tk0 : Tok} (y0 : PySem.W.nsIn K mainGlobals "SIGNS" = some (some (.str "+-./0123456789ABCDEFGHIJKLMNOPQRSTUVWXYZ_abcdefghijklmnopqrstuvwxyz~" tk0)))
    (z0 : PySem.W.nsIn K mainGlobals "abs" = some none)
    (z1 : PySem.W.nsIn K mainGlobals "all" = some none)
    (z2 : PySem.W.nsIn K mainGlobals "int" = some none)
    (z3 : PySem.W.nsIn K mainGlobals "isinstance" = some none)
    (z4 : PySem.W.nsIn K mainGlobals "len" = some none)
    (z5 : PySem.W.nsIn K mainGlobals "list" = some none)
    (z6 : PySem.W.nsIn K mainGlobals "max" = some none)
    (z7 : PySem.W.nsIn K mainGlobals "min" = some none)
    (z8 : PySem.W.nsIn K mainGlobals "range" = some none)
    (z9 : PySem.W.nsIn K mainGlobals "repr" = some none)
    (z10 : PySem.W.nsIn K mainGlobals "set" = some none)
    (z11 : PySem.W.nsIn K mainGlobals "sorted" = some none)
    (z12 : PySem.W.nsIn K mainGlobals "str" = some none)
    : ∃ fd : FuncData, (∀ (s : Shared) (v : Value), BindsTo s fd ⟨[v], []⟩ [("_law_script", v)]) ∧ ∀ base : Heap, K.In base → base.Ns mainGlobals mg → FnG Pg w K mg base 5 fa fd ["_law_script"] (spF ⟨K, Pg, w, cl, soOf Pg w⟩ 1 f_law) := by
  have e := hfa.symm.trans (PySem.W.mg_of X G a12)
  cases e
  let A : Ad := ⟨f0, PySem.W.fnOf "is_sign" "is_sign" (defArgs (topS 2)) (defBody (topS 2)) (defScope (topS 2)) .none kV0 dc0 pm0 an0 cd0 ct0, f1, PySem.W.fnOf "is_text" "is_text" (defArgs (topS 3)) (defBody (topS 3)) (defScope (topS 3)) .none kV1 dc1 pm1 an1 cd1 ct1, f2, PySem.W.fnOf "_law_dice" "_law_dice" (defArgs (topS 5)) (defBody (topS 5)) (defScope (topS 5)) .none kV2 dc2 pm2 an2 cd2 ct2, f3, PySem.W.fnOf "_law_roll" "_law_roll" (defArgs (topS 6)) (defBody (topS 6)) (defScope (topS 6)) .none kV3 dc3 pm3 an3 cd3 ct3, f4, PySem.W.fnOf "_law_all_signs" "_law_all_signs" (defArgs (topS 8)) (defBody (topS 8)) (defScope (topS 8)) .none kV4 dc4 pm4 an4 cd4 ct4, f5, PySem.W.fnOf "_law_printable" "_law_printable" (defArgs (topS 12)) (defBody (topS 12)) (defScope (topS 12)) .none kV5 dc5 pm5 an5 cd5 ct5, f6, PySem.W.fnOf "_law_one_of" "_law_one_of" (defArgs (topS 7)) (defBody (topS 7)) (defScope (topS 7)) .none kV6 dc6 pm6 an6 cd6 ct6, f7, PySem.W.fnOf "_law_is_text" "_law_is_text" (defArgs (topS 10)) (defBody (topS 10)) (defScope (topS 10)) .none kV7 dc7 pm7 an7 cd7 ct7, f8, PySem.W.fnOf "_law_odd" "_law_odd" (defArgs (topS 9)) (defBody (topS 9)) (defScope (topS 9)) .none kV8 dc8 pm8 an8 cd8 ct8, f9, PySem.W.fnOf "_law_is_sign" "_law_is_sign" (defArgs (topS 11)) (defBody (topS 11)) (defScope (topS 11)) .none kV9 dc9 pm9 an9 cd9 ct9, f10, PySem.W.fnOf "_law_string" "_law_string" (defArgs (topS 13)) (defBody (topS 13)) (defScope (topS 13)) .none kV10 dc10 pm10 an10 cd10 ct10, f11, PySem.W.fnOf "_law_right" "_law_right" (defArgs (topS 14)) (defBody (topS 14)) (defScope (topS 14)) .none kV11 dc11 pm11 an11 cd11 ct11, fa, PySem.W.fnOf "law" "law" (defArgs (topS 15)) (defBody (topS 15)) (defScope (topS 15)) .none kV12 dc12 pm12 an12 cd12 ct12, tk0⟩
  have F0 := fun_mk (st := (topS 2)) l0 c0 k0
  have b0 := F0.binds (ps := ["value"]) fun _ _ _ _ _ _ us hl => match us, hl with | [_], _ => rfl
  have F1 := fun_mk (st := (topS 3)) l1 c1 k1
  have b1 := F1.binds (ps := ["value"]) fun _ _ _ _ _ _ us hl => match us, hl with | [_], _ => rfl
  have F2 := fun_mk (st := (topS 5)) l2 c2 k2
  have b2 := F2.binds (ps := ["_law_script", "_law_at"]) fun _ _ _ _ _ _ us hl => match us, hl with | [_, _], _ => rfl
  have F3 := fun_mk (st := (topS 6)) l3 c3 k3
  have b3 := F3.binds (ps := ["_law_dice_here", "_law_total"]) fun _ _ _ _ _ _ us hl => match us, hl with | [_, _], _ => rfl
  have F4 := fun_mk (st := (topS 8)) l4 c4 k4
  have b4 := F4.binds (ps := []) fun _ _ _ _ _ _ us hl => match us, hl with | [], _ => rfl
  have F5 := fun_mk (st := (topS 12)) l5 c5 k5
  have b5 := F5.binds (ps := []) fun _ _ _ _ _ _ us hl => match us, hl with | [], _ => rfl
  have F6 := fun_mk (st := (topS 7)) l6 c6 k6
  have b6 := F6.binds (ps := ["_law_dice_here", "_law_items"]) fun _ _ _ _ _ _ us hl => match us, hl with | [_, _], _ => rfl
  have F7 := fun_mk (st := (topS 10)) l7 c7 k7
  have b7 := F7.binds (ps := ["_law_value"]) fun _ _ _ _ _ _ us hl => match us, hl with | [_], _ => rfl
  have F8 := fun_mk (st := (topS 9)) l8 c8 k8
  have b8 := F8.binds (ps := ["_law_dice_here"]) fun _ _ _ _ _ _ us hl => match us, hl with | [_], _ => rfl
  have F9 := fun_mk (st := (topS 11)) l9 c9 k9
  have b9 := F9.binds (ps := ["_law_value"]) fun _ _ _ _ _ _ us hl => match us, hl with | [_], _ => rfl
  have F10 := fun_mk (st := (topS 13)) l10 c10 k10
  have b10 := F10.binds (ps := ["_law_dice_here"]) fun _ _ _ _ _ _ us hl => match us, hl with | [_], _ => rfl
  have F11 := fun_mk (st := (topS 14)) l11 c11 k11
  have b11 := F11.binds (ps := ["_law_dice_here"]) fun _ _ _ _ _ _ us hl => match us, hl with | [_], _ => rfl
  have F12 := fun_mk (st := (topS 15)) l12 c12 k12
  have b12 := F12.binds (ps := ["_law_script"]) fun _ _ _ _ _ _ us hl => match us, hl with | [_], _ => rfl
  have T : Top K mg A := ⟨PySem.W.mg_of X G a0, F0, b0, PySem.W.mg_of X G a1, F1, b1, PySem.W.mg_of X G a2, F2, b2, PySem.W.mg_of X G a3, F3, b3, PySem.W.mg_of X G a4, F4, b4, PySem.W.mg_of X G a5, F5, b5, PySem.W.mg_of X G a6, F6, b6, PySem.W.mg_of X G a7, F7, b7, PySem.W.mg_of X G a8, F8, b8, PySem.W.mg_of X G a9, F9, b9, PySem.W.mg_of X G a10, F10, b10, PySem.W.mg_of X G a11, F11, b11, PySem.W.mg_of X G a12, F12, b12, PySem.W.mg_of X G y0, PySem.W.mg_none_of X G z0, PySem.W.mg_none_of X G z1, PySem.W.mg_none_of X G z2, PySem.W.mg_none_of X G z3, PySem.W.mg_none_of X G z4, PySem.W.mg_none_of X G z5, PySem.W.mg_none_of X G z6, PySem.W.mg_none_of X G z7, PySem.W.mg_none_of X G z8, PySem.W.mg_none_of X G z9, PySem.W.mg_none_of X G z10, PySem.W.mg_none_of X G z11, PySem.W.mg_none_of X G z12⟩
  exact ⟨PySem.W.fnOf "law" "law" (defArgs (topS 15)) (defBody (topS 15)) (defScope (topS 15)) .none kV12 dc12 pm12 an12 cd12 ct12, fun s v => .of_eq rfl, fun base _ _ => ok_law (A := A) T⟩
end K01

set_option Elab.async false
set_option linter.all false
set_option maxRecDepth 100000
set_option maxHeartbeats 4000000
namespace Dl
open PySem L2
/-! ### plain runs -/
def Ok {α : Type} (m : M α) (ss : List Sl) (Q : α → List Sl → Prop) : Prop := ∃ a s, m ss = .ok a s ∧ Q a s
def OkF (r : Rz Rt) (Q : Rt → List Sl → Prop) : Prop := ∃ a s, r = .ok a s ∧ Q a s
section
variable {α β : Type} {ss : List Sl} {i : Nat} {u : U}
theorem Ok.imp {m : M α} {Q Q' : α → List Sl → Prop} (h : Ok m ss Q) (k : ∀ a s, Q a s → Q' a s) : Ok m ss Q' := by
  obtain ⟨a, s, e, q⟩ := h
  exact ⟨a, s, e, k a s q⟩
theorem OkF.imp {r : Rz Rt} {Q Q' : Rt → List Sl → Prop} (h : OkF r Q) (k : ∀ a s, Q a s → Q' a s) : OkF r Q' := by
  obtain ⟨a, s, e, q⟩ := h
  exact ⟨a, s, e, k a s q⟩
theorem Ok.bind {m : M α} {f : α → M β} {Q : β → List Sl → Prop} (h : Ok m ss fun a s => Ok (f a) s Q) : Ok (M.bind m f) ss Q := by
  obtain ⟨a, s, e, b, s', e', q⟩ := h
  exact ⟨b, s', by unfold M.bind; rw [e]; exact e', q⟩
theorem Ok.ret {a : α} {Q : α → List Sl → Prop} (h : Q a ss) : Ok (M.ret a) ss Q := ⟨a, ss, rfl, h⟩
theorem Ok.opt {o : Option α} {a : α} {Q : α → List Sl → Prop} (e : o = some a) (h : Q a ss) : Ok (M.opt o) ss Q := ⟨a, ss, by rw [e]; rfl, h⟩
theorem Ok.at {m : M α} {a : α} {s : List Sl} {Q : α → List Sl → Prop} (e : m ss = .ok a s) (h : Q a s) : Ok m ss Q := ⟨a, s, e, h⟩
theorem Ok.slot {Q : Hd → List Sl → Prop} (e : peek i ss = .ok u ss) (h : Q (.slot i) ss) : Ok (mSlot i) ss Q := ⟨_, ss, by unfold mSlot M.bind; rw [e]; rfl, h⟩
theorem Ok.valr {m : M U} {Q : Hd → List Sl → Prop} (h : Ok m ss fun u s => Q (.val u) s) : Ok (mVal m) ss Q := Ok.bind (h.imp fun _ _ q => Ok.ret q)
theorem Ok.cons {ma : M Hd} {mr : M (List Hd)} {Q : List Hd → List Sl → Prop} (h : Ok ma ss fun a s => Ok mr s fun r s' => Q (a :: r) s') : Ok (mCons ma mr) ss Q := Ok.bind (h.imp fun _ _ q => Ok.bind (q.imp fun _ _ p => Ok.ret p))
theorem Ok.op2 {g : U → U → Option U} {ma mb : M Hd} {Q : U → List Sl → Prop} (h : Ok ma ss fun x s => Ok mb s fun y s' => Ok (look x) s' fun u s2 => Ok (look y) s2 fun w s3 => ∃ z, g u w = some z ∧ Q z s3) : Ok (mOp2 g ma mb) ss Q :=
  Ok.bind (h.imp fun _ _ h => Ok.bind (h.imp fun _ _ h => Ok.bind (h.imp fun _ _ h => Ok.bind (h.imp fun _ _ ⟨z, e, q⟩ => Ok.opt e q))))
theorem Ok.cb {g : List U → Option U} {m : M (List Hd)} {Q : U → List Sl → Prop} (h : Ok m ss fun hs s => Ok (lookAll hs) s fun us s' => ∃ z, g us = some z ∧ Q z s') : Ok (mCb g m) ss Q :=
  Ok.bind (h.imp fun _ _ h => Ok.bind (h.imp fun _ _ ⟨z, e, q⟩ => Ok.opt e q))
theorem Ok.truth {m : M U} {Q : Bool → List Sl → Prop} (h : Ok m ss fun u s => ∃ b, u = .c (.bl b) ∧ Q b s) : Ok (mTruth m) ss Q := Ok.bind (h.imp fun _ _ ⟨b, e, q⟩ => by subst e; exact Ok.ret q)
theorem Ok.ite {mc : M Bool} {m1 m2 : M α} {Q : α → List Sl → Prop} (h : Ok mc ss fun b s => (b = true → Ok m1 s Q) ∧ (b = false → Ok m2 s Q)) : Ok (mIf mc m1 m2) ss Q := Ok.bind (h.imp fun b s ⟨h1, h2⟩ => by
  cases b
  · exact h2 rfl
  · exact h1 rfl)
theorem Ok.not {ma : M Bool} {Q : Bool → List Sl → Prop} (h : Ok ma ss fun b s => Q (!b) s) : Ok (mNot ma) ss Q := Ok.bind (h.imp fun _ _ q => Ok.ret q)
theorem Ok.and {ma mb : M Bool} {Q : Bool → List Sl → Prop} (h : Ok ma ss fun b s => (b = true → Ok mb s Q) ∧ (b = false → Q false s)) : Ok (mAnd ma mb) ss Q := Ok.bind (h.imp fun b s ⟨h1, h2⟩ => by
  cases b
  · exact Ok.ret (h2 rfl)
  · exact h1 rfl)
theorem Ok.or {ma mb : M Bool} {Q : Bool → List Sl → Prop} (h : Ok ma ss fun b s => (b = true → Q true s) ∧ (b = false → Ok mb s Q)) : Ok (mOr ma mb) ss Q := Ok.bind (h.imp fun b s ⟨h1, h2⟩ => by
  cases b
  · exact h2 rfl
  · exact Ok.ret (h1 rfl))
theorem Ok.andV {ma mb : M U} {Q : U → List Sl → Prop} (h : Ok ma ss fun u s => ∃ b, u = .c (.bl b) ∧ (b = true → Ok mb s Q) ∧ (b = false → Q (.c (.bl false)) s)) : Ok (mAndV ma mb) ss Q := Ok.bind (h.imp fun u s ⟨b, e, h1, h2⟩ => by
  subst e
  cases b
  · exact Ok.ret (h2 rfl)
  · exact h1 rfl)
theorem Ok.seq {m m' : M Fl} {Q : Fl → List Sl → Prop} (h : Ok m ss fun f s => match f with | .nx => Ok m' s Q | g => Q g s) : Ok (mSeq m m') ss Q := Ok.bind (h.imp fun f s q => by
  cases f with
  | nx => exact q
  | bk => exact Ok.ret q
  | ct => exact Ok.ret q
  | rt u => exact Ok.ret q
  | ro u => exact Ok.ret q)
theorem Ok.rt {m : M U} {Q : Fl → List Sl → Prop} (h : Ok m ss fun u s => Q (.rt u) s) : Ok (mRet m) ss Q := Ok.bind (h.imp fun _ _ q => Ok.ret q)
theorem Ok.ro {m : M U} {Q : Fl → List Sl → Prop} (h : Ok m ss fun u s => Q (.ro u) s) : Ok (mRetO m) ss Q := Ok.bind (h.imp fun _ _ q => Ok.ret q)
theorem Ok.putS {s : Sl} {Q : Unit → List Sl → Prop} (e : putS i s ss = .ok () (ss.set i s)) (h : Q () (ss.set i s)) : Ok (Dl.putS i s) ss Q := ⟨(), _, e, h⟩
theorem Ok.setF {m : M U} {Q : Fl → List Sl → Prop} (h : Ok m ss fun u s => Dl.putS i (.fz u) s = .ok () (s.set i (.fz u)) ∧ Q .nx (s.set i (.fz u))) : Ok (mSetF i m) ss Q := Ok.bind (h.imp fun _ _ ⟨e, q⟩ => Ok.bind (Ok.putS e (Ok.ret q)))
theorem Ok.setO {m : M U} {Q : Fl → List Sl → Prop} (h : Ok m ss fun u s => Dl.putS i (.ow u) s = .ok () (s.set i (.ow u)) ∧ Q .nx (s.set i (.ow u))) : Ok (mSetO i m) ss Q := Ok.bind (h.imp fun _ _ ⟨e, q⟩ => Ok.bind (Ok.putS e (Ok.ret q)))
theorem Ok.setIx {mi : M Hd} {me : M U} {Q : Fl → List Sl → Prop} (h : Ok me ss fun u s => Ok (peek i) s fun _ s1 => Ok mi s1 fun h s2 => Ok (look h) s2 fun w s3 => Ok (mine i) s3 fun (t, xs) s4 => ∃ t' xs', setU t xs w u = some (t', xs') ∧ Q .nx (s4.set i (reown (s4.getD i .no) (.nd t' xs')))) : Ok (mSetIx i mi me) ss Q :=
  Ok.bind (h.imp fun _ _ h => Ok.bind (h.imp fun _ _ h => Ok.bind (h.imp fun _ _ h => Ok.bind (h.imp fun _ _ h => Ok.bind (h.imp fun tx s4 ⟨t', xs', e, q⟩ => by
    obtain ⟨t, xs⟩ := tx
    dsimp only at e ⊢
    rw [e]
    exact ⟨.nx, _, rfl, q⟩)))))
theorem Ok.vals {m : M (List Hd)} {t : Tag} {Q : U → List Sl → Prop} (h : Ok m ss fun hs s => ∃ us, vals hs = some us ∧ us.length ≤ sizeLine ∧ Q (.nd t us) s) :
    Ok (M.bind m fun hs => M.opt ((vals hs).bind fun us => if decide (us.length ≤ sizeLine) = true then some (.nd t us) else none)) ss Q := Ok.bind (h.imp fun hs s ⟨us, e, l, q⟩ => Ok.opt (by rw [e]; simp [l]) q)
theorem Ok.lst {m : M (List Hd)} {Q : U → List Sl → Prop} (h : Ok m ss fun hs s => ∃ us, Dl.vals hs = some us ∧ us.length ≤ sizeLine ∧ Q (.nd .lst us) s) : Ok (mLst m) ss Q := Ok.vals h
theorem Ok.tup {m : M (List Hd)} {Q : U → List Sl → Prop} (h : Ok m ss fun hs s => ∃ us, Dl.vals hs = some us ∧ us.length ≤ sizeLine ∧ Q (.nd .tup us) s) : Ok (mTup m) ss Q := Ok.vals h
/-- a call of a def -/
theorem Ok.callW (l : List Nat) {fn : Fn} {hs : List Hd} {as : List Sl} {Q : Rt → List Sl → Prop} (h1 : argsS ss hs = some as) (h0 : lent ss hs = l) (h3 : l.Nodup) (hf : OkF (fn as) fun r as' => fits as as' = true ∧ Q r (backS ss hs as')) : Ok (mCallWith fn hs) ss Q := by
  obtain ⟨r, as', e, f, q⟩ := hf
  have h2 : (lent ss hs).Nodup := by rw [h0]; exact h3
  refine ⟨r, _, ?_, q⟩
  unfold mCallWith
  rw [h1]
  dsimp only
  rw [if_pos h2, e]
  dsimp only
  rw [if_pos f]
def Rt.val : Rt → U
  | .fz u => u
  | .ow u => u
theorem Ok.lenr {m : M (List Hd)} {n : Nat} {Q : List Hd → List Sl → Prop} (h : Ok m ss fun hs s => hs.length = n ∧ Q hs s) : Ok (mLen n m) ss Q := Ok.bind (h.imp fun hs s ⟨e, q⟩ => by
  rw [if_pos e]; exact Ok.ret q)
theorem Ok.callE {fn : Fn} {m : M (List Hd)} {Q : U → List Sl → Prop} (h : Ok m ss fun hs s => Ok (mCallWith fn hs) s fun r s' => Q r.val s') : Ok (mCallE fn m) ss Q := Ok.bind (h.imp fun _ _ h => Ok.bind (h.imp fun r s q => by
  cases r with
  | fz u => exact Ok.ret q
  | ow u => exact Ok.ret q))
theorem Ok.callO {fn : Fn} {m : M (List Hd)} {Q : U → List Sl → Prop} (h : Ok m ss fun hs s => Ok (mCallWith fn hs) s fun r s' => ∃ u, r = .ow u ∧ Q u s') : Ok (mCallO fn m) ss Q := Ok.bind (h.imp fun _ _ h => Ok.bind (h.imp fun r s ⟨u, e, q⟩ => by
  subst e; exact Ok.ret q))
/-- a def's run -/
def rtOf : Fl → Option Rt
  | .rt u => some (.fz u)
  | .ro u => some (.ow u)
  | .nx => some (.fz (.c .non))
  | _ => none
def Fin (as : List Sl) (Q : Rt → List Sl → Prop) (f : Fl) (s : List Sl) : Prop := ∃ r as', rtOf f = some r ∧ back as s = some as' ∧ Q r as'
theorem OkF.fn {n : Nat} {m : M Fl} {as : List Sl} {Q : Rt → List Sl → Prop} (h : Ok m (as ++ List.replicate (n - as.length) .no) (Fin as Q)) : OkF (fnOf n m as) Q := by
  obtain ⟨f, s, e, r, as', e1, e2, q⟩ := h
  refine ⟨r, as', ?_, q⟩
  unfold fnOf
  rw [e]
  dsimp only
  rw [e2]
  cases f <;> cases e1 <;> rfl
end
end Dl

set_option Elab.async false
set_option linter.all false
set_option maxRecDepth 100000
set_option maxHeartbeats 4000000
namespace Dl
open PySem L2
def m_roll : M Fl := (mSeq (mIf (mTruth (mOp2 gGt (mVal (mOp2 gIx (mSlot 0) (mVal (M.ret (.c (.int 0)))))) (mVal (M.ret (.c (.int 0)))))) (mSeq (mSetF 4 (mOp2 gMod (mVal (mCb gInt1 (mCons (mVal (mOp2 gIx (mSlot 0) (mVal (M.ret (.c (.int 0)))))) (M.ret [])))) (mSlot 1)))
    (mSeq (mSetIx 0 (mVal (M.ret (.c (.int 0)))) (mOp2 gDiv (mVal (mOp2 gIx (mSlot 0) (mVal (M.ret (.c (.int 0)))))) (mSlot 1)))
    (mRet (mTake 4)))) (M.ret .nx))
    (mSeq (mSetIx 0 (mVal (M.ret (.c (.int 2)))) (mOp2 gAdd (mVal (mOp2 gIx (mSlot 0) (mVal (M.ret (.c (.int 2)))))) (mVal (M.ret (.c (.int 1))))))
    (mSeq (mSetF 2 (mOp2 gMod (mVal (mCb gInt1 (mCons (mVal (mOp2 gAdd (mVal (mOp2 gIx (mSlot 0) (mVal (M.ret (.c (.int 1)))))) (mVal (mOp2 gMul (mVal (M.ret (.c (.int 1000211)))) (mVal (mOp2 gIx (mSlot 0) (mVal (M.ret (.c (.int 2)))))))))) (M.ret [])))) (mVal (M.ret (.c (.int 2305843009213693951))))))
    (mSeq (mSetF 3 (mOp2 gAdd (mVal (mOp2 gMul (mVal (mOp2 gMod (mVal (mCb gInt1 (mCons (mVal (mOp2 gMul (mSlot 2) (mSlot 2))) (M.ret [])))) (mVal (M.ret (.c (.int 2305843009213693921)))))) (mSlot 2))) (mVal (mOp2 gMul (mVal (M.ret (.c (.int 8231)))) (mVal (mOp2 gIx (mSlot 0) (mVal (M.ret (.c (.int 2))))))))))
    (mSeq (mSetF 3 (mOp2 gMod (mVal (mCb gInt1 (mCons (mSlot 3) (M.ret [])))) (mVal (M.ret (.c (.int 2305843009213693907))))))
    (mRet (mOp2 gMod (mVal (mCb gInt1 (mCons (mVal (mOp2 gDiv (mSlot 3) (mVal (M.ret (.c (.int 8192)))))) (M.ret [])))) (mSlot 1))))))))
def m_dice2 : M Fl := (mSeq (mSetF 3 (mOp2 gMod (mVal (mCb gInt1 (mCons (mVal (mCb gAbs (mCons (mSlot 2) (M.ret [])))) (M.ret [])))) (mVal (mOp2 gPow (mVal (mOp2 gPow (mVal (M.ret (.c (.int 10)))) (mVal (M.ret (.c (.int 60)))))) (mVal (M.ret (.c (.int 12))))))))
    (mSeq (mSetF 4 (mOp2 gAdd (mVal (mOp2 gAdd (mVal (mOp2 gAdd (mVal (mOp2 gMul (mVal (mOp2 gMod (mVal (mCb gInt1 (mCons (mSlot 3) (M.ret [])))) (mVal (M.ret (.c (.int 2147483543)))))) (mVal (M.ret (.c (.int 60169)))))) (mVal (mOp2 gMul (mVal (M.ret (.c (.int 4201)))) (mSlot 1))))) (mVal (mOp2 gMul (mVal (M.ret (.c (.int 19)))) (mVal (mCb gInt1 (mCons (mVal (mOp2 gLt (mSlot 2) (mVal (M.ret (.c (.int 0)))))) (M.ret [])))))))) (mVal (M.ret (.c (.int 47))))))
    (mRetO (mLst (mCons (mVal (mCb gMax2 (mCons (mVal (M.ret (.c (.int 0)))) (mCons (mVal (mOp2 gSub (mSlot 3) (mVal (mOp2 gPow (mVal (M.ret (.c (.int 10)))) (mVal (M.ret (.c (.int 18)))))))) (M.ret []))))) (mCons (mVal (mOp2 gMod (mVal (mCb gInt1 (mCons (mSlot 4) (M.ret [])))) (mVal (M.ret (.c (.int 2305843009213693907)))))) (mCons (mVal (M.ret (.c (.int 0)))) (M.ret []))))))))
def m_dice : M Fl := (mSeq (mSetF 2 (mOp2 gAdd (mVal (mOp2 gMul (mVal (M.ret (.c (.int 37)))) (mSlot 1))) (mVal (M.ret (.c (.int 11))))))
    (mSeq (mIf (mTruth (mOp2 gLt (mSlot 1) (mVal (mCb gLen (mCons (mSlot 0) (M.ret [])))))) (mSetF 2 (mOp2 gIx (mSlot 0) (mSlot 1))) (M.ret .nx)) m_dice2))
def diceU (a b c : Int) : U := .nd .lst [.c (.int a), .c (.int b), .c (.int c)]
theorem log2_lt {n k : Nat} (h : n < 2 ^ k) (hk : 0 < k) : n.log2 < k := by
  by_cases z : n = 0
  · subst z; simpa using hk
  · exact (Nat.log2_lt z).mpr h
theorem cMulW_of {i j : Int} {a b : Nat} (hi : 0 ≤ i) (hi2 : i < 2 ^ a) (hj : 0 ≤ j) (hj2 : j < 2 ^ b) (ha : 0 < a) (hb : 0 < b) (h : a + b < 1000000) : cMulW i j = true := by
  unfold cMulW
  have e1 : i.natAbs < 2 ^ a := by
    have : ((i.natAbs : Nat) : Int) < ((2 ^ a : Nat) : Int) := by rw [Int.natAbs_of_nonneg hi, Int.natCast_pow]; exact hi2
    exact Int.ofNat_lt.mp this
  have e2 : j.natAbs < 2 ^ b := by
    have : ((j.natAbs : Nat) : Int) < ((2 ^ b : Nat) : Int) := by rw [Int.natAbs_of_nonneg hj, Int.natCast_pow]; exact hj2
    exact Int.ofNat_lt.mp this
  have l1 := log2_lt e1 ha
  have l2 := log2_lt e2 hb
  exact decide_eq_true (by omega)
theorem gMul_int {i j : Int} (h : cMulW i j = true) : gMul (.c (.int i)) (.c (.int j)) = some (.c (.int (i * j))) := by
  unfold gMul orElse2 sc2 gInt
  simp only [h, if_true, Option.map_some]
theorem gMod_int {i j : Int} (h : 0 < j) : gMod (.c (.int i)) (.c (.int j)) = some (.c (.int (i % j))) := by
  unfold gMod sc2 gInt
  simp only [decide_eq_true h, if_true, Option.map_some]
theorem cDivW_of {i j : Int} {b : Nat} (h : 0 < j) (h2 : j < 2 ^ b) (hb : 0 < b) (h3 : b ≤ 9000) : cDivW i j = true := by
  unfold cDivW
  have e2 : j.natAbs < 2 ^ b := by
    have : ((j.natAbs : Nat) : Int) < ((2 ^ b : Nat) : Int) := by rw [Int.natAbs_of_nonneg (Int.le_of_lt h), Int.natCast_pow]; exact h2
    exact Int.ofNat_lt.mp this
  have l2 := log2_lt e2 hb
  rw [decide_eq_true h, decide_eq_true (show j.natAbs.log2 < 9000 by omega)]
  rfl
theorem gDiv_int {i j : Int} (h : cDivW i j = true) : gDiv (.c (.int i)) (.c (.int j)) = some (.c (.int (i / j))) := by
  unfold gDiv sc2 gInt
  simp only [h, if_true, Option.map_some]
/-- a die, thrown at most n times -/
structure Die (n : Nat) (a b c : Int) : Prop where
  a0 : 0 ≤ a
  b0 : 0 ≤ b
  b1 : b < 2 ^ 61
  c0 : 0 ≤ c
  c1 : c ≤ n
theorem roll_run {n : Nat} {a b c t : Int} (d : Die n a b c) (hn : n < 2 ^ 40) (t0 : 0 < t) (t1 : t < 2 ^ 60) :
    OkF (fnOf 5 m_roll [.io (diceU a b c), .fz (.c (.int t))]) fun r as' => ∃ v a' b' c', r = .fz (.c (.int v)) ∧ 0 ≤ v ∧ v < t ∧ as' = [.io (diceU a' b' c'), .fz (.c (.int t))] ∧ Die (n + 1) a' b' c' := by
  refine OkF.fn (Ok.seq (Ok.ite (Ok.truth (Ok.at rfl ⟨_, rfl, fun h => ?_, fun h => ?_⟩))))
  · have ha : 0 < a := of_decide_eq_true h
    refine Ok.seq (Ok.setF (Ok.op2 (Ok.at rfl (Ok.at rfl (Ok.at rfl (Ok.at rfl ⟨_, gMod_int t0, rfl, ?_⟩))))))
    refine Ok.seq (Ok.setIx (Ok.op2 (Ok.at rfl (Ok.at rfl (Ok.at rfl (Ok.at rfl ⟨_, gDiv_int (cDivW_of t0 t1 (by decide) (by decide)), ?_⟩))))))
    refine Ok.at rfl (Ok.at rfl (Ok.at rfl (Ok.at rfl ⟨_, _, rfl, ?_⟩)))
    refine Ok.at rfl ⟨_, _, rfl, rfl, _, a / t, b, c, rfl, Int.emod_nonneg _ (by omega), Int.emod_lt_of_pos _ t0, rfl, ⟨Int.ediv_nonneg (by omega) (by omega), d.b0, d.b1, d.c0, by have := d.c1; omega⟩⟩
  · refine Ok.at rfl ?_
    have c2 : c + 1 < 2 ^ 41 := by have := d.c1; have : (n : Int) < 2 ^ 40 := by exact_mod_cast hn
                                   omega
    have c3 : 0 ≤ c + 1 := by have := d.c0; omega
    refine Ok.seq (Ok.setIx (Ok.at rfl (Ok.at rfl (Ok.at rfl (Ok.at rfl (Ok.at rfl ⟨_, _, rfl, ?_⟩))))))
    refine Ok.seq (Ok.setF (Ok.op2 (Ok.valr (Ok.cb (Ok.cons (Ok.valr (Ok.op2 (Ok.at rfl (Ok.valr (Ok.op2 (Ok.at rfl (Ok.at rfl (Ok.at rfl (Ok.at rfl ⟨_, gMul_int (cMulW_of (a := 20) (b := 41) (by decide) (by decide) c3 c2 (by decide) (by decide) (by decide)), ?_⟩))))))))))))))
    refine Ok.at rfl (Ok.at rfl ⟨_, rfl, ?_⟩)
    refine Ok.at rfl (Ok.at rfl ⟨_, rfl, ?_⟩)
    refine Ok.at rfl (Ok.at rfl (Ok.at rfl ⟨_, gMod_int (by decide), rfl, ?_⟩))
    have o0 : 0 ≤ (b + 1000211 * (c + 1)) % 2305843009213693951 := Int.emod_nonneg _ (by decide)
    have o1 : (b + 1000211 * (c + 1)) % 2305843009213693951 < 2 ^ 61 := Int.lt_of_lt_of_le (Int.emod_lt_of_pos _ (by decide)) (by decide)
    generalize (b + 1000211 * (c + 1)) % 2305843009213693951 = one at o0 o1 ⊢
    refine Ok.seq (Ok.setF (Ok.op2 (Ok.valr (Ok.op2 (Ok.valr (Ok.op2 (Ok.valr (Ok.cb (Ok.cons (Ok.valr (Ok.op2 (Ok.at rfl (Ok.at rfl (Ok.at rfl (Ok.at rfl ⟨_, gMul_int (cMulW_of (a := 61) (b := 61) o0 o1 o0 o1 (by decide) (by decide) (by decide)), ?_⟩)))))))))))))))
    refine Ok.at rfl (Ok.at rfl ⟨_, rfl, ?_⟩)
    refine Ok.at rfl (Ok.at rfl (Ok.at rfl ⟨_, gMod_int (by decide), ?_⟩))
    have p0 : 0 ≤ one * one % 2305843009213693921 := Int.emod_nonneg _ (by decide)
    have p1 : one * one % 2305843009213693921 < 2 ^ 61 := Int.lt_of_lt_of_le (Int.emod_lt_of_pos _ (by decide)) (by decide)
    generalize one * one % 2305843009213693921 = two at p0 p1 ⊢
    refine Ok.at rfl (Ok.at rfl (Ok.at rfl ⟨_, gMul_int (cMulW_of (a := 61) (b := 61) p0 p1 o0 o1 (by decide) (by decide) (by decide)), ?_⟩))
    refine Ok.valr (Ok.op2 (Ok.at rfl (Ok.at rfl (Ok.at rfl (Ok.at rfl ⟨_, gMul_int (cMulW_of (a := 20) (b := 41) (by decide) (by decide) c3 c2 (by decide) (by decide) (by decide)), ?_⟩)))))
    refine Ok.at rfl (Ok.at rfl ⟨_, rfl, rfl, ?_⟩)
    refine Ok.seq (Ok.setF (Ok.op2 (Ok.at rfl (Ok.at rfl (Ok.at rfl (Ok.at rfl ⟨_, gMod_int (by decide), rfl, ?_⟩))))))
    refine Ok.rt (Ok.op2 (Ok.valr (Ok.cb (Ok.cons (Ok.valr (Ok.op2 (Ok.at rfl (Ok.at rfl (Ok.at rfl (Ok.at rfl ⟨_, gDiv_int (cDivW_of (b := 14) (by decide) (by decide) (by decide) (by decide)), ?_⟩))))))))))
    refine Ok.at rfl (Ok.at rfl ⟨_, rfl, ?_⟩)
    refine Ok.at rfl (Ok.at rfl (Ok.at rfl ⟨_, gMod_int t0, ?_⟩))
    exact ⟨_, _, rfl, rfl, _, a, b, c + 1, rfl, Int.emod_nonneg _ (by omega), Int.emod_lt_of_pos _ t0, rfl, ⟨d.a0, d.b0, d.b1, c3, by have := d.c1; omega⟩⟩
theorem gAbs_int {i : Int} : ∃ j : Int, 0 ≤ j ∧ gAbs [.c (.int i)] = some (.c (.int j)) := ⟨if i < 0 then -i else i, by split <;> omega, rfl⟩
theorem gMax_int {i j : Int} : gMax2 [.c (.int i), .c (.int j)] = some (.c (.int (if j > i then j else i))) := rfl
theorem dice_run {ns : List Int} {k : Nat} (h : k < 64) :
    OkF (fnOf 5 m_dice [.fz (scriptU ns), .fz (.c (.int k))]) fun r as' => ∃ a b c, r = .ow (diceU a b c) ∧ as' = [.fz (scriptU ns), .fz (.c (.int k))] ∧ Die 0 a b c := by
  have k0 : (0 : Int) ≤ k := Int.natCast_nonneg k
  have k1 : (k : Int) < 2 ^ 6 := by have : (k : Int) < 64 := by exact_mod_cast h
                                    omega
  refine OkF.fn <| Ok.seq <| Ok.setF <| Ok.op2 <| Ok.valr <| Ok.op2 <| Ok.at rfl <| Ok.at rfl <| Ok.at rfl <| Ok.at rfl ⟨_, gMul_int (cMulW_of (a := 6) (b := 6) (by decide) (by decide) k0 k1 (by decide) (by decide) (by decide)), ?_⟩
  refine Ok.at rfl <| Ok.at rfl <| Ok.at rfl ⟨_, rfl, rfl, ?_⟩
  have rest : ∀ cell : Int, Ok m_dice2 [.fz (scriptU ns), .fz (.c (.int k)), .fz (.c (.int cell)), .no, .no] (Fin [.fz (scriptU ns), .fz (.c (.int k))] fun r as' => ∃ a b c, r = .ow (diceU a b c) ∧ as' = [.fz (scriptU ns), .fz (.c (.int k))] ∧ Die 0 a b c) := by
    intro cell
    obtain ⟨j, j0, ja⟩ := gAbs_int (i := cell)
    refine Ok.seq <| Ok.setF <| Ok.op2 <| Ok.valr <| Ok.cb <| Ok.cons <| Ok.valr <| Ok.cb <| Ok.at rfl <| Ok.at rfl ⟨_, ja, ?_⟩
    refine Ok.at rfl <| Ok.at rfl ⟨_, rfl, ?_⟩
    refine Ok.at rfl <| Ok.at rfl <| Ok.at rfl ⟨_, gMod_int (by decide), rfl, ?_⟩
    have g0 : 0 ≤ j % (10 ^ Int.toNat 60) ^ Int.toNat 12 := Int.emod_nonneg _ (by decide)
    generalize j % (10 ^ Int.toNat 60) ^ Int.toNat 12 = great at g0 ⊢
    refine Ok.seq <| Ok.setF <| Ok.op2 <| Ok.valr <| Ok.op2 <| Ok.valr <| Ok.op2 <| Ok.valr <| Ok.op2 <| Ok.valr <| Ok.op2 <| Ok.at rfl <| Ok.at rfl <| Ok.at rfl <| Ok.at rfl ⟨_, gMod_int (by decide), ?_⟩
    have e0 : 0 ≤ great % 2147483543 := Int.emod_nonneg _ (by decide)
    have e1 : great % 2147483543 < 2 ^ 31 := Int.lt_of_lt_of_le (Int.emod_lt_of_pos _ (by decide)) (by decide)
    generalize great % 2147483543 = e at e0 e1 ⊢
    refine Ok.at rfl <| Ok.at rfl <| Ok.at rfl ⟨_, gMul_int (cMulW_of (a := 31) (b := 16) e0 e1 (by decide) (by decide) (by decide) (by decide) (by decide)), ?_⟩
    refine Ok.valr <| Ok.op2 <| Ok.at rfl <| Ok.at rfl <| Ok.at rfl <| Ok.at rfl ⟨_, gMul_int (cMulW_of (a := 13) (b := 6) (by decide) (by decide) k0 k1 (by decide) (by decide) (by decide)), ?_⟩
    refine Ok.at rfl <| Ok.at rfl ⟨_, rfl, ?_⟩
    have n0 : ∀ b : Bool, 0 ≤ (if b = true then (1 : Int) else 0) ∧ (if b = true then (1 : Int) else 0) < 2 ^ 1 := fun b => by cases b <;> decide
    refine Ok.valr <| Ok.op2 <| Ok.at rfl <| Ok.at rfl <| Ok.at rfl <| Ok.at rfl ⟨_, gMul_int (cMulW_of (a := 5) (b := 1) (by decide) (by decide) (n0 _).1 (n0 _).2 (by decide) (by decide) (by decide)), ?_⟩
    refine Ok.at rfl <| Ok.at rfl ⟨_, rfl, ?_⟩
    refine Ok.at rfl <| Ok.at rfl <| Ok.at rfl ⟨_, rfl, rfl, ?_⟩
    refine Ok.ro <| Ok.lst <| Ok.cons <| Ok.valr <| Ok.cb <| Ok.at rfl <| Ok.at rfl ⟨_, gMax_int, ?_⟩
    refine Ok.cons <| Ok.valr <| Ok.op2 <| Ok.at rfl <| Ok.at rfl <| Ok.at rfl <| Ok.at rfl ⟨_, gMod_int (by decide), ?_⟩
    refine Ok.at rfl ⟨_, rfl, (show 3 ≤ sizeLine by decide), _, _, rfl, rfl, _, _, _, rfl, rfl, ⟨by split <;> omega, Int.emod_nonneg _ (by decide), Int.lt_of_lt_of_le (Int.emod_lt_of_pos _ (by decide)) (by decide), by decide, by decide⟩⟩
  refine Ok.seq <| Ok.ite <| Ok.truth <| Ok.op2 <| Ok.at rfl <| Ok.valr <| Ok.cb <| Ok.at rfl <| Ok.at rfl ⟨_, rfl, ?_⟩
  refine Ok.at rfl <| Ok.at rfl ⟨_, rfl, _, rfl, fun hb => ?_, fun hb => ?_⟩
  · have hk : (k : Int) < ((ns.map fun i => U.c (.int i)).length : Nat) := of_decide_eq_true hb
    have hk2 : k < ns.length := by simpa using hk
    refine Ok.setF <| Ok.op2 <| Ok.at rfl <| Ok.at rfl <| Ok.at rfl <| Ok.at rfl ⟨_, ?_, rfl, rest ns[k]⟩
    show atI (ns.map fun i => U.c (.int i)) (k : Int) = _
    rw [atI_nat]
    simp [hk2]
  · exact Ok.at rfl (rest _)
end Dl

set_option Elab.async false
set_option linter.all false
set_option maxRecDepth 100000
set_option maxHeartbeats 4000000
namespace Dl
open PySem L2
section
variable {ss sw : List Sl} {g : U → M Unit} {mb : M Fl} {mt : M Bool} {me : M U} {mi : M (List U)} {vs : List Nat}
theorem Ok.for' (I : Nat → List Sl → Prop) {Q : Fl → List Sl → Prop} : ∀ (us : List U) (k : Nat) (ss : List Sl), I k ss → (∀ j u s, us[j]? = some u → I (k + j) s → Ok (M.bind (g u) fun _ => mb) s fun f s' => (f = .nx ∨ f = .ct) ∧ I (k + j + 1) s') → (∀ s, I (k + us.length) s → Q .nx s) → Ok (mFor g mb us) ss Q
  | [], k, ss, h0, _, he => Ok.ret (he ss h0)
  | u :: us, k, ss, h0, hs, he => by
    obtain ⟨f, s', e, hf, hI⟩ := hs 0 u ss rfl h0
    have hrec := Ok.for' I (Q := Q) us (k + 1) s' hI (fun j u' s hj hI' => by
      have := hs (j + 1) u' s (by simpa using hj) (by rw [show k + (j + 1) = k + 1 + j by omega]; exact hI')
      rw [show k + (j + 1) + 1 = k + 1 + j + 1 by omega] at this
      exact this) (fun s hs' => he s (by rw [List.length_cons, show k + (us.length + 1) = k + 1 + us.length by omega]; exact hs'))
    obtain ⟨a, s2, e2, q⟩ := hrec
    refine ⟨a, s2, ?_, q⟩
    unfold M.bind at e
    unfold mFor M.bind
    cases hg : g u ss with
    | no => rw [hg] at e; cases e
    | ex x s => rw [hg] at e; cases e
    | ok a1 s1 =>
      rw [hg] at e
      dsimp only at e ⊢
      rw [e]
      rcases hf with rfl | rfl
      · exact e2
      · exact e2
theorem Ok.for {us : List U} (I : Nat → List Sl → Prop) {Q : Fl → List Sl → Prop} (h0 : I 0 ss) (step : ∀ j u s, us[j]? = some u → I j s → Ok (M.bind (g u) fun _ => mb) s fun f s' => (f = .nx ∨ f = .ct) ∧ I (j + 1) s') (he : ∀ s, I us.length s → Q .nx s) : Ok (mFor g mb us) ss Q :=
  Ok.for' I us 0 ss h0 (fun j u s hj hI => by
    rw [Nat.zero_add] at hI ⊢
    exact step j u s hj hI) (fun s h => he s (by rw [Nat.zero_add] at h; exact h))
theorem lcLoop_run {f : U → Option U} : ∀ (us acc : List U), (∀ u ∈ us, Ok (M.bind (g u) fun _ => mt) sw fun b s => (b = true → Ok me s fun y s' => f u = some y ∧ wipeS vs s' = some sw) ∧ (b = false → f u = none ∧ wipeS vs s = some sw)) → acc.length + us.length ≤ sizeLine →
    lcLoop vs g mt me us acc sw = .ok (acc ++ us.filterMap f) sw
  | [], acc, _, _ => by unfold lcLoop; simp [M.ret]
  | u :: us, acc, hs, hl => by
    rw [List.length_cons] at hl
    obtain ⟨b, s, e, h1, h2⟩ := hs u List.mem_cons_self
    unfold M.bind at e
    unfold lcLoop M.bind
    cases hg : g u sw with
    | no => rw [hg] at e; cases e
    | ex x s => rw [hg] at e; cases e
    | ok a1 s1 =>
      rw [hg] at e
      dsimp only at e ⊢
      rw [e]
      cases b with
      | false =>
        obtain ⟨hf, hw⟩ := h2 rfl
        have hw' : wipeM vs s = .ok () sw := by unfold wipeM; rw [hw]
        simp only [Bool.false_eq_true, if_false, hw']
        have := lcLoop_run (f := f) us acc (fun u hu => hs u (List.mem_cons_of_mem _ hu)) (by omega)
        rw [List.filterMap_cons_none hf]
        exact this
      | true =>
        obtain ⟨y, s', e', hf, hw⟩ := h1 rfl
        have hw' : wipeM vs s' = .ok () sw := by unfold wipeM; rw [hw]
        have lt : acc.length < sizeLine := by omega
        simp only [if_true, e', lt, hw']
        have := lcLoop_run (f := f) us (acc ++ [y]) (fun u hu => hs u (List.mem_cons_of_mem _ hu)) (by rw [List.length_append, List.length_singleton]; omega)
        rw [List.filterMap_cons_some hf]
        rw [List.append_assoc] at this
        exact this
theorem Ok.lc {Q : U → List Sl → Prop} (h : Ok mi ss fun us s => ∃ sw, ∃ f : U → Option U, wipeS vs s = some sw ∧ us.length ≤ sizeLine ∧
    (∀ u ∈ us, Ok (M.bind (g u) fun _ => mt) sw fun b s => (b = true → Ok me s fun y s' => f u = some y ∧ wipeS vs s' = some sw) ∧ (b = false → f u = none ∧ wipeS vs s = some sw)) ∧ Q (.nd .lst (us.filterMap f)) (restore vs s sw)) : Ok (mLc mi vs g mt me) ss Q :=
  Ok.bind (h.imp fun us s ⟨sw, f, hw, hl, hs, q⟩ => by
    refine ⟨_, _, ?_, q⟩
    dsimp only
    rw [hw]
    dsimp only
    rw [lcLoop_run (f := f) us [] hs (by simpa using hl)]
    rfl)
end
/-! ### drawing -/
def m_oneof (roll : Fn) : M Fl := (mRet (mOp2 gIx (mSlot 1) (mVal (mCallE roll (mLen 2 (mCons (mSlot 0) (mCons (mVal (mCb gLen (mCons (mSlot 1) (M.ret [])))) (M.ret []))))))))
theorem atI_mem {α : Type} {xs : List α} {v : Int} (h0 : 0 ≤ v) (h1 : v < xs.length) : ∃ x, atI xs v = some x ∧ x ∈ xs := by
  obtain ⟨k, rfl⟩ := Int.eq_ofNat_of_zero_le h0
  have hk : k < xs.length := by exact_mod_cast h1
  exact ⟨xs[k], atI_nat (List.getElem?_eq_getElem hk), List.getElem_mem hk⟩
theorem oneof_lst {n : Nat} {a b c : Int} {xs : List U} (d : Die n a b c) (hn : n < 2 ^ 40) (h0 : 0 < xs.length) (h1 : xs.length ≤ sizeLine) :
    OkF (fnOf 2 (m_oneof (fnOf 5 m_roll)) [.io (diceU a b c), .fz (.nd .lst xs)]) fun r as' => ∃ u a' b' c', r = .fz u ∧ u ∈ xs ∧ as' = [.io (diceU a' b' c'), .fz (.nd .lst xs)] ∧ Die (n + 1) a' b' c' := by
  have l1 : (xs.length : Int) < 2 ^ 60 := by
    have : xs.length ≤ 16777216 := by rw [← sizeLine_eq]; exact h1
    omega
  refine OkF.fn <| Ok.rt <| Ok.op2 <| Ok.at rfl <| Ok.valr <| Ok.callE <| Ok.at rfl <| Ok.callW [0] rfl rfl (by decide) ?_
  refine (roll_run d hn (by omega) l1).imp fun r as' ⟨v, a', b', c', hr, v0, v1, e, d'⟩ => ?_
  subst hr e
  obtain ⟨u, hu, hm⟩ := atI_mem (xs := xs) v0 v1
  refine ⟨rfl, Ok.at rfl <| Ok.at rfl ⟨u, hu, _, _, rfl, rfl, u, a', b', c', rfl, hm, rfl, d'⟩⟩
theorem oneof_str {n : Nat} {a b c : Int} {z : Str} (d : Die n a b c) (hn : n < 2 ^ 40) (h0 : 0 < z.length) (h1 : z.length ≤ sizeLine) :
    OkF (fnOf 2 (m_oneof (fnOf 5 m_roll)) [.io (diceU a b c), .fz (.c (.str z))]) fun r as' => ∃ k a' b' c', r = .fz (.c (.str ⟨#[k]⟩)) ∧ k ∈ z.cps.toList ∧ as' = [.io (diceU a' b' c'), .fz (.c (.str z))] ∧ Die (n + 1) a' b' c' := by
  have l1 : (z.length : Int) < 2 ^ 60 := by
    have : z.length ≤ 16777216 := by rw [← sizeLine_eq]; exact h1
    omega
  have gl : gLen [.c (.str z)] = some (.c (.int (z.length : Nat))) := by
    unfold gLen
    simp [h1]
  refine OkF.fn <| Ok.rt <| Ok.op2 <| Ok.at rfl <| Ok.valr <| Ok.callE <| Ok.lenr <| Ok.cons <| Ok.at rfl <| Ok.cons <| Ok.valr <| Ok.cb <| Ok.at rfl <| Ok.at rfl ⟨_, gl, Ok.at rfl ⟨rfl, Ok.callW [0] rfl rfl (by decide) ?_⟩⟩
  refine (roll_run d hn (by omega) l1).imp fun r as' ⟨v, a', b', c', hr, v0, v1, e, d'⟩ => ?_
  subst hr e
  obtain ⟨u, hu, hm⟩ := atI_mem (xs := z.cps.toList) v0 (by rw [Array.length_toList]; exact v1)
  refine ⟨rfl, Ok.at rfl <| Ok.at rfl ⟨.c (.str ⟨#[u]⟩), ?_, _, _, rfl, rfl, u, a', b', c', rfl, hm, rfl, d'⟩⟩
  show (if decide (z.length ≤ sizeLine) = true then (atI z.cps.toList v).map fun c => U.c (.str ⟨#[c]⟩) else none) = _
  rw [decide_eq_true h1, if_pos rfl, hu]
  rfl
end Dl

set_option Elab.async false
set_option linter.all false
set_option maxRecDepth 100000
set_option maxHeartbeats 4000000
namespace K01
open PySem L2 Dl
abbrev SG : Str := "+-./0123456789ABCDEFGHIJKLMNOPQRSTUVWXYZ_abcdefghijklmnopqrstuvwxyz~"
def allS (z : Str) : Bool := z.cps.toList.all fun c => inStr ⟨#[c]⟩ SG
theorem isi_str {z : Str} : gIsi .str [.c (.str z), .c (.ty "str")] = some (.c (.bl true)) := by
  unfold gIsi
  dsimp only
  rw [if_pos (show "str" = Ty.str.name from rfl)]
  rfl
theorem isi_no {u : U} {t : Ty} (h : tyU u = some t) (n : t ≠ .str) : gIsi .str [u, .c (.ty "str")] = some (.c (.bl false)) := by
  unfold gIsi
  dsimp only
  rw [if_pos (show "str" = Ty.str.name from rfl), h]
  cases t <;> first | exact absurd rfl n | rfl
theorem len_str {z : Str} (h : z.length ≤ sizeLine) : gLen [.c (.str z)] = some (.c (.int (z.length : Nat))) := by
  unfold gLen
  simp [h]
theorem in_str {x z : Str} : gIn (.c (.str x)) (.c (.str z)) = some (.c (.bl (inStr x z))) := rfl
def fIn : U → Option U
  | .c (.str x) => some (.c (.bl (inStr x SG)))
  | _ => none
theorem bools_in : ∀ l : List Nat, boolsOf ((l.map fun c => U.c (.str ⟨#[c]⟩)).filterMap fIn) = some (l.map fun c => inStr ⟨#[c]⟩ SG)
  | [] => rfl
  | c :: l => by
    have := bools_in l
    rw [List.map_cons, List.filterMap_cons_some (show fIn (.c (.str ⟨#[c]⟩)) = some (.c (.bl (inStr ⟨#[c]⟩ SG))) from rfl)]
    unfold boolsOf
    rw [this]
    rfl
theorem is_text_str {z : Str} (h : z.length ≤ sizeLine) : OkF (f_is_text [.fz (.c (.str z))]) fun r as' => r = .fz (.c (.bl (allS z))) ∧ as' = [.fz (.c (.str z))] := by
  refine OkF.fn <| Ok.rt <| Ok.andV <| Ok.cb <| Ok.at rfl <| Ok.at rfl ⟨_, isi_str, _, rfl, fun _ => ?_, (fun z => nomatch z)⟩
  refine Ok.cb <| Ok.cons <| Ok.valr <| Ok.lc <| Ok.at rfl ⟨[.fz (.c (.str z)), .no], fIn, rfl, ?_, fun u hu => ?_, ?_⟩
  · show (z.cps.toList.map fun c => U.c (.str ⟨#[c]⟩)).length ≤ sizeLine
    rw [List.length_map, Array.length_toList]
    exact h
  · obtain ⟨c, _, rfl⟩ := List.mem_map.mp hu
    exact Ok.at rfl ⟨fun _ => Ok.op2 <| Ok.at rfl <| Ok.at rfl <| Ok.at rfl <| Ok.at rfl ⟨_, in_str, rfl, rfl⟩, (fun z => nomatch z)⟩
  · refine Ok.at rfl <| Ok.at rfl ⟨.c (.bl (allS z)), ?_, _, _, rfl, rfl, rfl, rfl⟩
    show gAll [.nd .lst ((z.cps.toList.map fun c => U.c (.str ⟨#[c]⟩)).filterMap fIn)] = _
    unfold gAll
    dsimp only
    rw [bools_in]
    unfold allS
    simp
theorem is_text_no {u : U} {t : Ty} (h : tyU u = some t) (n : t ≠ .str) : OkF (f_is_text [.fz u]) fun r as' => r = .fz (.c (.bl false)) ∧ as' = [.fz u] :=
  OkF.fn <| Ok.rt <| Ok.andV <| Ok.cb <| Ok.at rfl <| Ok.at rfl ⟨_, isi_no h n, _, rfl, (fun z => nomatch z), fun _ => ⟨_, _, rfl, rfl, rfl, rfl⟩⟩
def one (z : Str) : Bool := decide (V.int (z.length : Nat) = V.int 1)
theorem eq_one {z : Str} : gEq (.c (.int (z.length : Nat))) (.c (.int 1)) = some (.c (.bl (one z))) := rfl
theorem is_sign_str {z : Str} (h : z.length ≤ sizeLine) : OkF (f_is_sign [.fz (.c (.str z))]) fun r as' => r = .fz (.c (.bl (one z && inStr z SG))) ∧ as' = [.fz (.c (.str z))] := by
  refine OkF.fn <| Ok.rt <| Ok.andV <| Ok.cb <| Ok.at rfl <| Ok.at rfl ⟨_, isi_str, _, rfl, fun _ => ?_, (fun z => nomatch z)⟩
  refine Ok.andV <| Ok.op2 <| Ok.valr <| Ok.cb <| Ok.at rfl <| Ok.at rfl ⟨_, len_str h, Ok.at rfl <| Ok.at rfl <| Ok.at rfl ⟨_, eq_one, _, rfl, fun e => ?_, fun e => ?_⟩⟩
  · exact Ok.op2 <| Ok.at rfl <| Ok.at rfl <| Ok.at rfl <| Ok.at rfl ⟨_, in_str, _, _, rfl, rfl, by rw [e]; rfl, rfl⟩
  · exact ⟨_, _, rfl, rfl, by rw [e]; rfl, rfl⟩
theorem is_sign_no {u : U} {t : Ty} (h : tyU u = some t) (n : t ≠ .str) : OkF (f_is_sign [.fz u]) fun r as' => r = .fz (.c (.bl false)) ∧ as' = [.fz u] :=
  OkF.fn <| Ok.rt <| Ok.andV <| Ok.cb <| Ok.at rfl <| Ok.at rfl ⟨_, isi_no h n, _, rfl, (fun z => nomatch z), fun _ => ⟨_, _, rfl, rfl, rfl, rfl⟩⟩
def asc (c : Nat) : Bool := decide (c < 128)
def ascii (z : Str) : Bool := z.cps.toList.all asc
theorem asc_ok {c : Nat} (h : asc c = true) : PyData.strOk ⟨#[c]⟩ = true := by
  have := of_decide_eq_true h
  unfold PyData.strOk
  simp
  omega
def fOut : U → Option U
  | .c (.str x) => if inStr x SG = true then none else some (.c (.str x))
  | _ => none
theorem out_data : ∀ l : List Nat, l.all asc = true → ∃ ds : List PyData, toDatas ((l.map fun c => U.c (.str ⟨#[c]⟩)).filterMap fOut) = some ds ∧ (ds = [] ↔ (l.all fun c => inStr ⟨#[c]⟩ SG) = true) ∧ PyData.depthAll ds = 0 ∧ ∀ d ∈ ds, ∃ x, d = .str x ∧ PyData.strOk x = true
  | [], _ => ⟨[], rfl, ⟨fun _ => rfl, fun _ => rfl⟩, rfl, (fun _ h => nomatch h)⟩
  | c :: l, ha => by
    rw [List.all_cons, Bool.and_eq_true] at ha
    obtain ⟨ds, h1, h2, h3, h4⟩ := out_data l ha.2
    cases q : inStr ⟨#[c]⟩ SG with
    | true =>
      refine ⟨ds, ?_, ?_, h3, h4⟩
      · rw [List.map_cons, List.filterMap_cons_none (by unfold fOut; dsimp only; rw [q]; rfl)]; exact h1
      · rw [List.all_cons, q, Bool.true_and]; exact h2
    | false =>
      refine ⟨.str ⟨#[c]⟩ :: ds, ?_, ?_, ?_, ?_⟩
      · rw [List.map_cons, List.filterMap_cons_some (show fOut (.c (.str ⟨#[c]⟩)) = some (.c (.str ⟨#[c]⟩)) by unfold fOut; dsimp only; rw [q]; rfl)]
        unfold toDatas
        rw [h1]
        rfl
      · rw [List.all_cons, q, Bool.false_and]; exact ⟨(fun z => nomatch z), (fun z => nomatch z)⟩
      · unfold PyData.depthAll; rw [h3]; rfl
      · intro d hd
        rcases List.mem_cons.mp hd with e | e
        · exact ⟨_, e, asc_ok ha.1⟩
        · exact h4 d e
theorem eq_empty {ds : List PyData} {xs : List U} (h : toDatas xs = some ds) (h2 : PyData.depthAll ds = 0) (h3 : ∀ d ∈ ds, ∃ x, d = .str x ∧ PyData.strOk x = true) : gEq (.nd .lst xs) (.nd .lst []) = some (.c (.bl (decide (ds = [])))) := by
  have l0 : ∀ ds : List PyData, (∀ d ∈ ds, ∃ x, d = .str x ∧ PyData.strOk x = true) → PyData.canLayAll0 ds = true := by
    intro ds
    induction ds with
    | nil => intro _; rfl
    | cons d ds ih =>
      intro h
      obtain ⟨x, rfl, hx⟩ := h d List.mem_cons_self
      unfold PyData.canLayAll0 PyData.canLay0
      rw [ih fun d hd => h d (List.mem_cons_of_mem _ hd), hx]
      rfl
  have s1 : SeqAt.shaped (.list ds) = true := by
    unfold SeqAt.shaped PyData.canLay0 PyData.depth
    rw [l0 ds h3, h2]
    rfl
  have s2 : SeqAt.shaped (.list []) = true := by decide
  have t1 : toData (.nd .lst xs) = some (.list ds) := by unfold toData; rw [h]; rfl
  have t2 : toData (.nd .lst []) = some (.list []) := rfl
  show gData2 PyData.eqv (.nd .lst xs) (.nd .lst []) = _
  unfold gData2
  rw [t1, t2]
  dsimp only
  rw [s1, s2]
  cases ds with
  | nil => rfl
  | cons d ds => rfl
theorem law_text_str {z : Str} (h : z.length ≤ sizeLine) (ha : ascii z = true) : OkF (f__law_is_text [.fz (.c (.str z))]) fun r as' => r = .fz (.c (.bl (allS z))) ∧ as' = [.fz (.c (.str z))] := by
  refine OkF.fn <| Ok.seq <| Ok.ite <| Ok.not <| Ok.truth <| Ok.cb <| Ok.at rfl <| Ok.at rfl ⟨_, isi_str, _, rfl, (fun z => nomatch z), fun _ => ?_⟩
  refine Ok.at rfl ?_
  obtain ⟨ds, h1, h2, h3, h4⟩ := out_data z.cps.toList ha
  refine Ok.rt <| Ok.op2 <| Ok.valr <| Ok.lc <| Ok.at rfl ⟨[.fz (.c (.str z)), .no], fOut, rfl, ?_, fun u hu => ?_, ?_⟩
  · show (z.cps.toList.map fun c => U.c (.str ⟨#[c]⟩)).length ≤ sizeLine
    rw [List.length_map, Array.length_toList]
    exact h
  · obtain ⟨c, _, rfl⟩ := List.mem_map.mp hu
    refine Ok.bind <| Ok.at rfl <| Ok.truth <| Ok.op2 <| Ok.at rfl <| Ok.valr <| Ok.callE <| Ok.at rfl <| Ok.callW [] rfl rfl (by decide) ⟨_, _, rfl, rfl, Ok.at rfl <| Ok.at rfl ⟨.c (.bl (!inStr ⟨#[c]⟩ SG)), rfl, _, rfl, fun e => ?_, fun e => ?_⟩⟩
    · refine Ok.at rfl ⟨?_, rfl⟩
      unfold fOut
      dsimp only
      have : inStr ⟨#[c]⟩ SG = false := by simpa using e
      rw [this]
      rfl
    · refine ⟨?_, rfl⟩
      unfold fOut
      dsimp only
      have : inStr ⟨#[c]⟩ SG = true := by simpa using e
      rw [this]
      rfl
  · refine Ok.at rfl <| Ok.at rfl <| Ok.at rfl ⟨_, eq_empty h1 h3 h4, _, _, rfl, rfl, ?_, rfl⟩
    have : decide (ds = []) = allS z := by
      unfold allS
      cases q : (z.cps.toList.all fun c => inStr ⟨#[c]⟩ SG) with
      | true => exact decide_eq_true (h2.mpr q)
      | false => exact decide_eq_false fun e => by rw [h2.mp e] at q; cases q
    rw [this]
theorem law_text_no {u : U} {t : Ty} (h : tyU u = some t) (n : t ≠ .str) : OkF (f__law_is_text [.fz u]) fun r as' => r = .fz (.c (.bl false)) ∧ as' = [.fz u] :=
  OkF.fn <| Ok.seq <| Ok.ite <| Ok.not <| Ok.truth <| Ok.cb <| Ok.at rfl <| Ok.at rfl ⟨_, isi_no h n, _, rfl, fun _ => Ok.at rfl ⟨_, _, rfl, rfl, rfl, rfl⟩, (fun z => nomatch z)⟩
theorem law_sign_str {z : Str} (h : z.length ≤ sizeLine) (ha : ascii z = true) : OkF (f__law_is_sign [.fz (.c (.str z))]) fun r as' => r = .fz (.c (.bl (allS z && one z))) ∧ as' = [.fz (.c (.str z))] := by
  refine OkF.fn <| Ok.rt <| Ok.andV <| Ok.callE <| Ok.at rfl <| Ok.callW [] rfl rfl (by decide) <| (law_text_str h ha).imp fun r as' ⟨e1, e2⟩ => ?_
  subst e1 e2
  refine ⟨rfl, _, rfl, fun e => ?_, fun e => ?_⟩
  · exact Ok.op2 <| Ok.valr <| Ok.cb <| Ok.at rfl <| Ok.at rfl ⟨_, len_str h, Ok.at rfl <| Ok.at rfl <| Ok.at rfl ⟨_, eq_one, _, _, rfl, rfl, by rw [e]; rfl, rfl⟩⟩
  · exact ⟨_, _, rfl, rfl, by rw [e]; rfl, rfl⟩
theorem law_sign_no {u : U} {t : Ty} (h : tyU u = some t) (n : t ≠ .str) : OkF (f__law_is_sign [.fz u]) fun r as' => r = .fz (.c (.bl false)) ∧ as' = [.fz u] := by
  refine OkF.fn <| Ok.rt <| Ok.andV <| Ok.callE <| Ok.at rfl <| Ok.callW [] rfl rfl (by decide) <| (law_text_no h n).imp fun r as' ⟨e1, e2⟩ => ?_
  subst e1 e2
  exact ⟨rfl, _, rfl, (fun z => nomatch z), fun _ => ⟨_, _, rfl, rfl, rfl, rfl⟩⟩
theorem one_all {z : Str} (h : one z = true) : allS z = inStr z SG := by
  have h1 : z.cps.size = 1 := by
    have := of_decide_eq_true h
    have : ((z.length : Nat) : Int) = 1 := by injection this
    exact_mod_cast this
  obtain ⟨c, hc⟩ := Array.size_eq_one_iff.mp h1
  have e : z = ⟨#[c]⟩ := by cases z; cases hc; rfl
  subst e
  unfold allS
  simp
/-- what may be drawn -/
def GoodV (u : U) : Prop := (∃ z, u = .c (.str z) ∧ z.length ≤ sizeLine ∧ ascii z = true) ∨ ∃ t, tyU u = some t ∧ t ≠ .str
theorem four {u : U} (h : GoodV u) : ∃ b1 b2, OkF (f_is_sign [.fz u]) (fun r as' => r = .fz (.c (.bl b1)) ∧ as' = [.fz u]) ∧ OkF (f_is_text [.fz u]) (fun r as' => r = .fz (.c (.bl b2)) ∧ as' = [.fz u]) ∧
    OkF (f__law_is_sign [.fz u]) (fun r as' => r = .fz (.c (.bl b1)) ∧ as' = [.fz u]) ∧ OkF (f__law_is_text [.fz u]) (fun r as' => r = .fz (.c (.bl b2)) ∧ as' = [.fz u]) := by
  rcases h with ⟨z, rfl, hz, ha⟩ | ⟨t, h, n⟩
  · refine ⟨_, _, is_sign_str hz, is_text_str hz, ?_, law_text_str hz ha⟩
    have e : (one z && inStr z SG) = (allS z && one z) := by
      cases q : one z with
      | false => simp
      | true => rw [one_all q]; simp
    rw [e]
    exact law_sign_str hz ha
  · exact ⟨_, _, is_sign_no h n, is_text_no h n, law_sign_no h n, law_text_no h n⟩
end K01

set_option Elab.async false
set_option linter.all false
set_option maxRecDepth 100000
set_option maxHeartbeats 4000000
namespace K01
open PySem L2 Dl
theorem gAdd_str {i j : Str} (h : i.length + j.length ≤ sizeLine) : gAdd (.c (.str i)) (.c (.str j)) = some (.c (.str (i ++ j))) := by
  unfold gAdd orElse2 sc2 gInt gStr
  simp [h]
def PR0 : Str := "abcdefghijklmnopqrstuvwxyzABCDEFGHIJKLMNOPQRSTUVWXYZ0123456789 !#$&'()*+,-./:;<=>?\x40[]^_{|}~"
def PR : Str := PR0 ++ "\"" ++ "`" ++ "\\" ++ "\n"
theorem pr_len : 0 < PR.length ∧ PR.length ≤ 200 := by decide +kernel
theorem pr_asc : ascii PR = true := by decide +kernel
theorem sg_len : SG.length = 68 := by decide +kernel
theorem sg_asc : ascii SG = true := by decide +kernel
theorem printable_run : f__law_printable [] = .ok (.fz (.c (.str PR))) [] := by
  have h : OkF (f__law_printable []) fun r as' => r = .fz (.c (.str PR)) ∧ as' = [] := by
    refine OkF.fn <| Ok.seq <| Ok.at rfl <| Ok.rt <| Ok.op2 <| Ok.valr <| Ok.op2 <| Ok.valr <| Ok.op2 <| Ok.valr <| Ok.op2 <| Ok.at rfl <| Ok.at rfl <| Ok.at rfl <| Ok.at rfl ⟨_, gAdd_str (by decide +kernel), ?_⟩
    refine Ok.at rfl <| Ok.at rfl <| Ok.at rfl ⟨_, gAdd_str (by decide +kernel), ?_⟩
    refine Ok.at rfl <| Ok.at rfl <| Ok.at rfl ⟨_, gAdd_str (by decide +kernel), ?_⟩
    refine Ok.at rfl <| Ok.at rfl <| Ok.at rfl ⟨_, gAdd_str (by decide +kernel), ?_⟩
    exact ⟨_, _, rfl, rfl, rfl, rfl⟩
  obtain ⟨r, s, e, h1, h2⟩ := h
  rw [e, h1, h2]
/-! ### texts -/
theorem len_app {x y : Str} : (x ++ y).length = x.length + y.length := Array.size_append
theorem asc_app {x y : Str} (hx : ascii x = true) (hy : ascii y = true) : ascii (x ++ y) = true := by
  unfold ascii at *
  show (x.cps ++ y.cps).toList.all asc = true
  rw [Array.toList_append, List.all_append, hx, hy]
  rfl
theorem cut_len {z : Str} {lo hi : Option Int} : (cutS z lo hi).length ≤ z.length := by
  unfold cutS
  show (List.toArray _).size ≤ _
  rw [List.size_toArray, List.length_take, List.length_drop, Array.length_toList]
  have : z.cps.size = z.length := rfl
  omega
theorem asc_cut {z : Str} {lo hi : Option Int} (h : ascii z = true) : ascii (cutS z lo hi) = true := by
  unfold ascii cutS at *
  rw [List.all_eq_true] at h ⊢
  intro c hc
  exact h c (List.mem_of_mem_drop (List.mem_of_mem_take hc))
theorem fold_app (l : Array Nat) : ∀ (k : Nat) (acc : Array Nat), ((List.replicate k l).foldl (· ++ ·) acc).toList = acc.toList ++ (List.replicate k l.toList).flatten
  | 0, acc => by simp
  | k + 1, acc => by
    rw [List.replicate_succ, List.foldl_cons, fold_app l k, List.replicate_succ, List.flatten_cons, Array.toList_append, List.append_assoc]
theorem mul_toList {z : Str} {n : Int} (h : 1 ≤ n) : (Txt.mul z n).cps.toList = (List.replicate n.toNat z.cps.toList).flatten := by
  unfold Txt.mul
  rw [if_neg (by omega)]
  by_cases q : (n == 1 || z.length == 0) = true
  · rw [if_pos q]
    rw [Bool.or_eq_true] at q
    rcases q with q | q
    · have : n = 1 := by simpa using q
      subst this
      simp
    · have q : z.length = 0 := by simpa using q
      have e : z.cps.toList = [] := List.eq_nil_of_length_eq_zero (by rw [Array.length_toList]; exact q)
      rw [e]
      induction n.toNat with
      | zero => rfl
      | succ k ih => rw [List.replicate_succ, List.flatten_cons, ← ih]; rfl
  · rw [if_neg q, fold_app]
    rfl
theorem mul_len {z : Str} {n : Int} (h : 1 ≤ n) : (Txt.mul z n).length = n.toNat * z.length := by
  show (Txt.mul z n).cps.size = _
  rw [← Array.length_toList, mul_toList h, List.length_flatten, List.map_replicate, List.sum_replicate_nat, Array.length_toList]
  rfl
theorem asc_mul {z : Str} {n : Int} (h : 1 ≤ n) (ha : ascii z = true) : ascii (Txt.mul z n) = true := by
  unfold ascii at *
  rw [mul_toList h, List.all_eq_true]
  intro c hc
  obtain ⟨l, hl, hc⟩ := List.mem_flatten.mp hc
  rw [(List.mem_replicate.mp hl).2] at hc
  exact List.all_eq_true.mp ha c hc
theorem gMul_str {z : Str} {n : Int} (h1 : 1 ≤ n) (h2 : n ≤ 10000) (h3 : z.length ≤ 1000) : gMul (.c (.str z)) (.c (.int n)) = some (.c (.str (Txt.mul z n))) := by
  have e : mulOkB z n = true := by
    unfold mulOkB
    have l : z.length * n.toNat ≤ sizeLine := by
      have : z.length * n.toNat ≤ 1000 * 10000 := Nat.mul_le_mul h3 (by omega)
      rw [sizeLine_eq]
      omega
    rw [decide_eq_true (show -(2 ^ 63) ≤ n by omega), decide_eq_true (show n < 2 ^ 63 by omega), decide_eq_true l]
    rfl
  unfold gMul orElse2 sc2 gInt gMulS
  simp only [e, if_true]
  rfl
theorem Ok.range1 {m : M (List Hd)} {ss : List Sl} {Q : List U → List Sl → Prop} (h : Ok m ss fun hs s => Ok (lookAll hs) s fun us s' => ∃ n, us = [.c (.int n)] ∧ (-(2 ^ 62) ≤ n ∧ n < 2 ^ 62) ∧ Q ((List.range n.toNat).map fun (i : Nat) => .c (.int (0 + (i : Nat)))) s') : Ok (mRange1 m) ss Q :=
  Ok.bind (h.imp fun _ _ h => Ok.bind (h.imp fun us s ⟨n, e, hn, q⟩ => by
    subst e
    dsimp only
    rw [if_pos hn]
    exact Ok.ret q))
theorem Ok.slice {ma : M Hd} {ml mh : M (Option Int)} {ss : List Sl} {Q : U → List Sl → Prop} (h : Ok ma ss fun x s => Ok ml s fun lo s1 => Ok mh s1 fun hi s2 => Ok (look x) s2 fun u s3 => ∃ z, u = .c (.str z) ∧ z.length ≤ sizeLine ∧ Q (.c (.str (cutS z lo hi))) s3) : Ok (mSlice ma ml mh) ss Q :=
  Ok.bind (h.imp fun _ _ h => Ok.bind (h.imp fun _ _ h => Ok.bind (h.imp fun _ _ h => Ok.bind (h.imp fun u s ⟨z, e, hz, q⟩ => by
    subst e
    dsimp only
    rw [decide_eq_true hz, if_pos rfl]
    exact Ok.ret q))))
end K01

set_option Elab.async false
set_option linter.all false
set_option maxRecDepth 100000
set_option maxHeartbeats 4000000
namespace K01
open PySem L2 Dl
theorem roll_is : f__law_roll = fnOf 5 m_roll := rfl
theorem oneof_is : f__law_one_of = fnOf 2 (m_oneof (fnOf 5 m_roll)) := rfl
theorem dice_is : f__law_dice = fnOf 5 m_dice := rfl
theorem asc_one {k : Nat} {z : Str} (h : k ∈ z.cps.toList) (ha : ascii z = true) : ascii ⟨#[k]⟩ = true := by
  have := List.all_eq_true.mp ha k h
  unfold ascii
  simp [this]
theorem Die.mono {n m : Nat} {a b c : Int} (d : Die n a b c) (h : n ≤ m) : Die m a b c := ⟨d.a0, d.b0, d.b1, d.c0, by have := d.c1; omega⟩
def Rest (t : Sl) : Prop := t = .no ∨ ∃ u, t = .fz u
theorem string_run {n : Nat} {a0 b0 c0 : Int} (d : Die n a0 b0 c0) (hn : n + 40 < 2 ^ 40) :
    OkF (f__law_string [.io (diceU a0 b0 c0)]) fun r as' => ∃ z a' b' c', r = .fz (.c (.str z)) ∧ z.length ≤ 3000 ∧ ascii z = true ∧ as' = [.io (diceU a' b' c')] ∧ Die (n + 40) a' b' c' := by
  refine OkF.fn <| Ok.seq <| Ok.bind <| Ok.cons <| Ok.valr <| Ok.callE <| Ok.at rfl <| Ok.callW [0] rfl rfl (by decide) ?_
  refine (roll_run d (by omega) (by decide) (by decide)).imp fun r as' ⟨way, a1, b1, c1, hr, w0, w1, e, d1⟩ => ?_
  subst hr e
  refine ⟨rfl, Ok.at rfl <| Ok.at rfl ?_⟩
  refine Ok.seq <| Ok.bind <| Ok.range1 <| Ok.cons <| Ok.valr <| Ok.callE <| Ok.at rfl <| Ok.callW [0] rfl rfl (by decide) ?_
  refine (roll_run d1 (by omega) (by decide) (by decide)).imp fun r as' ⟨len, a2, b2, c2, hr, l0, l1, e, d2⟩ => ?_
  subst hr e
  refine ⟨rfl, Ok.at rfl <| Ok.at rfl ⟨len, rfl, ⟨by omega, by omega⟩, ?_⟩⟩
  -- the loop
  refine Ok.for (fun j s => ∃ t a b c z, s = [.io (diceU a b c), t, .fz (.c (.int way)), .fz (.c (.str z)), .fz (.c (.str SG)), .no] ∧ Rest t ∧ z.length ≤ j ∧ ascii z = true ∧ Die (n + 2 + j) a b c) ⟨.no, a2, b2, c2, _, rfl, .inl rfl, Nat.le_refl 0, rfl, d2⟩ ?_ ?_
  · intro j u s hj ⟨t, a, b, c, z, es, ht, hz, ha, d⟩
    subst es
    have lj : j < 11 := by
      have h1 := (List.getElem?_eq_some_iff.mp hj).1
      rw [List.length_map, List.length_range] at h1
      omega
    have ep : gF 1 u [.io (diceU a b c), t, .fz (.c (.int way)), .fz (.c (.str z)), .fz (.c (.str SG)), .no] = .ok () [.io (diceU a b c), .fz u, .fz (.c (.int way)), .fz (.c (.str z)), .fz (.c (.str SG)), .no] := by
      rcases ht with rfl | ⟨u', rfl⟩ <;> rfl
    refine Ok.bind <| Ok.at ep <| Ok.setF <| Ok.op2 <| Ok.at rfl <| Ok.valr <| Ok.callE <| Ok.lenr <| Ok.cons <| Ok.at rfl <| Ok.cons <| Ok.valr ?_
    refine Ok.imp (Q := fun v s => s = [.io (diceU a b c), .fz u, .fz (.c (.int way)), .fz (.c (.str z)), .fz (.c (.str SG)), .no] ∧ ∃ y, v = .c (.str y) ∧ 0 < y.length ∧ y.length ≤ 200 ∧ ascii y = true) ?_ ?_
    · refine Ok.ite <| Ok.at rfl ⟨fun _ => ?_, fun _ => ?_⟩
      · exact Ok.at rfl ⟨rfl, SG, rfl, by rw [sg_len]; decide, by rw [sg_len]; decide, sg_asc⟩
      · exact Ok.callE <| Ok.at rfl <| Ok.callW [] rfl rfl (by decide) ⟨_, _, printable_run, rfl, rfl, PR, rfl, pr_len.1, pr_len.2, pr_asc⟩
    · rintro v s ⟨rfl, y, rfl, y0, y1, ya⟩
      have hy : y.length ≤ sizeLine := by rw [sizeLine_eq]; omega
      refine Ok.at rfl ⟨rfl, Ok.callW [0] rfl rfl (by decide) <| (oneof_str d (by omega) y0 hy).imp fun r as' ⟨k, a', b', c', hr, hk, e, d'⟩ => ?_⟩
      subst hr e
      refine ⟨rfl, Ok.at rfl <| Ok.at rfl ⟨_, gAdd_str (by show z.length + 1 ≤ sizeLine; rw [sizeLine_eq]; omega), rfl, .inl rfl, _, a', b', c', _, rfl, .inr ⟨u, rfl⟩, ?_, asc_app ha (asc_one hk ya), d'⟩⟩
      rw [len_app]
      show z.length + 1 ≤ j + 1
      omega
  · intro s ⟨t, a, b, c, z, es, ht, hz, ha, d⟩
    subst es
    have hz : z.length ≤ 10 := by
      rw [List.length_map, List.length_range] at hz
      omega
    have d : Die (n + 12) a b c := Die.mono d (by rw [List.length_map, List.length_range]; omega)
    -- the end: the word, once, twice or often
    have fin : ∀ t' s5 a b c (z : Str), z.length ≤ 21 → ascii z = true → Die (n + 20) a b c → Ok (mRet (mOp2 gMul (mSlot 3) (mVal (mCallE f__law_one_of (mLen 2 (mCons (mSlot 0) (mCons (mVal (mLst (mCons (mVal (M.ret (.c (.int 1)))) (mCons (mVal (M.ret (.c (.int 1)))) (mCons (mVal (M.ret (.c (.int 2)))) (mCons (mVal (M.ret (.c (.int 100)))) (M.ret []))))))) (M.ret []))))))))
        [.io (diceU a b c), t', .fz (.c (.int way)), .fz (.c (.str z)), .fz (.c (.str SG)), s5] (Dl.Fin [.io (diceU a0 b0 c0)] fun r as' => ∃ z a' b' c', r = .fz (.c (.str z)) ∧ z.length ≤ 3000 ∧ ascii z = true ∧ as' = [.io (diceU a' b' c')] ∧ Die (n + 40) a' b' c') := by
      intro t' s5 a b c z hz ha d
      refine Ok.rt <| Ok.op2 <| Ok.at rfl <| Ok.valr <| Ok.callE <| Ok.at rfl <| Ok.callW [0] rfl rfl (by decide) <| (oneof_lst d (by omega) (by show 0 < 4; decide) (by show 4 ≤ sizeLine; decide)).imp fun r as' ⟨u, a', b', c', hr, hu, e, d'⟩ => ?_
      subst hr e
      have hu' : ∃ m : Int, u = .c (.int m) ∧ 1 ≤ m ∧ m ≤ 100 := by
        rcases List.mem_cons.mp hu with e | hu
        · exact ⟨1, e, by decide, by decide⟩
        rcases List.mem_cons.mp hu with e | hu
        · exact ⟨1, e, by decide, by decide⟩
        rcases List.mem_cons.mp hu with e | hu
        · exact ⟨2, e, by decide, by decide⟩
        rcases List.mem_cons.mp hu with e | hu
        · exact ⟨100, e, by decide, by decide⟩
        cases hu
      obtain ⟨m, rfl, m1, m2⟩ := hu'
      refine ⟨rfl, Ok.at rfl <| Ok.at rfl ⟨_, gMul_str m1 (by omega) (by omega), _, _, rfl, rfl, _, a', b', c', rfl, ?_, asc_mul m1 ha, rfl, Die.mono d' (by omega)⟩⟩
      rw [mul_len m1]
      have : m.toNat * z.length ≤ 100 * 21 := Nat.mul_le_mul (by omega) hz
      omega
    refine Ok.seq <| Ok.ite <| Ok.at rfl ⟨fun _ => ?_, fun _ => ?_⟩
    · refine Ok.seq <| Ok.setF <| Ok.callE <| Ok.lenr <| Ok.cons <| Ok.at rfl <| Ok.cons <| Ok.valr <| Ok.op2 <| Ok.valr <| Ok.cb <| Ok.at rfl <| Ok.at rfl ⟨_, len_str (by rw [sizeLine_eq]; omega), ?_⟩
      refine Ok.at rfl <| Ok.at rfl <| Ok.at rfl ⟨_, rfl, Ok.at rfl ⟨rfl, Ok.callW [0] rfl rfl (by decide) <| (roll_run d (by omega) (by omega) (by omega)).imp fun r as' ⟨v, a3, b3, c3, hr, v0, v1, e, d3⟩ => ?_⟩⟩
      subst hr e
      refine ⟨rfl, rfl, ?_⟩
      refine Ok.setF <| Ok.op2 <| Ok.valr <| Ok.op2 <| Ok.valr <| Ok.slice <| Ok.at rfl <| Ok.at rfl <| Ok.at rfl <| Ok.at rfl ⟨z, rfl, by rw [sizeLine_eq]; omega, ?_⟩
      refine Ok.valr <| Ok.callE <| Ok.lenr <| Ok.cons <| Ok.at rfl <| Ok.cons <| Ok.valr <| Ok.callE <| Ok.at rfl <| Ok.callW [] rfl rfl (by decide) ⟨_, _, printable_run, rfl, Ok.at rfl ⟨rfl, ?_⟩⟩
      refine Ok.callW [0] rfl rfl (by decide) <| (oneof_str d3 (by omega) pr_len.1 (by have := pr_len.2; rw [sizeLine_eq]; omega)).imp fun r as' ⟨k, a4, b4, c4, hr, hk, e, d4⟩ => ?_
      subst hr e
      have cl := fun lo hi => cut_len (z := z) (lo := lo) (hi := hi)
      have ke : (⟨#[k]⟩ : Str).length = 1 := rfl
      refine ⟨rfl, Ok.at rfl <| Ok.at rfl ⟨_, gAdd_str (by have := cl none (some v); rw [ke, sizeLine_eq]; omega), ?_⟩⟩
      refine Ok.valr <| Ok.slice <| Ok.at rfl <| Ok.at rfl <| Ok.at rfl <| Ok.at rfl ⟨z, rfl, by rw [sizeLine_eq]; omega, ?_⟩
      have l1 := cl none (some v)
      have l2 := cl (some (v + 1)) none
      refine Ok.at rfl <| Ok.at rfl ⟨_, gAdd_str (by rw [len_app, ke, sizeLine_eq]; omega), rfl, ?_⟩
      exact fin t _ a4 b4 c4 _ (by rw [len_app, len_app, ke]; omega) (asc_app (asc_app (asc_cut ha) (asc_one hk pr_asc)) (asc_cut ha)) (Die.mono d4 (by omega))
    · exact Ok.at rfl (fin t .no a b c z (by omega) ha (Die.mono d (by omega)))
theorem gCat_of {xs ys : List U} (h : xs.length + ys.length ≤ sizeLine) : gAdd (.nd .lst xs) (.nd .lst ys) = some (.nd .lst (xs ++ ys)) := by
  unfold gAdd orElse2 sc2 gCat
  simp only [decide_eq_true h, if_true]
theorem odd_run {n : Nat} {a b c : Int} (d : Die n a b c) (hn : n < 2 ^ 40) :
    OkF (f__law_odd [.io (diceU a b c)]) fun r as' => ∃ u a' b' c', r = .fz u ∧ GoodV u ∧ as' = [.io (diceU a' b' c')] ∧ Die (n + 1) a' b' c' := by
  have st : ∀ (z : Str), z.length ≤ 5000 → ascii z = true → GoodV (.c (.str z)) := fun z h1 h2 => .inl ⟨z, rfl, by rw [sizeLine_eq]; omega, h2⟩
  have no : ∀ (u : U) (t : Ty), tyU u = some t → t ≠ .str → GoodV u := fun u t h1 h2 => .inr ⟨t, h1, h2⟩
  have la : Str.length "a" = 1 := by decide +kernel
  have aa : ascii "a" = true := by decide +kernel
  obtain ⟨big, hm, m1⟩ : ∃ big, gMul (.c (.str "a")) (.c (.int 4001)) = some (.c (.str big)) ∧ GoodV (.c (.str big)) :=
    ⟨_, gMul_str (by decide) (by decide) (by rw [la]; decide), st _ (by rw [mul_len (by decide), la]; decide) (asc_mul (by decide) aa)⟩
  refine OkF.fn <| Ok.seq <| Ok.at rfl <| Ok.seq <| Ok.setF <| Ok.op2 <| Ok.at rfl <| Ok.valr <| Ok.lst <| Ok.cons <| Ok.at rfl <| Ok.cons <| Ok.at rfl <| Ok.cons <| Ok.at rfl <| Ok.cons <| Ok.at rfl <| Ok.cons <| Ok.at rfl <| Ok.cons <| Ok.at rfl <| Ok.cons <| Ok.valr <| Ok.op2 <| Ok.at rfl <| Ok.at rfl <| Ok.at rfl <| Ok.at rfl ⟨_, hm, ?_⟩
  refine Ok.at rfl ⟨_, rfl, (show 9 ≤ sizeLine by decide), ?_⟩
  refine Ok.at rfl <| Ok.at rfl ⟨_, gCat_of (show 17 + 9 ≤ sizeLine by decide), rfl, ?_⟩
  refine Ok.rt <| Ok.callE <| Ok.at rfl <| Ok.callW [0] rfl rfl (by decide) <| (oneof_lst d hn (by show 0 < 26; decide) (by show 26 ≤ sizeLine; decide)).imp fun r as' ⟨u, a', b', c', hr, hu, e, d'⟩ => ?_
  subst hr e
  refine ⟨rfl, _, _, rfl, rfl, u, a', b', c', rfl, ?_, rfl, d'⟩
  have fa : ∀ {x : U} {l : List U}, GoodV x → (∀ u ∈ l, GoodV u) → ∀ u ∈ x :: l, GoodV u := fun h1 h2 => List.forall_mem_cons.mpr ⟨h1, h2⟩
  refine (?_ : ∀ u ∈ _, GoodV u) u hu
  simp only [List.cons_append, List.nil_append]
  refine fa ?_ <| fa ?_ <| fa ?_ <| fa ?_ <| fa ?_ <| fa ?_ <| fa ?_ <| fa ?_ <| fa ?_ <| fa ?_ <| fa ?_ <| fa ?_ <| fa ?_ <| fa ?_ <| fa ?_ <| fa ?_ <| fa ?_ <| fa ?_ <| fa ?_ <| fa ?_ <| fa ?_ <| fa ?_ <| fa ?_ <| fa ?_ <| fa ?_ <| fa ?_ <| ?_
  all_goals first
    | exact fun _ h => nomatch h
    | exact no _ .non rfl (by decide)
    | exact no _ .bl rfl (by decide)
    | exact no _ .int rfl (by decide)
    | exact no _ .tup rfl (by decide)
    | exact no _ .lst rfl (by decide)
    | exact no _ .dct rfl (by decide)
    | exact m1
    | exact st _ (by decide +kernel) (by decide +kernel)
/-- the four values of a turn -/
theorem right_run {n : Nat} {a b c : Int} (d : Die n a b c) (hn : n + 100 < 2 ^ 40) :
    OkF (f__law_right [.io (diceU a b c)]) fun r as' => ∃ a' b' c', r = .fz (.c (.bl true)) ∧ as' = [.io (diceU a' b' c')] ∧ Die (n + 100) a' b' c' := by
  refine OkF.fn <| Ok.seq <| Ok.bind <| Ok.imp (Q := fun us s => ∃ a b c, (∀ u ∈ us, GoodV u) ∧ s = [.io (diceU a b c), .no] ∧ Die (n + 100) a b c) ?_ ?_
  · refine Ok.bind <| Ok.tup <| Ok.cons <| Ok.valr <| Ok.callE <| Ok.at rfl <| Ok.callW [0] rfl rfl (by decide) <| (string_run d (by omega)).imp fun r as' ⟨z1, a1, b1, c1, hr, l1, s1, e, d1⟩ => ?_
    subst hr e
    refine ⟨rfl, Ok.cons <| Ok.valr <| Ok.callE <| Ok.at rfl <| Ok.callW [0] rfl rfl (by decide) <| (string_run d1 (by omega)).imp fun r as' ⟨z2, a2, b2, c2, hr, l2, s2, e, d2⟩ => ?_⟩
    subst hr e
    refine ⟨rfl, Ok.cons <| Ok.valr <| Ok.callE <| Ok.at rfl <| Ok.callW [0] rfl rfl (by decide) <| (odd_run d2 (by omega)).imp fun r as' ⟨u3, a3, b3, c3, hr, g3, e, d3⟩ => ?_⟩
    subst hr e
    refine ⟨rfl, Ok.cons <| Ok.valr <| Ok.callE <| Ok.lenr <| Ok.cons <| Ok.at rfl <| Ok.cons <| Ok.valr <| Ok.callE <| Ok.at rfl <| Ok.callW [] rfl rfl (by decide) ⟨_, _, printable_run, rfl, Ok.at rfl ⟨rfl, ?_⟩⟩⟩
    refine Ok.callW [0] rfl rfl (by decide) <| (oneof_str d3 (by omega) pr_len.1 (by have := pr_len.2; rw [sizeLine_eq]; omega)).imp fun r as' ⟨k, a4, b4, c4, hr, hk, e, d4⟩ => ?_
    subst hr e
    refine ⟨rfl, Ok.at rfl ⟨_, rfl, (show 4 ≤ sizeLine by decide), Ok.at rfl ⟨a4, b4, c4, ?_, rfl, Die.mono d4 (by omega)⟩⟩⟩
    intro u hu
    simp only [List.mem_cons, List.not_mem_nil, or_false] at hu
    rcases hu with rfl | rfl | rfl | rfl
    · exact .inl ⟨z1, rfl, by rw [sizeLine_eq]; omega, s1⟩
    · exact .inl ⟨z2, rfl, by rw [sizeLine_eq]; omega, s2⟩
    · exact g3
    · exact .inl ⟨_, rfl, (show 1 ≤ sizeLine by decide), asc_one hk pr_asc⟩
  · rintro us s ⟨a, b, c, hu, rfl, d⟩
    refine Ok.for (fun j s => ∃ t, s = [.io (diceU a b c), t] ∧ Rest t) ⟨.no, rfl, .inl rfl⟩ ?_ ?_
    · intro j u s hj ⟨t, es, ht⟩
      subst es
      have ep : gF 1 u [.io (diceU a b c), t] = .ok () [.io (diceU a b c), .fz u] := by
        rcases ht with rfl | ⟨u', rfl⟩ <;> rfl
      obtain ⟨b1, b2, r1, r2, r3, r4⟩ := four (hu u (List.mem_of_getElem? hj))
      have call : ∀ {fn : Fn} {v : Bool} {Q : U → List Sl → Prop}, OkF (fn [.fz u]) (fun r as' => r = .fz (.c (.bl v)) ∧ as' = [.fz u]) → Q (.c (.bl v)) [.io (diceU a b c), .fz u] → Ok (mCallE fn (mLen 1 (mCons (mSlot 1) (M.ret [])))) [.io (diceU a b c), .fz u] Q := by
        intro fn v Q h q
        refine Ok.callE <| Ok.at rfl <| Ok.callW [] rfl rfl (by decide) <| h.imp fun r as' ⟨e1, e2⟩ => ?_
        subst e1 e2
        exact ⟨rfl, q⟩
      obtain ⟨y, hy⟩ : ∃ y, gRepr [.nd .lst [.c (.bl b1), .c (.bl b2)]] = some (.c (.str y)) := by
        refine ⟨(PyData.list [.bool b1, .bool b2]).shown, ?_⟩
        show (if ((PyData.list [.bool b1, .bool b2]).showable && !(PyData.list [.bool b1, .bool b2]).hasDict && decide ((PyData.list [.bool b1, .bool b2]).depth ≤ 64) && decide ((PyData.list [.bool b1, .bool b2]).shown.length ≤ sizeLine)) = true then some (U.c (.str (PyData.list [.bool b1, .bool b2]).shown)) else none) = _
        rw [if_pos (by cases b1 <;> cases b2 <;> decide +kernel)]
      refine Ok.bind <| Ok.at ep <| Ok.ite <| Ok.truth <| Ok.op2 <| Ok.valr <| Ok.cb <| Ok.cons <| Ok.valr <| Ok.lst <| Ok.cons <| Ok.valr <| call r1 <| Ok.cons <| Ok.valr <| call r2 <| Ok.at rfl ⟨_, rfl, (show 2 ≤ sizeLine by decide), Ok.at rfl <| Ok.at rfl ⟨_, hy, ?_⟩⟩
      refine Ok.valr <| Ok.cb <| Ok.cons <| Ok.valr <| Ok.lst <| Ok.cons <| Ok.valr <| call r3 <| Ok.cons <| Ok.valr <| call r4 <| Ok.at rfl ⟨_, rfl, (show 2 ≤ sizeLine by decide), Ok.at rfl <| Ok.at rfl ⟨_, hy, ?_⟩⟩
      refine Ok.at rfl <| Ok.at rfl ⟨.c (.bl false), ?_, _, rfl, (fun z => nomatch z), fun _ => Ok.at rfl ⟨.inl rfl, _, rfl, .inr ⟨u, rfl⟩⟩⟩
      show some (U.c (.bl (!decide (V.str y = V.str y)))) = _
      rw [decide_eq_true rfl]
      rfl
    · rintro s ⟨t, rfl, ht⟩
      exact Ok.at rfl ⟨_, _, rfl, rfl, a, b, c, rfl, rfl, d⟩
end K01

set_option Elab.async false
set_option linter.all false
set_option maxRecDepth 100000
set_option maxHeartbeats 4000000
namespace K01
open PySem L2 Dl
def Free (t : Sl) : Prop := t = .no ∨ (∃ u, t = .fz u) ∨ ∃ u, t = .ow u
theorem gNe_bl {x : Bool} : gNe (.c (.bl x)) (.c (.bl x)) = some (.c (.bl false)) := by
  show some (U.c (.bl (!decide (V.bl x = V.bl x)))) = _
  rw [decide_eq_true rfl]
  rfl
theorem a_cps : ("a" : Str) = ⟨#[97]⟩ := by decide +kernel
theorem in_a : inStr ⟨#[97]⟩ SG = true := by decide +kernel
theorem all_a {z : Str} : allS ("a" ++ z) = allS z := by
  unfold allS
  rw [a_cps]
  show (#[97] ++ z.cps).toList.all _ = _
  rw [Array.toList_append, List.all_append]
  simp [in_a]
theorem all_as {n : Int} (h : 1 ≤ n) : allS (Txt.mul "a" n) = true := by
  unfold allS
  rw [mul_toList h, List.all_eq_true]
  intro c hc
  obtain ⟨l, hl, hc⟩ := List.mem_flatten.mp hc
  rw [(List.mem_replicate.mp hl).2, a_cps] at hc
  have : c = 97 := by simpa using hc
  rw [this]
  exact in_a
theorem datas_strs : ∀ ks : List Str, toDatas (ks.map fun k => .c (.str k)) = some (ks.map PyData.str)
  | [] => rfl
  | k :: ks => by
    rw [List.map_cons]
    unfold toDatas
    rw [datas_strs ks]
    rfl
theorem sorted_sg : sortT (addAll (signs SG) []) = signs SG := by decide +kernel
theorem signsOf_signs (z : Str) : signsOf z = (signs z).map fun k => .c (.str k) := by
  unfold signsOf signs
  rw [List.map_map]
  rfl
theorem eqv_self : PyData.eqv (.list ((signs SG).map PyData.str)) (.list ((signs SG).map PyData.str)) = true := by decide +kernel
theorem shaped_sg : SeqAt.shaped (.list ((signs SG).map PyData.str)) = true := by decide +kernel
theorem gNe_nd {t t' : Tag} {xs ys : List U} : gNe (.nd t xs) (.nd t' ys) = gData2 (fun d d' => !PyData.eqv d d') (.nd t xs) (.nd t' ys) := rfl
theorem gEq_nd {t t' : Tag} {xs ys : List U} : gEq (.nd t xs) (.nd t' ys) = gData2 PyData.eqv (.nd t xs) (.nd t' ys) := rfl
theorem ne_sg : gNe (.nd .lst ((signs SG).map fun k => .c (.str k))) (.nd .lst ((signs SG).map fun k => .c (.str k))) = some (.c (.bl false)) := by
  rw [gNe_nd]
  have t1 : toData (.nd .lst ((signs SG).map fun k => U.c (.str k))) = some (.list ((signs SG).map PyData.str)) := by unfold toData; rw [datas_strs]; rfl
  unfold gData2
  rw [t1]
  dsimp only
  rw [shaped_sg, eqv_self]
  rfl
theorem told_eq : gEq (.nd .lst [.c (.bl false), .c (.bl true), .c (.bl true), .c (.bl false), .c (.bl false), .c (.bl false), .c (.bl false)]) (.nd .lst [.c (.bl false), .c (.bl true), .c (.bl true), .c (.bl false), .c (.bl false), .c (.bl false), .c (.bl false)]) = some (.c (.bl true)) := by
  rw [gEq_nd]
  have t1 : toData (.nd .lst [.c (.bl false), .c (.bl true), .c (.bl true), .c (.bl false), .c (.bl false), .c (.bl false), .c (.bl false)]) = some (.list [.bool false, .bool true, .bool true, .bool false, .bool false, .bool false, .bool false]) := rfl
  unfold gData2
  rw [t1]
  dsimp only
  rw [show SeqAt.shaped (.list [.bool false, .bool true, .bool true, .bool false, .bool false, .bool false, .bool false]) = true by decide +kernel]
  rw [show PyData.eqv (.list [.bool false, .bool true, .bool true, .bool false, .bool false, .bool false, .bool false]) (.list [.bool false, .bool true, .bool true, .bool false, .bool false, .bool false, .bool false]) = true by decide +kernel]
  rfl
theorem calls {fn : Fn} {u : U} {v : Bool} {m : M Hd} {s : List Sl} {Q : U → List Sl → Prop} (h : OkF (fn [.fz u]) (fun r as' => r = .fz (.c (.bl v)) ∧ as' = [.fz u])) (hm : Ok m s fun h s' => h = .val u ∧ Q (.c (.bl v)) s') : Ok (mCallE fn (mLen 1 (mCons m (M.ret [])))) s Q := by
  refine Ok.callE <| Ok.lenr <| Ok.cons <| hm.imp fun h' s' ⟨e, q⟩ => ?_
  subst e
  refine Ok.at rfl ⟨rfl, Ok.callW [] rfl rfl (by decide) <| h.imp fun r as' ⟨e1, e2⟩ => ?_⟩
  subst e1 e2
  exact ⟨rfl, q⟩
theorem plain_law : ∀ ns : List Int, ns.length ≤ 63 → ∃ ss, f_law [.fz (scriptU ns)] = .ok (.fz (.c (.bl true))) ss := by
  intro ns hns
  have h : OkF (f_law [.fz (scriptU ns)]) fun r as' => r = .fz (.c (.bl true)) := by
    refine OkF.fn <| Ok.seq <| Ok.bind <| Ok.range1 <| Ok.at rfl <| Ok.at rfl ⟨_, rfl, ?_, ?_⟩
    · constructor <;> (repeat' split) <;> omega
    refine Ok.for (fun j s => ∃ t1 t4 t5, s = [.fz (scriptU ns), t1, .no, .no, t4, t5] ∧ Free t1 ∧ Free t4 ∧ Free t5) ⟨.no, .no, .no, rfl, .inl rfl, .inl rfl, .inl rfl⟩ ?_ ?_
    · rintro j u s hj ⟨t1, t4, t5, rfl, h1, h4, h5⟩
      have hj6 : j < 64 ∧ u = .c (.int (j : Nat)) := by
        have l := (List.getElem?_eq_some_iff.mp hj).1
        rw [List.length_map, List.length_range] at l
        rw [List.getElem?_map, List.getElem?_range l] at hj
        simp at hj
        refine ⟨?_, hj.symm⟩
        revert l
        (repeat' split) <;> omega
      obtain ⟨lj, rfl⟩ := hj6
      have ep : gF 1 (.c (.int (j : Nat))) [.fz (scriptU ns), t1, .no, .no, t4, t5] = .ok () [.fz (scriptU ns), .fz (.c (.int (j : Nat))), .no, .no, t4, t5] := by
        rcases h1 with rfl | ⟨u', rfl⟩ | ⟨u', rfl⟩ <;> rfl
      refine Ok.bind <| Ok.at ep <| Ok.seq <| Ok.setO <| Ok.callO <| Ok.at rfl <| Ok.callW [] rfl rfl (by decide) <| (dice_run (ns := ns) lj).imp fun r as' ⟨a, b, c, hr, e, d⟩ => ?_
      subst hr e
      refine ⟨rfl, _, rfl, by rcases h4 with rfl | ⟨u', rfl⟩ | ⟨u', rfl⟩ <;> rfl, ?_⟩
      refine Ok.bind <| Ok.at rfl ?_
      refine Ok.for (fun i s => ∃ a b c t5, s = [.fz (scriptU ns), .fz (.c (.int (j : Nat))), .no, .no, .ow (diceU a b c), t5] ∧ Free t5 ∧ Die (100 * i) a b c) ⟨a, b, c, t5, rfl, h5, d⟩ ?_ ?_
      · rintro i v s hi ⟨a, b, c, t5, rfl, h5, d⟩
        have li : i < 12 := (List.getElem?_eq_some_iff.mp hi).1
        have ep : gF 5 v [.fz (scriptU ns), .fz (.c (.int (j : Nat))), .no, .no, .ow (diceU a b c), t5] = .ok () [.fz (scriptU ns), .fz (.c (.int (j : Nat))), .no, .no, .ow (diceU a b c), .fz v] := by
          rcases h5 with rfl | ⟨u', rfl⟩ | ⟨u', rfl⟩ <;> rfl
        refine Ok.bind <| Ok.at ep <| Ok.ite <| Ok.not <| Ok.truth <| Ok.callE <| Ok.at rfl <| Ok.callW [4] rfl rfl (by decide) <| (right_run d (by omega)).imp fun r as' ⟨a', b', c', hr, e, d'⟩ => ?_
        subst hr e
        refine ⟨rfl, true, rfl, (fun z => nomatch z), fun _ => Ok.at rfl ⟨.inl rfl, a', b', c', _, rfl, .inr (.inl ⟨v, rfl⟩), ?_⟩⟩
        rw [show 100 * (i + 1) = 100 * i + 100 by omega]
        exact d'
      · rintro s ⟨a, b, c, t5, rfl, h5, d⟩
        exact ⟨.inl rfl, _, _, t5, rfl, .inr (.inl ⟨_, rfl⟩), .inr (.inr ⟨_, rfl⟩), h5⟩
    · rintro s ⟨t1, t4, t5, rfl, h1, h4, h5⟩
      refine Ok.seq <| Ok.bind <| Ok.bind <| Ok.callE <| Ok.at rfl <| Ok.callW [] rfl rfl (by decide) ⟨_, _, printable_run, rfl, Ok.at rfl ?_⟩
      refine Ok.for (fun i s => ∃ t2, s = [.fz (scriptU ns), t1, t2, .no, t4, t5] ∧ Free t2) ⟨.no, rfl, .inl rfl⟩ ?_ ?_
      · rintro i v s hi ⟨t2, rfl, h2⟩
        obtain ⟨c, hc, rfl⟩ := List.mem_map.mp (List.mem_of_getElem? hi)
        have ep : gF 2 (.c (.str ⟨#[c]⟩)) [.fz (scriptU ns), t1, t2, .no, t4, t5] = .ok () [.fz (scriptU ns), t1, .fz (.c (.str ⟨#[c]⟩)), .no, t4, t5] := by
          rcases h2 with rfl | ⟨u', rfl⟩ | ⟨u', rfl⟩ <;> rfl
        have l1 : (⟨#[c]⟩ : Str).length ≤ sizeLine := show 1 ≤ sizeLine by decide
        have la : Str.length "a" = 1 := by decide +kernel
        have e1 : (one ⟨#[c]⟩ && inStr ⟨#[c]⟩ SG) = inStr ⟨#[c]⟩ SG := by
          rw [show one ⟨#[c]⟩ = true from decide_eq_true rfl]; rfl
        have e2 : allS ("a" ++ ⟨#[c]⟩) = inStr ⟨#[c]⟩ SG := by
          rw [all_a]
          unfold allS
          simp
        have e3 : one (⟨#[c]⟩ ++ "a") = false := by
          unfold one
          rw [len_app, la]
          rfl
        have s1 := is_sign_str l1
        rw [e1] at s1
        have s2 := is_text_str (z := "a" ++ ⟨#[c]⟩) (by rw [len_app, la]; show 1 + 1 ≤ sizeLine; decide)
        rw [e2] at s2
        have s3 := is_sign_str (z := ⟨#[c]⟩ ++ "a") (by rw [len_app, la]; show 1 + 1 ≤ sizeLine; decide)
        rw [e3] at s3
        refine Ok.bind <| Ok.at ep <| Ok.ite <| Ok.or <| Ok.truth <| Ok.op2 <| Ok.valr <| Ok.callE <| Ok.at rfl <| Ok.callW [] rfl rfl (by decide) <| s1.imp fun r as' ⟨q1, q2⟩ => ?_
        subst q1 q2
        refine ⟨rfl, Ok.at rfl <| Ok.at rfl <| Ok.at rfl ⟨_, gNe_bl, _, rfl, (fun z => nomatch z), fun _ => ?_⟩⟩
        refine Ok.or <| Ok.truth <| Ok.op2 <| Ok.valr <| calls s2 <| Ok.valr <| Ok.op2 <| Ok.at rfl <| Ok.at rfl <| Ok.at rfl <| Ok.at rfl ⟨_, gAdd_str (by rw [la]; show 1 + 1 ≤ sizeLine; decide), rfl, ?_⟩
        refine Ok.at rfl <| Ok.at rfl <| Ok.at rfl ⟨_, gNe_bl, _, rfl, (fun z => nomatch z), fun _ => ?_⟩
        refine Ok.truth <| calls s3 <| Ok.valr <| Ok.op2 <| Ok.at rfl <| Ok.at rfl <| Ok.at rfl <| Ok.at rfl ⟨_, gAdd_str (by rw [la]; show 1 + 1 ≤ sizeLine; decide), rfl, _, rfl, (fun z => nomatch z), fun _ => Ok.at rfl ⟨.inl rfl, _, rfl, .inr (.inl ⟨_, rfl⟩)⟩⟩
      · rintro s ⟨t2, rfl, h2⟩
        refine Ok.seq <| Ok.ite <| Ok.or <| Ok.truth <| Ok.op2 <| Ok.valr <| Ok.cb <| Ok.at rfl <| Ok.at rfl ⟨.nd .lst ((signs SG).map fun k => .c (.str k)), ?_, ?_⟩
        · show orElse1 gList gListS _ = _
          unfold orElse1 gList gListS
          dsimp only
          rw [decide_eq_true (show SG.length ≤ sizeLine by rw [sg_len]; decide), if_pos rfl, signsOf_signs]
        refine Ok.valr <| Ok.cb <| Ok.cons <| Ok.valr <| Ok.cb <| Ok.at rfl <| Ok.at rfl ⟨.nd (.ab (addAll (signs SG) [])) [], ?_, ?_⟩
        · unfold gSet
          dsimp only
          rw [if_pos (by decide +kernel)]
        refine Ok.at rfl <| Ok.at rfl ⟨.nd .lst ((signs SG).map fun k => .c (.str k)), ?_, ?_⟩
        · unfold gSortT
          dsimp only
          rw [sorted_sg]
        refine Ok.at rfl <| Ok.at rfl ⟨_, ne_sg, _, rfl, (fun z => nomatch z), fun _ => ?_⟩
        refine Ok.truth <| Ok.op2 <| Ok.at rfl <| Ok.valr <| Ok.callE <| Ok.at rfl <| Ok.callW [] rfl rfl (by decide) ⟨_, _, rfl, rfl, Ok.at rfl <| Ok.at rfl ⟨.c (.bl false), ?_, _, rfl, (fun z => nomatch z), fun _ => Ok.at rfl ?_⟩⟩
        · show some (U.c (.bl (!decide (V.str SG = V.str SG)))) = _
          rw [decide_eq_true rfl]
          rfl
        have la : Str.length "a" = 1 := by decide +kernel
        have l0 : ("" : Str).length ≤ sizeLine := by decide +kernel
        have q1 := is_sign_str l0
        rw [show (one "" && inStr "" SG) = false by decide +kernel] at q1
        have q2 := is_text_str l0
        rw [show allS "" = true by decide +kernel] at q2
        have q3 := is_text_str (z := Txt.mul "a" 5000) (by rw [mul_len (by decide), la]; show 5000 * 1 ≤ sizeLine; decide)
        rw [all_as (by decide)] at q3
        have q4 := is_sign_str (z := "ab") (by decide +kernel)
        rw [show (one "ab" && inStr "ab" SG) = false by decide +kernel] at q4
        refine Ok.seq <| Ok.setF <| Ok.lst <| Ok.cons <| Ok.valr <| calls q1 <| Ok.at rfl ⟨rfl, ?_⟩
        refine Ok.cons <| Ok.valr <| calls q2 <| Ok.at rfl ⟨rfl, ?_⟩
        refine Ok.cons <| Ok.valr <| calls q3 <| Ok.valr <| Ok.op2 <| Ok.at rfl <| Ok.at rfl <| Ok.at rfl <| Ok.at rfl ⟨_, gMul_str (by decide) (by decide) (by rw [la]; decide), rfl, ?_⟩
        refine Ok.cons <| Ok.valr <| calls q4 <| Ok.at rfl ⟨rfl, ?_⟩
        refine Ok.cons <| Ok.valr <| calls (is_text_no (t := .tup) rfl (by decide)) <| Ok.at rfl ⟨rfl, ?_⟩
        refine Ok.cons <| Ok.valr <| calls (is_sign_no (t := .int) rfl (by decide)) <| Ok.at rfl ⟨rfl, ?_⟩
        refine Ok.cons <| Ok.valr <| calls (is_text_no (t := .non) rfl (by decide)) <| Ok.at rfl ⟨rfl, ?_⟩
        refine Ok.at rfl ⟨_, rfl, (show 7 ≤ sizeLine by decide), rfl, ?_⟩
        refine Ok.rt <| Ok.andV <| Ok.op2 <| Ok.at rfl <| Ok.at rfl <| Ok.at rfl <| Ok.at rfl ⟨_, told_eq, _, rfl, fun _ => ?_, (fun z => nomatch z)⟩
        refine Ok.op2 <| Ok.valr <| Ok.cb <| Ok.at rfl <| Ok.at rfl ⟨_, len_str (by rw [sg_len]; decide), ?_⟩
        refine Ok.at rfl <| Ok.at rfl <| Ok.at rfl ⟨.c (.bl true), ?_, _, _, rfl, rfl, rfl⟩
        show some (U.c (.bl (decide (V.int (SG.length : Nat) = V.int 68)))) = _
        rw [sg_len]
        rfl
  obtain ⟨r, s, e, hr⟩ := h
  exact ⟨s, by rw [e, hr]⟩
end K01

open PySem PySem.W PyProof.Rows
set_option maxHeartbeats 0 in
theorem PySem.Challenge.cw_findsown_k01_signs_and_texts_holds : PySem.Challenge.rw_findsown_k01_signs_and_texts.Holds := by
  w_on; o_law; k_head; (case hw => w_witness2)
  k_fill
  refine Dl.walkG (l := PySem.Challenge.rw_findsown_k01_signs_and_texts) (n := 63) (k := 5) (x := "_law_script") (cl := fun _ _ => 0) (fn := K01.f_law) rfl (by decide) rfl ⟨rfl, by decide, by decide⟩ (fun w h Y => PySem.W.kIn_of Y) ?F K01.plain_law
  case F =>
    intro w mg fa h KX G hmg
    refine' K01.all_mk KX G hmg ?a0 ?l0 ?c0 ?k0 ?a1 ?l1 ?c1 ?k1 ?a2 ?l2 ?c2 ?k2 ?a3 ?l3 ?c3 ?k3 ?a4 ?l4 ?c4 ?k4 ?a5 ?l5 ?c5 ?k5 ?a6 ?l6 ?c6 ?k6 ?a7 ?l7 ?c7 ?k7 ?a8 ?l8 ?c8 ?k8 ?a9 ?l9 ?c9 ?k9 ?a10 ?l10 ?c10 ?k10 ?a11 ?l11 ?c11 ?k11 ?a12 ?l12 ?c12 ?k12 ?y0 ?z0 ?z1 ?z2 ?z3 ?z4 ?z5 ?z6 ?z7 ?z8 ?z9 ?z10 ?z11 ?z12
    (case a0 => k_is); (case l0 => k_is); (case c0 => k_is); (case k0 => k_is); (case a1 => k_is); (case l1 => k_is); (case c1 => k_is); (case k1 => k_is); (case a2 => k_is); (case l2 => k_is); (case c2 => k_is); (case k2 => k_is); (case a3 => k_is); (case l3 => k_is); (case c3 => k_is); (case k3 => k_is); (case a4 => k_is); (case l4 => k_is); (case c4 => k_is); (case k4 => k_is); (case a5 => k_is); (case l5 => k_is); (case c5 => k_is); (case k5 => k_is); (case a6 => k_is); (case l6 => k_is); (case c6 => k_is); (case k6 => k_is); (case a7 => k_is); (case l7 => k_is); (case c7 => k_is); (case k7 => k_is); (case a8 => k_is); (case l8 => k_is); (case c8 => k_is); (case k8 => k_is); (case a9 => k_is); (case l9 => k_is); (case c9 => k_is); (case k9 => k_is); (case a10 => k_is); (case l10 => k_is); (case c10 => k_is); (case k10 => k_is); (case a11 => k_is); (case l11 => k_is); (case c11 => k_is); (case k11 => k_is); (case a12 => k_is); (case l12 => k_is); (case c12 => k_is); (case k12 => k_is); (case y0 => k_is); (case z0 => k_is); (case z1 => k_is); (case z2 => k_is); (case z3 => k_is); (case z4 => k_is); (case z5 => k_is); (case z6 => k_is); (case z7 => k_is); (case z8 => k_is); (case z9 => k_is); (case z10 => k_is); (case z11 => k_is); (case z12 => k_is)
