import PyProof.Rows.All
import HandS.ForMost
import HandS.Exc
import HandS.TryOnly
import HandS.Wide
import HandS.Style
import HandS.TupAny
import HandS.TupMul
import HandS.IsInst
import HandS.CallSlots
import HandS.WordsExc
import HandS.Deep
import HandS.Defaults
import HandS.ExcInit
import HandS.ExcField
import KE.KExcSuper
import HandS.HeadHook1
import HandS.HeadHook2
import HandS.RevTup
import HandS.Conv
import KE.KRevSl
import HandS.TupSets
import PySem.Challenge.RW_nodewright_k01_whole_polynomials_of_part
import Wide.All
import OpenK.AllK
import Wide.FinOn
import KE.KStateDown
import Lean
import HandS.Head0
import HandS.Head1
import HandS.Head2
import HandS.HeadEnd
section
set_option Elab.async false
set_option linter.all false
set_option maxRecDepth 100000
set_option autoImplicit false
namespace DS
open PySem PySem.Spec L2
open PyProof.Rows hiding St
/-! ## data, states, results -/
abbrev D := PyData
structure Exn where
  cls : Str
  fs : List (Str × D)
abbrev LS := Option (Int × List Int)
inductive Out (α : Type) where
  | ok (a : α) (s : LS)
  | err (x : Exn) (s : LS)
  | bad
def Out.bind {α β : Type} (o : Out α) (f : α → LS → Out β) : Out β := match o with
  | .ok a s => f a s
  | .err x s => .err x s
  | .bad => .bad
inductive EV where
  | un
  | sh (d : D)
  | ow (ds : List D)
  | st
  | ex (a dd : Addr) (fs : List (Str × D))
abbrev Ev := List EV
inductive SOut where
  | nx (e : Ev) (s : LS)
  | rt (d : D) (s : LS)
  | bk (e : Ev) (s : LS)
  | ct (e : Ev) (s : LS)
  | err (x : Exn) (e : Ev) (s : LS)
  | bad
/-- where the law's state lies -/
abbrev Gh := Option (Addr × Addr)
def Gh.has : Gh → Addr → Prop
  | none, _ => False
  | some (a, b), x => x = a ∨ x = b
def StOk (G : Gh) (F H : Hp) : LS → Prop
  | none => G = none
  | some (p, cs) => ∃ a b, G = some (a, b) ∧ a ≠ b ∧ F a = none ∧ F b = none ∧ H a = some (.lst [.int p, .ref b]) ∧ H b = some (.lst (cs.map V.int))
/-- F: what stands still. An expression leaves all but the state as it was -/
structure Step (G : Gh) (F H F' H' : Hp) : Prop where
  sub : ∀ a o, F' a = some o → H' a = some o
  keep : ∀ a o, H a = some o → ¬ G.has a → H' a = some o
  frz : ∀ a o, H a = some o → F' a = F a
  dom : ∀ a, H' a = none → H a = none
section
variable {K : PySem.W.Frag} {G : Gh} {F H F1 H1 F2 H2 F' H' F0 H0 : Hp} {s s' : LS}
theorem Step.refl (h : ∀ a o, F a = some o → H a = some o) : Step G F H F H := ⟨h, fun _ _ e _ => e, fun _ _ _ => rfl, fun _ e => e⟩
theorem some_of_dom {H H' : Hp} (d : ∀ a, H' a = none → H a = none) {a : Addr} {o : HO} (e : H a = some o) : ∃ o', H' a = some o' := by
  cases q : H' a with
  | none => rw [d a q] at e; cases e
  | some o' => exact ⟨o', rfl⟩
theorem Step.trans (a : Step G F H F1 H1) (b : Step G F1 H1 F2 H2) : Step G F H F2 H2 :=
  ⟨b.sub, fun x o e n => b.keep x o (a.keep x o e n) n, fun x o e => by
    obtain ⟨o', e'⟩ := some_of_dom a.dom e
    rw [b.frz x o' e', a.frz x o e], fun x e => a.dom x (b.dom x e)⟩
theorem Step.inc (h : ∀ a o, F a = some o → H a = some o) (st : Step G F H F' H') : ∀ a o, F a = some o → F' a = some o := fun a o e => by rw [st.frz a o (h a o e)]; exact e
end
/-! ## what a value is -/
mutual
inductive Rp (K : PySem.W.Frag) (F : Hp) : V → D → Prop where
  | non : Rp K F .non .none
  | bl (b : Bool) : Rp K F (.bl b) (.bool b)
  | int (i : Int) : Rp K F (.int i) (.int i)
  | str (x : Str) : Rp K F (.str x) (.str x)
  | lst {a : Addr} {xs : List V} {ds : List D} : F a = some (.lst xs) → RpAll K F xs ds → Rp K F (.ref a) (.list ds)
  | tup {a : Addr} {xs : List V} {ds : List D} : SqT K F a xs → RpAll K F xs ds → Rp K F (.ref a) (.tuple ds)
inductive RpAll (K : PySem.W.Frag) (F : Hp) : List V → List D → Prop where
  | nil : RpAll K F [] []
  | cons {v : V} {vs : List V} {d : D} {ds : List D} : Rp K F v d → RpAll K F vs ds → RpAll K F (v :: vs) (d :: ds)
end
mutual
theorem Rp.dp {K : PySem.W.Frag} {F : Hp} : ∀ {v : V} {d : D}, Rp K F v d → Dp K F v d
  | _, _, .non => .non
  | _, _, .bl b => .bl b
  | _, _, .int i => .int i
  | _, _, .str x => .str x
  | _, _, .lst a b => .lst (SqL.of a) (RpAll.dp b)
  | _, _, .tup a b => .tup a (RpAll.dp b)
theorem RpAll.dp {K : PySem.W.Frag} {F : Hp} : ∀ {vs : List V} {ds : List D}, RpAll K F vs ds → DpAll K F vs ds
  | _, _, .nil => .nil
  | _, _, .cons a b => .cons (Rp.dp a) (RpAll.dp b)
end
theorem sqT_mono {K : PySem.W.Frag} {F F' : Hp} (h : ∀ a o, F a = some o → F' a = some o) {a : Addr} {xs : List V} (e : SqT K F a xs) : SqT K F' a xs := by
  rcases e with (z | ⟨o, z⟩) | z
  · exact .inl (.inl (h _ _ z))
  · exact .inl (.inr ⟨o, h _ _ z⟩)
  · exact .inr z
mutual
theorem Rp.mono {K : PySem.W.Frag} {F F' : Hp} (h : ∀ a o, F a = some o → F' a = some o) : ∀ {v : V} {d : D}, Rp K F v d → Rp K F' v d
  | _, _, .non => .non
  | _, _, .bl b => .bl b
  | _, _, .int i => .int i
  | _, _, .str x => .str x
  | _, _, .lst a b => .lst (h _ _ a) (RpAll.mono h b)
  | _, _, .tup a b => .tup (sqT_mono h a) (RpAll.mono h b)
theorem RpAll.mono {K : PySem.W.Frag} {F F' : Hp} (h : ∀ a o, F a = some o → F' a = some o) : ∀ {vs : List V} {ds : List D}, RpAll K F vs ds → RpAll K F' vs ds
  | _, _, .nil => .nil
  | _, _, .cons a b => .cons (Rp.mono h a) (RpAll.mono h b)
end
theorem RpAll.length {K : PySem.W.Frag} {F : Hp} : ∀ {vs : List V} {ds : List D}, RpAll K F vs ds → vs.length = ds.length
  | _, _, .nil => rfl
  | _, _, .cons _ b => by rw [List.length_cons, List.length_cons, RpAll.length b]
theorem RpAll.get {K : PySem.W.Frag} {F : Hp} : ∀ {vs : List V} {ds : List D} {i : Nat} {d : D}, RpAll K F vs ds → ds[i]? = some d → ∃ v, vs[i]? = some v ∧ Rp K F v d
  | _, _, _, _, .nil, e => by simp at e
  | _, _, 0, _, .cons a _, e => by
    have e' := Option.some.inj e
    subst e'
    exact ⟨_, rfl, a⟩
  | _, _, i + 1, d, .cons _ b, e => RpAll.get (i := i) b e
theorem RpAll.append {K : PySem.W.Frag} {F : Hp} : ∀ {vs ws : List V} {ds es : List D}, RpAll K F vs ds → RpAll K F ws es → RpAll K F (vs ++ ws) (ds ++ es)
  | _, _, _, _, .nil, b => b
  | _, _, _, _, .cons a r, b => .cons a (RpAll.append r b)
theorem RpAll.set {K : PySem.W.Frag} {F : Hp} {v : V} {d : D} (r : Rp K F v d) : ∀ {vs : List V} {ds : List D} (i : Nat), RpAll K F vs ds → RpAll K F (vs.set i v) (ds.set i d)
  | _, _, _, .nil => .nil
  | _, _, 0, .cons _ b => .cons r b
  | _, _, i + 1, .cons a b => .cons a (RpAll.set r i b)
theorem RpAll.take {K : PySem.W.Frag} {F : Hp} : ∀ {vs : List V} {ds : List D} (n : Nat), RpAll K F vs ds → RpAll K F (vs.take n) (ds.take n)
  | _, _, 0, _ => .nil
  | _, _, _ + 1, .nil => .nil
  | _, _, n + 1, .cons r t => .cons r (RpAll.take n t)
theorem RpAll.drop {K : PySem.W.Frag} {F : Hp} : ∀ {vs : List V} {ds : List D} (n : Nat), RpAll K F vs ds → RpAll K F (vs.drop n) (ds.drop n)
  | _, _, 0, r => r
  | _, _, _ + 1, .nil => .nil
  | _, _, n + 1, .cons _ t => RpAll.drop n t
theorem RpAll.reverse {K : PySem.W.Frag} {F : Hp} : ∀ {vs : List V} {ds : List D}, RpAll K F vs ds → RpAll K F vs.reverse ds.reverse
  | _, _, .nil => .nil
  | _, _, .cons a b => by
    rw [List.reverse_cons, List.reverse_cons]
    exact RpAll.append (RpAll.reverse b) (.cons a .nil)
theorem RpAll.rep {K : PySem.W.Frag} {F : Hp} {vs : List V} {ds : List D} (h : RpAll K F vs ds) : ∀ n : Nat, RpAll K F (List.replicate n vs).flatten (List.replicate n ds).flatten
  | 0 => .nil
  | n + 1 => by
    rw [List.replicate_succ, List.replicate_succ, List.flatten_cons, List.flatten_cons]
    exact RpAll.append h (RpAll.rep h n)
/-! ## frames: slots against the environment -/
def FsOk (K : PySem.W.Frag) (F : Hp) : List (Str × V) → List (Str × D) → Prop
  | [], [] => True
  | (n, v) :: r, (m, d) :: q => n = m ∧ Rp K F v d ∧ FsOk K F r q
  | _, _ => False
theorem FsOk.mono {K : PySem.W.Frag} {F F' : Hp} (h : ∀ a o, F a = some o → F' a = some o) : ∀ {fs : List (Str × V)} {xs : List (Str × D)}, FsOk K F fs xs → FsOk K F' fs xs
  | [], [], _ => trivial
  | (_, _) :: _, (_, _) :: _, ⟨a, b, c⟩ => ⟨a, b.mono h, FsOk.mono h c⟩
  | [], _ :: _, q => q.elim
  | _ :: _, [], q => q.elim
/-- an argument (a shared value, the state, a lent list) -/
def AV (K : PySem.W.Frag) (G : Gh) (F H : Hp) (v : V) : EV → Prop
  | .un => False
  | .sh d => Rp K F v d
  | .ow ds => ∃ p xs, v = .ref p ∧ H p = some (.lst xs) ∧ F p = none ∧ ¬ G.has p ∧ RpAll K F xs ds
  | .st => ∃ a b, G = some (a, b) ∧ v = .ref a
  | .ex _ _ _ => False
def SlotOk (K : PySem.W.Frag) (G : Gh) (H0 F H : Hp) (x : Option V) : EV → Prop
  | .un => True
  | .sh d => ∃ v, x = some v ∧ Rp K F v d
  | .ow ds => ∃ p xs, x = some (.ref p) ∧ H p = some (.lst xs) ∧ F p = none ∧ H0 p = none ∧ ¬ G.has p ∧ RpAll K F xs ds
  | .st => ∃ a b, G = some (a, b) ∧ x = some (.ref a)
  | .ex a dd fs => x = some (.ref a) ∧ ∃ vs, F dd = some (.xd vs) ∧ FsOk K F vs fs
structure Rel (K : PySem.W.Frag) (G : Gh) (F0 H0 F H : Hp) (σ : St) (env : Ev) (s : LS) : Prop where
  st : Step G F0 H0 F H
  len : env.length = σ.length
  slots : ∀ (i : Nat) (e : EV), env[i]? = some e → ∃ x : Option V, σ[i]? = some x ∧ SlotOk K G H0 F H x e
  dist : ∀ (i j : Nat) (di dj : List D), i ≠ j → env[i]? = some (EV.ow di) → env[j]? = some (EV.ow dj) → σ[i]? ≠ σ[j]?
  so : StOk G F H s
section
variable {K : PySem.W.Frag} {G : Gh} {F H F1 H1 F2 H2 F' H' F0 H0 : Hp} {s s' : LS} {σ : St} {env : Ev}
theorem SlotOk.step {x : Option V} {e : EV} (h : ∀ a o, F a = some o → H a = some o) (st : Step G F H F' H') (q : SlotOk K G H0 F H x e) : SlotOk K G H0 F' H' x e := by
  cases e with
  | un => trivial
  | sh d => obtain ⟨v, e, r⟩ := q; exact ⟨v, e, r.mono (st.inc h)⟩
  | ow ds =>
    obtain ⟨p, xs, e, hp, fp, h0, ng, r⟩ := q
    exact ⟨p, xs, e, st.keep _ _ hp ng, (st.frz _ _ hp).trans fp, h0, ng, r.mono (st.inc h)⟩
  | st => exact q
  | ex a dd fs =>
    obtain ⟨e, vs, q1, q2⟩ := q
    exact ⟨e, vs, st.inc h _ _ q1, q2.mono (st.inc h)⟩
theorem AV.step {v : V} {e : EV} (h : ∀ a o, F a = some o → H a = some o) (st : Step G F H F' H') (q : AV K G F H v e) : AV K G F' H' v e := by
  cases e with
  | un => exact q
  | sh d => exact Rp.mono (st.inc h) q
  | ow ds =>
    obtain ⟨p, xs, e, hp, fp, ng, r⟩ := q
    exact ⟨p, xs, e, st.keep _ _ hp ng, (st.frz _ _ hp).trans fp, ng, r.mono (st.inc h)⟩
  | st => exact q
  | ex a dd fs => exact q.elim
theorem Rel.step (r : Rel K G F0 H0 F H σ env s) (st : Step G F H F' H') (so : StOk G F' H' s') : Rel K G F0 H0 F' H' σ env s' :=
  ⟨r.st.trans st, r.len, fun i e q => by
    obtain ⟨x, e1, e2⟩ := r.slots i e q
    exact ⟨x, e1, e2.step r.st.sub st⟩, r.dist, so⟩
theorem Rel.sub (r : Rel K G F0 H0 F H σ env s) : ∀ a o, F a = some o → H a = some o := r.st.sub
end
/-! ## exceptions, results -/
def RelX (K : PySem.W.Frag) (mg : Str → Option Value) (F : Hp) (x : Exn) (cls : Value) (dd : Option Addr) : Prop :=
  ∃ C d fs, mg x.cls = some (.ref C) ∧ cls = .ref C ∧ dd = some d ∧ F d = some (.xd fs) ∧ FsOk K F fs x.fs
structure RR (α β : Type) where
  r : PySem.W.Frag → Gh → Hp → Hp → Hp → β → α → Prop
  mono : ∀ {K G H H1 F' H' b a}, (∀ x, H1 x = none → H x = none) → r K G H1 F' H' b a → r K G H F' H' b a
def Post {α β : Type} (K : PySem.W.Frag) (mg : Str → Option Value) (W : WX) (G : Gh) (F H : Hp) (σ : St) (R : RR α β) (Q : β → Hp → Prop) : Out α → Prop
  | .ok a s' => ∀ b F' H', Step G F H F' H' → StOk G F' H' s' → R.r K G H F' H' b a → Q b H'
  | .err x s' => ∀ cls dd F' H', Step G F H F' H' → StOk G F' H' s' → RelX K mg F' x cls dd → W cls dd σ H'
  | .bad => False
section
variable {α β γ δ : Type} {K : PySem.W.Frag} {mg : Str → Option Value} {W : WX} {G : Gh} {F H F' H' : Hp} {σ : St} {R : RR α β} {R1 : RR γ δ} {Q : β → Hp → Prop} {Q1 : δ → Hp → Prop}
theorem Post.step {o : Out α} (h : Post K mg W G F H σ R Q o) (st : Step G F H F' H') : Post K mg W G F' H' σ R Q o := by
  cases o with
  | ok a s => exact fun b F2 H2 s2 so r => h b F2 H2 (st.trans s2) so (R.mono st.dom r)
  | err x s => exact fun c d F2 H2 s2 so r => h c d F2 H2 (st.trans s2) so r
  | bad => exact h
theorem post_bind {o : Out γ} {f : γ → LS → Out α} (h : Post K mg W G F H σ R Q (o.bind f))
    (k : ∀ a s' x F' H', Step G F H F' H' → StOk G F' H' s' → R1.r K G H F' H' x a → Post K mg W G F' H' σ R Q (f a s') → Q1 x H') : Post K mg W G F H σ R1 Q1 o := by
  cases o with
  | ok a s => exact fun x F2 H2 st so r => k a s x F2 H2 st so r (Post.step h st)
  | err x s => exact h
  | bad => exact h
end
def RD : RR D V := ⟨fun K _ _ F' _ v d => Rp K F' v d, fun _ r => r⟩
/-- a value that is looked at: shared, or a list that is lent -/
def RWd : RR D V := ⟨fun K G _ F' H' v d => Rp K F' v d ∨ ∃ p xs ds, v = .ref p ∧ d = .list ds ∧ H' p = some (.lst xs) ∧ F' p = none ∧ ¬ G.has p ∧ RpAll K F' xs ds, fun _ r => r⟩
/-- a new list that is one's own -/
def RF : RR (List D) V := ⟨fun K G H F' H' v ds => ∃ p xs, v = .ref p ∧ H p = none ∧ H' p = some (.lst xs) ∧ F' p = none ∧ ¬ G.has p ∧ RpAll K F' xs ds,
  fun h ⟨p, xs, a, b, c⟩ => ⟨p, xs, a, h _ b, c⟩⟩
/-- what is given to a name: shared, or a new list -/
def RV : RR EV V := ⟨fun K G H F' H' v e => match e with
  | .un => False
  | .sh d => Rp K F' v d
  | .ow ds => ∃ p xs, v = .ref p ∧ H p = none ∧ H' p = some (.lst xs) ∧ F' p = none ∧ ¬ G.has p ∧ RpAll K F' xs ds
  | .st => ∃ a b, G = some (a, b) ∧ v = .ref a
  | .ex _ _ _ => False, fun {K G H H1 F' H' b a} h r => by
    cases a with
    | un => exact r
    | sh d => exact r
    | ow ds => obtain ⟨p, xs, a, b, c⟩ := r; exact ⟨p, xs, a, h _ b, c⟩
    | st => exact r
    | ex a dd fs => exact r.elim⟩
def RA : RR EV V := ⟨fun K G _ F' H' v e => AV K G F' H' v e, fun _ r => r⟩
def AVs (K : PySem.W.Frag) (G : Gh) (F H : Hp) : List V → List EV → Prop
  | [], [] => True
  | v :: vs, e :: es => AV K G F H v e ∧ AVs K G F H vs es
  | _, _ => False
def RAs : RR (List EV) (List V) := ⟨fun K G _ F' H' vs es => AVs K G F' H' vs es, fun _ r => r⟩
def RDs : RR (List D) (List V) := ⟨fun K _ _ F' _ vs ds => RpAll K F' vs ds, fun _ r => r⟩
def RB : RR Bool Bool := ⟨fun _ _ _ _ _ b a => b = a, fun _ r => r⟩
/-! ## judgements -/
def tG {α β : Type} (K : PySem.W.Frag) (mg : Str → Option Value) (W : WX) (G : Gh) (R : RR α β) (g : Ev → LS → Out α) (σ : L2.St) (H : Hp) (Q : β → Hp → Prop) : Prop :=
  ∃ F0 H0 F env s, Rel K G F0 H0 F H σ env s ∧ Post K mg W G F H σ R Q (g env s)
section
variable {α : Type}
def SG (R : RR α V) (X : Cx) (W : WX) (G : Gh) (e : Expr) (g : Ev → LS → Out α) : Prop := PE X e (tG X.K X.mg W G R g)
abbrev SE := SG RD
abbrev SW := SG RWd
abbrev SF := SG RF
abbrev SV := SG RV
abbrev SX := SG RA
def SB (X : Cx) (W : WX) (G : Gh) (e : Expr) (g : Ev → LS → Out Bool) : Prop := PT X e (tG X.K X.mg W G RB g)
def SBW (X : Cx) (W : WX) (G : Gh) (e : Expr) (g : Ev → LS → Out Bool) : Prop := PW X e (tG X.K X.mg W G RB g)
def SLg (R : RR α (List V)) (X : Cx) (W : WX) (G : Gh) (es : List Expr) (g : Ev → LS → Out α) : Prop := PA X es (tG X.K X.mg W G R g)
end
/-- Fs: what stood still ahead of the statement -/
def PostS (K : PySem.W.Frag) (mg : Str → Option Value) (W : WX) (G : Gh) (F0 H0 Fs : Hp) (D : Ends) : SOut → Prop
  | .nx env' s' => ∀ F' H' σ', Rel K G F0 H0 F' H' σ' env' s' → (∀ a o, Fs a = some o → F' a = some o) → D.nx σ' H'
  | .rt d s' => ∀ v F' H', Step G F0 H0 F' H' → StOk G F' H' s' → Rp K F' v d → D.rt v H'
  | .bk env' s' => ∀ F' H' σ', Rel K G F0 H0 F' H' σ' env' s' → (∀ a o, Fs a = some o → F' a = some o) → D.bk σ' H'
  | .ct env' s' => ∀ F' H' σ', Rel K G F0 H0 F' H' σ' env' s' → (∀ a o, Fs a = some o → F' a = some o) → D.ct σ' H'
  | .err x env' s' => ∀ cls dd F' H' σ', Rel K G F0 H0 F' H' σ' env' s' → (∀ a o, Fs a = some o → F' a = some o) → RelX K mg F' x cls dd → W cls dd σ' H'
  | .bad => False
theorem PostS.inc {K : PySem.W.Frag} {mg : Str → Option Value} {W : WX} {G : Gh} {F0 H0 Fs Ft : Hp} {D : Ends} {o : SOut} (h : ∀ a o, Fs a = some o → Ft a = some o) (p : PostS K mg W G F0 H0 Fs D o) : PostS K mg W G F0 H0 Ft D o := by
  cases o with
  | nx e s => exact fun F' H' σ' r i => p F' H' σ' r fun a o z => i a o (h a o z)
  | bk e s => exact fun F' H' σ' r i => p F' H' σ' r fun a o z => i a o (h a o z)
  | ct e s => exact fun F' H' σ' r i => p F' H' σ' r fun a o z => i a o (h a o z)
  | err x e s => exact fun c d F' H' σ' r i => p c d F' H' σ' r fun a o z => i a o (h a o z)
  | rt d s => exact p
  | bad => exact p
def tGS (K : PySem.W.Frag) (mg : Str → Option Value) (W : WX) (G : Gh) (g : Ev → LS → SOut) : TS := fun D σ H =>
  ∃ F0 H0 F env s, Rel K G F0 H0 F H σ env s ∧ PostS K mg W G F0 H0 F D (g env s)
def SS (X : Cx) (W : WX) (G : Gh) (st : Stmt) (g : Ev → LS → SOut) : Prop := PS X st (tGS X.K X.mg W G g)
def SSs (X : Cx) (W : WX) (G : Gh) (sts : List Stmt) (g : Ev → LS → SOut) : Prop := PSs X sts (tGS X.K X.mg W G g)
section
variable {α : Type} {X : Cx} {W : WX} {G : Gh} {e : Expr} {es : List Expr} {st : Stmt} {sts : List Stmt}
theorem SG.use {R : RR α V} {g : Ev → LS → Out α} (h : SG R X W G e g) : ∃ t, PE X e t ∧ ∀ F0 H0 F H σ env s Q, Rel X.K G F0 H0 F H σ env s → Post X.K X.mg W G F H σ R Q (g env s) → t σ H Q :=
  ⟨_, h, fun F0 H0 F H σ env s Q r p => ⟨F0, H0, F, env, s, r, p⟩⟩
theorem SG.mk {R : RR α V} {g : Ev → LS → Out α} {t : TE} (h : PE X e t) (k : ∀ F0 H0 F H σ env s Q, Rel X.K G F0 H0 F H σ env s → Post X.K X.mg W G F H σ R Q (g env s) → t σ H Q) : SG R X W G e g :=
  ⟨fun pins s σ H Q I ⟨F0, H0, F, env, s', r, p⟩ => h.run pins s σ H Q I (k F0 H0 F H σ env s' Q r p)⟩
theorem SB.use {g : Ev → LS → Out Bool} (h : SB X W G e g) : ∃ t, PT X e t ∧ ∀ F0 H0 F H σ env s Q, Rel X.K G F0 H0 F H σ env s → Post X.K X.mg W G F H σ RB Q (g env s) → t σ H Q :=
  ⟨_, h, fun F0 H0 F H σ env s Q r p => ⟨F0, H0, F, env, s, r, p⟩⟩
theorem SB.mk {g : Ev → LS → Out Bool} {t : TT} (h : PT X e t) (k : ∀ F0 H0 F H σ env s Q, Rel X.K G F0 H0 F H σ env s → Post X.K X.mg W G F H σ RB Q (g env s) → t σ H Q) : SB X W G e g :=
  ⟨fun pins s σ H Q I ⟨F0, H0, F, env, s', r, p⟩ => h.run pins s σ H Q I (k F0 H0 F H σ env s' Q r p)⟩
theorem SBW.use {g : Ev → LS → Out Bool} (h : SBW X W G e g) : ∃ t, PW X e t ∧ ∀ F0 H0 F H σ env s Q, Rel X.K G F0 H0 F H σ env s → Post X.K X.mg W G F H σ RB Q (g env s) → t σ H Q :=
  ⟨_, h, fun F0 H0 F H σ env s Q r p => ⟨F0, H0, F, env, s, r, p⟩⟩
theorem SBW.mk {g : Ev → LS → Out Bool} {t : TT} (h : PW X e t) (k : ∀ F0 H0 F H σ env s Q, Rel X.K G F0 H0 F H σ env s → Post X.K X.mg W G F H σ RB Q (g env s) → t σ H Q) : SBW X W G e g :=
  ⟨fun wh pins s σ H Q I ⟨F0, H0, F, env, s', r, p⟩ => h.run wh pins s σ H Q I (k F0 H0 F H σ env s' Q r p)⟩
theorem SLg.use {R : RR α (List V)} {g : Ev → LS → Out α} (h : SLg R X W G es g) : ∃ t, PA X es t ∧ ∀ F0 H0 F H σ env s Q, Rel X.K G F0 H0 F H σ env s → Post X.K X.mg W G F H σ R Q (g env s) → t σ H Q :=
  ⟨_, h, fun F0 H0 F H σ env s Q r p => ⟨F0, H0, F, env, s, r, p⟩⟩
theorem SLg.mk {R : RR α (List V)} {g : Ev → LS → Out α} {t : TA} (h : PA X es t) (k : ∀ F0 H0 F H σ env s Q, Rel X.K G F0 H0 F H σ env s → Post X.K X.mg W G F H σ R Q (g env s) → t σ H Q) : SLg R X W G es g :=
  ⟨fun ps pins s σ H Q I ⟨F0, H0, F, env, s', r, p⟩ => h.run ps pins s σ H Q I (k F0 H0 F H σ env s' Q r p)⟩
theorem SS.use {g : Ev → LS → SOut} (h : SS X W G st g) : ∃ t, PS X st t ∧ ∀ F0 H0 F H σ env s D, Rel X.K G F0 H0 F H σ env s → PostS X.K X.mg W G F0 H0 F D (g env s) → t D σ H :=
  ⟨_, h, fun F0 H0 F H σ env s Q r p => ⟨F0, H0, F, env, s, r, p⟩⟩
theorem SS.mk {g : Ev → LS → SOut} {t : TS} (h : PS X st t) (k : ∀ F0 H0 F H σ env s D, Rel X.K G F0 H0 F H σ env s → PostS X.K X.mg W G F0 H0 F D (g env s) → t D σ H) : SS X W G st g :=
  ⟨fun pins s σ H D I ⟨F0, H0, F, env, s', r, p⟩ => h.run pins s σ H D I (k F0 H0 F H σ env s' D r p)⟩
theorem SSs.use {g : Ev → LS → SOut} (h : SSs X W G sts g) : ∃ t, PSs X sts t ∧ ∀ F0 H0 F H σ env s D, Rel X.K G F0 H0 F H σ env s → PostS X.K X.mg W G F0 H0 F D (g env s) → t D σ H :=
  ⟨_, h, fun F0 H0 F H σ env s Q r p => ⟨F0, H0, F, env, s, r, p⟩⟩
theorem SSs.mk {g : Ev → LS → SOut} {t : TS} (h : PSs X sts t) (k : ∀ F0 H0 F H σ env s D, Rel X.K G F0 H0 F H σ env s → PostS X.K X.mg W G F0 H0 F D (g env s) → t D σ H) : SSs X W G sts g :=
  ⟨fun pins s σ H D I ⟨F0, H0, F, env, s', r, p⟩ => h.run pins s σ H D I (k F0 H0 F H σ env s' D r p)⟩
end
end DS
end

section
set_option Elab.async false
set_option linter.all false
set_option maxRecDepth 100000
set_option autoImplicit false
namespace DS
open PySem PySem.Spec L2
open PyProof.Rows hiding St
/-! ## the value layer's expressions -/
def lift {α : Type} (o : Option α) (s : LS) : Out α := match o with
  | some a => .ok a s
  | none => .bad
def varD (i : Nat) (env : Ev) (s : LS) : Out D := match env[i]? with
  | some (.sh d) => .ok d s
  | _ => .bad
def varW (i : Nat) (env : Ev) (s : LS) : Out D := match env[i]? with
  | some (.sh d) => .ok d s
  | some (.ow ds) => .ok (.list ds) s
  | _ => .bad
def varX (i : Nat) (env : Ev) (s : LS) : Out EV := match env[i]? with
  | some (.sh d) => .ok (.sh d) s
  | some (.ow ds) => .ok (.ow ds) s
  | some .st => .ok .st s
  | _ => .bad
def cD (d : D) (_ : Ev) (s : LS) : Out D := .ok d s
def isNone : D → Bool
  | .none => true
  | _ => false
def op2 (f : D → D → Option D) (ga gb : Ev → LS → Out D) (env : Ev) (s : LS) : Out D := (ga env s).bind fun x s1 => (gb env s1).bind fun y s2 => lift (f x y) s2
def op1 (f : D → Option D) (ga : Ev → LS → Out D) (env : Ev) (s : LS) : Out D := (ga env s).bind fun x s1 => lift (f x) s1
section
variable {X : Cx} {W : WX} {G : Gh} {e : Expr} {K : PySem.W.Frag} {F H F' H' F0 H0 : Hp} {σ : L2.St} {env : Ev} {s s' : LS} {v : V} {d : D}
/-! ### steps that leave the state alone -/
theorem Step.weak (st : Step none F H F' H') : Step G F H F' H' := ⟨st.sub, fun a o e _ => st.keep a o e (fun z => z), st.frz, st.dom⟩
theorem StOk.pure (so : StOk G F H s) (st : Step none F H F' H') : StOk G F' H' s := by
  cases s with
  | none => exact so
  | some q =>
    obtain ⟨p, cs⟩ := q
    obtain ⟨a, b, e, ne, fa, fb, ha, hb⟩ := so
    exact ⟨a, b, e, ne, (st.frz _ _ ha).trans fa, (st.frz _ _ hb).trans fb, st.keep _ _ ha (fun z => z), st.keep _ _ hb fun z => z⟩
theorem step_new {p : Addr} {o : HO} (sub : ∀ a o, F a = some o → H a = some o) (hp : H p = none) : Step none F H (upd F p o) (upd H p o) :=
  ⟨fun a u e => by
    by_cases h : a = p
    · subst h; rw [upd_same] at e ⊢; exact e
    · rw [upd_ne h] at e ⊢; exact sub a u e, fun a u e _ => by rw [upd_ne (ne_of_none e hp)]; exact e, fun a u e => by rw [upd_ne (ne_of_none e hp)], fun a e => by
    by_cases h : a = p
    · subst h; rw [upd_same] at e; cases e
    · rw [upd_ne h] at e; exact e⟩
theorem step_own {p : Addr} {o : HO} (sub : ∀ a o, F a = some o → H a = some o) (hp : H p = none) : Step none F H F (upd H p o) :=
  ⟨fun a u e => by rw [upd_ne (ne_of_none (sub a u e) hp)]; exact sub a u e, fun a u e _ => by rw [upd_ne (ne_of_none e hp)]; exact e, fun _ _ _ => rfl, fun a e => by
    by_cases h : a = p
    · subst h; rw [upd_same] at e; cases e
    · rw [upd_ne h] at e; exact e⟩
theorem none_of_sub (sub : ∀ a o, F a = some o → H a = some o) {p : Addr} (hp : H p = none) : F p = none := by
  cases q : F p with
  | none => rfl
  | some o => rw [sub p o q] at hp; cases hp
theorem not_has (so : StOk G F H s) {p : Addr} (hp : H p = none) : ¬ G.has p := by
  cases s with
  | none =>
    have e : G = none := so
    subst e
    exact fun z => z
  | some q =>
    obtain ⟨a, b, e, _, _, _, ha, hb⟩ := so
    subst e
    rintro (rfl | rfl)
    · rw [ha] at hp; cases hp
    · rw [hb] at hp; cases hp
/-! ### what is looked at -/
abbrev Wd (K : PySem.W.Frag) (G : Gh) (F H : Hp) (v : V) (d : D) : Prop := RWd.r K G H F H v d
theorem Wd.lst {ds : List D} (h : Wd K G F H v (.list ds)) (sub : ∀ a o, F a = some o → H a = some o) : ∃ p xs, v = .ref p ∧ H p = some (.lst xs) ∧ RpAll K F xs ds := by
  rcases h with h | ⟨p, xs, ds', rfl, e, hp, _, _, r⟩
  · cases h with
    | lst a b => exact ⟨_, _, rfl, sub _ _ a, b⟩
  · cases e
    exact ⟨p, xs, rfl, hp, r⟩
theorem Wd.tup {ds : List D} (h : Wd K G F H v (.tuple ds)) : ∃ p xs, v = .ref p ∧ SqT K F p xs ∧ RpAll K F xs ds := by
  rcases h with h | ⟨p, xs, ds', rfl, e, hp, _, _, r⟩
  · cases h with
    | tup a b => exact ⟨_, _, rfl, a, b⟩
  · cases e
theorem Wd.int {i : Int} (h : Wd K G F H v (.int i)) : v = .int i := by
  rcases h with h | ⟨p, xs, ds', rfl, e, hp, _, _, r⟩
  · cases h; rfl
  · cases e
theorem Wd.bl {b : Bool} (h : Wd K G F H v (.bool b)) : v = .bl b := by
  rcases h with h | ⟨p, xs, ds', rfl, e, hp, _, _, r⟩
  · cases h; rfl
  · cases e
theorem Wd.str {x : Str} (h : Wd K G F H v (.str x)) : v = .str x := by
  rcases h with h | ⟨p, xs, ds', rfl, e, hp, _, _, r⟩
  · cases h; rfl
  · cases e
theorem Wd.non (h : Wd K G F H v .none) : v = .non := by
  rcases h with h | ⟨p, xs, ds', rfl, e, hp, _, _, r⟩
  · cases h; rfl
  · cases e
theorem Wd.dp (h : Wd K G F H v d) (sub : ∀ a o, F a = some o → H a = some o) : Dp K H v d := by
  rcases h with h | ⟨p, xs, ds', rfl, rfl, hp, _, _, r⟩
  · exact (Rp.mono sub h).dp
  · exact .lst (SqL.of hp) (RpAll.mono sub r).dp
theorem Wd.step (h : Wd K G F H v d) (sub : ∀ a o, F a = some o → H a = some o) (st : Step G F H F' H') : Wd K G F' H' v d := by
  rcases h with h | ⟨p, xs, ds', rfl, rfl, hp, fp, ng, r⟩
  · exact .inl (h.mono (st.inc sub))
  · exact .inr ⟨p, xs, ds', rfl, rfl, st.keep _ _ hp ng, (st.frz _ _ hp).trans fp, ng, r.mono (st.inc sub)⟩
theorem Wd.non_iff (h : Wd K G F H v d) : (decide (v = .non)) = isNone d := by
  rcases h with h | ⟨p, xs, ds', rfl, rfl, hp, fp, ng, r⟩
  · cases h <;> simp [isNone]
  · simp [isNone]
/-! ### names, constants -/
theorem Rel.slot (r : Rel K G F0 H0 F H σ env s) {i : Nat} {e : EV} (h : env[i]? = some e) : ∃ x, σ[i]? = some x ∧ SlotOk K G H0 F H x e := r.slots i e h
theorem se_var {i : Nat} (h : PE X e (tVar i)) : SE X W G e (varD i) := by
  refine SG.mk h fun F0 H0 F H σ env s Q r p => ?_
  unfold varD at p
  split at p
  · rename_i d hd
    obtain ⟨x, e1, v, e2, q⟩ := r.slots i _ hd
    subst e2
    exact ⟨v, e1, p v F H (Step.refl r.sub) r.so q⟩
  · exact p.elim
theorem sw_var {i : Nat} (h : PE X e (tVar i)) : SW X W G e (varW i) := by
  refine SG.mk h fun F0 H0 F H σ env s Q r p => ?_
  unfold varW at p
  split at p
  · rename_i d hd
    obtain ⟨x, e1, v, e2, q⟩ := r.slots i _ hd
    subst e2
    exact ⟨v, e1, p v F H (Step.refl r.sub) r.so (.inl q)⟩
  · rename_i d hd
    obtain ⟨x, e1, pp, xs, e2, hp, fp, _, ng, q⟩ := r.slots i _ hd
    subst e2
    exact ⟨.ref pp, e1, p (.ref pp) F H (Step.refl r.sub) r.so (.inr ⟨pp, xs, d, rfl, rfl, hp, fp, ng, q⟩)⟩
  · exact p.elim
theorem sx_var {i : Nat} (h : PE X e (tVar i)) : SX X W G e (varX i) := by
  refine SG.mk h fun F0 H0 F H σ env s Q r p => ?_
  unfold varX at p
  split at p
  · rename_i d hd
    obtain ⟨x, e1, v, e2, q⟩ := r.slots i _ hd
    subst e2
    exact ⟨v, e1, p v F H (Step.refl r.sub) r.so q⟩
  · rename_i d hd
    obtain ⟨x, e1, pp, xs, e2, hp, fp, _, ng, q⟩ := r.slots i _ hd
    subst e2
    exact ⟨.ref pp, e1, p (.ref pp) F H (Step.refl r.sub) r.so ⟨pp, xs, rfl, hp, fp, ng, q⟩⟩
  · rename_i hd
    obtain ⟨x, e1, a, b, e2, e3⟩ := r.slots i _ hd
    subst e3
    exact ⟨.ref a, e1, p (.ref a) F H (Step.refl r.sub) r.so ⟨a, b, e2, rfl⟩⟩
  · exact p.elim
theorem se_const (h : PE X e (tC v)) (q : ∀ F, Rp X.K F v d) : SE X W G e (cD d) :=
  SG.mk h fun F0 H0 F H σ env s Q r p => p v F H (Step.refl r.sub) r.so (q F)
theorem se_int {i j pos} : SE X W G (.Constant (.int i) j pos) (cD (.int i)) := se_const pe_int fun _ => .int i
theorem se_bl {b j pos} : SE X W G (.Constant (.bool b) j pos) (cD (.bool b)) := se_const pe_bl fun _ => .bl b
theorem se_non {j pos} : SE X W G (.Constant .none j pos) (cD .none) := se_const pe_non fun _ => .non
theorem se_str {x j pos} : SE X W G (.Constant (.str x) j pos) (cD (.str x)) := se_const pe_str fun _ => .str x
/-! ### from one judgement to another -/
theorem Post.map {α β γ : Type} {mg : Str → Option Value} {R : RR α β} {R1 : RR γ β} {Q : β → Hp → Prop} {o : Out γ} {f : γ → α}
    (h : Post K mg W G F H σ R Q (o.bind fun a s => .ok (f a) s)) (k : ∀ F' H' b a, Step G F H F' H' → R1.r K G H F' H' b a → R.r K G H F' H' b (f a)) : Post K mg W G F H σ R1 Q o := by
  cases o with
  | ok a s => exact fun b F' H' st so r => h b F' H' st so (k F' H' b a st r)
  | err x s => exact h
  | bad => exact h
theorem Out.bind_ok {α : Type} (o : Out α) : (o.bind fun a s => .ok a s) = o := by cases o <;> rfl
theorem sw_of {g : Ev → LS → Out D} (h : SE X W G e g) : SW X W G e g := by
  obtain ⟨t, h1, h2⟩ := h.use
  refine SG.mk h1 fun F0 H0 F H σ env s Q r p => h2 F0 H0 F H σ env s Q r ?_
  rw [← Out.bind_ok (g env s)] at p
  exact Post.map (f := id) p fun _ _ _ _ _ z => .inl z
def asSh (g : Ev → LS → Out D) (env : Ev) (s : LS) : Out EV := (g env s).bind fun d s => .ok (.sh d) s
def asOw (g : Ev → LS → Out (List D)) (env : Ev) (s : LS) : Out EV := (g env s).bind fun d s => .ok (.ow d) s
def asLst (g : Ev → LS → Out (List D)) (env : Ev) (s : LS) : Out D := (g env s).bind fun d s => .ok (.list d) s
theorem sx_of {g : Ev → LS → Out D} (h : SE X W G e g) : SX X W G e (asSh g) := by
  obtain ⟨t, h1, h2⟩ := h.use
  exact SG.mk h1 fun F0 H0 F H σ env s Q r p => h2 F0 H0 F H σ env s Q r (Post.map p fun _ _ _ _ _ z => z)
theorem sv_of {g : Ev → LS → Out D} (h : SE X W G e g) : SV X W G e (asSh g) := by
  obtain ⟨t, h1, h2⟩ := h.use
  exact SG.mk h1 fun F0 H0 F H σ env s Q r p => h2 F0 H0 F H σ env s Q r (Post.map p fun _ _ _ _ _ z => z)
theorem sv_ow {g : Ev → LS → Out (List D)} (h : SF X W G e g) : SV X W G e (asOw g) := by
  obtain ⟨t, h1, h2⟩ := h.use
  exact SG.mk h1 fun F0 H0 F H σ env s Q r p => h2 F0 H0 F H σ env s Q r (Post.map p fun _ _ _ _ _ z => z)
theorem StOk.frozen {p : Addr} {o : HO} (so : StOk G F H s) (ng : ¬ G.has p) : StOk G (upd F p o) H s := by
  cases s with
  | none => exact so
  | some q =>
    obtain ⟨q1, q2⟩ := q
    obtain ⟨a, b, e, ne, fa, fb, ha, hb⟩ := so
    subst e
    exact ⟨a, b, rfl, ne, by rw [upd_ne (fun z => ng (.inl z.symm))]; exact fa, by rw [upd_ne (fun z => ng (.inr z.symm))]; exact fb, ha, hb⟩
/-- a new list, from now on shared -/
theorem se_of {g : Ev → LS → Out (List D)} (h : SF X W G e g) : SE X W G e (asLst g) := by
  obtain ⟨t, h1, h2⟩ := h.use
  refine SG.mk h1 fun F0 H0 F H σ env s Q r p => h2 F0 H0 F H σ env s Q r ?_
  unfold asLst at p
  cases q : g env s with
  | ok a s1 =>
    rw [q] at p
    intro b F' H' st so rr
    obtain ⟨pp, xs, rfl, hp, hp', fp, ng, ra⟩ := rr
    have inc : ∀ a o, F' a = some o → upd F' pp (.lst xs) a = some o := fun a o z => by rw [upd_ne (ne_of_none z fp)]; exact z
    have neG : ∀ a, G.has a → a ≠ pp := fun a z w => ng (w ▸ z)
    refine p (.ref pp) (upd F' pp (.lst xs)) H' ⟨fun a o z => ?_, st.keep, fun a o z => ?_, st.dom⟩ ?_ (.lst upd_same (ra.mono inc))
    · by_cases w : a = pp
      · subst w; rw [upd_same] at z; rw [hp', ← z]
      · rw [upd_ne w] at z; exact st.sub a o z
    · rw [upd_ne (ne_of_none z hp)]; exact st.frz a o z
    · exact so.frozen ng
  | err x s1 => rw [q] at p; exact p
  | bad => rw [q] at p; exact p
/-! ### two-place operations -/
def OpS (X : Cx) (G : Gh) (f : Value → Value → Sem Value) (g : D → D → Option D) : Prop :=
  ∃ r, OpR X f r ∧ ∀ F H x y dx dy d Q, (∀ a o, F a = some o → H a = some o) → Wd X.K G F H x dx → Wd X.K G F H y dy → g dx dy = some d → (∀ v F' H', Step none F H F' H' → Rp X.K F' v d → Q v H') → r x y H Q
theorem se_op2 {a b : Expr} {ga gb : Ev → LS → Out D} {g : D → D → Option D} {f : Value → Value → Sem Value}
    (hp : ∀ {ta tb : TE} {r : R2}, PE X a ta → PE X b tb → OpR X f r → PE X e (tOp r ta tb)) (ho : OpS X G f g) (ha : SW X W G a ga) (hb : SW X W G b gb) : SE X W G e (op2 g ga gb) := by
  obtain ⟨r, ho, hr⟩ := ho
  obtain ⟨ta, ha, ka⟩ := ha.use
  obtain ⟨tb, hb, kb⟩ := hb.use
  refine SG.mk (hp ha hb ho) fun F0 H0 F H σ env s Q rl p => ?_
  refine ka F0 H0 F H σ env s _ rl (post_bind p fun dx s1 x F1 H1 st1 so1 rx p1 => ?_)
  have rl1 := rl.step st1 so1
  refine kb F0 H0 F1 H1 σ env s1 _ rl1 (post_bind p1 fun dy s2 y F2 H2 st2 so2 ry p2 => ?_)
  cases q : g dx dy with
  | none => rw [q] at p2; exact p2.elim
  | some d =>
    rw [q] at p2
    exact hr F2 H2 x y dx dy d Q st2.sub (Wd.step rx st1.sub st2) ry q fun v F' H' st rp => p2 v F' H' st.weak (so2.pure st) rp
theorem se_bin {op : Operator} {a b : Expr} {pos : Pos} {ga gb : Ev → LS → Out D} {g : D → D → Option D} (ho : OpS X G (binaryOp op) g) (ha : SW X W G a ga) (hb : SW X W G b gb) : SE X W G (.BinOp a op b pos) (op2 g ga gb) :=
  se_op2 (fun h1 h2 h3 => pe_op h3 h1 h2) ho ha hb
theorem se_cmp {op : CmpOp} {a b : Expr} {pos : Pos} {ga gb : Ev → LS → Out D} {g : D → D → Option D} (ho : OpS X G (compareOp op) g) (ha : SW X W G a ga) (hb : SW X W G b gb)
    (hm : behindInMarks op b = false := by first | exact nobehind _ (by decide) (by decide) | rfl) : SE X W G (.Compare a [op] [b] pos) (op2 g ga gb) :=
  se_op2 (fun h1 h2 h3 => pe_cmpR h3 h1 h2 hm) ho ha hb
theorem OpR.or {f : Value → Value → Sem Value} {r1 r2 : R2} (h1 : OpR X f r1) (h2 : OpR X f r2) : OpR X f (fun x y H Q => r1 x y H Q ∨ r2 x y H Q) :=
  fun pins s σ H x y v u Q I rx ry h => h.elim (h1 pins s σ H x y v u Q I rx ry) (h2 pins s σ H x y v u Q I rx ry)
theorem stay (sub : ∀ a o, F a = some o → H a = some o) {Q : VK} (q : ∀ v F' H', Step none F H F' H' → Rp K F' v d → Q v H') {v : V} (h : Rp K F v d) : Q v H := q v F H (Step.refl sub) h
/-! ### arithmetic -/
def addD : D → D → Option D
  | .int i, .int j => some (.int (i + j))
  | .str x, .str y => if x.length + y.length ≤ sizeLine then some (.str (x ++ y)) else none
  | .tuple xs, .tuple ys => if xs.length + ys.length ≤ sizeLine then some (.tuple (xs ++ ys)) else none
  | .list xs, .list ys => if xs.length + ys.length ≤ sizeLine then some (.list (xs ++ ys)) else none
  | _, _ => none
def subD : D → D → Option D
  | .int i, .int j => some (.int (i - j))
  | _, _ => none
/-- a product that is no too great number -/
def mulOk (i j : Int) : Prop := (-(2 ^ 64) < i ∧ i < 2 ^ 64) ∨ (-(2 ^ 64) < j ∧ j < 2 ^ 64) ∨ i.natAbs.log2 + j.natAbs.log2 < 1000000
instance (i j : Int) : Decidable (mulOk i j) := by unfold mulOk; infer_instance
def mulD : D → D → Option D
  | .int i, .int j => if mulOk i j then some (.int (i * j)) else none
  | .list xs, .int k => if k < 2 ^ 62 ∧ -(2 ^ 62) < k ∧ xs.length * k.toNat ≤ sizeLine then some (.list (List.replicate k.toNat xs).flatten) else none
  | _, _ => none
def fdivD : D → D → Option D
  | .int i, .int j => if j ≠ 0 ∧ j.natAbs.log2 < 9000 then some (.int (i.fdiv j)) else none
  | _, _ => none
def modD : D → D → Option D
  | .int i, .int j => if j ≠ 0 then some (.int (i.fmod j)) else none
  | _, _ => none
theorem addO : OpS X G (binaryOp .Add) addD := by
  refine ⟨_, ((op_add.or op_add_str).or (op_catA.or op_cat)), fun F H x y dx dy d Q sub hx hy e q => ?_⟩
  unfold addD at e
  split at e
  · cases e
    cases hx.int; cases hy.int
    exact .inl (.inl ⟨_, _, rfl, rfl, stay sub q (.int _)⟩)
  · split at e
    · cases e
      cases hx.str; cases hy.str
      exact .inl (.inr ⟨_, _, rfl, rfl, by assumption, stay sub q (.str _)⟩)
    · cases e
  · split at e
    · rename_i xs ys hz
      cases e
      obtain ⟨a, us, rfl, sa, ra⟩ := hx.tup
      obtain ⟨b, vs, rfl, sb, rb⟩ := hy.tup
      refine .inr (.inl ⟨a, b, us, vs, rfl, rfl, sqT_mono sub sa, sqT_mono sub sb, by rw [ra.length, rb.length]; exact hz, fun e => ?_, fun _ e => ?_, fun _ _ p hp => ?_⟩)
      · subst e
        cases ra
        exact stay sub q (.tup sb rb)
      · subst e
        cases rb
        rw [List.append_nil] at q
        exact stay sub q (.tup sa ra)
      · have st := step_new (F := F) (o := .tup (us ++ vs)) sub hp
        exact q _ _ _ st (.tup (SqT.of upd_same) ((ra.mono (st.inc sub)).append (rb.mono (st.inc sub))))
    · cases e
  · split at e
    · rename_i xs ys hz
      cases e
      obtain ⟨a, us, rfl, sa, ra⟩ := hx.lst sub
      obtain ⟨b, vs, rfl, sb, rb⟩ := hy.lst sub
      refine .inr (.inr ⟨a, b, us, vs, rfl, rfl, sa, sb, by rw [ra.length, rb.length]; exact hz, fun p hp => ?_⟩)
      have st := step_new (F := F) (o := .lst (us ++ vs)) sub hp
      exact q _ _ _ st (.lst upd_same ((ra.mono (st.inc sub)).append (rb.mono (st.inc sub))))
    · cases e
  · cases e
theorem subO : OpS X G (binaryOp .Sub) subD := by
  refine ⟨_, op_sub, fun F H x y dx dy d Q sub hx hy e q => ?_⟩
  unfold subD at e
  split at e
  · cases e
    cases hx.int; cases hy.int
    exact ⟨_, _, rfl, rfl, stay sub q (.int _)⟩
  · cases e
theorem op_mulA : OpR X (binaryOp .Mult) (rI mulOk fun i j => .int (i * j)) := opI fun i j _ _ _ _ _ hc q => mul_int q (by
    rcases hc with h | h | h
    · exact .of_left (PySem.intBits_le_64 h.1 h.2)
    · exact .of_right (PySem.intBits_le_64 h.1 h.2)
    · exact CMulW.ok h)
theorem mulO : OpS X G (binaryOp .Mult) mulD := by
  refine ⟨_, op_mulA.or op_rep, fun F H x y dx dy d Q sub hx hy e q => ?_⟩
  unfold mulD at e
  split at e
  · split at e
    · cases e
      cases hx.int; cases hy.int
      exact .inl ⟨_, _, rfl, rfl, by assumption, stay sub q (.int _)⟩
    · cases e
  · split at e
    · rename_i xs k hk
      cases e
      cases hy.int
      obtain ⟨a, us, rfl, sa, ra⟩ := hx.lst sub
      refine .inr ⟨a, k, us, rfl, rfl, sa, by omega, by omega, by rw [ra.length]; exact hk.2.2, fun p hp => ?_⟩
      have st := step_new (F := F) (o := .lst (List.replicate k.toNat us).flatten) sub hp
      exact q _ _ _ st (.lst upd_same ((ra.mono (st.inc sub)).rep _))
    · cases e
  · cases e
theorem op_fdivA : OpR X (binaryOp .FloorDiv) (rI (fun _ j => j ≠ 0 ∧ j.natAbs.log2 < 9000) fun i j => .int (i.fdiv j)) := opI fun i j _ _ _ _ _ hc q => floordiv_int hc.1 q (.inl (PyProof.noPylong_of_log2 hc.2))
theorem fdivO : OpS X G (binaryOp .FloorDiv) fdivD := by
  refine ⟨_, op_fdivA, fun F H x y dx dy d Q sub hx hy e q => ?_⟩
  unfold fdivD at e
  split at e
  · split at e
    · cases e
      cases hx.int; cases hy.int
      exact ⟨_, _, rfl, rfl, by assumption, stay sub q (.int _)⟩
    · cases e
  · cases e
theorem modO : OpS X G (binaryOp .Mod) modD := by
  refine ⟨_, op_modN, fun F H x y dx dy d Q sub hx hy e q => ?_⟩
  unfold modD at e
  split at e
  · split at e
    · cases e
      cases hx.int; cases hy.int
      exact ⟨_, _, rfl, rfl, by assumption, stay sub q (.int _)⟩
    · cases e
  · cases e
/-! ### comparisons -/
def cmpI (p : Int → Int → Bool) : D → D → Option D
  | .int i, .int j => some (.bool (p i j))
  | _, _ => none
def ltD : D → D → Option D := cmpI fun i j => decide (i < j)
def leD : D → D → Option D := cmpI fun i j => decide (i ≤ j)
def gtD : D → D → Option D := cmpI fun i j => decide (j < i)
def geD : D → D → Option D := cmpI fun i j => decide (j ≤ i)
def eqD (x y : D) : Option D := if SeqAt.shaped x = true ∧ SeqAt.shaped y = true then some (.bool (PyData.eqv x y)) else none
def neD (x y : D) : Option D := if SeqAt.shaped x = true ∧ SeqAt.shaped y = true then some (.bool (!PyData.eqv x y)) else none
theorem cmpO {op : CmpOp} {p : Int → Int → Bool} (h : OpR X (compareOp op) (rI0 fun i j => .bl (p i j))) : OpS X G (compareOp op) (cmpI p) := by
  refine ⟨_, h, fun F H x y dx dy d Q sub hx hy e q => ?_⟩
  unfold cmpI at e
  split at e
  · cases e
    cases hx.int; cases hy.int
    exact ⟨_, _, rfl, rfl, stay sub q (.bl _)⟩
  · cases e
theorem ltO : OpS X G (compareOp .Lt) ltD := cmpO op_lt
theorem leO : OpS X G (compareOp .LtE) leD := cmpO op_le
theorem gtO : OpS X G (compareOp .Gt) gtD := cmpO op_gt
theorem geO : OpS X G (compareOp .GtE) geD := cmpO op_ge
theorem eqO (hu : X.A.units + 64 < cLine) : OpS X G (compareOp .Eq) eqD := by
  refine ⟨_, op_eqD hu, fun F H x y dx dy d Q sub hx hy e q => ?_⟩
  unfold eqD at e
  split at e
  · rename_i h
    cases e
    exact ⟨dx, dy, hx.dp sub, hy.dp sub, h.1, h.2, stay sub q (.bl _)⟩
  · cases e
theorem neO (hu : X.A.units + 64 < cLine) : OpS X G (compareOp .NotEq) neD := by
  refine ⟨_, op_neD hu, fun F H x y dx dy d Q sub hx hy e q => ?_⟩
  unfold neD at e
  split at e
  · rename_i h
    cases e
    exact ⟨dx, dy, hx.dp sub, hy.dp sub, h.1, h.2, stay sub q (.bl _)⟩
  · cases e
def isD : D → D → Option D
  | x, .none => some (.bool (isNone x))
  | .bool a, .bool b => some (.bool (decide (a = b)))
  | _, _ => none
def isntD : D → D → Option D
  | x, .none => some (.bool (!isNone x))
  | .bool a, .bool b => some (.bool (!decide (a = b)))
  | _, _ => none
theorem isO : OpS X G (compareOp .Is) isD := by
  refine ⟨_, op_isN.or op_isBl, fun F H x y dx dy d Q sub hx hy e q => ?_⟩
  unfold isD at e
  split at e
  · cases e
    cases hy.non
    refine .inl ⟨rfl, ?_⟩
    have z := hx.non_iff
    rw [z]
    exact stay sub q (.bl _)
  · cases e
    cases hx.bl; cases hy.bl
    exact .inr ⟨_, _, rfl, rfl, stay sub q (.bl _)⟩
  · cases e
theorem isntO : OpS X G (compareOp .IsNot) isntD := by
  refine ⟨_, op_notN.or op_notBl, fun F H x y dx dy d Q sub hx hy e q => ?_⟩
  unfold isntD at e
  split at e
  · cases e
    cases hy.non
    refine .inl ⟨rfl, ?_⟩
    have z := hx.non_iff
    rw [z]
    exact stay sub q (.bl _)
  · cases e
    cases hx.bl; cases hy.bl
    exact .inr ⟨_, _, rfl, rfl, stay sub q (.bl _)⟩
  · cases e
end
end DS
end

section
set_option Elab.async false
set_option linter.all false
set_option maxRecDepth 100000
set_option autoImplicit false
namespace DS
open PySem PySem.Spec L2
open PyProof.Rows hiding St
/-- what a rule leans on where one stands -/
structure Cc (X : Cx) (W : WX) (k : Nat) : Prop where
  tk : Takes X W
  room : Room k X.A
  calm : X.calm = true
  nd : X.N.Nodup
  po : PassesOwn (model X.prog X.w) X.A X.env X.xe
abbrev W0 : WX := fun _ _ _ _ => False
section
variable {X : Cx} {W : WX} {k : Nat}
theorem Cc.blk (c : Cc X W k) (s : Shared) (H : Hp) (scope : Scope) (env : Env) (fp : List Addr) : Cc (X.blk s H scope env fp) W0 k :=
  ⟨takes0, c.room, c.calm, c.nd, PassesOwn.never⟩
theorem Cc.u64 (c : Cc X W k) : X.A.units + 64 < cLine := c.room.units
theorem Cc.u65 (c : Cc X W k) (h : 1 ≤ k := by decide) : X.A.units + 65 < cLine := by
  have := c.room.un
  omega
end
section
variable {X : Cx} {W : WX} {G : Gh} {e a b : Expr} {K : PySem.W.Frag} {F H F' H' F0 H0 : Hp} {σ : L2.St} {env : Ev} {s s' : LS} {v : V} {d : D} {pos : Pos} {k : Nat}
/-! ### tests -/
def asB : D → Option Bool
  | .bool b => some b
  | _ => none
def tst (g : Ev → LS → Out D) (env : Ev) (s : LS) : Out Bool := (g env s).bind fun d s => lift (asB d) s
def tst2 (f : D → D → Option D) (ga gb : Ev → LS → Out D) (env : Ev) (s : LS) : Out Bool := (op2 f ga gb env s).bind fun d s => lift (asB d) s
theorem asB_some {d : D} {b : Bool} (h : asB d = some b) : d = .bool b := by
  cases d <;> simp [asB] at h
  rw [h]
theorem Rp.bl_inv {b : Bool} (h : Rp K F v (.bool b)) : v = .bl b := by cases h; rfl
theorem sb_of_pe {g : Ev → LS → Out D} (h : SE X W G e g) (he : ∀ whole, PySem.isTrue e X.env whole = (do let v ← whole; standAt e.pos; holding [v] (truthy v)) := by intro _; rfl) : SB X W G e (tst g) := by
  obtain ⟨t, h1, h2⟩ := h.use
  refine SB.mk (pt_val h1 he) fun F0 H0 F H σ env s Q r p => h2 F0 H0 F H σ env s _ r (post_bind p fun d s1 x F1 H1 st so rp p1 => ?_)
  cases q : asB d with
  | none => rw [q] at p1; exact p1.elim
  | some b =>
    rw [q] at p1
    cases asB_some q
    cases Rp.bl_inv rp
    exact ⟨b, rfl, p1 b F1 H1 (Step.refl st.sub) so rfl⟩
theorem sb_cmp {op : CmpOp} {ga gb : Ev → LS → Out D} {g : D → D → Option D} (ho : OpS X G (compareOp op) g) (ha : SW X W G a ga) (hb : SW X W G b gb)
    (hm : behindInMarks op b = false := by first | exact nobehind _ (by decide) (by decide) | rfl) : SB X W G (.Compare a [op] [b] pos) (tst2 g ga gb) := by
  obtain ⟨r, ho, hr⟩ := ho
  obtain ⟨ta, ha, ka⟩ := ha.use
  obtain ⟨tb, hb, kb⟩ := hb.use
  refine SB.mk (pt_cmpR ho ha hb hm) fun F0 H0 F H σ env s Q rl p => ?_
  have e1 : ∀ {α β γ : Type} (o : Out α) (f : α → LS → Out β) (g : β → LS → Out γ), (o.bind f).bind g = o.bind fun a s => (f a s).bind g := fun o f g => by cases o <;> rfl
  unfold tst2 op2 at p
  rw [e1] at p
  refine ka F0 H0 F H σ env s _ rl (post_bind p fun dx s1 x F1 H1 st1 so1 rx p1 => ?_)
  rw [e1] at p1
  have rl1 := rl.step st1 so1
  refine kb F0 H0 F1 H1 σ env s1 _ rl1 (post_bind p1 fun dy s2 y F2 H2 st2 so2 ry p2 => ?_)
  cases q : g dx dy with
  | none => rw [q] at p2; exact p2.elim
  | some d =>
    rw [q] at p2
    refine hr F2 H2 x y dx dy d _ st2.sub (Wd.step rx st1.sub st2) ry q fun v F' H' st rp => ?_
    change Post _ _ _ _ _ _ _ _ _ (lift (asB d) s2) at p2
    cases q : asB d with
    | none => rw [q] at p2; exact p2.elim
    | some b =>
      rw [q] at p2
      cases asB_some q
      cases Rp.bl_inv rp
      exact ⟨b, rfl, p2 b F' H' st.weak (so2.pure st) rfl⟩
def andB (ga gb : Ev → LS → Out Bool) (env : Ev) (s : LS) : Out Bool := (ga env s).bind fun b s => if b then gb env s else .ok false s
def orB (ga gb : Ev → LS → Out Bool) (env : Ev) (s : LS) : Out Bool := (ga env s).bind fun b s => if b then .ok true s else gb env s
def notB (ga : Ev → LS → Out Bool) (env : Ev) (s : LS) : Out Bool := (ga env s).bind fun b s => .ok (!b) s
variable {rest : List Expr} {ga gb : Ev → LS → Out Bool}
theorem sb_w (h : SBW X W G e ga) : SB X W G e ga := PW.pt h
theorem sbw_and1 (ha : SB X W G a ga) : SBW X W G (.BoolOp .And [a] pos) ga := by
  obtain ⟨t, h1, h2⟩ := ha.use
  exact SBW.mk (pw_and1 h1) h2
theorem sbw_or1 (ha : SB X W G a ga) : SBW X W G (.BoolOp .Or [a] pos) ga := by
  obtain ⟨t, h1, h2⟩ := ha.use
  exact SBW.mk (pw_or1 h1) h2
theorem sbw_and (ha : SB X W G a ga) (hb : SBW X W G (.BoolOp .And (b :: rest) pos) gb) : SBW X W G (.BoolOp .And (a :: b :: rest) pos) (andB ga gb) := by
  obtain ⟨ta, ha, ka⟩ := ha.use
  obtain ⟨tb, hb, kb⟩ := hb.use
  refine SBW.mk (pw_and ha hb) fun F0 H0 F H σ env s Q rl p => ?_
  refine ka F0 H0 F H σ env s _ rl (post_bind p fun c s1 x F1 H1 st1 so1 rx p1 => ?_)
  cases rx
  cases c with
  | true => exact iteT (kb F0 H0 F1 H1 σ env s1 _ (rl.step st1 so1) p1)
  | false => exact iteF (p1 false F1 H1 (Step.refl st1.sub) so1 rfl)
theorem sbw_or (ha : SB X W G a ga) (hb : SBW X W G (.BoolOp .Or (b :: rest) pos) gb) : SBW X W G (.BoolOp .Or (a :: b :: rest) pos) (orB ga gb) := by
  obtain ⟨ta, ha, ka⟩ := ha.use
  obtain ⟨tb, hb, kb⟩ := hb.use
  refine SBW.mk (pw_or ha hb) fun F0 H0 F H σ env s Q rl p => ?_
  refine ka F0 H0 F H σ env s _ rl (post_bind p fun c s1 x F1 H1 st1 so1 rx p1 => ?_)
  cases rx
  cases c with
  | true => exact iteT (p1 true F1 H1 (Step.refl st1.sub) so1 rfl)
  | false => exact iteF (kb F0 H0 F1 H1 σ env s1 _ (rl.step st1 so1) p1)
theorem sb_not (ha : SB X W G a ga) : SB X W G (.UnaryOp .Not a pos) (notB ga) := by
  obtain ⟨ta, ha, ka⟩ := ha.use
  refine SB.mk (pt_not ha) fun F0 H0 F H σ env s Q rl p => ?_
  refine ka F0 H0 F H σ env s _ rl (post_bind p fun c s1 x F1 H1 st1 so1 rx p1 => ?_)
  cases rx
  exact p1 (!c) F1 H1 (Step.refl st1.sub) so1 rfl
/-! ### truth values as values -/
def andD (ga gb : Ev → LS → Out D) (env : Ev) (s : LS) : Out D := (ga env s).bind fun d s => (lift (asB d) s).bind fun b s => if b then gb env s else .ok (.bool false) s
def orD (ga gb : Ev → LS → Out D) (env : Ev) (s : LS) : Out D := (ga env s).bind fun d s => (lift (asB d) s).bind fun b s => if b then .ok (.bool true) s else gb env s
def notD (ga : Ev → LS → Out D) (env : Ev) (s : LS) : Out D := (ga env s).bind fun d s => (lift (asB d) s).bind fun b s => .ok (.bool !b) s
variable {ha1 hb1 : Ev → LS → Out D}
theorem se_one {op} (h : SE X W G a ha1) : SE X W G (.BoolOp op [a] pos) ha1 := by
  obtain ⟨t, h1, h2⟩ := h.use
  exact SG.mk (pe_one h1) h2
theorem se_and (ha : SE X W G a ha1) (hb : SE X W G (.BoolOp .And (b :: rest) pos) hb1) : SE X W G (.BoolOp .And (a :: b :: rest) pos) (andD ha1 hb1) := by
  obtain ⟨ta, ha, ka⟩ := ha.use
  obtain ⟨tb, hb, kb⟩ := hb.use
  refine SG.mk (pe_and ha hb) fun F0 H0 F H σ env s Q rl p => ?_
  refine ka F0 H0 F H σ env s _ rl (post_bind p fun d s1 x F1 H1 st1 so1 rx p1 => ?_)
  cases q : asB d with
  | none => rw [q] at p1; exact p1.elim
  | some c =>
    rw [q] at p1
    cases asB_some q
    cases Rp.bl_inv rx
    refine ⟨c, rfl, ?_⟩
    cases c with
    | true => exact iteT (kb F0 H0 F1 H1 σ env s1 _ (rl.step st1 so1) p1)
    | false => exact iteF (p1 (.bl false) F1 H1 (Step.refl st1.sub) so1 (.bl false))
theorem se_or (ha : SE X W G a ha1) (hb : SE X W G (.BoolOp .Or (b :: rest) pos) hb1) : SE X W G (.BoolOp .Or (a :: b :: rest) pos) (orD ha1 hb1) := by
  obtain ⟨ta, ha, ka⟩ := ha.use
  obtain ⟨tb, hb, kb⟩ := hb.use
  refine SG.mk (pe_or ha hb) fun F0 H0 F H σ env s Q rl p => ?_
  refine ka F0 H0 F H σ env s _ rl (post_bind p fun d s1 x F1 H1 st1 so1 rx p1 => ?_)
  cases q : asB d with
  | none => rw [q] at p1; exact p1.elim
  | some c =>
    rw [q] at p1
    cases asB_some q
    cases Rp.bl_inv rx
    refine ⟨c, rfl, ?_⟩
    cases c with
    | true => exact iteT (p1 (.bl true) F1 H1 (Step.refl st1.sub) so1 (.bl true))
    | false => exact iteF (kb F0 H0 F1 H1 σ env s1 _ (rl.step st1 so1) p1)
theorem se_not (ha : SE X W G a ha1) : SE X W G (.UnaryOp .Not a pos) (notD ha1) := by
  obtain ⟨ta, ha, ka⟩ := ha.use
  refine SG.mk (pe_not ha) fun F0 H0 F H σ env s Q rl p => ?_
  refine ka F0 H0 F H σ env s _ rl (post_bind p fun d s1 x F1 H1 st1 so1 rx p1 => ?_)
  cases q : asB d with
  | none => rw [q] at p1; exact p1.elim
  | some c =>
    rw [q] at p1
    cases asB_some q
    cases Rp.bl_inv rx
    exact ⟨c, rfl, p1 (.bl (!c)) F1 H1 (Step.refl st1.sub) so1 (.bl _)⟩
def ifG {α : Type} (gc : Ev → LS → Out Bool) (ga gb : Ev → LS → Out α) (env : Ev) (s : LS) : Out α := (gc env s).bind fun b s => if b then ga env s else gb env s
theorem sg_if {α : Type} {R : RR α V} {c : Expr} {gc : Ev → LS → Out Bool} {fa fb : Ev → LS → Out α} (hc : SB X W G c gc) (ha : SG R X W G a fa) (hb : SG R X W G b fb) : SG R X W G (.IfExp c a b pos) (ifG gc fa fb) := by
  obtain ⟨tc, hc, kc⟩ := hc.use
  obtain ⟨ta, ha, ka⟩ := ha.use
  obtain ⟨tb, hb, kb⟩ := hb.use
  refine SG.mk (pe_ifExp hc ha hb) fun F0 H0 F H σ env s Q rl p => ?_
  refine kc F0 H0 F H σ env s _ rl (post_bind p fun c s1 x F1 H1 st1 so1 rx p1 => ?_)
  cases rx
  cases c with
  | true => exact iteT (ka F0 H0 F1 H1 σ env s1 _ (rl.step st1 so1) p1)
  | false => exact iteF (kb F0 H0 F1 H1 σ env s1 _ (rl.step st1 so1) p1)
/-! ### chains of comparisons -/
def chD (f f' : D → D → Option D) (ga gb gc : Ev → LS → Out D) (env : Ev) (s : LS) : Out D :=
  (ga env s).bind fun x s => (gb env s).bind fun y s => (lift ((f x y).bind asB) s).bind fun b s => if b then (gc env s).bind fun z s => lift (f' y z) s else .ok (.bool false) s
theorem se_chain {op op' : CmpOp} {c : Expr} {ga gb gc : Ev → LS → Out D} {g g' : D → D → Option D} (ho : OpS X G (compareOp op) g) (ho' : OpS X G (compareOp op') g') (ha : SW X W G a ga) (hb : SW X W G b gb) (hc : SW X W G c gc)
    (hm : lastMarks [op, op'] [b, c] = false := by with_unfolding_all rfl) : SE X W G (.Compare a [op, op'] [b, c] pos) (chD g g' ga gb gc) := by
  obtain ⟨r, ho, hr⟩ := ho
  obtain ⟨r', ho', hr'⟩ := ho'
  obtain ⟨ta, ha, ka⟩ := ha.use
  obtain ⟨tb, hb, kb⟩ := hb.use
  obtain ⟨tc, hc, kc⟩ := hc.use
  refine SG.mk (pe_chain ho ho' ha hb hc hm) fun F0 H0 F H σ env s Q rl p => ?_
  refine ka F0 H0 F H σ env s _ rl (post_bind p fun dx s1 x F1 H1 st1 so1 rx p1 => ?_)
  have rl1 := rl.step st1 so1
  refine kb F0 H0 F1 H1 σ env s1 _ rl1 (post_bind p1 fun dy s2 y F2 H2 st2 so2 ry p2 => ?_)
  cases q : g dx dy with
  | none => rw [q] at p2; exact p2.elim
  | some d =>
    rw [q] at p2
    cases q2 : asB d with
    | none => simp only [Option.bind, q2] at p2; exact p2.elim
    | some bb =>
      simp only [Option.bind, q2] at p2
      refine hr F2 H2 x y dx dy d _ st2.sub (Wd.step rx st1.sub st2) ry q fun v F3 H3 st3 rp => ?_
      cases asB_some q2
      cases Rp.bl_inv rp
      refine ⟨bb, rfl, ?_⟩
      have so3 := so2.pure st3
      have p3 := Post.step p2 (st3.weak (G := G))
      cases bb with
      | false => exact p3 (.bl false) F3 H3 (Step.refl st3.sub) so3 (.bl false)
      | true =>
        change Post _ _ _ _ _ _ _ _ _ ((gc env s2).bind _) at p3
        refine kc F0 H0 F3 H3 σ env s2 _ ((rl1.step st2 so2).step st3.weak so3) (post_bind p3 fun dz s4 z F4 H4 st4 so4 rz p4 => ?_)
        cases q4 : g' dy dz with
        | none => rw [q4] at p4; exact p4.elim
        | some dd =>
          rw [q4] at p4
          exact hr' F4 H4 y z dy dz dd Q st4.sub (Wd.step (Wd.step ry st2.sub st3.weak) st3.sub st4) rz q4 fun v F' H' st rp => p4 v F' H' st.weak (so4.pure st) rp
def chB (f f' : D → D → Option D) (ga gb gc : Ev → LS → Out D) (env : Ev) (s : LS) : Out Bool := (chD f f' ga gb gc env s).bind fun d s => lift (asB d) s
theorem sb_chain {op op' : CmpOp} {c : Expr} {ga gb gc : Ev → LS → Out D} {g g' : D → D → Option D} (ho : OpS X G (compareOp op) g) (ho' : OpS X G (compareOp op') g') (ha : SW X W G a ga) (hb : SW X W G b gb) (hc : SW X W G c gc)
    (hm : lastMarks [op, op'] [b, c] = false := by with_unfolding_all rfl) : SB X W G (.Compare a [op, op'] [b, c] pos) (chB g g' ga gb gc) := by
  have e1 : ∀ {α β γ : Type} (o : Out α) (f : α → LS → Out β) (g : β → LS → Out γ), (o.bind f).bind g = o.bind fun a s => (f a s).bind g := fun o f g => by cases o <;> rfl
  obtain ⟨r, ho, hr⟩ := ho
  obtain ⟨r', ho', hr'⟩ := ho'
  obtain ⟨ta, ha, ka⟩ := ha.use
  obtain ⟨tb, hb, kb⟩ := hb.use
  obtain ⟨tc, hc, kc⟩ := hc.use
  refine SB.mk (pt_chain ho ho' ha hb hc hm) fun F0 H0 F H σ env s Q rl p => ?_
  unfold chB chD at p
  rw [e1] at p
  refine ka F0 H0 F H σ env s _ rl (post_bind p fun dx s1 x F1 H1 st1 so1 rx p1 => ?_)
  rw [e1] at p1
  have rl1 := rl.step st1 so1
  refine kb F0 H0 F1 H1 σ env s1 _ rl1 (post_bind p1 fun dy s2 y F2 H2 st2 so2 ry p2 => ?_)
  rw [e1] at p2
  cases q : g dx dy with
  | none => rw [q] at p2; exact p2.elim
  | some d =>
    rw [q] at p2
    cases q2 : asB d with
    | none => simp only [Option.bind, q2] at p2; exact p2.elim
    | some bb =>
      simp only [Option.bind, q2] at p2
      refine hr F2 H2 x y dx dy d _ st2.sub (Wd.step rx st1.sub st2) ry q fun v F3 H3 st3 rp => ?_
      cases asB_some q2
      cases Rp.bl_inv rp
      refine ⟨bb, rfl, ?_⟩
      have so3 := so2.pure st3
      have p3 := Post.step p2 (st3.weak (G := G))
      cases bb with
      | false => exact iteF ⟨false, rfl, p3 false F3 H3 (Step.refl st3.sub) so3 rfl⟩
      | true =>
        refine iteT ?_
        change Post _ _ _ _ _ _ _ _ _ (((gc env s2).bind _).bind _) at p3
        rw [e1] at p3
        refine kc F0 H0 F3 H3 σ env s2 _ ((rl1.step st2 so2).step st3.weak so3) (post_bind p3 fun dz s4 z F4 H4 st4 so4 rz p4 => ?_)
        cases q4 : g' dy dz with
        | none => rw [q4] at p4; exact p4.elim
        | some dd =>
          rw [q4] at p4
          refine hr' F4 H4 y z dy dz dd _ st4.sub (Wd.step (Wd.step ry st2.sub st3.weak) st3.sub st4) rz q4 fun v F' H' st rp => ?_
          change Post _ _ _ _ _ _ _ _ _ (lift (asB dd) s4) at p4
          cases q5 : asB dd with
          | none => rw [q5] at p4; exact p4.elim
          | some b5 =>
            rw [q5] at p4
            cases asB_some q5
            cases Rp.bl_inv rp
            exact ⟨b5, rfl, p4 b5 F' H' st.weak (so4.pure st) rfl⟩
def negI : D → Option D
  | .int i => some (.int (-i))
  | _ => none
theorem se_neg {ga : Ev → LS → Out D} (ha : SE X W G a ga) : SE X W G (.UnaryOp .USub a pos) (op1 negI ga) := by
  obtain ⟨ta, ha, ka⟩ := ha.use
  refine SG.mk (pe_un un_neg ha) fun F0 H0 F H σ env s Q rl p => ?_
  refine ka F0 H0 F H σ env s _ rl (post_bind p fun dx s1 x F1 H1 st1 so1 rx p1 => ?_)
  cases q : negI dx with
  | none => rw [q] at p1; exact p1.elim
  | some d =>
    rw [q] at p1
    cases dx <;> simp only [negI, Option.some.injEq, reduceCtorEq] at q
    subst q
    cases rx
    exact ⟨_, rfl, p1 _ F1 H1 (Step.refl st1.sub) so1 (.int _)⟩
/-! ### rows of expressions -/
def nilG {α : Type} (_ : Ev) (s : LS) : Out (List α) := .ok [] s
def consG {α : Type} (ga : Ev → LS → Out α) (gr : Ev → LS → Out (List α)) (env : Ev) (s : LS) : Out (List α) := (ga env s).bind fun a s => (gr env s).bind fun r s => .ok (a :: r) s
def WdAll (K : PySem.W.Frag) (G : Gh) (F H : Hp) : List V → List D → Prop
  | [], [] => True
  | v :: vs, d :: ds => Wd K G F H v d ∧ WdAll K G F H vs ds
  | _, _ => False
def RWs : RR (List D) (List V) := ⟨fun K G _ F' H' vs ds => WdAll K G F' H' vs ds, fun _ r => r⟩
abbrev SAs := SLg RAs
abbrev SDs := SLg RDs
abbrev SWs := SLg RWs
structure LR {α : Type} (Re : RR α V) (Rl : RR (List α) (List V)) : Prop where
  nil : ∀ K G H F' H', Rl.r K G H F' H' [] []
  cons : ∀ K G H F' H' v vs a as, Re.r K G H F' H' v a → Rl.r K G H F' H' vs as → Rl.r K G H F' H' (v :: vs) (a :: as)
  step : ∀ K G H F1 H1 F2 H2 v a, Re.r K G H F1 H1 v a → (∀ a o, F1 a = some o → H1 a = some o) → Step G F1 H1 F2 H2 → Re.r K G H F2 H2 v a
  any : ∀ {K G H H2 F' H' v a}, Re.r K G H F' H' v a → Re.r K G H2 F' H' v a
  anys : ∀ {K G H H2 F' H' v a}, Rl.r K G H F' H' v a → Rl.r K G H2 F' H' v a
theorem lrA : LR RA RAs := ⟨fun _ _ _ _ _ => trivial, fun _ _ _ _ _ _ _ _ _ a b => ⟨a, b⟩, fun _ _ _ _ _ _ _ _ _ r sub st => AV.step sub st r, fun r => r, fun r => r⟩
theorem lrD : LR RD RDs := ⟨fun _ _ _ _ _ => .nil, fun _ _ _ _ _ _ _ _ _ a b => .cons a b, fun _ _ _ _ _ _ _ _ _ r sub st => Rp.mono (st.inc sub) r, fun r => r, fun r => r⟩
theorem lrW : LR RWd RWs := ⟨fun _ _ _ _ _ => trivial, fun _ _ _ _ _ _ _ _ _ a b => ⟨a, b⟩, fun _ _ _ _ _ _ _ _ _ r sub st => Wd.step r sub st, fun r => r, fun r => r⟩
theorem sl_nil {α : Type} {Re : RR α V} {Rl : RR (List α) (List V)} (L : LR Re Rl) : SLg Rl X W G [] nilG :=
  SLg.mk pa_nil fun F0 H0 F H σ env s Q rl p => p [] F H (Step.refl rl.sub) rl.so (L.nil _ _ _ _ _)
theorem sl_cons {α : Type} {Re : RR α V} {Rl : RR (List α) (List V)} {es : List Expr} {ga : Ev → LS → Out α} {gr : Ev → LS → Out (List α)} (L : LR Re Rl) (ha : SG Re X W G e ga) (hr : SLg Rl X W G es gr)
    (hs : starEach (e :: es) X.env = (false, eval e X.env) :: starEach es X.env := by rfl) : SLg Rl X W G (e :: es) (consG ga gr) := by
  obtain ⟨ta, ha, ka⟩ := ha.use
  obtain ⟨tr, hr, kr⟩ := hr.use
  refine SLg.mk (pa_cons ha hr hs) fun F0 H0 F H σ env s Q rl p => ?_
  refine ka F0 H0 F H σ env s _ rl (post_bind p fun dx s1 x F1 H1 st1 so1 rx p1 => ?_)
  refine kr F0 H0 F1 H1 σ env s1 _ (rl.step st1 so1) (post_bind p1 fun dy s2 y F2 H2 st2 so2 ry p2 => ?_)
  exact p2 (x :: y) F2 H2 (Step.refl st2.sub) so2 (L.cons _ _ _ _ _ _ _ _ _ (L.any (L.step _ _ _ _ _ _ _ _ _ rx st1.sub st2)) (L.anys ry))
end
end DS
end

section
set_option Elab.async false
set_option linter.all false
set_option maxRecDepth 100000
set_option autoImplicit false
namespace DS
open PySem PySem.Spec L2
open PyProof.Rows hiding St
section
variable {X : Cx} {W : WX} {G : Gh} {e a b : Expr} {es : List Expr} {K : PySem.W.Frag} {F H F' H' F0 H0 : Hp} {σ : L2.St} {env : Ev} {s s' : LS} {v : V} {d : D} {pos : Pos} {k : Nat}
/-! ### displays -/
def tupG (g : Ev → LS → Out (List D)) (env : Ev) (s : LS) : Out D := (g env s).bind fun ds s => if ds.length ≤ sizeLine then .ok (.tuple ds) s else .bad
def lstG (g : Ev → LS → Out (List D)) (env : Ev) (s : LS) : Out (List D) := (g env s).bind fun ds s => if ds.length ≤ sizeLine then .ok ds s else .bad
theorem se_tup {x1} {g : Ev → LS → Out (List D)} (h : SDs X W G es g) : SE X W G (.Tuple es x1 pos) (tupG g) := by
  obtain ⟨t, h1, h2⟩ := h.use
  refine SG.mk (pe_tup h1) fun F0 H0 F H σ env s Q r p => h2 F0 H0 F H σ env s _ r (post_bind p fun ds s1 xs F1 H1 st so rp p1 => ?_)
  split at p1
  · rename_i hz
    refine ⟨by rw [rp.length]; exact hz, fun q hq => ?_⟩
    have sn := step_new (F := F1) (o := .tup xs) st.sub hq
    exact p1 (.ref q) _ _ sn.weak (so.pure sn) (.tup (SqT.of upd_same) (rp.mono (sn.inc st.sub)))
  · exact p1.elim
theorem sf_lst {g : Ev → LS → Out (List D)} (h : SDs X W G es g) : SF X W G (.List es pos) (lstG g) := by
  obtain ⟨t, h1, h2⟩ := h.use
  refine SG.mk (pe_lst h1) fun F0 H0 F H σ env s Q r p => h2 F0 H0 F H σ env s _ r (post_bind p fun ds s1 xs F1 H1 st so rp p1 => ?_)
  split at p1
  · rename_i hz
    refine ⟨by rw [rp.length]; exact hz, fun q hq => ?_⟩
    have sn := step_own (F := F1) (o := .lst xs) st.sub hq
    exact p1 (.ref q) _ _ sn.weak (so.pure sn) ⟨q, xs, rfl, hq, upd_same, none_of_sub st.sub hq, not_has so hq, rp⟩
  · exact p1.elim
/-! ### subscripts -/
def ixD : D → D → Option D
  | .list xs, .int i => atI xs i
  | .tuple xs, .int i => atI xs i
  | .str z, .int i => if z.length ≤ sizeLine then (atI z.cps.toList i).map fun c => .str ⟨#[c]⟩ else none
  | _, _ => none
theorem RpAll.atI : ∀ {vs : List V} {ds : List D} {i : Int}, RpAll K F vs ds → L2.atI ds i = some d → ∃ v, L2.atI vs i = some v ∧ Rp K F v d := fun {vs ds i} r h => by
  unfold L2.atI at h ⊢
  rw [r.length]
  cases q : ixN ds.length i with
  | none => rw [q] at h; cases h
  | some j =>
    rw [q] at h
    exact RpAll.get (i := j) r h
theorem se_ix {ga gb : Ev → LS → Out D} (ha : SW X W G a ga) (hb : SE X W G b gb) (hs : PlainIx b := by intro _ _; rfl) : SE X W G (.Subscript a b pos) (op2 ixD ga gb) := by
  obtain ⟨ta, ha, ka⟩ := ha.use
  obtain ⟨tb, hb, kb⟩ := hb.use
  refine SG.mk (pe_ix ix_seq ha hb hs) fun F0 H0 F H σ env s Q rl p => ?_
  refine ka F0 H0 F H σ env s _ rl (post_bind p fun dx s1 x F1 H1 st1 so1 rx p1 => ?_)
  have rl1 := rl.step st1 so1
  refine kb F0 H0 F1 H1 σ env s1 _ rl1 (post_bind p1 fun dy s2 y F2 H2 st2 so2 ry p2 => ?_)
  have rx2 := Wd.step rx st1.sub st2
  cases q : ixD dx dy with
  | none => rw [q] at p2; exact p2.elim
  | some d =>
    rw [q] at p2
    have fin : ∀ {v}, Rp X.K F2 v d → Q v H2 := fun {v} rp => p2 v F2 H2 (Step.refl st2.sub) so2 rp
    unfold ixD at q
    split at q
    · cases ry
      obtain ⟨pp, us, rfl, hp, rr⟩ := Wd.lst rx2 st2.sub
      obtain ⟨v, e1, rv⟩ := rr.atI q
      exact .inl ⟨pp, us, _, v, rfl, rfl, SqL.of hp, e1, fin rv⟩
    · cases ry
      obtain ⟨pp, us, rfl, hp, rr⟩ := Wd.tup rx2
      obtain ⟨v, e1, rv⟩ := rr.atI q
      exact .inr (.inl ⟨pp, us, _, v, rfl, rfl, sqT_mono st2.sub hp, e1, fin rv⟩)
    · cases ry
      split at q
      · rename_i z i hz
        cases q3 : atI z.cps.toList i with
        | none => rw [q3] at q; cases q
        | some c =>
          rw [q3] at q
          cases q
          have ex := Wd.str rx2
          subst ex
          exact .inr (.inr ⟨z, i, c, rfl, rfl, hz, q3, fin (.str _)⟩)
      · cases q
    · cases q
def cutL {α : Type} (xs : List α) (lo hi : Option Int) : List α := List.take (HT.sIx xs.length xs.length hi - HT.sIx xs.length 0 lo) (List.drop (HT.sIx xs.length 0 lo) xs)
def slD : D → Option Int → Option Int → Option D
  | .list xs, lo, hi => some (.list (cutL xs lo hi))
  | .tuple xs, lo, hi => some (.tuple (cutL xs lo hi))
  | .str z, lo, hi => if z.length ≤ sizeLine then some (.str (cutS z lo hi)) else none
  | _, _, _ => none
def ROI : RR (Option Int) (Option Int) := ⟨fun _ _ _ _ _ b a => b = a, fun _ r => r⟩
def SO (X : Cx) (W : WX) (G : Gh) (e : Option Expr) (g : Ev → LS → Out (Option Int)) : Prop := PO X e (tG X.K X.mg W G ROI g)
def noP (_ : Ev) (s : LS) : Out (Option Int) := .ok none s
def asI : D → Option Int
  | .int i => some i
  | _ => none
def someP (g : Ev → LS → Out D) (env : Ev) (s : LS) : Out (Option Int) := (g env s).bind fun d s => lift ((asI d).map some) s
theorem SO.mk {e : Option Expr} {g : Ev → LS → Out (Option Int)} {t : TO} (h : PO X e t) (k : ∀ F0 H0 F H σ env s Q, Rel X.K G F0 H0 F H σ env s → Post X.K X.mg W G F H σ ROI Q (g env s) → t σ H Q) : SO X W G e g :=
  ⟨fun pins s σ H Q I ⟨F0, H0, F, env, s', r, p⟩ => h.run pins s σ H Q I (k F0 H0 F H σ env s' Q r p)⟩
theorem so_none : SO X W G none noP := SO.mk po_none fun F0 H0 F H σ env s Q r p => p none F H (Step.refl r.sub) r.so rfl
theorem asI_some {d : D} {i : Int} (h : asI d = some i) : d = .int i := by
  cases d <;> simp [asI] at h
  rw [h]
theorem so_some {g : Ev → LS → Out D} (h : SE X W G e g) : SO X W G (some e) (someP g) := by
  obtain ⟨t, h1, h2⟩ := h.use
  refine SO.mk (po_some h1) fun F0 H0 F H σ env s Q r p => h2 F0 H0 F H σ env s _ r (post_bind p fun d s1 x F1 H1 st so rp p1 => ?_)
  cases q : asI d with
  | none => rw [q] at p1; exact p1.elim
  | some i =>
    rw [q] at p1
    cases asI_some q
    cases rp
    exact ⟨i, rfl, p1 (some i) F1 H1 (Step.refl st.sub) so rfl⟩
def slG (ga : Ev → LS → Out D) (gl gh : Ev → LS → Out (Option Int)) (env : Ev) (s : LS) : Out D := (ga env s).bind fun x s => (gl env s).bind fun l s => (gh env s).bind fun h s => lift (slD x l h) s
theorem cut_eq (xs : List V) (lo hi : Option Int) : cutV xs lo hi = cutL xs lo hi := rfl
theorem RpAll.cut {vs : List V} {ds : List D} (r : RpAll K F vs ds) (lo hi : Option Int) : RpAll K F (cutL vs lo hi) (cutL ds lo hi) := by
  unfold cutL
  rw [r.length]
  exact (r.drop _).take _
theorem cut_all {vs : List V} {lo hi : Option Int} (h : HT.sIx vs.length 0 lo = 0 ∧ HT.sIx vs.length vs.length hi = vs.length) : cutL vs lo hi = vs := by
  unfold cutL
  rw [h.1, h.2, Nat.sub_zero, List.drop_zero, List.take_length]
theorem se_slice {p2 : Pos} {lo hi : Option Expr} {ga : Ev → LS → Out D} {gl gh : Ev → LS → Out (Option Int)} (ha : SW X W G a ga) (hl : SO X W G lo gl) (hh : SO X W G hi gh) : SE X W G (.Subscript a (.Slice lo hi none p2) pos) (slG ga gl gh) := by
  obtain ⟨ta, ha, ka⟩ := ha.use
  refine SG.mk (pe_slice ((sl_list.or sl_tupA).or sl_str) ha hl hh) fun F0 H0 F H σ env s Q rl p => ?_
  refine ka F0 H0 F H σ env s _ rl (post_bind p fun dx s1 x F1 H1 st1 so1 rx p1 => ?_)
  have rl1 := rl.step st1 so1
  refine ⟨F0, H0, F1, env, s1, rl1, post_bind p1 fun l s2 l' F2 H2 st2 so2 rl' p2 => ?_⟩
  have rl2 := rl1.step st2 so2
  refine ⟨F0, H0, F2, env, s2, rl2, post_bind p2 fun h s3 h' F3 H3 st3 so3 rh' p3 => ?_⟩
  have e1 : l' = l := rl'
  have e2 : h' = h := rh'
  subst e1; subst e2
  have rx3 := Wd.step (Wd.step rx st1.sub st2) st2.sub st3
  cases q : slD dx l' h' with
  | none => rw [q] at p3; exact p3.elim
  | some d =>
    rw [q] at p3
    unfold slD at q
    split at q
    · cases q
      obtain ⟨pp, us, rfl, hp, rr⟩ := Wd.lst rx3 st3.sub
      refine .inl (.inl ⟨pp, us, rfl, SqL.of hp, fun q hq => ?_⟩)
      have sn := step_new (F := F3) (o := .lst (cutV us l' h')) st3.sub hq
      exact p3 (.ref q) _ _ sn.weak (so3.pure sn) (.lst upd_same ((RpAll.cut rr l' h').mono (sn.inc st3.sub)))
    · cases q
      obtain ⟨pp, us, rfl, hp, rr⟩ := Wd.tup rx3
      refine .inl (.inr ⟨pp, us, rfl, sqT_mono st3.sub hp, fun hz => ?_, fun _ q hq => ?_⟩)
      · have rr2 := RpAll.cut rr l' h'
        rw [cut_all hz] at rr2
        exact p3 (.ref pp) F3 H3 (Step.refl st3.sub) so3 (.tup hp rr2)
      · have sn := step_new (F := F3) (o := .tup (cutV us l' h')) st3.sub hq
        exact p3 (.ref q) _ _ sn.weak (so3.pure sn) (.tup (SqT.of upd_same) ((RpAll.cut rr l' h').mono (sn.inc st3.sub)))
    · split at q
      · rename_i hz
        cases q
        have ex := Wd.str rx3
        subst ex
        exact .inr ⟨_, rfl, hz, p3 (.str _) F3 H3 (Step.refl st3.sub) so3 (.str _)⟩
      · cases q
    · cases q
/-! ### calls of what is built in -/
def CallS (X : Cx) (G : Gh) (f : Value) (g : List D → Option D) : Prop :=
  ∃ r, CallR X f r ∧ ∀ F H xs ds d Q, (∀ a o, F a = some o → H a = some o) → WdAll X.K G F H xs ds → g ds = some d → (∀ v F' H', Step none F H F' H' → Rp X.K F' v d → Q v H') → r xs H Q
def callB (g : List D → Option D) (gas : Ev → LS → Out (List D)) (env : Ev) (s : LS) : Out D := (gas env s).bind fun ds s => lift (g ds) s
theorem callB_fin {F H : Hp} {g : List D → Option D} {r : List V → Hp → VK → Prop} {Q : VK} {mg : Str → Option Value} {s : LS} {xs : List V} {ds : List D}
    (hr : ∀ F H xs ds d Q, (∀ a o, F a = some o → H a = some o) → WdAll K G F H xs ds → g ds = some d → (∀ v F' H', Step none F H F' H' → Rp K F' v d → Q v H') → r xs H Q)
    (sub : ∀ a o, F a = some o → H a = some o) (so : StOk G F H s) (rx : WdAll K G F H xs ds) (p : Post K mg W G F H σ RD Q (lift (g ds) s)) : r xs H Q := by
  cases q : g ds with
  | none => rw [q] at p; exact p.elim
  | some d =>
    rw [q] at p
    exact hr F H xs ds d Q sub rx q fun v F' H' st rp => p v F' H' st.weak (so.pure st) rp
theorem se_callB {x : Str} {p pos : Pos} {id : String} {g : List D → Option D} {gas : Ev → LS → Out (List D)} (hc : CallS X G (.builtin id) g) (hg : Gl X x) (hm : X.mg x = none) (hv : bootBuiltins x = some (.builtin id)) (ha : SWs X W G (e :: es) gas)
    (hn : x ≠ "__name__" := by decide) (hd : (x == ("__debug__" : Str)) = false := by decide) (he : starEach (e :: es) X.env = (false, eval e X.env) :: starEach es X.env := by rfl) (hpl : (backTo pos (starEach es X.env)).any (·.1) = false := by rfl) :
    SE X W G (.Call (.Name x p) (e :: es) [] pos) (callB g gas) := by
  obtain ⟨r, hc, hr⟩ := hc
  obtain ⟨t, h1, h2⟩ := ha.use
  exact SG.mk (pe_callB hc hg hm hv h1 hn hd he hpl) fun F0 H0 F H σ env s Q rl p => h2 F0 H0 F H σ env s _ rl (post_bind p fun ds s1 xs F1 H1 st so rx p1 => callB_fin hr st.sub so rx p1)
theorem se_callTy {x : Str} {p pos : Pos} {T : String} {g : List D → Option D} {gas : Ev → LS → Out (List D)} (hc : CallS X G (.type T) g) (hg : Gl X x) (hm : X.mg x = none) (hv : bootBuiltins x = some (.type T)) (ha : SWs X W G (e :: es) gas)
    (hn : x ≠ "__name__" := by decide) (hd : (x == ("__debug__" : Str)) = false := by decide) (he : starEach (e :: es) X.env = (false, eval e X.env) :: starEach es X.env := by rfl) (hpl : (backTo pos (starEach es X.env)).any (·.1) = false := by rfl) :
    SE X W G (.Call (.Name x p) (e :: es) [] pos) (callB g gas) := by
  obtain ⟨r, hc, hr⟩ := hc
  obtain ⟨t, h1, h2⟩ := ha.use
  exact SG.mk (pe_callTy hc hg hm hv h1 hn hd he hpl) fun F0 H0 F H σ env s Q rl p => h2 F0 H0 F H σ env s _ rl (post_bind p fun ds s1 xs F1 H1 st so rx p1 => callB_fin hr st.sub so rx p1)
theorem WdAll.one {xs : List V} (h : WdAll K G F H xs [d]) : ∃ v, xs = [v] ∧ Wd K G F H v d := by
  match xs, h with
  | [v], h => exact ⟨v, rfl, h.1⟩
theorem WdAll.two {xs : List V} {d1 d2 : D} (h : WdAll K G F H xs [d1, d2]) : ∃ v w, xs = [v, w] ∧ Wd K G F H v d1 ∧ Wd K G F H w d2 := by
  match xs, h with
  | [v, w], h => exact ⟨v, w, rfl, h.1, h.2.1⟩
theorem CallR.or {f : Value} {r1 r2 : List V → Hp → VK → Prop} (h1 : CallR X f r1) (h2 : CallR X f r2) : CallR X f (fun xs H Q => r1 xs H Q ∨ r2 xs H Q) :=
  fun pins s σ H xs us Q I rx h => h.elim (h1 pins s σ H xs us Q I rx) (h2 pins s σ H xs us Q I rx)
def lenF : List D → Option D
  | [.list xs] => some (.int xs.length)
  | [.tuple xs] => some (.int xs.length)
  | [.str z] => if z.length ≤ sizeLine then some (.int z.length) else none
  | _ => none
theorem lenC : CallS X G (.builtin "len") lenF := by
  refine ⟨_, call_len, fun F H xs ds d Q sub hx e q => ?_⟩
  unfold lenF at e
  split at e
  · cases e
    obtain ⟨v, rfl, w⟩ := hx.one
    obtain ⟨pp, us, rfl, hp, rr⟩ := w.lst sub
    exact ⟨_, us.length, rfl, .inl ⟨us, SqL.of hp, rfl⟩, stay sub q (by rw [rr.length]; exact .int _)⟩
  · cases e
    obtain ⟨v, rfl, w⟩ := hx.one
    obtain ⟨pp, us, rfl, hp, rr⟩ := w.tup
    exact ⟨_, us.length, rfl, .inr ⟨us, sqT_mono sub hp, rfl⟩, stay sub q (by rw [rr.length]; exact .int _)⟩
  · split at e
    · rename_i hz
      cases e
      obtain ⟨v, rfl, w⟩ := hx.one
      cases w.str
      exact ⟨_, _, rfl, ⟨hz, rfl⟩, stay sub q (.int _)⟩
    · cases e
  · cases e
def absF : List D → Option D
  | [.int i] => some (.int i.natAbs)
  | _ => none
theorem absC : CallS X G (.builtin "abs") absF := by
  refine ⟨_, call_abs, fun F H xs ds d Q sub hx e q => ?_⟩
  unfold absF at e
  split at e
  · rename_i i
    cases e
    obtain ⟨v, rfl, w⟩ := hx.one
    cases w.int
    have z : (if i < 0 then -i else i) = (i.natAbs : Int) := by split <;> omega
    exact ⟨_, rfl, by rw [z]; exact stay sub q (.int _)⟩
  · cases e
def intsOf : List D → Option (List Int)
  | [] => some []
  | .int i :: r => (intsOf r).map (i :: ·)
  | _ :: _ => none
def bools : List D → Option (List Bool)
  | [] => some []
  | .bool i :: r => (bools r).map (i :: ·)
  | _ :: _ => none
theorem ints_vals : ∀ {ds : List D} {ns : List Int} {vs : List V}, intsOf ds = some ns → RpAll K F vs ds → vs = ns.map V.int
  | [], ns, vs, h, r => by cases h; cases r; rfl
  | d :: ds, ns, vs, h, r => by
    cases d <;> simp [intsOf] at h
    obtain ⟨n, h1, rfl⟩ := h
    cases r with
    | cons a b =>
      cases a
      rw [ints_vals h1 b]
      rfl
theorem bools_vals : ∀ {ds : List D} {ns : List Bool} {vs : List V}, bools ds = some ns → RpAll K F vs ds → vs = ns.map V.bl
  | [], ns, vs, h, r => by cases h; cases r; rfl
  | d :: ds, ns, vs, h, r => by
    cases d <;> simp [bools] at h
    obtain ⟨n, h1, rfl⟩ := h
    cases r with
    | cons a b =>
      cases a
      rw [bools_vals h1 b]
      rfl
def maxL : List Int → Option Int
  | [] => none
  | n :: ns => some (ns.foldl max n)
def minL : List Int → Option Int
  | [] => none
  | n :: ns => some (ns.foldl min n)
theorem foldl_max_le : ∀ (ns : List Int) (n : Int), n ≤ ns.foldl max n ∧ ∀ y ∈ ns, y ≤ ns.foldl max n
  | [], n => ⟨Int.le_refl _, fun y h => by cases h⟩
  | a :: r, n => by
    obtain ⟨h1, h2⟩ := foldl_max_le r (max n a)
    refine ⟨by rw [List.foldl_cons]; omega, fun y hy => ?_⟩
    rw [List.foldl_cons]
    cases hy with
    | head => omega
    | tail _ hy => exact h2 y hy
theorem foldl_max_mem : ∀ (ns : List Int) (n : Int), ns.foldl max n = n ∨ ns.foldl max n ∈ ns
  | [], n => .inl rfl
  | a :: r, n => by
    rw [List.foldl_cons]
    rcases foldl_max_mem r (max n a) with h | h
    · rw [h]
      by_cases z : n ≤ a
      · rw [Int.max_eq_right z]; exact .inr List.mem_cons_self
      · rw [Int.max_eq_left (by omega)]; exact .inl rfl
    · exact .inr (List.mem_cons_of_mem _ h)
theorem foldl_min_le : ∀ (ns : List Int) (n : Int), ns.foldl min n ≤ n ∧ ∀ y ∈ ns, ns.foldl min n ≤ y
  | [], n => ⟨Int.le_refl _, fun y h => by cases h⟩
  | a :: r, n => by
    obtain ⟨h1, h2⟩ := foldl_min_le r (min n a)
    refine ⟨by rw [List.foldl_cons]; omega, fun y hy => ?_⟩
    rw [List.foldl_cons]
    cases hy with
    | head => omega
    | tail _ hy => exact h2 y hy
theorem foldl_min_mem : ∀ (ns : List Int) (n : Int), ns.foldl min n = n ∨ ns.foldl min n ∈ ns
  | [], n => .inl rfl
  | a :: r, n => by
    rw [List.foldl_cons]
    rcases foldl_min_mem r (min n a) with h | h
    · rw [h]
      by_cases z : n ≤ a
      · rw [Int.min_eq_left z]; exact .inl rfl
      · rw [Int.min_eq_right (by omega)]; exact .inr List.mem_cons_self
    · exact .inr (List.mem_cons_of_mem _ h)
theorem maxL_of {ns : List Int} {m M : Int} (h : maxL ns = some M) (h1 : m ∈ ns) (h2 : ∀ y ∈ ns, y ≤ m) : m = M := by
  cases ns with
  | nil => cases h
  | cons n ns =>
    cases h
    have a := (foldl_max_le ns n)
    have b := foldl_max_mem ns n
    have c : ns.foldl max n ≤ m := by
      rcases b with b | b
      · rw [b]; exact h2 n List.mem_cons_self
      · exact h2 _ (List.mem_cons_of_mem _ b)
    have d : m ≤ ns.foldl max n := by
      cases h1 with
      | head => exact a.1
      | tail _ h => exact a.2 m h
    omega
theorem minL_of {ns : List Int} {m M : Int} (h : minL ns = some M) (h1 : m ∈ ns) (h2 : ∀ y ∈ ns, m ≤ y) : m = M := by
  cases ns with
  | nil => cases h
  | cons n ns =>
    cases h
    have a := (foldl_min_le ns n)
    have b := foldl_min_mem ns n
    have c : m ≤ ns.foldl min n := by
      rcases b with b | b
      · rw [b]; exact h2 n List.mem_cons_self
      · exact h2 _ (List.mem_cons_of_mem _ b)
    have d : ns.foldl min n ≤ m := by
      cases h1 with
      | head => exact a.1
      | tail _ h => exact a.2 m h
    omega
def maxF : List D → Option D
  | [.int i, .int j] => some (.int (max i j))
  | [.list ds] => ((intsOf ds).bind maxL).map .int
  | _ => none
def minF : List D → Option D
  | [.int i, .int j] => some (.int (min i j))
  | [.list ds] => ((intsOf ds).bind minL).map .int
  | _ => none
theorem maxC (hc : X.calm = true) : CallS X G (.builtin "max") maxF := by
  refine ⟨_, CallR.or (call_max2 hc) (cr_max hc), fun F H xs ds d Q sub hx e q => ?_⟩
  unfold maxF at e
  split at e
  · cases e
    obtain ⟨v, w, rfl, h1, h2⟩ := hx.two
    cases h1.int; cases h2.int
    rename_i i j
    have z : (if j > i then j else i) = max i j := by split <;> omega
    exact .inl ⟨_, _, rfl, by rw [z]; exact stay sub q (.int _)⟩
  · rename_i es
    obtain ⟨v, rfl, w⟩ := hx.one
    obtain ⟨pp, us, rfl, hp, rr⟩ := w.lst sub
    cases h1 : intsOf es with
    | none => rw [h1] at e; cases e
    | some ns =>
      cases h2 : maxL ns with
      | none => simp [h1, h2] at e
      | some M =>
        simp only [h1, h2, Option.bind, Option.map, Option.some.injEq] at e
        subst e
        have ev := ints_vals h1 rr
        subst ev
        refine .inr ⟨pp, ns, rfl, SqL.of hp, ?_, fun m hm hle => ?_⟩
        · cases ns with
          | nil => cases h2
          | cons _ _ => exact Nat.succ_pos _
        · rw [maxL_of h2 hm hle]
          exact stay sub q (.int _)
  · cases e
theorem minC (hc : X.calm = true) : CallS X G (.builtin "min") minF := by
  refine ⟨_, CallR.or (call_min2 hc) (cr_min hc), fun F H xs ds d Q sub hx e q => ?_⟩
  unfold minF at e
  split at e
  · cases e
    obtain ⟨v, w, rfl, h1, h2⟩ := hx.two
    cases h1.int; cases h2.int
    rename_i i j
    have z : (if j < i then j else i) = min i j := by split <;> omega
    exact .inl ⟨_, _, rfl, by rw [z]; exact stay sub q (.int _)⟩
  · rename_i es
    obtain ⟨v, rfl, w⟩ := hx.one
    obtain ⟨pp, us, rfl, hp, rr⟩ := w.lst sub
    cases h1 : intsOf es with
    | none => rw [h1] at e; cases e
    | some ns =>
      cases h2 : minL ns with
      | none => simp [h1, h2] at e
      | some M =>
        simp only [h1, h2, Option.bind, Option.map, Option.some.injEq] at e
        subst e
        have ev := ints_vals h1 rr
        subst ev
        refine .inr ⟨pp, ns, rfl, SqL.of hp, ?_, fun m hm hle => ?_⟩
        · cases ns with
          | nil => cases h2
          | cons _ _ => exact Nat.succ_pos _
        · rw [minL_of h2 hm hle]
          exact stay sub q (.int _)
  · cases e
def sumF : List D → Option D
  | [.list ds] => (intsOf ds).map fun ns => .int ns.sum
  | _ => none
theorem sumC (hc : X.calm = true) : CallS X G (.builtin "sum") sumF := by
  refine ⟨_, cr_sum hc, fun F H xs ds d Q sub hx e q => ?_⟩
  unfold sumF at e
  split at e
  · rename_i es
    obtain ⟨v, rfl, w⟩ := hx.one
    obtain ⟨pp, us, rfl, hp, rr⟩ := w.lst sub
    cases h1 : intsOf es with
    | none => rw [h1] at e; cases e
    | some ns =>
      rw [h1] at e
      cases e
      have ev := ints_vals h1 rr
      subst ev
      exact ⟨pp, ns, rfl, SqL.of hp, stay sub q (.int _)⟩
  · cases e
def allF : List D → Option D
  | [.list ds] => (bools ds).map fun bs => .bool (bs.all id)
  | _ => none
def anyF : List D → Option D
  | [.list ds] => (bools ds).map fun bs => .bool (bs.any id)
  | _ => none
theorem allC (hc : X.calm = true) : CallS X G (.builtin "all") allF := by
  refine ⟨_, cr_all hc, fun F H xs ds d Q sub hx e q => ?_⟩
  unfold allF at e
  split at e
  · rename_i es
    obtain ⟨v, rfl, w⟩ := hx.one
    obtain ⟨pp, us, rfl, hp, rr⟩ := w.lst sub
    cases h1 : bools es with
    | none => rw [h1] at e; cases e
    | some ns =>
      rw [h1] at e
      cases e
      have ev := bools_vals h1 rr
      subst ev
      exact ⟨pp, ns, rfl, SqL.of hp, stay sub q (.bl _)⟩
  · cases e
theorem anyC (hc : X.calm = true) : CallS X G (.builtin "any") anyF := by
  refine ⟨_, cr_any hc, fun F H xs ds d Q sub hx e q => ?_⟩
  unfold anyF at e
  split at e
  · rename_i es
    obtain ⟨v, rfl, w⟩ := hx.one
    obtain ⟨pp, us, rfl, hp, rr⟩ := w.lst sub
    cases h1 : bools es with
    | none => rw [h1] at e; cases e
    | some ns =>
      rw [h1] at e
      cases e
      have ev := bools_vals h1 rr
      subst ev
      exact ⟨pp, ns, rfl, SqL.of hp, stay sub q (.bl _)⟩
  · cases e
def intF : List D → Option D
  | [.int i] => some (.int i)
  | [.bool b] => some (.int (if b then 1 else 0))
  | _ => none
theorem intC : CallS X G (.type "int") intF := by
  refine ⟨_, call_int1, fun F H xs ds d Q sub hx e q => ?_⟩
  unfold intF at e
  split at e
  · cases e
    obtain ⟨v, rfl, w⟩ := hx.one
    cases w.int
    exact .inl ⟨_, rfl, stay sub q (.int _)⟩
  · cases e
    obtain ⟨v, rfl, w⟩ := hx.one
    cases w.bl
    exact .inr ⟨_, rfl, stay sub q (.int _)⟩
  · cases e
def tupF : List D → Option D
  | [.list ds] => some (.tuple ds)
  | [.tuple ds] => some (.tuple ds)
  | _ => none
theorem tupC : CallS X G (.type "tuple") tupF := by
  refine ⟨_, call_tuple_of, fun F H xs ds d Q sub hx e q => ?_⟩
  unfold tupF at e
  split at e
  · cases e
    obtain ⟨v, rfl, w⟩ := hx.one
    obtain ⟨pp, us, rfl, hp, rr⟩ := w.lst sub
    refine ⟨pp, us, rfl, .inl ⟨SqL.of hp, fun l hl => ?_⟩⟩
    have st := step_new (F := F) (o := .tup us) sub hl
    exact q _ _ _ st (.tup (SqT.of upd_same) (rr.mono (st.inc sub)))
  · cases e
    obtain ⟨v, rfl, w⟩ := hx.one
    obtain ⟨pp, us, rfl, hp, rr⟩ := w.tup
    exact ⟨pp, us, rfl, .inr ⟨sqT_mono sub hp, stay sub q (.tup hp rr)⟩⟩
  · cases e
/-! ### new lists -/
def listF : D → Option (List D)
  | .list ds => some ds
  | .tuple ds => some ds
  | _ => none
def listG (g : Ev → LS → Out D) (env : Ev) (s : LS) : Out (List D) := (g env s).bind fun d s => lift (listF d) s
theorem own_fin {F H : Hp} {mg : Str → Option Value} {Q : VK} {xs : List V} {ds : List D} (sub : ∀ a o, F a = some o → H a = some o) (so : StOk G F H s) (rr : RpAll K F xs ds) (p : Post K mg W G F H σ RF Q (.ok ds s)) {q : Addr} (hq : H q = none) : Q (.ref q) (upd H q (.lst xs)) := by
  have sn := step_own (F := F) (o := .lst xs) sub hq
  exact p (.ref q) _ _ sn.weak (so.pure sn) ⟨q, xs, rfl, hq, upd_same, none_of_sub sub hq, not_has so hq, rr⟩
theorem sf_list {x : Str} {p pos : Pos} {g : Ev → LS → Out D} (hg : Gl X x) (hm : X.mg x = none) (hv : bootBuiltins x = some (.type "list")) (ha : SW X W G e g)
    (hn : x ≠ "__name__" := by decide) (hd : (x == ("__debug__" : Str)) = false := by decide) (he : starEach (e :: []) X.env = (false, eval e X.env) :: starEach [] X.env := by rfl) (hpl : (backTo pos (starEach [] X.env)).any (·.1) = false := by rfl) :
    SF X W G (.Call (.Name x p) [e] [] pos) (listG g) := by
  obtain ⟨t, h1, h2⟩ := ha.use
  refine SG.mk (pe_callTy call_list_of hg hm hv (pa_cons h1 pa_nil he) hn hd he hpl) fun F0 H0 F H σ env s Q rl p => h2 F0 H0 F H σ env s _ rl (post_bind p fun d s1 x F1 H1 st so rx p1 => ?_)
  cases q : listF d with
  | none => rw [q] at p1; exact p1.elim
  | some ds =>
    rw [q] at p1
    unfold listF at q
    split at q
    · cases q
      obtain ⟨pp, us, rfl, hp, rr⟩ := Wd.lst rx st.sub
      exact ⟨pp, us, rfl, .inl (SqL.of hp), fun l hl => own_fin st.sub so rr p1 hl⟩
    · cases q
      obtain ⟨pp, us, rfl, hp, rr⟩ := Wd.tup rx
      exact ⟨pp, us, rfl, .inr (sqT_mono st.sub hp), fun l hl => own_fin st.sub so rr p1 hl⟩
    · cases q
def repL (ds : List D) : D → Option (List D)
  | .int k => if k < 2 ^ 62 ∧ -(2 ^ 62) < k ∧ ds.length * k.toNat ≤ sizeLine then some (List.replicate k.toNat ds).flatten else none
  | _ => none
def repG (ga : Ev → LS → Out (List D)) (gb : Ev → LS → Out D) (env : Ev) (s : LS) : Out (List D) := (ga env s).bind fun ds s => (gb env s).bind fun d s => lift (repL ds d) s
theorem sf_rep {ga : Ev → LS → Out (List D)} {gb : Ev → LS → Out D} (ha : SF X W G a ga) (hb : SE X W G b gb) : SF X W G (.BinOp a .Mult b pos) (repG ga gb) := by
  obtain ⟨ta, ha, ka⟩ := ha.use
  obtain ⟨tb, hb, kb⟩ := hb.use
  refine SG.mk (pe_op op_rep ha hb) fun F0 H0 F H σ env s Q rl p => ?_
  refine ka F0 H0 F H σ env s _ rl (post_bind p fun ds s1 x F1 H1 st1 so1 rx p1 => ?_)
  have rl1 := rl.step st1 so1
  refine kb F0 H0 F1 H1 σ env s1 _ rl1 (post_bind p1 fun dy s2 y F2 H2 st2 so2 ry p2 => ?_)
  cases q : repL ds dy with
  | none => rw [q] at p2; exact p2.elim
  | some es =>
    rw [q] at p2
    unfold repL at q
    split at q
    · split at q
      · rename_i kk hk
        cases q
        cases ry
        obtain ⟨pp, us, rfl, h0, hp, fp, ng, rr⟩ := rx
        have rr2 := rr.mono (st2.inc st1.sub)
        exact ⟨pp, kk, us, rfl, rfl, st2.keep _ _ hp ng, by omega, by omega, by rw [rr2.length]; exact hk.2.2, fun l hl => own_fin st2.sub so2 (rr2.rep _) p2 hl⟩
      · cases q
    · cases q
def catG (ga gb : Ev → LS → Out D) (env : Ev) (s : LS) : Out (List D) := (ga env s).bind fun x s => (gb env s).bind fun y s => match x, y with
  | .list xs, .list ys => if xs.length + ys.length ≤ sizeLine then .ok (xs ++ ys) s else .bad
  | _, _ => .bad
theorem sf_cat {ga gb : Ev → LS → Out D} (ha : SW X W G a ga) (hb : SW X W G b gb) : SF X W G (.BinOp a .Add b pos) (catG ga gb) := by
  obtain ⟨ta, ha, ka⟩ := ha.use
  obtain ⟨tb, hb, kb⟩ := hb.use
  refine SG.mk (pe_op op_cat ha hb) fun F0 H0 F H σ env s Q rl p => ?_
  refine ka F0 H0 F H σ env s _ rl (post_bind p fun dx s1 x F1 H1 st1 so1 rx p1 => ?_)
  have rl1 := rl.step st1 so1
  refine kb F0 H0 F1 H1 σ env s1 _ rl1 (post_bind p1 fun dy s2 y F2 H2 st2 so2 ry p2 => ?_)
  split at p2
  · split at p2
    · rename_i hz
      obtain ⟨a, us, rfl, sa, ra⟩ := Wd.lst (Wd.step rx st1.sub st2) st2.sub
      obtain ⟨b, vs, rfl, sb, rb⟩ := Wd.lst ry st2.sub
      exact ⟨a, b, us, vs, rfl, rfl, sa, sb, by rw [ra.length, rb.length]; exact hz, fun l hl => own_fin st2.sub so2 (ra.append rb) p2 hl⟩
    · exact p2.elim
  · exact p2.elim
/-! ### isinstance -/
def tyName : D → Option String
  | .none => some "NoneType"
  | .bool _ => some "bool"
  | .int _ => some "int"
  | .str _ => some "str"
  | .list _ => some "list"
  | .tuple _ => some "tuple"
  | .dict _ => none
def isInt : D → Bool
  | .int _ => true
  | .bool _ => true
  | _ => false
def isBool : D → Bool
  | .bool _ => true
  | _ => false
def isStr : D → Bool
  | .str _ => true
  | _ => false
def isList : D → Bool
  | .list _ => true
  | _ => false
def isTup : D → Bool
  | .tuple _ => true
  | _ => false
def KitF (T : String) (f : D → Bool) : Prop := ∀ d n, tyName d = some n → kitB n T = some (f d)
theorem kitInt : KitF "int" isInt := fun d n h => by
  cases d <;> simp only [tyName, Option.some.injEq, reduceCtorEq] at h <;> subst h <;> simp only [isInt] <;> decide +kernel
theorem kitBool : KitF "bool" isBool := fun d n h => by
  cases d <;> simp only [tyName, Option.some.injEq, reduceCtorEq] at h <;> subst h <;> simp only [isBool] <;> decide +kernel
theorem kitStr : KitF "str" isStr := fun d n h => by
  cases d <;> simp only [tyName, Option.some.injEq, reduceCtorEq] at h <;> subst h <;> simp only [isStr] <;> decide +kernel
theorem kitList : KitF "list" isList := fun d n h => by
  cases d <;> simp only [tyName, Option.some.injEq, reduceCtorEq] at h <;> subst h <;> simp only [isList] <;> decide +kernel
theorem kitTup : KitF "tuple" isTup := fun d n h => by
  cases d <;> simp only [tyName, Option.some.injEq, reduceCtorEq] at h <;> subst h <;> simp only [isTup] <;> decide +kernel
def isiG (f : D → Bool) (g : Ev → LS → Out D) (env : Ev) (s : LS) : Out D := (g env s).bind fun d s => .ok (.bool (f d)) s
theorem Wd.ty (h : Wd K G F H v d) (sub : ∀ a o, F a = some o → H a = some o) : ∃ n, tyName d = some n ∧ TyX K H v (.type n) := by
  rcases h with h | ⟨p, xs, ds', rfl, rfl, hp, fp, ng, r⟩
  · cases h with
    | non => exact ⟨_, rfl, .base .non⟩
    | bl b => exact ⟨_, rfl, .base (.bl b)⟩
    | int b => exact ⟨_, rfl, .base (.int b)⟩
    | str b => exact ⟨_, rfl, .base (.str b)⟩
    | lst a b => exact ⟨_, rfl, .base (.lst (sub _ _ a))⟩
    | tup a b =>
      rcases a with (z | ⟨o, z⟩) | ⟨o, its, n, z, zc, _⟩
      · exact ⟨_, rfl, .base (.tup (sub _ _ z))⟩
      · exact ⟨_, rfl, .fTuple (sub _ _ z)⟩
      · exact ⟨_, rfl, .kTuple z zc⟩
  · exact ⟨_, rfl, .base (.lst hp)⟩
theorem se_isi {x y : Str} {p p2 pos : Pos} {T : String} {f : D → Bool} {g : Ev → LS → Out D} (kf : KitF T f) (hg : Gl X x) (hm : X.mg x = none) (hv : bootBuiltins x = some (.builtin "isinstance")) (ha : SW X W G e g)
    (hg2 : Gl X y) (hm2 : X.mg y = none) (hv2 : bootBuiltins y = some (.type T))
    (hn : x ≠ "__name__" := by decide) (hd : (x == ("__debug__" : Str)) = false := by decide) (hn2 : y ≠ "__name__" := by decide) (hd2 : (y == ("__debug__" : Str)) = false := by decide) (he : starEach (e :: [.Name y p2]) X.env = (false, eval e X.env) :: starEach [.Name y p2] X.env := by rfl) (he2 : starEach (Expr.Name y p2 :: []) X.env = (false, eval (.Name y p2) X.env) :: starEach [] X.env := by rfl) (hpl : (backTo pos (starEach [.Name y p2] X.env)).any (·.1) = false := by rfl) :
    SE X W G (.Call (.Name x p) [e, .Name y p2] [] pos) (isiG f g) := by
  obtain ⟨t, h1, h2⟩ := ha.use
  refine SG.mk (pe_callB call_isi hg hm hv (pa_cons h1 (pa_cons (pe_bltn (v := .ty T) hg2 hm2 hv2 rfl hn2 hd2) pa_nil he2) he) hn hd he hpl) fun F0 H0 F H σ env s Q rl p => h2 F0 H0 F H σ env s _ rl (post_bind p fun d s1 x F1 H1 st so rx p1 => ?_)
  obtain ⟨n, e1, e2⟩ := Wd.ty rx st.sub
  exact ⟨x, .ty T, _, _, _, rfl, .ty T, e2, kit_ty (kf d n e1), p1 (.bl _) F1 H1 (Step.refl st.sub) so (.bl _)⟩
end
end DS
end

section
set_option Elab.async false
set_option linter.all false
set_option maxRecDepth 100000
set_option autoImplicit false
namespace DS
open PySem PySem.Spec L2
open PyProof.Rows hiding St
section
variable {X : Cx} {W : WX} {G : Gh} {e a b : Expr} {es : List Expr} {K : PySem.W.Frag} {F H F' H' F0 H0 : Hp} {σ : L2.St} {env env' : Ev} {s s' : LS} {v : V} {d : D} {pos : Pos} {k : Nat}
/-! ### what is walked -/
structure ItOk (K : PySem.W.Frag) (J : It) (ds : List D) (F : Hp) : Prop where
  go : ∀ (F1 H1 : Hp) (i : Nat), (∀ a o, F a = some o → F1 a = some o) → (∀ a o, F1 a = some o → H1 a = some o) → i < ds.length → J.go i H1
  stop : ∀ (F1 H1 : Hp) (i : Nat), (∀ a o, F a = some o → F1 a = some o) → (∀ a o, F1 a = some o → H1 a = some o) → ds.length ≤ i → J.stop i H1
  yld : ∀ (F1 H1 : Hp) (i : Nat) (d : D) (x : V) (H2 : Hp), (∀ a o, F a = some o → F1 a = some o) → (∀ a o, F1 a = some o → H1 a = some o) → ds[i]? = some d → J.yld i H1 x H2 → ∃ F2, Step none F1 H1 F2 H2 ∧ Rp K F2 x d
def RIt : RR (List D) It := ⟨fun K _ _ F' _ J ds => ItOk K J ds F', fun _ r => r⟩
def SI (X : Cx) (W : WX) (G : Gh) (tg iter : Expr) (g : Ev → LS → Out (List D)) : Prop := PI X tg iter (tG X.K X.mg W G RIt g)
theorem SI.mk {tg : Expr} {g : Ev → LS → Out (List D)} {t : TI} (h : PI X tg e t) (k : ∀ F0 H0 F H σ env s Q, Rel X.K G F0 H0 F H σ env s → Post X.K X.mg W G F H σ RIt Q (g env s) → t σ H Q) : SI X W G tg e g :=
  ⟨fun pins s σ H R I ⟨F0, H0, F, env, s', r, p⟩ => h.run pins s σ H R I (k F0 H0 F H σ env s' R r p)⟩
theorem PI.or {tg iter : Expr} {w1 w2 : TI} (h1 : PI X tg iter w1) (h2 : PI X tg iter w2) : PI X tg iter (fun σ H R => w1 σ H R ∨ w2 σ H R) :=
  ⟨fun pins s σ H R I h => h.elim (h1.run pins s σ H R I) (h2.run pins s σ H R I)⟩
theorem it_list {p : Addr} {xs : List V} {ds : List D} (hp : F p = some (.lst xs)) (r : RpAll K F xs ds) : ItOk K (Itl K p) ds F := by
  refine ⟨fun F1 H1 i inc sub h => ?_, fun F1 H1 i inc sub h => ⟨xs, SqL.of (sub _ _ (inc _ _ hp)), by rw [r.length]; exact h⟩, fun F1 H1 i d x H2 inc sub h y => ?_⟩
  · have hl : i < xs.length := by rw [r.length]; exact h
    exact ⟨xs, xs[i], SqL.of (sub _ _ (inc _ _ hp)), List.getElem?_eq_getElem hl⟩
  · obtain ⟨e, y⟩ := y
    subst e
    obtain ⟨v, h1, h2⟩ := r.get h
    have := y xs (SqL.of (sub _ _ (inc _ _ hp)))
    rw [h1] at this
    cases this
    exact ⟨F1, Step.refl sub, h2.mono inc⟩
theorem it_tup {p : Addr} {xs : List V} {ds : List D} (hp : SqT K F p xs) (r : RpAll K F xs ds) : ItOk K (Itt K p) ds F := by
  refine ⟨fun F1 H1 i inc sub h => ?_, fun F1 H1 i inc sub h => ⟨xs, sqT_mono sub (sqT_mono inc hp), by rw [r.length]; exact h⟩, fun F1 H1 i d x H2 inc sub h y => ?_⟩
  · have hl : i < xs.length := by rw [r.length]; exact h
    exact ⟨xs, xs[i], sqT_mono sub (sqT_mono inc hp), List.getElem?_eq_getElem hl⟩
  · obtain ⟨e, y⟩ := y
    subst e
    obtain ⟨v, h1, h2⟩ := r.get h
    have := y xs (sqT_mono sub (sqT_mono inc hp))
    rw [h1] at this
    cases this
    exact ⟨F1, Step.refl sub, h2.mono inc⟩
def itemG (g : Ev → LS → Out D) (env : Ev) (s : LS) : Out (List D) := (g env s).bind fun d s => lift (listF d) s
theorem si_of {tg : Expr} {g : Ev → LS → Out D} (h : SE X W G e g) : SI X W G tg e (itemG g) := by
  obtain ⟨t, h1, h2⟩ := h.use
  refine SI.mk (PI.or (pi_list h1) (pi_tup h1)) fun F0 H0 F H σ env s Q rl p => ?_
  have key : ∀ (P : V → Hp → Prop), (∀ d v F1 H1 s1, g env s = .ok d s1 → Step G F H F1 H1 → StOk G F1 H1 s1 → Rp X.K F1 v d → P v H1) → (∀ z s1, g env s = .err z s1 → Post X.K X.mg W G F H σ RD P (g env s)) → t σ H P := fun P hP hE => by
    refine h2 F0 H0 F H σ env s P rl ?_
    cases q : g env s with
    | ok d s1 => exact fun v F1 H1 st so rp => hP d v F1 H1 s1 q st so rp
    | err z s1 => rw [← q]; exact hE z s1 q
    | bad => unfold itemG at p; rw [q] at p; exact p.elim
  unfold itemG at p
  cases q : g env s with
  | bad => rw [q] at p; exact p.elim
  | err z s1 =>
    refine .inl (key _ (fun d v F1 H1 s1 e => by rw [q] at e; cases e) fun z s1 e => ?_)
    rw [q] at p ⊢
    exact p
  | ok d s1 =>
    rw [q] at p
    change Post _ _ _ _ _ _ _ _ _ (lift (listF d) s1) at p
    cases q2 : listF d with
    | none => rw [q2] at p; exact p.elim
    | some ds =>
      rw [q2] at p
      unfold listF at q2
      split at q2
      · cases q2
        refine .inl (key _ (fun d v F1 H1 s1 e st so rp => ?_) fun z s1 e => by rw [q] at e; cases e)
        rw [q] at e
        cases e
        cases rp with
        | lst x y => exact ⟨_, rfl, ⟨_, SqL.of (st.sub _ _ x)⟩, p _ F1 H1 st so (it_list x y)⟩
      · cases q2
        refine .inr (key _ (fun d v F1 H1 s1 e st so rp => ?_) fun z s1 e => by rw [q] at e; cases e)
        rw [q] at e
        cases e
        cases rp with
        | tup x y => exact ⟨_, rfl, ⟨_, sqT_mono st.sub x⟩, p _ F1 H1 st so (it_tup x y)⟩
      · cases q2
def rangeL (lo : Int) (n : Nat) : List D := (List.range n).map fun i => .int (lo + (i : Nat))
theorem it_rng (lo : Int) (n : Nat) : ItOk K (Itr lo n) (rangeL lo n) F := by
  refine ⟨fun F1 H1 i inc sub h => (by simpa [rangeL] using h : i < n), fun F1 H1 i inc sub h => (by simpa [rangeL] using h : n ≤ i), fun F1 H1 i d x H2 inc sub h y => ?_⟩
  obtain ⟨e, y⟩ := y
  subst e; subst y
  simp only [rangeL, List.getElem?_map] at h
  have hl : i < n := by
    by_cases z : i < n
    · exact z
    · rw [List.getElem?_eq_none_iff.mpr (by simp; omega)] at h; cases h
  rw [List.getElem?_range hl] at h
  cases h
  exact ⟨F1, Step.refl sub, .int _⟩
def rngB (i : Int) : Prop := -(2 ^ 62) ≤ i ∧ i < 2 ^ 62
instance (i : Int) : Decidable (rngB i) := by unfold rngB; infer_instance
def rng1 (g : Ev → LS → Out D) (env : Ev) (s : LS) : Out (List D) := (g env s).bind fun d s => match d with
  | .int j => if rngB j then .ok (rangeL 0 j.toNat) s else .bad
  | _ => .bad
def rng2 (ga gb : Ev → LS → Out D) (env : Ev) (s : LS) : Out (List D) := (ga env s).bind fun x s => (gb env s).bind fun y s => match x, y with
  | .int i, .int j => if rngB i ∧ rngB j then .ok (rangeL i (j - i).toNat) s else .bad
  | _, _ => .bad
def downL (hi : Int) (n : Nat) : List D := (List.range n).map fun i => .int (hi + (i : Nat) * (-1))
def rngD (ga gb gc : Ev → LS → Out D) (env : Ev) (s : LS) : Out (List D) := (ga env s).bind fun x s => (gb env s).bind fun y s => (gc env s).bind fun z s => match x, y, z with
  | .int i, .int j, .int c => if rngB i ∧ rngB j ∧ c = -1 then .ok (downL i (i - j).toNat) s else .bad
  | _, _, _ => .bad
theorem si_rng1 {tg : Expr} {p pos : Pos} {g : Ev → LS → Out D} (hm : X.mg "range" = none) (ha : SE X W G a g) (hg : Gl X "range" := by rfl) (hs : starEach [a] X.env = [(false, eval a X.env)] := by rfl) (hs1 : starEach (a :: []) X.env = (false, eval a X.env) :: starEach [] X.env := by rfl) :
    SI X W G tg (.Call (.Name "range" p) [a] [] pos) (rng1 g) := by
  obtain ⟨t, h1, h2⟩ := ha.use
  refine SI.mk (pi_range1 hg hm (pa_cons h1 pa_nil hs1) hs) fun F0 H0 F H σ env s Q rl p => h2 F0 H0 F H σ env s _ rl (post_bind p fun d s1 x F1 H1 st so rx p1 => ?_)
  split at p1
  · split at p1
    · rename_i hb
      cases rx
      exact ⟨_, rfl, hb.1, hb.2, p1 _ F1 H1 (Step.refl st.sub) so (it_rng _ _)⟩
    · exact p1.elim
  · exact p1.elim
theorem si_rng2 {tg : Expr} {p pos : Pos} {ga gb : Ev → LS → Out D} (hm : X.mg "range" = none) (ha : SE X W G a ga) (hb : SE X W G b gb) (hg : Gl X "range" := by rfl) (hs : starEach [a, b] X.env = [(false, eval a X.env), (false, eval b X.env)] := by rfl) (hs2 : starEach [b] X.env = [(false, eval b X.env)] := by rfl) (hs1 : starEach (a :: [b]) X.env = (false, eval a X.env) :: starEach [b] X.env := by rfl) (hs3 : starEach (b :: []) X.env = (false, eval b X.env) :: starEach [] X.env := by rfl) :
    SI X W G tg (.Call (.Name "range" p) [a, b] [] pos) (rng2 ga gb) := by
  obtain ⟨t, h1, h2⟩ := ha.use
  obtain ⟨t', h1', h2'⟩ := hb.use
  refine SI.mk (pi_range2 hg hm (pa_cons h1 (pa_cons h1' pa_nil hs3) hs1) hs hs2) fun F0 H0 F H σ env s Q rl p => h2 F0 H0 F H σ env s _ rl (post_bind p fun d s1 x F1 H1 st so rx p1 => ?_)
  refine h2' F0 H0 F1 H1 σ env s1 _ (rl.step st so) (post_bind p1 fun d' s2 y F2 H2 st2 so2 ry p2 => ?_)
  split at p2
  · split at p2
    · rename_i hb
      cases rx
      cases ry
      exact ⟨_, _, rfl, ⟨hb.1.1, hb.1.2, hb.2.1, hb.2.2⟩, p2 _ F2 H2 (Step.refl st2.sub) so2 (it_rng _ _)⟩
    · exact p2.elim
  · exact p2.elim
theorem it_down (lo : Int) (n : Nat) : ItOk K (Itc lo (-1) n) (downL lo n) F := by
  refine ⟨fun F1 H1 i inc sub h => (by simpa [downL] using h : i < n), fun F1 H1 i inc sub h => (by simpa [downL] using h : n ≤ i), fun F1 H1 i d x H2 inc sub h y => ?_⟩
  obtain ⟨e, y⟩ := y
  subst e; subst y
  simp only [downL, List.getElem?_map] at h
  have hl : i < n := by
    by_cases z : i < n
    · exact z
    · rw [List.getElem?_eq_none_iff.mpr (by simp; omega)] at h; cases h
  rw [List.getElem?_range hl] at h
  cases h
  exact ⟨F1, Step.refl sub, .int _⟩
theorem si_rngD {tg c : Expr} {p pos : Pos} {ga gb gc : Ev → LS → Out D} (hm : X.mg "range" = none) (ha : SE X W G a ga) (hb : SE X W G b gb) (hc : SE X W G c gc) (hg : Gl X "range" := by rfl) (hs1 : starEach (a :: [b, c]) X.env = (false, eval a X.env) :: starEach [b, c] X.env := by rfl) (hs2 : starEach (b :: [c]) X.env = (false, eval b X.env) :: starEach [c] X.env := by rfl) (hs3 : starEach (c :: []) X.env = (false, eval c X.env) :: starEach [] X.env := by rfl)
    (hpl : (backTo pos (starEach [b, c] X.env)).any (·.1) = false := by rfl) :
    SI X W G tg (.Call (.Name "range" p) [a, b, c] [] pos) (rngD ga gb gc) := by
  obtain ⟨t, h1, h2⟩ := ha.use
  obtain ⟨t', h1', h2'⟩ := hb.use
  obtain ⟨t'', h1'', h2''⟩ := hc.use
  refine SI.mk (pi_range3 hg hm (pa_cons h1 (pa_cons h1' (pa_cons h1'' pa_nil hs3) hs2) hs1) hs1 hpl) fun F0 H0 F H σ env s Q rl p => h2 F0 H0 F H σ env s _ rl (post_bind p fun d s1 x F1 H1 st so rx p1 => ?_)
  refine h2' F0 H0 F1 H1 σ env s1 _ (rl.step st so) (post_bind p1 fun d' s2 y F2 H2 st2 so2 ry p2 => ?_)
  refine h2'' F0 H0 F2 H2 σ env s2 _ ((rl.step st so).step st2 so2) (post_bind p2 fun d'' s3 z F3 H3 st3 so3 rz p3 => ?_)
  split at p3
  · split at p3
    · rename_i hb
      obtain ⟨q1, q2, rfl⟩ := hb
      cases rx
      cases ry
      cases rz
      exact ⟨_, _, _, _, rfl, RgC.neg q1.1 q1.2 q2.1 q2.2, p3 _ F3 H3 (Step.refl st3.sub) so3 (it_down _ _)⟩
    · exact p3.elim
  · exact p3.elim
/-! ### targets -/
inductive Tg where
  | nm (i : Nat)
  | tp (is : List Nat)
def setAll : List Nat → List D → Ev → Option Ev
  | [], [], env => some env
  | i :: is, d :: ds, env => setAll is ds (env.set i (.sh d))
  | _, _, _ => none
def Tg.asg : Tg → D → Ev → Option Ev
  | .nm i, d, env => some (env.set i (.sh d))
  | .tp is, .tuple ds, env => setAll is ds env
  | _, _, _ => none
def Tg.slots : Tg → List Nat
  | .nm i => [i]
  | .tp is => is
def gNs : List Nat → TGs
  | [] => gNil
  | i :: r => gCons (gName i) (gNs r)
def TgR (K : PySem.W.Frag) : Tg → TG
  | .nm i => gName i
  | .tp is => gTup K is.length (gNs is)
theorem Rel.setSh (r : Rel K G F0 H0 F H σ env s) {i : Nat} (q : Rp K F v d) : Rel K G F0 H0 F H (σ.set i (some v)) (env.set i (.sh d)) s := by
  refine ⟨r.st, by rw [List.length_set, List.length_set]; exact r.len, fun j e h => ?_, fun j l dj dl hne h1 h2 => ?_, r.so⟩
  · by_cases z : i = j
    · subst z
      have hl : i < env.length := by
        by_cases w : i < env.length
        · exact w
        · rw [List.getElem?_eq_none_iff.mpr (by rw [List.length_set]; omega)] at h; cases h
      rw [List.getElem?_set_self hl] at h
      cases h
      exact ⟨some v, List.getElem?_set_self (by rw [← r.len]; exact hl), v, rfl, q⟩
    · rw [List.getElem?_set_ne z] at h
      rw [List.getElem?_set_ne z]
      exact r.slots j e h
  · have nj : i ≠ j := fun z => by
      subst z
      have hl : i < env.length := by
        by_cases w : i < env.length
        · exact w
        · rw [List.getElem?_eq_none_iff.mpr (by rw [List.length_set]; omega)] at h1; cases h1
      rw [List.getElem?_set_self hl] at h1; cases h1
    have nl : i ≠ l := fun z => by
      subst z
      have hl : i < env.length := by
        by_cases w : i < env.length
        · exact w
        · rw [List.getElem?_eq_none_iff.mpr (by rw [List.length_set]; omega)] at h2; cases h2
      rw [List.getElem?_set_self hl] at h2; cases h2
    rw [List.getElem?_set_ne nj] at h1 ⊢
    rw [List.getElem?_set_ne nl] at h2 ⊢
    exact r.dist j l dj dl hne h1 h2
theorem wipe_comm : ∀ (vs : List Nat) (σ : L2.St) (i : Nat), i ∈ vs → ∀ x, wipe (σ.set i x) vs = wipe σ vs := by
  have comm : ∀ (vs : List Nat) (σ : L2.St) (i : Nat) x, i ∉ vs → wipe (σ.set i x) vs = (wipe σ vs).set i x := by
    intro vs
    induction vs with
    | nil => intro σ i x _; rfl
    | cons w ws ih =>
      intro σ i x h
      unfold wipe
      rw [ih σ i x fun z => h (List.mem_cons_of_mem _ z), List.set_comm]
      exact fun z => h (by rw [z]; exact List.mem_cons_self)
  intro vs
  induction vs with
  | nil => intro σ i h; cases h
  | cons w ws ih =>
    intro σ i h x
    unfold wipe
    by_cases z : i ∈ ws
    · rw [ih σ i z x]
    · rw [comm ws σ i x z]
      have e : i = w := by
        cases h with
        | head => rfl
        | tail _ h => exact absurd h z
      subst e
      rw [List.set_set]
theorem gNs_run {xs : List V} {ds : List D} : ∀ (is : List Nat) (xs : List V) (ds : List D) (σ : L2.St) (env : Ev), Rel K G F0 H0 F H σ env s → RpAll K F xs ds → setAll is ds env = some env' →
    ∀ Q : L2.St → Hp → Prop, (∀ σ', Rel K G F0 H0 F H σ' env' s → (∀ vs, (∀ i ∈ is, i ∈ vs) → wipe σ' vs = wipe σ vs) → Q σ' H) → gNs is xs σ H Q
  | [], xs, ds, σ, env, r, ra, h, Q, q => by
    cases ra with
    | nil => cases h; exact ⟨rfl, q σ r fun _ _ => rfl⟩
    | cons a b => cases h
  | i :: is, xs, ds, σ, env, r, ra, h, Q, q => by
    cases ra with
    | nil => cases h
    | cons a b =>
      refine ⟨_, _, rfl, gNs_run (xs := []) (ds := []) is _ _ _ _ (r.setSh (i := i) a) b h Q fun σ' r' hw => q σ' r' fun vs hv => ?_⟩
      rw [hw vs fun j hj => hv j (List.mem_cons_of_mem _ hj)]
      exact wipe_comm vs σ i (hv i List.mem_cons_self) _
theorem setAll_len : ∀ (is : List Nat) (ds : List D) (env : Ev), setAll is ds env = some env' → ds.length = is.length
  | [], [], _, _ => rfl
  | [], _ :: _, _, h => by cases h
  | _ :: _, [], _, h => by cases h
  | i :: is, d :: ds, env, h => by rw [List.length_cons, List.length_cons, setAll_len is ds _ h]
theorem tg_run {t : Tg} (r : Rel K G F0 H0 F H σ env s) (rp : Rp K F v d) (h : t.asg d env = some env') {Q : L2.St → Hp → Prop}
    (q : ∀ σ', Rel K G F0 H0 F H σ' env' s → (∀ vs, (∀ i ∈ t.slots, i ∈ vs) → wipe σ' vs = wipe σ vs) → Q σ' H) : TgR K t v σ H Q := by
  cases t with
  | nm i =>
    cases h
    exact q _ (r.setSh rp) fun vs hv => wipe_comm vs σ i (hv i List.mem_cons_self) _
  | tp is =>
    cases d with
    | tuple ds =>
      cases rp with
      | tup a b => exact ⟨_, _, rfl, sqT_mono r.sub a, by rw [b.length]; exact setAll_len is ds env h, gNs_run (xs := []) (ds := []) is _ _ _ _ r b h Q q⟩
    | none => cases h
    | bool _ => cases h
    | int _ => cases h
    | str _ => cases h
    | list _ => cases h
    | dict _ => cases h
/-! ### list comprehensions -/
def noErr {α : Type} : Out α → Out α
  | .err _ _ => .bad
  | o => o
def wipeE (env : Ev) : List Nat → Ev
  | [] => env
  | v :: vs => (wipeE env vs).set v .un
theorem Rel.wipe (r : Rel K G F0 H0 F H σ env s) : ∀ vs, Rel K G F0 H0 F H (L2.wipe σ vs) (wipeE env vs) s
  | [] => r
  | w :: vs => by
    have r := Rel.wipe r vs
    unfold L2.wipe wipeE
    refine ⟨r.st, by rw [List.length_set, List.length_set]; exact r.len, fun j e h => ?_, fun j l dj dl hne h1 h2 => ?_, r.so⟩
    · by_cases z : w = j
      · subst z
        have hl : w < (wipeE env vs).length := by
          by_cases u : w < (wipeE env vs).length
          · exact u
          · rw [List.getElem?_eq_none_iff.mpr (by rw [List.length_set]; omega)] at h; cases h
        rw [List.getElem?_set_self hl] at h
        cases h
        exact ⟨none, List.getElem?_set_self (by rw [← r.len]; exact hl), trivial⟩
      · rw [List.getElem?_set_ne z] at h
        rw [List.getElem?_set_ne z]
        exact r.slots j e h
    · have nj : w ≠ j := fun z => by
        subst z
        have hl : w < (wipeE env vs).length := by
          by_cases u : w < (wipeE env vs).length
          · exact u
          · rw [List.getElem?_eq_none_iff.mpr (by rw [List.length_set]; omega)] at h1; cases h1
        rw [List.getElem?_set_self hl] at h1; cases h1
      have nl : w ≠ l := fun z => by
        subst z
        have hl : w < (wipeE env vs).length := by
          by_cases u : w < (wipeE env vs).length
          · exact u
          · rw [List.getElem?_eq_none_iff.mpr (by rw [List.length_set]; omega)] at h2; cases h2
        rw [List.getElem?_set_self hl] at h2; cases h2
      rw [List.getElem?_set_ne nj] at h1 ⊢
      rw [List.getElem?_set_ne nl] at h2 ⊢
      exact r.dist j l dj dl hne h1 h2
def lcD (t : Tg) (gc : Ev → LS → Out Bool) (ge : Ev → LS → Out D) : List D → Ev → LS → Out (List D)
  | [], _, s => .ok [] s
  | d :: ds, env, s => match t.asg d env with
    | none => .bad
    | some env1 => (noErr (gc env1 s)).bind fun b s => if b then (noErr (ge env1 s)).bind fun y s => (lcD t gc ge ds env s).bind fun r s => .ok (y :: r) s else lcD t gc ge ds env s
def lcG (t : Tg) (vs : List Nat) (gi : Ev → LS → Out (List D)) (gc : Ev → LS → Out Bool) (ge : Ev → LS → Out D) (env : Ev) (s : LS) : Out (List D) :=
  (gi env s).bind fun items s => if items.length ≤ sizeLine then lcD t gc ge items (wipeE env vs) s else .bad
def yesB (_ : Ev) (s : LS) : Out Bool := .ok true s
def SPT (X : Cx) (W : WX) (G : Gh) (ifs : List Expr) (g : Ev → LS → Out Bool) : Prop := PTs X ifs (tG X.K X.mg W G RB g)
theorem spt_nil : SPT X W G [] yesB := ⟨fun pins s σ H Q I ⟨F0, H0, F, env, s', r, p⟩ => pts_nil.run pins s σ H Q I (p true F H (Step.refl r.sub) r.so rfl)⟩
theorem spt_one {g : Ev → LS → Out Bool} (h : SB X W G e g) : SPT X W G [e] g := pts_one h
theorem post_noErr {α β : Type} {mg : Str → Option Value} {R : RR α β} {Q : β → Hp → Prop} {o : Out α} (h : Post K mg W0 G F H σ R Q (noErr o)) : Post K mg W0 G F H σ R Q o := by
  cases o with
  | ok a s => exact h
  | err x s => exact h.elim
  | bad => exact h
theorem noErr_bind {α β : Type} {o : Out α} {f : α → LS → Out β} : (noErr o).bind f = match o with
  | .ok a s => f a s
  | _ => .bad := by cases o <;> rfl
/-- the body of a comprehension's reading -/
theorem lc_run {t : Tg} {vs : List Nat} {gc : Ev → LS → Out Bool} {ge : Ev → LS → Out D} {mg : Str → Option Value} {items : List D} {J : It} {Q : V → Hp → Prop} (ht : ∀ i ∈ t.slots, i ∈ vs) (rl : Rel K G F0 H0 F H σ env s)
    (hz : items.length ≤ sizeLine) (hJ : ItOk K J items F) (p : Post K mg W G F H σ RF Q (lcD t gc ge items (wipeE env vs) s)) :
    ∀ D, H D = none → ∃ W : Nat → Nat → Hp → Prop, (∃ m, W 0 m (upd H D (.lst []))) ∧ ∀ i m H, W i m H →
      (J.stop i H ∧ Q (.ref D) H) ∨ (J.go i H ∧ ∃ Nx : Hp → Prop, (∀ H', Nx H' → ∃ m', m' < m ∧ W (i + 1) m' H') ∧ ∀ x H', J.yld i H x H' → TgR K t x (wipe σ vs) H' fun σ2 H2 => wipe σ2 vs = wipe σ vs ∧ tG K mg W0 G RB gc σ2 H2 fun b H3 =>
        if b = true then tG K mg W0 G RD ge σ2 H3 fun y H4 => ∃ acc, H4 D = some (.lst acc) ∧ acc.length < sizeLine ∧ Nx (upd H4 D (.lst (acc ++ [y]))) else Nx H3) := by
  intro D hD
  have nG : ¬ G.has D := not_has rl.so hD
  -- the state ahead of turn i
  let Pv : Nat → Hp → Prop := fun i Hc => ∃ Fc sc xs acc, Step G F H Fc Hc ∧ StOk G Fc Hc sc ∧ Fc D = none ∧ Hc D = some (.lst xs) ∧ RpAll K Fc xs acc ∧ acc.length ≤ i ∧
    Post K mg W G F H σ RF Q ((lcD t gc ge (items.drop i) (wipeE env vs) sc).bind fun r s => .ok (acc ++ r) s)
  refine ⟨fun i m Hc => m = items.length - i ∧ i ≤ items.length ∧ Pv i Hc, ⟨items.length, by omega, by omega, F, s, [], [], ?_⟩, ?_⟩
  · have so := step_own (F := F) (o := .lst []) rl.sub hD
    refine ⟨so.weak, rl.so.pure so, none_of_sub rl.sub hD, upd_same, .nil, Nat.le_refl _, ?_⟩
    rw [List.drop_zero]
    simp only [List.nil_append, Out.bind_ok]
    exact p
  rintro i m Hc ⟨rfl, hi, Fc, sc, xs, acc, st, so, fD, hDc, ra, hacc, pr⟩
  have incF : ∀ a o, F a = some o → Fc a = some o := st.inc rl.sub
  by_cases hlt : i < items.length
  · refine .inr ⟨hJ.go Fc Hc i incF st.sub hlt, Pv (i + 1), fun H' q => ⟨_, by omega, rfl, hlt, q⟩, fun x H' y => ?_⟩
    have hd : items[i]? = some items[i] := List.getElem?_eq_getElem hlt
    obtain ⟨F2, st2, rx⟩ := hJ.yld Fc Hc i _ x H' incF st.sub hd y
    rw [List.drop_eq_getElem_cons hlt] at pr
    have so2 := so.pure st2
    have rl2 := (((rl.step st so).step st2.weak so2)).wipe vs
    unfold lcD at pr
    cases q1 : t.asg items[i] (wipeE env vs) with
    | none => rw [q1] at pr; exact pr.elim
    | some env1 =>
      rw [q1] at pr
      simp only [] at pr
      refine tg_run rl2 rx q1 fun σ' rl3 hw => ⟨?_, ?_⟩
      · rw [hw vs ht]
        have idem : ∀ (ws : List Nat) (τ : L2.St), (∀ i ∈ ws, i ∈ vs) → L2.wipe (L2.wipe τ ws) vs = L2.wipe τ vs := by
          intro ws
          induction ws with
          | nil => intro τ _; rfl
          | cons w ws ih =>
            intro τ h
            show L2.wipe ((L2.wipe τ ws).set w none) vs = _
            rw [wipe_comm vs _ w (h w List.mem_cons_self), ih τ fun j hj => h j (List.mem_cons_of_mem _ hj)]
        exact idem vs σ fun _ h => h
      · refine ⟨F0, H0, F2, env1, sc, rl3, ?_⟩
        have hD2 : H' D = some (.lst xs) := st2.keep _ _ hDc fun z => z
        have fD2 : F2 D = none := (st2.frz _ _ hDc).trans fD
        cases q2 : gc env1 sc with
        | err z s1 => rw [q2] at pr; exact pr.elim
        | bad => rw [q2] at pr; exact pr.elim
        | ok b s1 =>
          rw [q2] at pr
          intro b' F3 H3 st3 so3 eb
          have eb : b' = b := eb
          subst eb
          have hD3 : H3 D = some (.lst xs) := st3.keep _ _ hD2 nG
          have fD3 : F3 D = none := (st3.frz _ _ hD2).trans fD2
          have stF3 : Step G F H F3 H3 := (st.trans st2.weak).trans st3
          cases b' with
          | false =>
            refine iteF ⟨F3, s1, xs, acc, stF3, so3, fD3, hD3, ra.mono fun a o z => st3.inc st2.sub a o (st2.inc st.sub a o z), by omega, ?_⟩
            exact pr
          | true =>
            refine iteT ⟨F0, H0, F3, env1, s1, rl3.step st3 so3, ?_⟩
            change Post K mg W G F H σ RF Q (((noErr (ge env1 s1)).bind fun y s => (lcD t gc ge (List.drop (i + 1) items) (wipeE env vs) s).bind fun r s => .ok (y :: r) s).bind _) at pr
            cases q3 : ge env1 s1 with
            | err z s4 => rw [q3] at pr; exact pr.elim
            | bad => rw [q3] at pr; exact pr.elim
            | ok yd s4 =>
              rw [q3] at pr
              intro y F4 H4 st4 so4 ry
              have hD4 : H4 D = some (.lst xs) := st4.keep _ _ hD3 nG
              have fD4 : F4 D = none := (st4.frz _ _ hD3).trans fD3
              have stF4 : Step G F H F4 H4 := stF3.trans st4
              have ra4 : RpAll K F4 xs acc := ra.mono fun a o z => st4.inc st3.sub a o (st3.inc st2.sub a o (st2.inc st.sub a o z))
              refine ⟨xs, hD4, by rw [ra.length]; omega, F4, s4, xs ++ [y], acc ++ [yd], ⟨fun a o z => ?_, fun a o z n => ?_, stF4.frz, fun a z => ?_⟩, ?_, fD4, upd_same, ra4.append (.cons ry .nil), by rw [List.length_append, List.length_singleton]; omega, ?_⟩
              · rw [upd_ne (ne_of_none z fD4)]; exact stF4.sub a o z
              · rw [upd_ne (ne_of_none z hD)]; exact stF4.keep a o z n
              · by_cases w : a = D
                · subst w; exact hD
                · rw [upd_ne w] at z; exact stF4.dom a z
              · cases s4 with
                | none => exact so4
                | some q =>
                  obtain ⟨p0, cs⟩ := q
                  obtain ⟨a, b, e, ne, fa, fb, ha, hb⟩ := so4
                  subst e
                  exact ⟨a, b, rfl, ne, fa, fb, by rw [upd_ne fun z => nG (.inl z.symm)]; exact ha, by rw [upd_ne fun z => nG (.inr z.symm)]; exact hb⟩
              · have e1 : ∀ {α β γ : Type} (o : Out α) (f : α → LS → Out β) (g : β → LS → Out γ), (o.bind f).bind g = o.bind fun a s => (f a s).bind g := fun o f g => by cases o <;> rfl
                change Post K mg W G F H σ RF Q (((lcD t gc ge (List.drop (i + 1) items) (wipeE env vs) s4).bind fun r s => .ok (yd :: r) s).bind _) at pr
                rw [e1] at pr
                have e2 : ∀ r : List PyData, acc ++ [yd] ++ r = acc ++ yd :: r := fun r => by simp
                simp only [Out.bind, e2] at pr ⊢
                exact pr
  · have e : i = items.length := by omega
    subst e
    rw [List.drop_length] at pr
    refine .inl ⟨hJ.stop Fc Hc _ incF st.sub (Nat.le_refl _), pr (.ref D) Fc Hc st so ⟨D, xs, rfl, hD, hDc, fD, nG, ?_⟩⟩
    rw [List.append_nil]
    exact ra
theorem sf_lc {elt tg iter : Expr} {ifs : List Expr} {scope : Scope} {own : List (Str × Nat)} {t : Tg} {gi : Ev → LS → Out (List D)} {gc : Ev → LS → Out Bool} {ge : Ev → LS → Out D} (c : Cc X W k) (hi : SI X W G tg iter gi) (ok : BlkOk X.N X.env.scope scope own)
    (hg : ∀ (s : Shared) (H : Hp) (C : Addr) (cl : List (Str × Addr)) (fp : List Addr), PG (X.blk s H scope (compEnvC scope cl C X.env) fp) tg (TgR X.K t))
    (ht : ∀ (s : Shared) (H : Hp) (C : Addr) (cl : List (Str × Addr)) (fp : List Addr), SPT (X.blk s H scope (compEnvC scope cl C X.env) fp) W0 G ifs gc)
    (he : ∀ (s : Shared) (H : Hp) (C : Addr) (cl : List (Str × Addr)) (fp : List Addr), SE (X.blk s H scope (compEnvC scope cl C X.env) fp) W0 G elt ge)
    (hts : ∀ i ∈ t.slots, i ∈ own.map (·.2) := by decide) (hs : ∀ x, foldedSetIterable iter X.env x = pure x := by intro _; rfl) :
    SF X W G (.ListComp elt [⟨tg, iter, ifs, 0⟩] scope pos) (lcG t (own.map (·.2)) gi gc ge) := by
  refine SG.mk (pe_lc (tt := tG X.K X.mg W0 G RB gc) (te := tG X.K X.mg W0 G RD ge) c.calm c.nd hi ok hg ht he hs) fun F0 H0 F H σ env s Q rl p => ?_
  refine ⟨F0, H0, F, env, s, rl, post_bind p fun items s1 J F1 H1 st1 so1 rJ p1 => ?_⟩
  split at p1
  · rename_i hz
    exact lc_run hts (rl.step st1 so1) hz rJ p1
  · exact p1.elim
end
end DS
end

section
set_option Elab.async false
set_option linter.all false
set_option maxRecDepth 100000
set_option autoImplicit false
namespace DS
open PySem PySem.Spec L2
open PyProof.Rows hiding St
section
variable {X : Cx} {W : WX} {G : Gh} {e a b : Expr} {es : List Expr} {K : PySem.W.Frag} {F H F' H' F0 H0 : Hp} {σ : L2.St} {env env' : Ev} {s s' : LS} {v : V} {d : D} {pos : Pos} {k : Nat}
/-! ## statements -/
def evS {α : Type} (o : Out α) (env : Ev) (f : α → LS → SOut) : SOut := match o with
  | .ok a s => f a s
  | .err x s => .err x env s
  | .bad => .bad
def nopD (env : Ev) (s : LS) : SOut := .nx env s
def seqD (g1 g2 : Ev → LS → SOut) (env : Ev) (s : LS) : SOut := match g1 env s with
  | .nx e s => g2 e s
  | o => o
theorem ev_use {α β : Type} {R : RR α β} {Q : β → Hp → Prop} {mg : Str → Option Value} {D : Ends} {o : Out α} {f : α → LS → SOut} (rl : Rel K G F0 H0 F H σ env s) (p : PostS K mg W G F0 H0 F D (evS o env f))
    (q : ∀ a s' b F' H', Rel K G F0 H0 F' H' σ env s' → Step G F H F' H' → R.r K G H F' H' b a → PostS K mg W G F0 H0 F' D (f a s') → Q b H') : Post K mg W G F H σ R Q o := by
  cases o with
  | ok a s => exact fun b F' H' st so r => q a s b F' H' (rl.step st so) st r (PostS.inc (st.inc rl.sub) p)
  | err x s => exact fun cls dd F' H' st so rx => p cls dd F' H' σ (rl.step st so) (st.inc rl.sub) rx
  | bad => exact p
theorem same {F : Hp} : ∀ a o, F a = some o → F a = some o := fun _ _ z => z
theorem ss_nil : SSs X W G [] nopD := SSs.mk pss_nil fun F0 H0 F H σ env s D r p => p F H σ r same
theorem ss_cons {st : Stmt} {sts : List Stmt} {g1 g2 : Ev → LS → SOut} (h1 : SS X W G st g1) (h2 : SSs X W G sts g2) : SSs X W G (st :: sts) (seqD g1 g2) := by
  obtain ⟨t1, h1, k1⟩ := h1.use
  obtain ⟨t2, h2, k2⟩ := h2.use
  refine SSs.mk (pss_cons h1 h2) fun F0 H0 F H σ env s D r p => k1 F0 H0 F H σ env s _ r ?_
  unfold seqD at p
  cases q : g1 env s with
  | nx e s1 => rw [q] at p; exact fun F' H' σ' r' i => k2 F0 H0 F' H' σ' e s1 D r' (PostS.inc i p)
  | rt d s1 => rw [q] at p; exact p
  | bk e s1 => rw [q] at p; exact p
  | ct e s1 => rw [q] at p; exact p
  | err x e s1 => rw [q] at p; exact p
  | bad => rw [q] at p; exact p
theorem ss_one {st : Stmt} {g1 : Ev → LS → SOut} (h1 : SS X W G st g1) : SSs X W G [st] g1 := by
  obtain ⟨t1, h1, k1⟩ := h1.use
  exact SSs.mk (pss_one h1) k1
def retD (g : Ev → LS → Out D) (env : Ev) (s : LS) : SOut := evS (g env s) env fun d s => .rt d s
theorem ss_ret {g : Ev → LS → Out D} (h : SE X W G e g) : SS X W G (.Return (some e) pos) (retD g) := by
  obtain ⟨t, h, kk⟩ := h.use
  exact SS.mk (ps_ret h) fun F0 H0 F H σ env s D r p => kk F0 H0 F H σ env s _ r (ev_use r p fun d s' v F' H' rl' st rp p1 => p1 v F' H' rl'.st rl'.so rp)
def retN (_ : Ev) (s : LS) : SOut := .rt .none s
theorem ss_retN : SS X W G (.Return none pos) retN := SS.mk ps_retN fun F0 H0 F H σ env s D r p => p .non F H r.st r.so .non
theorem ss_pass : SS X W G (.Pass pos) nopD := SS.mk ps_pass fun F0 H0 F H σ env s D r p => p F H σ r same
theorem ss_doc {x j pos'} : SS X W G (.Expr (.Constant (.str x) j pos) pos') nopD := SS.mk ps_doc fun F0 H0 F H σ env s D r p => p F H σ r same
def brkD (env : Ev) (s : LS) : SOut := .bk env s
def cntD (env : Ev) (s : LS) : SOut := .ct env s
theorem ss_break : SS X W G (.Break pos) brkD := SS.mk ps_break fun F0 H0 F H σ env s D r p => p F H σ r same
theorem ss_continue : SS X W G (.Continue pos) cntD := SS.mk ps_continue fun F0 H0 F H σ env s D r p => p F H σ r same
def ifD (gc : Ev → LS → Out Bool) (ga gb : Ev → LS → SOut) (env : Ev) (s : LS) : SOut := evS (gc env s) env fun b s => if b then ga env s else gb env s
theorem ss_if {c : Expr} {as bs : List Stmt} {gc : Ev → LS → Out Bool} {ga gb : Ev → LS → SOut} (hc : SB X W G c gc) (ha : SSs X W G as ga) (hb : SSs X W G bs gb) : SS X W G (.If c as bs pos) (ifD gc ga gb) := by
  obtain ⟨tc, hc, kc⟩ := hc.use
  obtain ⟨ta, ha, ka⟩ := ha.use
  obtain ⟨tb, hb, kb⟩ := hb.use
  refine SS.mk (ps_if hc ha hb) fun F0 H0 F H σ env s D r p => kc F0 H0 F H σ env s _ r (ev_use r p fun c s' v F' H' rl' st rp p1 => ?_)
  cases rp
  cases c with
  | true => exact iteT (ka F0 H0 F' H' σ env s' D rl' p1)
  | false => exact iteF (kb F0 H0 F' H' σ env s' D rl' p1)
def exprD {α : Type} (g : Ev → LS → Out α) (env : Ev) (s : LS) : SOut := evS (g env s) env fun _ s => .nx env s
theorem ss_expr {g : Ev → LS → Out D} (h : SE X W G e g) (hs : swapsWith e none pos.line X.env = pure false := by rfl) : SS X W G (.Expr e pos) (exprD g) := by
  obtain ⟨t, h, kk⟩ := h.use
  exact SS.mk (ps_expr h hs) fun F0 H0 F H σ env s D r p => kk F0 H0 F H σ env s _ r (ev_use r p fun d s' v F' H' rl' st rp p1 => p1 F' H' σ rl' same)
/-! ### names are given values -/
theorem Rel.setV (r : Rel K G F0 H0 F H σ env s) (r' : Rel K G F0 H0 F' H' σ env s') (st : Step G F H F' H') {i : Nat} {ev : EV} (q : RV.r K G H F' H' v ev) : Rel K G F0 H0 F' H' (σ.set i (some v)) (env.set i ev) s' := by
  have some_lt : ∀ {ev : EV} {e : EV}, (env.set i ev)[i]? = some e → i < env.length := fun {ev e} h => by
    by_cases w : i < env.length
    · exact w
    · rw [List.getElem?_eq_none_iff.mpr (by rw [List.length_set]; omega)] at h; cases h
  cases ev with
  | un => exact q.elim
  | sh d => exact r'.setSh q
  | ow ds =>
    obtain ⟨p, xs, rfl, hp, hp', fp, ng, ra⟩ := q
    have h0 : H0 p = none := r.st.dom p hp
    refine ⟨r'.st, by rw [List.length_set, List.length_set]; exact r'.len, fun j e h => ?_, fun j l dj dl hne h1 h2 => ?_, r'.so⟩
    · by_cases z : i = j
      · subst z
        have hl := some_lt h
        rw [List.getElem?_set_self hl] at h
        cases h
        exact ⟨_, List.getElem?_set_self (by rw [← r.len]; exact hl), p, xs, rfl, hp', fp, h0, ng, ra⟩
      · rw [List.getElem?_set_ne z] at h
        rw [List.getElem?_set_ne z]
        exact r'.slots j e h
    · have other : ∀ {m : Nat} {dm : List D}, i ≠ m → env[m]? = some (.ow dm) → σ[m]? ≠ some (some (.ref p)) := fun {m dm} z h e => by
        obtain ⟨x, e1, p2, xs2, e2, hp2, _⟩ := r.slots m _ h
        rw [e] at e1
        cases e1
        cases e2
        rw [hp] at hp2
        cases hp2
      by_cases zj : i = j
      · subst zj
        have zl : i ≠ l := hne
        rw [List.getElem?_set_ne zl] at h2
        rw [List.getElem?_set_self (by rw [← r.len]; exact some_lt h1), List.getElem?_set_ne zl]
        exact fun e => other zl h2 e.symm
      · by_cases zl : i = l
        · subst zl
          rw [List.getElem?_set_ne zj] at h1
          rw [List.getElem?_set_self (by rw [← r.len]; exact some_lt h2), List.getElem?_set_ne zj]
          exact other zj h1
        · rw [List.getElem?_set_ne zj] at h1 ⊢
          rw [List.getElem?_set_ne zl] at h2 ⊢
          exact r.dist j l dj dl hne h1 h2
  | ex a dd fs => exact q.elim
  | st =>
    obtain ⟨a, b, e, rfl⟩ := q
    refine ⟨r'.st, by rw [List.length_set, List.length_set]; exact r'.len, fun j e h => ?_, fun j l dj dl hne h1 h2 => ?_, r'.so⟩
    · by_cases z : i = j
      · subst z
        have hl := some_lt h
        rw [List.getElem?_set_self hl] at h
        cases h
        exact ⟨_, List.getElem?_set_self (by rw [← r.len]; exact hl), a, b, by assumption, rfl⟩
      · rw [List.getElem?_set_ne z] at h
        rw [List.getElem?_set_ne z]
        exact r'.slots j e h
    · have nj : i ≠ j := fun z => by
        subst z
        rw [List.getElem?_set_self (some_lt h1)] at h1; cases h1
      have nl : i ≠ l := fun z => by
        subst z
        rw [List.getElem?_set_self (some_lt h2)] at h2; cases h2
      rw [List.getElem?_set_ne nj] at h1 ⊢
      rw [List.getElem?_set_ne nl] at h2 ⊢
      exact r.dist j l dj dl hne h1 h2
def setD (i : Nat) (g : Ev → LS → Out EV) (env : Ev) (s : LS) : SOut := evS (g env s) env fun v s => .nx (env.set i v) s
theorem ss_set {i : Nat} {x : Str} {pos' : Pos} {g : Ev → LS → Out EV} (c : Cc X W k) (hi : X.N[i]? = some x) (hx : L2.Loc X.env.scope x) (he : SV X W G e g) (hs : swapsWith e (some (.Name x pos')) pos.line X.env = pure false := by rfl) (hf : X.fn x = true ∨ X.env.scope.names.lookup x = some .local := by first | exact .inl rfl | exact .inr rfl | assumption) :
    SS X W G (.Assign [.Name x pos'] e pos) (setD i g) := by
  obtain ⟨t, h, kk⟩ := he.use
  exact SS.mk (ps_set c.nd hi hx h hs hf) fun F0 H0 F H σ env s D r p => kk F0 H0 F H σ env s _ r (ev_use r p fun ev s' v F' H' rl' st rp p1 => p1 F' H' _ (r.setV rl' st rp) same)
/-- y = [..]: a local name takes a comprehension's list -/
theorem ss_setLc {i : Nat} {y : Str} {py : Pos} {elt tg iter : Expr} {ifs : List Expr} {scope : Scope} {own : List (Str × Nat)} {spos : Pos} {t : Tg} {gi : Ev → LS → Out (List D)} {gc : Ev → LS → Out Bool} {ge : Ev → LS → Out D} (c : Cc X W k) (hy : X.N[i]? = some y) (hyl : X.env.scope.names.lookup y = some .local)
    (hsw : swapsWith (.ListComp elt [⟨tg, iter, ifs, 0⟩] scope pos) (some (.Name y py)) spos.line X.env = pure true) (hi : SI X W G tg iter gi) (ok : BlkOk X.N X.env.scope scope own)
    (hg : ∀ (s : Shared) (H : Hp) (C : Addr) (cl : List (Str × Addr)) (fp : List Addr), PG (X.blk s H scope (compEnvC scope cl C X.env) fp) tg (TgR X.K t))
    (ht : ∀ (s : Shared) (H : Hp) (C : Addr) (cl : List (Str × Addr)) (fp : List Addr), SPT (X.blk s H scope (compEnvC scope cl C X.env) fp) W0 G ifs gc)
    (he : ∀ (s : Shared) (H : Hp) (C : Addr) (cl : List (Str × Addr)) (fp : List Addr), SE (X.blk s H scope (compEnvC scope cl C X.env) fp) W0 G elt ge)
    (hts : ∀ i ∈ t.slots, i ∈ own.map (·.2) := by decide) (hs : ∀ x, foldedSetIterable iter X.env x = pure x := by intro _; rfl) :
    SS X W G (.Assign [.Name y py] (.ListComp elt [⟨tg, iter, ifs, 0⟩] scope pos) spos) (setD i (asOw (lcG t (own.map (·.2)) gi gc ge))) := by
  refine SS.mk (ps_setLc (tt := tG X.K X.mg W0 G RB gc) (te := tG X.K X.mg W0 G RD ge) c.calm c.nd hy hyl hsw hi ok hg ht he hs) fun F0 H0 F H σ env s D r p => ?_
  unfold setD at p
  have p' := ev_use (R := RV) (Q := fun v H' => D.nx (σ.set i (some v)) H') r p (fun ev s' v F' H' rl' st rp p1 => p1 F' H' _ (r.setV rl' st rp) same)
  unfold asOw lcG at p'
  have e1 : ∀ {α β γ : Type} (o : Out α) (f : α → LS → Out β) (g : β → LS → Out γ), (o.bind f).bind g = o.bind fun a s => (f a s).bind g := fun o f g => by cases o <;> rfl
  rw [e1] at p'
  refine ⟨F0, H0, F, env, s, r, post_bind p' fun items s1 J F1 H1 st1 so1 rJ p1 => ?_⟩
  split at p1
  · rename_i hz
    exact lc_run hts (r.step st1 so1) hz rJ (Post.map p1 fun _ _ _ _ _ z => z)
  · exact p1.elim
/-- a, b = e1, e2 -/
def par2 (i j : Nat) (ga gb : Ev → LS → Out EV) (env : Ev) (s : LS) : SOut := evS (ga env s) env fun x s => evS (gb env s) env fun y s => .nx ((env.set i x).set j y) s
theorem RV.step (h : ∀ a o, F a = some o → H a = some o) {H1 : Hp} {ev : EV} (st : Step G F H F' H') (q : RV.r K G H1 F H v ev) : RV.r K G H1 F' H' v ev := by
  cases ev with
  | un => exact q
  | sh d => exact Rp.mono (st.inc h) q
  | ow ds =>
    obtain ⟨p, xs, rfl, hp, hp', fp, ng, ra⟩ := q
    exact ⟨p, xs, rfl, hp, st.keep _ _ hp' ng, (st.frz _ _ hp').trans fp, ng, ra.mono (st.inc h)⟩
  | st => exact q
  | ex a dd fs => exact q.elim
theorem ss_par {i j : Nat} {x y : Str} {px py pt : Pos} {kt k2 : Nat} {pt2 : Pos} {ga gb : Ev → LS → Out EV} (c : Cc X W k) (hi : X.N[i]? = some x) (hj : X.N[j]? = some y) (hij : i ≠ j) (hx : X.env.scope.names.lookup x = some .local) (hy : X.env.scope.names.lookup y = some .local)
    (ha : SV X W G a ga) (hb : SV X W G b gb) (hsw : swappedStores [.Tuple [.Name x px, .Name y py] kt pt] (.Tuple [a, b] k2 pt2) X.env = pure (some [x, y])) (hs : swapsWithSole [.Tuple [.Name x px, .Name y py] kt pt] (.Tuple [a, b] k2 pt2) pos.line X.env = pure false := by rfl)
    (hs1 : starEach (a :: [b]) X.env = (false, eval a X.env) :: starEach [b] X.env := by rfl) (hs3 : starEach (b :: []) X.env = (false, eval b X.env) :: starEach [] X.env := by rfl) :
    SS X W G (.Assign [.Tuple [.Name x px, .Name y py] kt pt] (.Tuple [a, b] k2 pt2) pos) (par2 i j ga gb) := by
  obtain ⟨ta, ha, ka⟩ := ha.use
  obtain ⟨tb, hb, kb⟩ := hb.use
  refine SS.mk (ps_par c.calm c.nd hi hj hij hx hy (pa_cons ha (pa_cons hb pa_nil hs3) hs1) hsw hs) fun F0 H0 F H σ env s D r p => ka F0 H0 F H σ env s _ r (ev_use r p fun ev s1 v F1 H1 rl1 st1 rp p1 => ?_)
  refine kb F0 H0 F1 H1 σ env s1 _ rl1 (ev_use rl1 p1 fun ev2 s2 w F2 H2 rl2 st2 rq p2 => ?_)
  refine ⟨v, w, rfl, p2 F2 H2 _ ?_ same⟩
  have q1 : Rel X.K G F0 H0 F1 H1 (σ.set i (some v)) (env.set i ev) s1 := r.setV rl1 st1 rp
  exact q1.setV (q1.step st2 rl2.so) st2 rq
def par3 (i j l : Nat) (ga gb gc : Ev → LS → Out EV) (env : Ev) (s : LS) : SOut := evS (ga env s) env fun x s => evS (gb env s) env fun y s => evS (gc env s) env fun z s => .nx (((env.set i x).set j y).set l z) s
theorem ss_par3 {c' : Expr} {i j l : Nat} {x y z : Str} {px py pz pt : Pos} {kt k2 : Nat} {pt2 : Pos} {ga gb gc : Ev → LS → Out EV} (c : Cc X W k) (hi : X.N[i]? = some x) (hj : X.N[j]? = some y) (hl : X.N[l]? = some z) (hij : i ≠ j) (hil : i ≠ l) (hjl : j ≠ l) (hx : X.env.scope.names.lookup x = some .local) (hy : X.env.scope.names.lookup y = some .local) (hz : X.env.scope.names.lookup z = some .local)
    (ha : SV X W G a ga) (hb : SV X W G b gb) (hc : SV X W G c' gc) (hsw : swappedStores [.Tuple [.Name x px, .Name y py, .Name z pz] kt pt] (.Tuple [a, b, c'] k2 pt2) X.env = pure (some [x, y, z])) (hs : swapsWithSole [.Tuple [.Name x px, .Name y py, .Name z pz] kt pt] (.Tuple [a, b, c'] k2 pt2) pos.line X.env = pure false := by rfl)
    (hs1 : starEach (a :: [b, c']) X.env = (false, eval a X.env) :: starEach [b, c'] X.env := by rfl) (hs2 : starEach (b :: [c']) X.env = (false, eval b X.env) :: starEach [c'] X.env := by rfl) (hs3 : starEach (c' :: []) X.env = (false, eval c' X.env) :: starEach [] X.env := by rfl) :
    SS X W G (.Assign [.Tuple [.Name x px, .Name y py, .Name z pz] kt pt] (.Tuple [a, b, c'] k2 pt2) pos) (par3 i j l ga gb gc) := by
  obtain ⟨ta, ha, ka⟩ := ha.use
  obtain ⟨tb, hb, kb⟩ := hb.use
  obtain ⟨tc, hc, kc⟩ := hc.use
  refine SS.mk (ps_par3 c.calm c.nd hi hj hl hij hil hjl hx hy hz (pa_cons ha (pa_cons hb (pa_cons hc pa_nil hs3) hs2) hs1) hsw hs) fun F0 H0 F H σ env s D r p => ka F0 H0 F H σ env s _ r (ev_use r p fun ev s1 v F1 H1 rl1 st1 rp p1 => ?_)
  refine kb F0 H0 F1 H1 σ env s1 _ rl1 (ev_use rl1 p1 fun ev2 s2 w F2 H2 rl2 st2 rq p2 => ?_)
  refine kc F0 H0 F2 H2 σ env s2 _ rl2 (ev_use rl2 p2 fun ev3 s3 u F3 H3 rl3 st3 rr p3 => ?_)
  refine ⟨v, w, u, rfl, p3 F3 H3 _ ?_ same⟩
  have q1 : Rel X.K G F0 H0 F1 H1 (σ.set i (some v)) (env.set i ev) s1 := r.setV rl1 st1 rp
  have q2 := q1.setV (q1.step st2 rl2.so) st2 rq (i := j)
  exact q2.setV (q2.step st3 rl3.so) st3 rr
/-- a, b, .. = e (a tuple) -/
def unpD (t : Tg) (g : Ev → LS → Out D) (env : Ev) (s : LS) : SOut := evS (g env s) env fun d s => match t.asg d env with
  | some env' => .nx env' s
  | none => .bad
theorem ss_unp {tg : Expr} {t : Tg} {g : Ev → LS → Out D} (he : SE X W G e g) (hg : PG X tg (TgR X.K t)) (hs : swapsWithSole [tg] e pos.line X.env = pure false := by rfl) (hw : swappedStores [tg] e X.env = pure none := by rfl)
    (h1 : (assignEach [tg] X.env).map (·.2) = [assign tg X.env] := by rfl) : SS X W G (.Assign [tg] e pos) (unpD t g) := by
  obtain ⟨te, h, kk⟩ := he.use
  refine SS.mk (ps_asg h hg hs hw h1) fun F0 H0 F H σ env s D r p => kk F0 H0 F H σ env s _ r (ev_use r p fun d s' v F' H' rl' st rp p1 => ?_)
  split at p1
  · rename_i env' hq
    exact tg_run rl' rp hq fun σ' r' _ => p1 F' H' σ' r' same
  · exact p1.elim
/-- x += e -/
def augD (f : D → D → Option D) (i : Nat) (g : Ev → LS → Out D) (env : Ev) (s : LS) : SOut := match env[i]? with
  | some (.sh x) => evS (g env s) env fun y s => match f x y with
    | some z => .nx (env.set i (.sh z)) s
    | none => .bad
  | _ => .bad
def IpS (X : Cx) (G : Gh) (op : Operator) (g : D → D → Option D) : Prop :=
  ∃ r, PIp X op r ∧ ∀ F H x y dx dy d Q, (∀ a o, F a = some o → H a = some o) → Rp X.K F x dx → Rp X.K F y dy → g dx dy = some d → (∀ v F' H', Step none F H F' H' → Rp X.K F' v d → Q v H') → r x y H Q
def augI : D → D → Option D
  | .int i, .int j => some (.int (i + j))
  | _, _ => none
theorem ip_addI : IpS X G .Add augI := by
  refine ⟨_, ip_add, fun F H x y dx dy d Q sub hx hy e q => ?_⟩
  unfold augI at e
  split at e
  · cases e
    cases hx; cases hy
    exact ⟨_, _, rfl, rfl, stay sub q (.int _)⟩
  · cases e
theorem ip_subI : IpS X G .Sub subD := by
  refine ⟨_, ip_sub, fun F H x y dx dy d Q sub hx hy e q => ?_⟩
  unfold subD at e
  split at e
  · cases e
    cases hx; cases hy
    exact ⟨_, _, rfl, rfl, stay sub q (.int _)⟩
  · cases e
theorem ss_aug {i : Nat} {x : Str} {pos' : Pos} {op : Operator} {f : D → D → Option D} {g : Ev → LS → Out D} (c : Cc X W k) (ip : IpS X G op f) (hi : X.N[i]? = some x) (hx : L2.Loc X.env.scope x) (he : SE X W G e g) (hf : X.fn x = true ∨ X.env.scope.names.lookup x = some .local := by first | exact .inl rfl | exact .inr rfl | assumption) :
    SS X W G (.AugAssign (.Name x pos') op e pos) (augD f i g) := by
  obtain ⟨t, h, kk⟩ := he.use
  obtain ⟨ri, ip, ki⟩ := ip
  refine SS.mk (ps_aug c.nd hi hx h ip hf) fun F0 H0 F H σ env s D r p => ?_
  unfold augD at p
  split at p
  · rename_i dx hdx
    obtain ⟨x, e1, v, rfl, q⟩ := r.slots i _ hdx
    refine ⟨v, e1, kk F0 H0 F H σ env s _ r (ev_use r p fun dy s' w F' H' rl' st rp p1 => ?_)⟩
    split at p1
    · rename_i dz hz
      exact ki F' H' v w dx dy dz _ st.sub (Rp.mono (st.inc r.sub) q) rp hz fun u F2 H2 st2 ru => p1 F2 H2 _ ((rl'.step st2.weak (rl'.so.pure st2)).setSh ru) (st2.inc st.sub)
    · exact p1.elim
  · exact p.elim
/-! ### one's own lists are changed -/
theorem Rel.put (r : Rel K G F0 H0 F H σ env s) {i : Nat} {p : Addr} {xs ys : List V} {ds es : List D} (he : env[i]? = some (.ow ds)) (hσ : σ[i]? = some (some (.ref p))) (hp : H p = some (.lst xs)) (ra : RpAll K F ys es) :
    Rel K G F0 H0 F (upd H p (.lst ys)) σ (env.set i (.ow es)) s := by
  obtain ⟨x, e1, p', xs', e2, hp', fp, h0, ng, _⟩ := r.slots i _ he
  rw [hσ] at e1
  cases e1
  cases e2
  have hl : i < env.length := by
    by_cases w : i < env.length
    · exact w
    · rw [List.getElem?_eq_none_iff.mpr (by omega)] at he; cases he
  refine ⟨⟨fun a o z => ?_, fun a o z n => ?_, r.st.frz, fun a z => ?_⟩, by rw [List.length_set]; exact r.len, fun j e h => ?_, fun j l dj dl hne h1 h2 => ?_, ?_⟩
  · rw [upd_ne (ne_of_none z fp)]; exact r.st.sub a o z
  · rw [upd_ne (ne_of_none z h0)]; exact r.st.keep a o z n
  · by_cases w : a = p
    · subst w; exact h0
    · rw [upd_ne w] at z; exact r.st.dom a z
  · by_cases z : i = j
    · subst z
      rw [List.getElem?_set_self hl] at h
      cases h
      exact ⟨_, hσ, p, ys, rfl, upd_same, fp, h0, ng, ra⟩
    · rw [List.getElem?_set_ne z] at h
      obtain ⟨x, e1, q⟩ := r.slots j e h
      refine ⟨x, e1, ?_⟩
      cases e with
      | un => trivial
      | sh d => exact q
      | st => exact q
      | ex a dd fs => exact q
      | ow dj =>
        obtain ⟨p2, xs2, e2, hp2, r2⟩ := q
        have ne : p2 ≠ p := fun w => r.dist i j ds dj z he h (by rw [hσ, e1, e2, w])
        exact ⟨p2, xs2, e2, by rw [upd_ne ne]; exact hp2, r2⟩
  · have g : ∀ {m : Nat} {dm : List D}, (env.set i (.ow es))[m]? = some (.ow dm) → ∃ d', env[m]? = some (.ow d') := fun {m dm} h => by
      by_cases z : i = m
      · subst z; exact ⟨_, he⟩
      · rw [List.getElem?_set_ne z] at h; exact ⟨_, h⟩
    obtain ⟨d1, h1⟩ := g h1
    obtain ⟨d2, h2⟩ := g h2
    exact r.dist j l d1 d2 hne h1 h2
  · have so := r.so
    cases s with
    | none => exact so
    | some q =>
      obtain ⟨p0, cs⟩ := q
      obtain ⟨a, b, e, ne, fa, fb, ha, hb⟩ := so
      subst e
      exact ⟨a, b, rfl, ne, fa, fb, by rw [upd_ne fun z => ng (.inl z.symm)]; exact ha, by rw [upd_ne fun z => ng (.inr z.symm)]; exact hb⟩
def appD (i : Nat) (g : Ev → LS → Out D) (env : Ev) (s : LS) : SOut := match env[i]? with
  | some (.ow ds) => evS (g env s) env fun d s => if ds.length < sizeLine then .nx (env.set i (.ow (ds ++ [d]))) s else .bad
  | _ => .bad
theorem ss_app {i : Nat} {o : Expr} {apos cpos : Pos} {g : Ev → LS → Out D} (ho : PE X o (tVar i)) (he : SE X W G e g) (h1 : attributeBase o "append" X.env (eval o X.env) = eval o X.env := by rfl)
    (h2 : ((((backTo cpos (starEach (e :: []) X.env)).all fun x => !x.1) && (backToKw cpos (keywordEach [] X.env)).all fun x => x.1.isSome) && decide ((([e] : List Expr).length + ([] : List Keyword).length + if ([] : List Keyword).isEmpty = true then 0 else 1) < 30)) = true := by rfl) (h3 : (apos.endLine == cpos.line) = true := by rfl)
    (h4 : starEach (e :: []) X.env = (false, eval e X.env) :: starEach [] X.env := by rfl) (h5 : (backTo cpos (starEach [] X.env)).any (·.1) = false := by rfl) (hs : swapsWith (.Call (.Attribute o "append" apos) [e] [] cpos) none pos.line X.env = pure false := by rfl) :
    SS X W G (.Expr (.Call (.Attribute o "append" apos) [e] [] cpos) pos) (appD i g) := by
  obtain ⟨t, h, kk⟩ := he.use
  refine SS.mk (ps_expr (pe_bm PySem.F.plainAttrs_list PySem.F.slot_list_append PySem.F.type_list_append mt_append ho (pa_cons h pa_nil h4) h1 h2 h3 h4 h5) hs) fun F0 H0 F H σ env s D r p => ?_
  unfold appD at p
  split at p
  · rename_i ds hds
    obtain ⟨x, e1, pp, xs, rfl, hp, fp, h0, ng, ra⟩ := r.slots i _ hds
    refine ⟨.ref pp, e1, .inl ⟨rfl, xs, SqL.of hp⟩, kk F0 H0 F H σ env s _ r (ev_use r p fun d s' v F' H' rl' st rp p1 => ?_)⟩
    split at p1
    · rename_i hz
      have ra' := ra.mono (st.inc r.sub)
      have hp' := st.keep _ _ hp ng
      exact ⟨pp, xs, v, rfl, rfl, hp', by rw [ra.length]; exact hz, p1 F' _ σ (rl'.put hds e1 hp' (ra'.append (.cons rp .nil))) same⟩
    · exact p1.elim
  · exact p.elim
def popD (i : Nat) (env : Ev) (s : LS) : SOut := match env[i]? with
  | some (.ow ds) => if ds ≠ [] then .nx (env.set i (.ow ds.dropLast)) s else .bad
  | _ => .bad
theorem RpAll.dropLast : ∀ {vs : List V} {ds : List D}, RpAll K F vs ds → RpAll K F vs.dropLast ds.dropLast
  | _, _, .nil => .nil
  | _, _, .cons a .nil => .nil
  | _, _, .cons a (.cons b c) => .cons a (RpAll.dropLast (.cons b c))
theorem ss_pop {i : Nat} {o : Expr} {apos cpos : Pos} (hp : ∀ (h : PE X o (tVar i)), PS X (.Expr (.Call (.Attribute o "pop" apos) [] [] cpos) pos) (tDrop (tBM0 X.K "list" rPop (tVar i)))) (ho : PE X o (tVar i)) : SS X W G (.Expr (.Call (.Attribute o "pop" apos) [] [] cpos) pos) (popD i) := by
  refine SS.mk (hp ho) fun F0 H0 F H σ env s D r p => ?_
  unfold popD at p
  split at p
  · rename_i ds hds
    split at p
    · rename_i hne
      obtain ⟨x, e1, pp, xs, rfl, hp, fp, h0, ng, ra⟩ := r.slots i _ hds
      have hl : xs ≠ [] := fun z => hne (by
        subst z
        cases ra
        rfl)
      have hlast : xs[xs.length - 1]? = some (xs.getLast hl) := by
        rw [List.getLast_eq_getElem]
        exact List.getElem?_eq_getElem _
      exact ⟨.ref pp, e1, .inl ⟨rfl, xs, SqL.of hp⟩, pp, xs, _, rfl, rfl, hp, hlast, p F _ σ (r.put hds e1 hp ra.dropLast) same⟩
    · exact p.elim
  · exact p.elim
def stoD (i : Nat) (gi g : Ev → LS → Out D) (env : Ev) (s : LS) : SOut := evS (g env s) env fun d s => match env[i]? with
  | some (.ow ds) => evS (gi env s) env fun k s => match (asI k).bind (ixN ds.length) with
    | some j => .nx (env.set i (.ow (ds.set j d))) s
    | none => .bad
  | _ => .bad
theorem ss_sto {i : Nat} {o ix : Expr} {p1 : Pos} {gi g : Ev → LS → Out D} (ho : PE X o (tVar i)) (hi : SE X W G ix gi) (he : SE X W G e g)
    (ha : ∀ v, assign (.Subscript o ix p1) X.env v = (do
      let ov ← holding [v] (eval o X.env)
      let iv ← holding [v, ov] (eval ix X.env)
      standAt p1
      holding [v, ov, iv] (setItem ov iv v)
      release [v, ov, iv] []) := by intro _; rfl) (hs : swapsWithSole [.Subscript o ix p1] e pos.line X.env = pure false := by rfl) (hw : swappedStores [.Subscript o ix p1] e X.env = pure none := by rfl)
    (h1 : (assignEach [.Subscript o ix p1] X.env).map (·.2) = [assign (.Subscript o ix p1) X.env] := by rfl) : SS X W G (.Assign [.Subscript o ix p1] e pos) (stoD i gi g) := by
  obtain ⟨t, h, kk⟩ := he.use
  obtain ⟨ti, hi, ki⟩ := hi.use
  refine SS.mk (ps_asg h (pg_sub ho hi set_list ha) hs hw h1) fun F0 H0 F H σ env s D r p => kk F0 H0 F H σ env s _ r (ev_use r p fun d s' v F' H' rl' st rp p1 => ?_)
  split at p1
  · rename_i ds hds
    obtain ⟨x, e1, pp, xs, rfl, hp, fp, h0, ng, ra⟩ := rl'.slots i _ hds
    refine ⟨.ref pp, e1, ki F0 H0 F' H' σ env s' _ rl' (ev_use rl' p1 fun dk s2 w F2 H2 rl2 st2 rk p2 => ?_)⟩
    cases q : asI dk with
    | none => rw [q] at p2; exact p2.elim
    | some kk =>
      cases asI_some q
      cases rk
      rw [q] at p2
      change PostS _ _ _ _ _ _ _ _ (match ixN ds.length kk with | some j => _ | none => _) at p2
      cases q2 : ixN ds.length kk with
      | none => rw [q2] at p2; exact p2.elim
      | some j =>
        rw [q2] at p2
        have hp2 := st2.keep _ _ hp ng
        exact ⟨pp, xs, kk, j, rfl, rfl, hp2, by rw [ra.length]; exact q2, p2 F2 _ σ (rl2.put hds e1 hp2 ((ra.mono (st2.inc st.sub)).set (Rp.mono (st2.inc st.sub) rp) j)) same⟩
  · exact p1.elim
/-- from here on the list in the slot is shared -/
def frz (i : Nat) (env : Ev) : Ev := match env[i]? with
  | some (.ow ds) => env.set i (.sh (.list ds))
  | _ => env
theorem Rel.freeze (r : Rel K G F0 H0 F H σ env s) (i : Nat) : ∃ F', Rel K G F0 H0 F' H σ (frz i env) s ∧ ∀ a o, F a = some o → F' a = some o := by
  unfold frz
  split
  · rename_i ds hds
    obtain ⟨x, e1, pp, xs, rfl, hp, fp, h0, ng, ra⟩ := r.slots i _ hds
    have hl : i < env.length := by
      by_cases w : i < env.length
      · exact w
      · rw [List.getElem?_eq_none_iff.mpr (by omega)] at hds; cases hds
    have inc : ∀ a o, F a = some o → upd F pp (.lst xs) a = some o := fun a o z => by rw [upd_ne (ne_of_none z fp)]; exact z
    refine ⟨upd F pp (.lst xs), ⟨⟨fun a o z => ?_, r.st.keep, fun a o z => ?_, r.st.dom⟩, by rw [List.length_set]; exact r.len, fun j e h => ?_, fun j l dj dl hne h1 h2 => ?_, r.so.frozen ng⟩, inc⟩
    · by_cases w : a = pp
      · subst w; rw [upd_same] at z; rw [hp, ← z]
      · rw [upd_ne w] at z; exact r.st.sub a o z
    · rw [upd_ne (ne_of_none z h0)]; exact r.st.frz a o z
    · by_cases z : i = j
      · subst z
        rw [List.getElem?_set_self hl] at h
        cases h
        exact ⟨_, e1, .ref pp, rfl, .lst upd_same (ra.mono inc)⟩
      · rw [List.getElem?_set_ne z] at h
        obtain ⟨x, e2, q⟩ := r.slots j e h
        refine ⟨x, e2, ?_⟩
        cases e with
        | un => trivial
        | sh d => obtain ⟨v, e3, q⟩ := q; exact ⟨v, e3, q.mono inc⟩
        | st => exact q
        | ex a dd fs => obtain ⟨e3, vs, q1, q2⟩ := q; exact ⟨e3, vs, inc _ _ q1, q2.mono inc⟩
        | ow dj =>
          obtain ⟨p2, xs2, e3, hp2, fp2, r2⟩ := q
          have ne : p2 ≠ pp := fun w => r.dist i j ds dj z hds h (by rw [e1, e2, e3, w])
          exact ⟨p2, xs2, e3, hp2, by rw [upd_ne ne]; exact fp2, r2.1, r2.2.1, r2.2.2.mono inc⟩
    · have nj : i ≠ j := fun z => by
        subst z
        rw [List.getElem?_set_self hl] at h1; cases h1
      have nl : i ≠ l := fun z => by
        subst z
        rw [List.getElem?_set_self hl] at h2; cases h2
      rw [List.getElem?_set_ne nj] at h1
      rw [List.getElem?_set_ne nl] at h2
      exact r.dist j l dj dl hne h1 h2
  · exact ⟨F, r, fun _ _ z => z⟩
def frzD (i : Nat) (g : Ev → LS → SOut) (env : Ev) (s : LS) : SOut := g (frz i env) s
theorem ss_frz {sts : List Stmt} {g : Ev → LS → SOut} (i : Nat) (h : SSs X W G sts g) : SSs X W G sts (frzD i g) := by
  obtain ⟨t, h, kk⟩ := h.use
  refine SSs.mk h fun F0 H0 F H σ env s D r p => ?_
  obtain ⟨F', r', inc⟩ := r.freeze i
  exact kk F0 H0 F' H σ _ s D r' (PostS.inc inc p)
/-! ### loops -/
def forD (t : Tg) (gb : Ev → LS → SOut) : List D → Ev → LS → SOut
  | [], env, s => .nx env s
  | d :: ds, env, s => match t.asg d env with
    | none => .bad
    | some env1 => match gb env1 s with
      | .nx e s => forD t gb ds e s
      | .ct e s => forD t gb ds e s
      | .bk e s => .nx e s
      | o => o
def forG (t : Tg) (gi : Ev → LS → Out (List D)) (gb : Ev → LS → SOut) (env : Ev) (s : LS) : SOut := evS (gi env s) env fun items s => forD t gb items env s
theorem ss_for {tg iter : Expr} {body : List Stmt} {t : Tg} {gi : Ev → LS → Out (List D)} {gb : Ev → LS → SOut} (c : Cc X W k) (hi : SI X W G tg iter gi) (hg : PG X tg (TgR X.K t)) (hb : SSs X W G body gb) (hs : ∀ x, foldedSetIterable iter X.env x = pure x := by intro _; rfl) :
    SS X W G (.For tg iter body [] pos) (forG t gi gb) := by
  obtain ⟨tb, hb, kb⟩ := hb.use
  refine SS.mk (ps_for c.po c.calm hi hg hb hs) fun F0 H0 F H σ env s D r p => ⟨F0, H0, F, env, s, r, ev_use r p fun items s1 J F1 H1 rl1 st1 rJ p1 => ?_⟩
  refine ⟨fun i m σ' Hc => m = items.length - i ∧ i ≤ items.length ∧ ∃ Fc ec sc, Rel X.K G F0 H0 Fc Hc σ' ec sc ∧ (∀ a o, F1 a = some o → Fc a = some o) ∧ PostS X.K X.mg W G F0 H0 F1 D (forD t gb (items.drop i) ec sc), ⟨items.length, by omega, by omega, F1, env, s1, rl1, fun _ _ z => z, by rw [List.drop_zero]; exact p1⟩, ?_⟩
  rintro i m σ' Hc ⟨rfl, hi, Fc, ec, sc, rc, inc, pc⟩
  by_cases hlt : i < items.length
  · refine .inr ⟨rJ.go Fc Hc i inc rc.sub hlt, fun σ2 H2 => ∃ F2 e2 s2, Rel X.K G F0 H0 F2 H2 σ2 e2 s2 ∧ (∀ a o, F1 a = some o → F2 a = some o) ∧ PostS X.K X.mg W G F0 H0 F1 D (forD t gb (items.drop (i + 1)) e2 s2), fun σ2 H2 q => ⟨_, by omega, rfl, hlt, q⟩, fun x H' y => ?_⟩
    obtain ⟨F2, st2, rx⟩ := rJ.yld Fc Hc i _ x H' inc rc.sub (List.getElem?_eq_getElem hlt) y
    rw [List.drop_eq_getElem_cons hlt] at pc
    have rc2 := rc.step st2.weak (rc.so.pure st2)
    have inc2 : ∀ a o, F1 a = some o → F2 a = some o := fun a o z => st2.inc rc.sub a o (inc a o z)
    unfold forD at pc
    cases q1 : t.asg items[i] ec with
    | none => rw [q1] at pc; exact pc.elim
    | some e1 =>
      rw [q1] at pc
      refine tg_run rc2 rx q1 fun σ3 rc3 _ => kb F0 H0 F2 H' σ3 e1 sc _ rc3 ?_
      cases q2 : gb e1 sc with
      | nx e s => simp only [q2] at pc; exact fun F3 H3 σ4 r4 i4 => ⟨F3, e, s, r4, fun a o z => i4 a o (inc2 a o z), pc⟩
      | ct e s => simp only [q2] at pc; exact fun F3 H3 σ4 r4 i4 => ⟨F3, e, s, r4, fun a o z => i4 a o (inc2 a o z), pc⟩
      | bk e s => simp only [q2] at pc; exact fun F3 H3 σ4 r4 i4 => pc F3 H3 σ4 r4 fun a o z => i4 a o (inc2 a o z)
      | rt d s => simp only [q2] at pc; exact pc
      | err x e s => simp only [q2] at pc; exact fun c d F3 H3 σ4 r4 i4 => pc c d F3 H3 σ4 r4 fun a o z => i4 a o (inc2 a o z)
      | bad => simp only [q2] at pc; exact pc
  · have e : i = items.length := by omega
    subst e
    rw [List.drop_length] at pc
    exact .inl ⟨rJ.stop Fc Hc _ inc rc.sub (Nat.le_refl _), pc Fc Hc σ' rc inc⟩
def whileD (gc : Ev → LS → Out Bool) (gb : Ev → LS → SOut) : Nat → Ev → LS → SOut
  | 0, _, _ => .bad
  | n + 1, env, s => evS (gc env s) env fun b s => if b then match gb env s with
      | .nx e s => whileD gc gb n e s
      | .ct e s => whileD gc gb n e s
      | .bk e s => .nx e s
      | o => o
    else .nx env s
/-- a while, by a number of turns that is enough -/
def whileG (fuel : Ev → LS → Nat) (gc : Ev → LS → Out Bool) (gb : Ev → LS → SOut) (env : Ev) (s : LS) : SOut := whileD gc gb (fuel env s) env s
theorem ss_while {c' : Expr} {body : List Stmt} {gc : Ev → LS → Out Bool} {gb : Ev → LS → SOut} (fuel : Ev → LS → Nat) (c : Cc X W k) (hc : SB X W G c' gc) (hb : SSs X W G body gb) : SS X W G (.While c' body [] pos) (whileG fuel gc gb) := by
  obtain ⟨tc, hc, kc⟩ := hc.use
  obtain ⟨tb, hb, kb⟩ := hb.use
  refine SS.mk (ps_while c.po hc hb) fun F0 H0 F H σ env s D r p => ?_
  refine ⟨fun m σ' Hc => ∃ Fc ec sc, Rel X.K G F0 H0 Fc Hc σ' ec sc ∧ PostS X.K X.mg W G F0 H0 Fc D (whileD gc gb m ec sc), ⟨fuel env s, F, env, s, r, p⟩, ?_⟩
  rintro m σ' Hc ⟨Fc, ec, sc, rc, pc⟩
  cases m with
  | zero => exact pc.elim
  | succ n =>
    unfold whileD at pc
    refine kc F0 H0 Fc Hc σ' ec sc _ rc (ev_use rc pc fun b s1 v F1 H1 rl1 st1 rb p1 => ?_)
    cases rb
    cases b with
    | false => exact iteF (p1 F1 H1 σ' rl1 same)
    | true =>
      refine iteT ⟨fun σ2 H2 => ∃ F2 e2 s2, Rel X.K G F0 H0 F2 H2 σ2 e2 s2 ∧ PostS X.K X.mg W G F0 H0 F2 D (whileD gc gb n e2 s2), fun σ2 H2 q => ⟨n, by omega, q⟩, ?_⟩
      refine kb F0 H0 F1 H1 σ' ec s1 _ rl1 ?_
      have pc' : PostS X.K X.mg W G F0 H0 F1 D (match gb ec s1 with
        | .nx e s => whileD gc gb n e s
        | .ct e s => whileD gc gb n e s
        | .bk e s => .nx e s
        | o => o) := p1
      cases q2 : gb ec s1 with
      | nx e s => simp only [q2] at pc'; exact fun F3 H3 σ4 r4 i4 => ⟨F3, e, s, r4, PostS.inc i4 pc'⟩
      | ct e s => simp only [q2] at pc'; exact fun F3 H3 σ4 r4 i4 => ⟨F3, e, s, r4, PostS.inc i4 pc'⟩
      | bk e s => simp only [q2] at pc'; exact pc'
      | rt d s => simp only [q2] at pc'; exact pc'
      | err x e s => simp only [q2] at pc'; exact pc'
      | bad => simp only [q2] at pc'; exact pc'
end
end DS
end

section
set_option Elab.async false
set_option linter.all false
set_option maxRecDepth 100000
set_option autoImplicit false
namespace DS
open PySem PySem.Spec L2
open PyProof.Rows hiding St
/-! ## defs -/
def EV.solid : EV → Bool
  | .sh _ => true
  | .st => true
  | _ => false
/-- what the caller wishes of an exception -/
abbrev WE' (E : XK) : WX := fun c d _ H => E c d H
def spF (K : PySem.W.Frag) (mg : Str → Option Value) (n : Nat) (m : List EV → LS → Out D) : Sp := fun vs H Q E => vs.length = n ∧ ∃ (G : Gh) (F : Hp) (args : List EV) (s : LS),
  (∀ a o, F a = some o → H a = some o) ∧ StOk G F H s ∧ AVs K G F H vs args ∧ args.all EV.solid = true ∧ Post K mg (WE' E) G F H [] RD Q (m args s)
/-- a def: where it stands, what it computes -/
structure FOk (P : Program) (w : World) (K : PySem.W.Frag) (mg : Str → Option Value) (base : Heap) (k : Nat) (name : Str) (ps : List Str) (m : List EV → LS → Out D) : Prop where
  ex : ∃ (f : Addr) (fd : FuncData), mg name = some (.ref f) ∧ PySem.W.keepIn K (.ref f) = true ∧ Binds K fd ps [] ∧ FnOk P w K mg base (L2.CX P w) k f fd ps (spF K mg ps.length m)
theorem FOk.mono {P : Program} {w : World} {K : PySem.W.Frag} {mg : Str → Option Value} {base : Heap} {j k : Nat} {name : Str} {ps : List Str} {m : List EV → LS → Out D} (h : FOk P w K mg base j name ps m) (hj : j ≤ k) : FOk P w K mg base k name ps m := by
  obtain ⟨f, fd, a, b, c, d⟩ := h.ex
  exact ⟨f, fd, a, b, c, d.mono hj⟩
def run (n : Nat) (g : Ev → LS → SOut) (args : List EV) (s : LS) : Out D := match g (args ++ List.replicate (n - args.length) .un) s with
  | .nx _ s => .ok .none s
  | .rt d s => .ok d s
  | .err x _ s => .err x s
  | _ => .bad
section
variable {X : Cx} {W : WX} {G : Gh} {e a b : Expr} {es : List Expr} {K : PySem.W.Frag} {F H F' H' F0 H0 : Hp} {σ : L2.St} {env env' : Ev} {s s' : LS} {v : V} {d : D} {pos : Pos} {k j : Nat} {mg : Str → Option Value}
theorem AVs.length : ∀ {vs : List V} {es : List EV}, AVs K G F H vs es → vs.length = es.length
  | [], [], _ => rfl
  | _ :: _, _ :: _, h => by rw [List.length_cons, List.length_cons, AVs.length h.2]
  | [], _ :: _, h => h.elim
  | _ :: _, [], h => h.elim
theorem AVs.get : ∀ {vs : List V} {es : List EV} {i : Nat} {e : EV}, AVs K G F H vs es → es[i]? = some e → ∃ v, vs[i]? = some v ∧ AV K G F H v e
  | v :: _, _ :: _, 0, e, h, q => by
    have q' := Option.some.inj q
    subst q'
    exact ⟨v, rfl, h.1⟩
  | _ :: _, _ :: _, i + 1, e, h, q => AVs.get (i := i) h.2 q
  | [], [], _, _, _, q => by simp at q
  | [], _ :: _, _, _, h, _ => h.elim
  | _ :: _, [], _, _, h, _ => h.elim
theorem Post.slots {α β : Type} {R : RR α β} {Q : β → Hp → Prop} {E : XK} {o : Out α} {σ' : L2.St} (h : Post K mg (WE' E) G F H σ R Q o) : Post K mg (WE' E) G F H σ' R Q o := by
  cases o with
  | ok a s => exact h
  | err x s => exact h
  | bad => exact h
/-- the start of a def's body -/
theorem Rel.start {N : List Str} {vs : List V} {args : List EV} (sub : ∀ a o, F a = some o → H a = some o) (so : StOk G F H s) (av : AVs K G F H vs args) (hs : args.all EV.solid = true) :
    Rel K G F H F H (L2.start N vs) (args ++ List.replicate (N.length - args.length) .un) s := by
  have hl := av.length
  refine ⟨Step.refl sub, ?_, fun i e h => ?_, fun i j di dj hne h1 h2 => ?_, so⟩
  · unfold L2.start
    rw [List.length_append, List.length_append, List.length_map, List.length_replicate, List.length_replicate, hl]
  · unfold L2.start
    by_cases z : i < args.length
    · rw [List.getElem?_append_left z] at h
      obtain ⟨v, e1, q⟩ := av.get h
      refine ⟨some v, ?_, ?_⟩
      · rw [List.getElem?_append_left (by rw [List.length_map, hl]; exact z), List.getElem?_map, e1]
        rfl
      · have hsol : e.solid = true := List.all_eq_true.mp hs e (List.mem_of_getElem? h)
        cases e with
        | un => cases hsol
        | sh d => exact ⟨v, rfl, q⟩
        | ow d => cases hsol
        | st => obtain ⟨a, b, e2, rfl⟩ := q; exact ⟨a, b, e2, rfl⟩
        | ex a dd fs => cases hsol
    · rw [List.getElem?_append_right (by omega)] at h
      have he : e = .un := by
        have := List.mem_of_getElem? h
        exact List.eq_of_mem_replicate this
      subst he
      have hlt : i - args.length < N.length - args.length := by
        by_cases w : i - args.length < N.length - args.length
        · exact w
        · rw [List.getElem?_eq_none_iff.mpr (by rw [List.length_replicate]; omega)] at h; cases h
      refine ⟨none, ?_, trivial⟩
      rw [List.getElem?_append_right (by rw [List.length_map, hl]; omega), List.length_map, hl]
      rw [List.getElem?_replicate]
      simp [hlt]
  · exfalso
    by_cases z : i < args.length
    · rw [List.getElem?_append_left z] at h1
      have := List.all_eq_true.mp hs _ (List.mem_of_getElem? h1)
      cases this
    · rw [List.getElem?_append_right (by omega)] at h1
      have := List.eq_of_mem_replicate (List.mem_of_getElem? h1)
      cases this
theorem post_run {N : Nat} {g : Ev → LS → SOut} {args : List EV} {E : XK} {Q : VK} (p : Post K mg (WE' E) G F H [] RD Q (run N g args s)) :
    PostS K mg (WE' E) G F H F { nx := fun _ H' => Q .non H', rt := Q } (g (args ++ List.replicate (N - args.length) .un) s) := by
  unfold run at p
  cases q : g (args ++ List.replicate (N - args.length) .un) s with
  | nx e s1 => rw [q] at p; exact fun F' H' σ' r _ => p .non F' H' r.st r.so .non
  | rt d s1 => rw [q] at p; exact fun v F' H' st so rp => p v F' H' st so rp
  | bk e s1 => rw [q] at p; exact p.elim
  | ct e s1 => rw [q] at p; exact p.elim
  | err x e s1 => rw [q] at p; exact fun c d F' H' σ' r _ rx => p c d F' H' r.st r.so rx
  | bad => rw [q] at p; exact p.elim
/-- where a def stands -/
structure DefAt (K : PySem.W.Frag) (mg : Str → Option Value) (x : Str) (st : Stmt) : Prop where
  ex : ∃ (f : Addr) (fd : FuncData), mg x = some (.ref f) ∧ FunD K x x (defArgs st) (defBody st) (defScope st) [] [] f fd
abbrev BindsH (x : Str) (st : Stmt) (ps : List Str) : Prop :=
  ∀ (kV doc pm : Value) (an : Option Addr) (cdv ct : Value) (us : List Value), us.length = ps.length → bindArgs (PySem.W.fnOf x x (defArgs st) (defBody st) (defScope st) .none kV doc pm an cdv ct) ⟨us, []⟩ = pure (ps.zip us)
theorem bindsH {x : Str} {st : Stmt} {ps : List Str} {f : Addr} {fd : FuncData} (F : FunD K x x (defArgs st) (defBody st) (defScope st) [] [] f fd) (h : BindsH x st ps) : Binds K fd ps [] := F.bindsN h
theorem fn_ok {P : Program} {w : World} {K : PySem.W.Frag} {mg : Str → Option Value} {base : Heap} {x : Str} {st : Stmt} {N ps : List Str} {g : Ev → LS → SOut} {k : Nat} (D : DefAt K mg x st) (S : FnScope N ps (defScope st)) (hb : BindsH x st ps)
    (hbody : ∀ (f : Addr) (cdv : Value) (A : Around) (outer : List Env) (s : Shared) (H : Hp) (E : XK) (G : Gh), Cc (cxOf (L2.CX P w) P w K mg base N x (defScope st) f cdv A outer s H E) (WE' E) k →
      SSs (cxOf (L2.CX P w) P w K mg base N x (defScope st) f cdv A outer s H E) (WE' E) G (defBody st) g) : FOk P w K mg base (k + 1) x ps (run N.length g) := by
  obtain ⟨f, fd, hm, F⟩ := D.ex
  refine ⟨f, fd, hm, F.kp, bindsH F hb, F.ok S (fun vs H Q E h => h.1) fun cdv A outer s H vs Q E hr h => ?_⟩
  obtain ⟨hl, G, Fz, args, ls, sub, so, av, hs, p⟩ := h
  have tk : Takes (cxOf (L2.CX P w) P w K mg base N x (defScope st) f cdv A outer s H E) (WE' E) := takes_of rfl rfl rfl rfl
  have cc : Cc (cxOf (L2.CX P w) P w K mg base N x (defScope st) f cdv A outer s H E) (WE' E) k := ⟨tk, hr, rfl, S.nd, passes_of rfl⟩
  exact ⟨_, hbody f cdv A outer s H E G cc, Fz, H, Fz, _, ls, Rel.start sub so av hs, post_run p⟩
/-! ### calls -/
/-- rows of a written length -/
def Lng {α : Type} (n : Nat) (g : Ev → LS → Out (List α)) : Prop := ∀ env s r s', g env s = .ok r s' → r.length = n
theorem lng_nil {α : Type} : Lng (α := α) 0 nilG := fun env s r s' h => by cases h; rfl
theorem lng_cons {α : Type} {n : Nat} {ga : Ev → LS → Out α} {gr : Ev → LS → Out (List α)} (h : Lng n gr) : Lng (n + 1) (consG ga gr) := fun env s r s' q => by
  unfold consG at q
  cases q1 : ga env s with
  | ok a s1 =>
    rw [q1] at q
    change (gr env s1).bind _ = _ at q
    cases q2 : gr env s1 with
    | ok b s2 =>
      rw [q2] at q
      cases q
      rw [List.length_cons, h env s1 b _ q2]
    | err _ _ => rw [q2] at q; cases q
    | bad => rw [q2] at q; cases q
  | err _ _ => rw [q1] at q; cases q
  | bad => rw [q1] at q; cases q
def callG (m : List EV → LS → Out D) (gas : Ev → LS → Out (List EV)) (env : Ev) (s : LS) : Out D := (gas env s).bind fun args s => if args.all EV.solid = true then m args s else .bad
theorem se_call {x : Str} {ps : List Str} {m : List EV → LS → Out D} {p pos : Pos} {gas : Ev → LS → Out (List EV)} (c : Cc X W k) (Fk : FOk X.prog X.w X.K X.mg X.base j x ps m) (hj : j ≤ k) (hg : Gl X x) (ha : SAs X W G (e :: es) gas)
    (hdb : (x == ("__debug__" : Str)) = false := by decide) (he : starEach (e :: es) X.env = (false, eval e X.env) :: starEach es X.env := by rfl) (hpl : (backTo pos (starEach es X.env)).any (·.1) = false := by rfl)
    (hal : Lng ps.length gas := by repeat (first | exact lng_nil | apply lng_cons)) :
    SE X W G (.Call (.Name x p) (e :: es) [] pos) (callG m gas) := by
  obtain ⟨f, fd, hm, hk, hb, Fn⟩ := Fk.ex
  obtain ⟨t, h1, h2⟩ := ha.use
  refine SG.mk (pe_callSD (E := fun σ => WE W σ) Fn (c.room.mono hj) hg hm hk hb .nil (fun σ => passAt c.tk σ) h1 hdb he hpl) fun F0 H0 F H σ env s Q rl p => ?_
  have hlen' := hal env s
  unfold callG at p
  cases q : gas env s with
  | err x s1 => rw [q] at p; exact h2 F0 H0 F H σ env s _ rl (by rw [q]; exact p)
  | bad => rw [q] at p; exact p.elim
  | ok args s1 =>
    have hl := hlen' args s1 q
    refine h2 F0 H0 F H σ env s _ rl ?_
    rw [q] at p ⊢
    intro vs F1 H1 st1 so1 rv
    change Post _ _ _ _ _ _ _ _ _ (if args.all EV.solid = true then m args s1 else .bad) at p
    split at p
    · rename_i hs
      rw [List.append_nil]
      refine ⟨by rw [AVs.length rv]; exact hl, G, F1, args, s1, st1.sub, so1, rv, hs, ?_⟩
      have p1 := Post.step p st1
      cases q3 : m args s1 with
      | ok d s2 => rw [q3] at p1; exact p1
      | err x s2 => rw [q3] at p1; exact p1
      | bad => rw [q3] at p1; exact p1
    · exact p.elim
/-! ### lists that are lent -/
mutual
def flat : D → Bool
  | .list _ => false
  | .dict _ => false
  | .tuple ds => flats ds
  | _ => true
def flats : List D → Bool
  | [] => true
  | d :: ds => flat d && flats ds
end
mutual
theorem Rp.flat_in {F F' H : Hp} (hf : ∀ a xs, F a = some (.tup xs) → F' a = some (.tup xs)) (hz : ∀ a o xs, F a = some (.frz o (.tup xs)) → F' a = some (.frz o (.tup xs))) : ∀ {v : V} {d : D}, Rp K F v d → flat d = true → Rp K F' v d
  | _, _, .non, _ => .non
  | _, _, .bl b, _ => .bl b
  | _, _, .int i, _ => .int i
  | _, _, .str x, _ => .str x
  | _, _, .lst _ _, h => by simp [flat] at h
  | _, _, .tup a b, h => .tup (by
      rcases a with (z | ⟨o, z⟩) | z
      · exact .inl (.inl (hf _ _ z))
      · exact .inl (.inr ⟨o, hz _ _ _ z⟩)
      · exact .inr z) (RpAll.flat_in (H := H) hf hz b (by simpa [flat] using h))
theorem RpAll.flat_in {F F' H : Hp} (hf : ∀ a xs, F a = some (.tup xs) → F' a = some (.tup xs)) (hz : ∀ a o xs, F a = some (.frz o (.tup xs)) → F' a = some (.frz o (.tup xs))) : ∀ {vs : List V} {ds : List D}, RpAll K F vs ds → flats ds = true → RpAll K F' vs ds
  | _, _, .nil, _ => .nil
  | _, d :: ds, .cons a b, h => by
    have h' : flat d = true ∧ flats ds = true := by simpa [flats] using h
    exact .cons (Rp.flat_in (H := H) hf hz a h'.1) (RpAll.flat_in (H := H) hf hz b h'.2)
end
def EV.lent : EV → EV
  | .ow ds => .sh (.list ds)
  | e => e
def flatOut : Out D → Out D
  | .ok d s => if flat d = true then .ok d s else .bad
  | .err x s => if x.fs.all (fun p => flat p.2) = true then .err x s else .bad
  | .bad => .bad
def callL (m : List EV → LS → Out D) (gas : Ev → LS → Out (List EV)) (env : Ev) (s : LS) : Out D := (gas env s).bind fun args s => if (args.map EV.lent).all EV.solid = true then flatOut (m (args.map EV.lent) s) else .bad
/-- what is lent, added to what stands still -/
theorem lend : ∀ {vs : List V} {es : List EV} {F : Hp}, (∀ a o, F a = some o → H a = some o) → StOk G F H s → AVs K G F H vs es → ∃ Fl, (∀ a o, F a = some o → Fl a = some o) ∧ (∀ a o, Fl a = some o → H a = some o) ∧ StOk G Fl H s ∧ (∀ a, (∃ xs, Fl a = some (.lst xs)) ∨ Fl a = F a) ∧ AVs K G Fl H vs (es.map EV.lent)
  | [], [], F, sub, so, _ => ⟨F, fun _ _ z => z, sub, so, fun _ => .inr rfl, trivial⟩
  | [], _ :: _, _, _, _, h => h.elim
  | _ :: _, [], _, _, _, h => h.elim
  | v :: vs, e :: es, F, sub, so, h => by
    obtain ⟨Fl, i1, i2, so1, alt, r⟩ := lend sub so h.2
    cases e with
    | un => exact h.1.elim
    | sh d => exact ⟨Fl, i1, i2, so1, alt, Rp.mono i1 h.1, r⟩
    | st => exact ⟨Fl, i1, i2, so1, alt, h.1, r⟩
    | ex a dd fs => exact h.1.elim
    | ow ds =>
      obtain ⟨p, xs, rfl, hp, fp, ng, ra⟩ := h.1
      have mono : ∀ a o, Fl a = some o → upd Fl p (.lst xs) a = some o := fun a o z => by
        by_cases w : a = p
        · subst w
          have := i2 _ _ z
          rw [hp] at this
          cases this
          exact upd_same
        · rw [upd_ne w]; exact z
      have avm : ∀ {vs : List V} {es : List EV}, AVs K G Fl H vs (es.map EV.lent) → AVs K G (upd Fl p (.lst xs)) H vs (es.map EV.lent) := by
        intro vs es
        induction es generalizing vs with
        | nil => intro h; cases vs with
          | nil => trivial
          | cons _ _ => exact h.elim
        | cons e es ih =>
          intro h
          cases vs with
          | nil => exact h.elim
          | cons v vs =>
            refine ⟨?_, ih h.2⟩
            cases e with
            | un => exact h.1
            | sh d => exact Rp.mono mono h.1
            | ow d => exact Rp.mono mono h.1
            | st => exact h.1
            | ex a dd fs => exact h.1.elim
      refine ⟨upd Fl p (.lst xs), fun a o z => mono a o (i1 a o z), fun a o z => ?_, so1.frozen ng, fun a => ?_, .lst upd_same (ra.mono fun a o z => mono a o (i1 a o z)), avm r⟩
      · by_cases w : a = p
        · subst w; rw [upd_same] at z; rw [hp, ← z]
        · rw [upd_ne w] at z; exact i2 a o z
      · by_cases w : a = p
        · subst w; exact .inl ⟨xs, upd_same⟩
        · rw [upd_ne w]; exact alt a
theorem StOk.back {F1 H1 : Hp} {s1 s2 : LS} (so1 : StOk G F1 H1 s1) (so : StOk G F' H' s2) : StOk G (fun a => if H1 a = none then F' a else F1 a) H' s2 := by
  cases s2 with
  | none => exact so
  | some q =>
    obtain ⟨p0, cs⟩ := q
    obtain ⟨a, b, e, ne, fa, fb, ha, hb⟩ := so
    subst e
    have inG : ∀ x, Gh.has (some (a, b)) x → F1 x = none := fun x hx => by
      cases s1 with
      | none => exact nomatch (show (some (a, b) : Gh) = none from so1)
      | some q =>
        obtain ⟨p1, cs1⟩ := q
        obtain ⟨a', b', e', _, fa', fb', _⟩ := so1
        cases e'
        rcases hx with rfl | rfl
        · exact fa'
        · exact fb'
    refine ⟨a, b, rfl, ne, ?_, ?_, ha, hb⟩
    · show (if H1 a = none then F' a else F1 a) = none
      split
      · exact fa
      · exact inG a (.inl rfl)
    · show (if H1 b = none then F' b else F1 b) = none
      split
      · exact fb
      · exact inG b (.inr rfl)
theorem se_callL {x : Str} {ps : List Str} {m : List EV → LS → Out D} {p pos : Pos} {gas : Ev → LS → Out (List EV)} (c : Cc X W k) (Fk : FOk X.prog X.w X.K X.mg X.base j x ps m) (hj : j ≤ k) (hg : Gl X x) (ha : SAs X W G (e :: es) gas)
    (hdb : (x == ("__debug__" : Str)) = false := by decide) (he : starEach (e :: es) X.env = (false, eval e X.env) :: starEach es X.env := by rfl) (hpl : (backTo pos (starEach es X.env)).any (·.1) = false := by rfl)
    (hal : Lng ps.length gas := by repeat (first | exact lng_nil | apply lng_cons)) :
    SE X W G (.Call (.Name x p) (e :: es) [] pos) (callL m gas) := by
  obtain ⟨f, fd, hm, hk, hb, Fn⟩ := Fk.ex
  obtain ⟨t, h1, h2⟩ := ha.use
  refine SG.mk (pe_callSD (E := fun σ => WE W σ) Fn (c.room.mono hj) hg hm hk hb .nil (fun σ => passAt c.tk σ) h1 hdb he hpl) fun F0 H0 F H σ env s Q rl p => ?_
  have hlen' := hal env s
  unfold callL at p
  cases q : gas env s with
  | err x s1 => rw [q] at p; exact h2 F0 H0 F H σ env s _ rl (by rw [q]; exact p)
  | bad => rw [q] at p; exact p.elim
  | ok args s1 =>
    have hl := hlen' args s1 q
    refine h2 F0 H0 F H σ env s _ rl ?_
    rw [q] at p ⊢
    intro vs F1 H1 st1 so1 rv
    change Post _ _ _ _ _ _ _ _ _ (if (args.map EV.lent).all EV.solid = true then flatOut (m (args.map EV.lent) s1) else .bad) at p
    split at p
    · rename_i hs
      rw [List.append_nil]
      obtain ⟨Fl, i1, i2, sol, alt, rl2⟩ := lend st1.sub so1 rv
      refine ⟨by rw [AVs.length rv]; exact hl, G, Fl, args.map EV.lent, s1, i2, sol, rl2, hs, ?_⟩
      -- back: what is new stands still, what was lent is one's own again
      have p1 := Post.step p st1
      have back : ∀ {F' H'}, Step G Fl H1 F' H' → StOk G F' H' s1 ∨ True → Step G F1 H1 (fun a => if H1 a = none then F' a else F1 a) H' := fun {F' H'} st _ => ⟨fun a o z => by
        split at z
        · exact st.sub a o z
        · rename_i hn
          exact st.sub a o (by
            obtain ⟨o1, e1⟩ : ∃ o1, H1 a = some o1 := by
              cases w : H1 a with
              | none => exact absurd w hn
              | some o1 => exact ⟨o1, rfl⟩
            rw [st.frz a o1 e1]
            exact i1 a o z), st.keep, fun a o z => by
        rw [if_neg (by rw [z]; exact fun w => nomatch w)], st.dom⟩
      have tupIn : ∀ {F' H'}, Step G Fl H1 F' H' → (∀ a xs, F' a = some (.tup xs) → (if H1 a = none then F' a else F1 a) = some (.tup xs)) ∧ (∀ a o xs, F' a = some (.frz o (.tup xs)) → (if H1 a = none then F' a else F1 a) = some (.frz o (.tup xs))) ∧ (∀ a fs, F' a = some (.xd fs) → (if H1 a = none then F' a else F1 a) = some (.xd fs)) := fun {F' H'} st => by
        have core : ∀ (a : Addr) (u : HO), (∀ xs, u ≠ .lst xs) → F' a = some u → (if H1 a = none then F' a else F1 a) = some u := fun a u hu z => by
          split
          · exact z
          · rename_i hn
            obtain ⟨o1, e1⟩ : ∃ o1, H1 a = some o1 := by
              cases w : H1 a with
              | none => exact absurd w hn
              | some o1 => exact ⟨o1, rfl⟩
            have := st.frz a o1 e1
            rw [z] at this
            rcases alt a with ⟨xs, w⟩ | w
            · rw [w] at this
              exact absurd (Option.some.inj this) (hu xs)
            · rw [← w, ← this]
        exact ⟨fun a xs => core a _ (fun xs z => by cases z), fun a o xs => core a _ (fun xs z => by cases z), fun a fs => core a _ (fun xs z => by cases z)⟩
      have soB : ∀ {F' H' s2}, StOk G F' H' s2 → StOk G (fun a => if H1 a = none then F' a else F1 a) H' s2 := fun {F' H' s2} so => so1.back so
      cases q3 : m (args.map EV.lent) s1 with
      | ok d s2 =>
        rw [q3] at p1
        change Post _ _ _ _ _ _ _ _ _ (if flat d = true then .ok d s2 else .bad) at p1
        split at p1
        · rename_i hfl
          intro v F' H' st so rp
          obtain ⟨t1, t2, _⟩ := tupIn st
          exact p1 v _ H' (back st (.inr trivial)) (soB so) (Rp.flat_in (H := H1) t1 t2 rp hfl)
        · exact p1.elim
      | err x s2 =>
        rw [q3] at p1
        change Post _ _ _ _ _ _ _ _ _ (if x.fs.all (fun p => flat p.2) = true then .err x s2 else .bad) at p1
        split at p1
        · rename_i hfl
          intro cls dd F' H' st so rx
          obtain ⟨t1, t2, t3⟩ := tupIn st
          obtain ⟨C, dx, fs, e1, e2, e3, e4, e5⟩ := rx
          refine p1 cls dd _ H' (back st (.inr trivial)) (soB so) ⟨C, dx, fs, e1, e2, e3, t3 _ _ e4, ?_⟩
          have fsIn : ∀ (fs : List (Str × V)) (xs : List (Str × D)), FsOk X.K F' fs xs → xs.all (fun p => flat p.2) = true → FsOk X.K (fun a => if H1 a = none then F' a else F1 a) fs xs := by
            intro fs
            induction fs with
            | nil => intro xs h _; cases xs with
              | nil => trivial
              | cons _ _ => exact h.elim
            | cons f fs ih =>
              intro xs h hall
              cases xs with
              | nil => exact h.elim
              | cons y ys =>
                have hall' : flat y.2 = true ∧ (ys.all fun p => flat p.2) = true := by simpa using hall
                exact ⟨h.1, Rp.flat_in (H := H1) t1 t2 h.2.1 hall'.1, ih ys h.2.2 hall'.2⟩
          exact fsIn fs x.fs e5 hfl
        · exact p1.elim
      | bad => rw [q3] at p1; exact p1.elim
    · exact p.elim
end
end DS
namespace DS
open PySem PySem.Spec L2
open PyProof.Rows hiding St
theorem bt_len : bootBuiltins "len" = some (.builtin "len") := by decide +kernel
theorem bt_abs : bootBuiltins "abs" = some (.builtin "abs") := by decide +kernel
theorem bt_max : bootBuiltins "max" = some (.builtin "max") := by decide +kernel
theorem bt_min : bootBuiltins "min" = some (.builtin "min") := by decide +kernel
theorem bt_sum : bootBuiltins "sum" = some (.builtin "sum") := by decide +kernel
theorem bt_all : bootBuiltins "all" = some (.builtin "all") := by decide +kernel
theorem bt_any : bootBuiltins "any" = some (.builtin "any") := by decide +kernel
theorem bt_isinstance : bootBuiltins "isinstance" = some (.builtin "isinstance") := by decide +kernel
theorem bt_int : bootBuiltins "int" = some (.type "int") := by decide +kernel
theorem bt_bool : bootBuiltins "bool" = some (.type "bool") := by decide +kernel
theorem bt_str : bootBuiltins "str" = some (.type "str") := by decide +kernel
theorem bt_list : bootBuiltins "list" = some (.type "list") := by decide +kernel
theorem bt_tuple : bootBuiltins "tuple" = some (.type "tuple") := by decide +kernel
section
variable {X : Cx} {W : WX} {G : Gh} {K : PySem.W.Frag} {pos : Pos}
def frzA (i : Nat) (g : Ev → LS → SOut) (env : Ev) (s : LS) : SOut := match g env s with
  | .nx e s => .nx (frz i e) s
  | o => o
theorem ss_post {st : Stmt} {g : Ev → LS → SOut} (i : Nat) (h : SS X W G st g) : SS X W G st (frzA i g) := by
  obtain ⟨t, h, kk⟩ := h.use
  refine SS.mk h fun F0 H0 F H σ env s D r p => kk F0 H0 F H σ env s D r ?_
  unfold frzA at p
  cases q : g env s with
  | nx e s1 =>
    rw [q] at p
    intro F' H' σ' r' i1
    obtain ⟨F2, r2, i2⟩ := r'.freeze i
    exact p F2 H' σ' r2 fun a o z => i2 a o (i1 a o z)
  | rt d s1 => rw [q] at p; exact p
  | bk e s1 => rw [q] at p; exact p
  | ct e s1 => rw [q] at p; exact p
  | err x e s1 => rw [q] at p; exact p
  | bad => rw [q] at p; exact p
/-- a number of turns: the size of the int in a slot, and one -/
def fuI (i : Nat) (env : Ev) (_ : LS) : Nat := match env[i]? with
  | some (.sh (.int n)) => n.natAbs + 1
  | _ => 0
end
end DS
end

section
set_option Elab.async false
set_option linter.all false
set_option maxRecDepth 100000
set_option autoImplicit false
namespace DS
open PySem PySem.Spec L2
open PyProof.Rows hiding St
/-! ## the law's own state: a place and the cells -/
/-- the next number of the script below a bound -/
def takeV (most p : Int) (cs : List Int) : Int × Int × List Int :=
  let at_ := (p.fmod (cs.length : Int)).toNat
  let cell := cs.getD at_ 0
  if 1000000000000000000 ≤ cell then (cell.fmod most, p, cs.set at_ (cell.fdiv most))
  else
    let m1 := (cell * 48271 + (p + 1) * 69621).fmod 2147483647
    let m2 := (m1 * 16807 + (p + 1) * 7919).fmod 1000000007
    ((m2.fdiv 7).fmod most, p + 1, cs)
def m__law_take (args : List EV) (s : LS) : Out D := match args, s with
  | [.st, .sh (.int most)], some (p, cs) => if most < 2 then .ok (.int 0) s else if cs ≠ [] ∧ most < 2 ^ 64 then .ok (.int (takeV most p cs).1) (some (takeV most p cs).2) else .bad
  | _, _ => .bad
def rAddI : R2 := rI0 fun i j => .int (i + j)
def rModI : R2 := rI (fun _ j => j ≠ 0) fun i j => .int (i.fmod j)
def rMulI : R2 := rI mulOk fun i j => .int (i * j)
def rDivI : R2 := rI (fun _ j => j ≠ 0 ∧ j.natAbs.log2 < 9000) fun i j => .int (i.fdiv j)
def rIntI : List V → Hp → VK → Prop := fun xs H Q => (∃ i, xs = [V.int i] ∧ Q (V.int i) H) ∨ ∃ k, xs = [V.bl k] ∧ Q (V.int (if k = true then 1 else 0)) H
def rLenI (K : PySem.W.Frag) : List V → Hp → VK → Prop := fun xs H Q => ∃ x n, xs = [x] ∧ LenV K x H n ∧ Q (.int n) H
def tInt (t : TE) : TE := tCB rIntI (tCons t tNil)
def t_take (K : PySem.W.Frag) : TS :=
  tSeq (tIfS (tTest (tOp (rI0 fun i j => .bl (decide (i < j))) (tVar 1) (tC (.int 2)))) (tRet (tC (.int 0))) tNext)
  (tSeq (tAsg (tOp (rIxL K) (tVar 0) (tC (.int 1))) (gName 2))
  (tSeq (tAsg (tOp rModI (tInt (tOp (rIxL K) (tVar 0) (tC (.int 0)))) (tCB (rLenI K) (tCons (tVar 2) tNil))) (gName 3))
  (tSeq (tAsg (tOp (rIxL K) (tVar 2) (tVar 3)) (gName 4))
  (tSeq (tIfS (tTest (tOp (rI0 fun i j => .bl (decide (j ≤ i))) (tVar 4) (tC (.int 1000000000000000000)))) (tSeq (tAsg (tOp rDivI (tVar 4) (tVar 1)) (gSub (tVar 2) (tVar 3) rSetL)) (tRet (tOp rModI (tInt (tVar 4)) (tVar 1)))) tNext)
  (tSeq (tAsg (tOp rAddI (tOp (rIxL K) (tVar 0) (tC (.int 0))) (tC (.int 1))) (gSub (tVar 0) (tC (.int 0)) rSetL))
  (tSeq (tAsg (tOp rModI (tInt (tOp rAddI (tOp rMulI (tVar 4) (tC (.int 48271))) (tOp rMulI (tOp (rIxL K) (tVar 0) (tC (.int 0))) (tC (.int 69621))))) (tC (.int 2147483647))) (gName 5))
  (tSeq (tAsg (tOp rModI (tInt (tOp rAddI (tOp rMulI (tVar 5) (tC (.int 16807))) (tOp rMulI (tOp (rIxL K) (tVar 0) (tC (.int 0))) (tC (.int 7919))))) (tC (.int 1000000007))) (gName 5))
  (tRet (tOp rModI (tInt (tOp rDivI (tVar 5) (tC (.int 7)))) (tVar 1))))))))))
theorem log2_small {n : Nat} (h : n < 2 ^ 64) : n.log2 < 9000 := by
  by_cases z : n = 0
  · subst z; decide
  · have := (Nat.log2_lt z (k := 64)).mpr h
    omega
theorem take_pure {K : PySem.W.Frag} {mg : Str → Option Value} {N : List Str} (hN : N.length = 6) {vs : List V} {H : Hp} {Q : VK} {E : XK} (h : spF K mg 2 m__law_take vs H Q E) :
    t_take K { nx := fun _ H' => Q .non H', rt := Q } (L2.start N vs) H := by
  obtain ⟨hl, G, F, args, s, sub, so, av, hs, p⟩ := h
  unfold m__law_take at p
  split at p
  · rename_i most pp cs
    obtain ⟨a, b, rfl, ne, fa, fb, ha, hb⟩ := so
    match vs, hl, av with
    | [v, w], _, av =>
      obtain ⟨⟨a', b', e1, rfl⟩, av2, _⟩ := av
      cases e1
      cases av2
      have est : L2.start N [.ref a, .int most] = [some (.ref a), some (.int most), none, none, none, none] := by
        unfold L2.start
        rw [hN]
        rfl
      rw [est]
      have so0 : StOk (some (a, b)) F H (some (pp, cs)) := ⟨a, b, rfl, ne, fa, fb, ha, hb⟩
      refine ⟨_, rfl, _, _, rfl, rfl, _, rfl, ?_⟩
      by_cases h2 : most < 2
      · rw [if_pos h2] at p
        rw [decide_eq_true h2]
        exact iteT (p (.int 0) F H (Step.refl sub) so0 (.int 0))
      · rw [if_neg h2] at p
        rw [decide_eq_false h2]
        refine iteF ?_
        split at p
        · rename_i hc
          obtain ⟨hne, hm⟩ := hc
          have hlen : 0 < cs.length := by
            cases cs with
            | nil => exact absurd rfl hne
            | cons _ _ => exact Nat.succ_pos _
          have hm9 : most ≠ 0 ∧ most.natAbs.log2 < 9000 := ⟨by omega, log2_small (by omega)⟩
          have hat0 : 0 ≤ pp.fmod (cs.length : Int) := Int.fmod_nonneg_of_pos _ (by omega)
          have hat1 : pp.fmod (cs.length : Int) < cs.length := Int.fmod_lt_of_pos _ (by omega)
          have hi : (pp.fmod (cs.length : Int)).toNat < cs.length := by omega
          have hcell : (cs.map V.int)[(pp.fmod (cs.length : Int)).toNat]? = some (.int (cs.getD (pp.fmod (cs.length : Int)).toNat 0)) := by
            rw [List.getElem?_map, List.getElem?_eq_getElem hi]
            simp [List.getD, List.getElem?_eq_getElem hi]
          have hcellA : atI (cs.map V.int) (pp.fmod (cs.length : Int)) = some (.int (cs.getD (pp.fmod (cs.length : Int)).toNat 0)) := at_of (Int.toNat_of_nonneg hat0).symm hcell
          refine ⟨_, rfl, a, _, 1, _, rfl, rfl, SqL.of ha, atI_nat (j := 1) rfl, ?_⟩
          refine ⟨_, rfl, a, _, 0, _, rfl, rfl, SqL.of ha, atI_nat (j := 0) rfl, .inl ⟨_, rfl, _, rfl, .ref b, cs.length, rfl, .inl ⟨_, SqL.of hb, (List.length_map _).symm⟩, _, _, rfl, rfl, by omega, ?_⟩⟩
          refine ⟨_, rfl, _, rfl, b, _, _, _, rfl, rfl, SqL.of hb, hcellA, ?_⟩
          refine ⟨_, rfl, _, _, rfl, rfl, _, rfl, ?_⟩
          have key := fun v F' H' => p v F' H'
          by_cases hbig : 1000000000000000000 ≤ cs.getD (pp.fmod (cs.length : Int)).toNat 0
          · rw [decide_eq_true hbig]
            refine iteT ?_
            have hv : takeV most pp cs = ((cs.getD (pp.fmod (cs.length : Int)).toNat 0).fmod most, pp, cs.set (pp.fmod (cs.length : Int)).toNat ((cs.getD (pp.fmod (cs.length : Int)).toNat 0).fdiv most)) := if_pos hbig
            have ix : ixN (cs.map V.int).length (pp.fmod (cs.length : Int)) = some (pp.fmod (cs.length : Int)).toNat := by
              unfold ixN
              rw [if_pos hat0, if_pos (by rw [List.length_map]; exact hat1)]
            refine ⟨_, rfl, _, rfl, _, _, rfl, rfl, hm9, ?_⟩
            refine ⟨_, rfl, _, rfl, b, _, _, _, rfl, rfl, hb, ix, ?_⟩
            refine ⟨_, rfl, .inl ⟨_, rfl, _, rfl, _, _, rfl, rfl, by omega, ?_⟩⟩
            rw [hv] at key
            refine key _ F _ ⟨fun x o z => ?_, fun x o z n => ?_, fun _ _ _ => rfl, fun x z => ?_⟩ ⟨a, b, rfl, ne, fa, fb, ?_, ?_⟩ (.int _)
            · rw [upd_ne (ne_of_none z fb)]; exact sub x o z
            · rw [upd_ne fun w => n (.inr w)]; exact z
            · by_cases w : x = b
              · subst w; rw [upd_same] at z; cases z
              · rw [upd_ne w] at z; exact z
            · rw [upd_ne ne]; exact ha
            · rw [upd_same, List.map_set]
          · rw [decide_eq_false hbig]
            refine iteF ?_
            have hv : takeV most pp cs = ((((((cs.getD (pp.fmod (cs.length : Int)).toNat 0) * 48271 + (pp + 1) * 69621).fmod 2147483647) * 16807 + (pp + 1) * 7919).fmod 1000000007).fdiv 7 |>.fmod most, pp + 1, cs) := if_neg hbig
            refine ⟨_, rfl, a, _, 0, _, rfl, rfl, SqL.of ha, atI_nat (j := 0) rfl, _, _, rfl, rfl, ?_⟩
            refine ⟨_, rfl, a, _, 0, 0, rfl, rfl, ha, rfl, ?_⟩
            have ha2 : upd H a (.lst ([V.int pp, V.ref b].set 0 (.int (pp + 1)))) a = some (.lst [.int (pp + 1), .ref b]) := upd_same
            refine ⟨_, rfl, _, _, rfl, rfl, .inr (.inl (by decide)), _, rfl, a, _, 0, _, rfl, rfl, SqL.of ha2, atI_nat (j := 0) rfl, _, _, rfl, rfl, .inr (.inl (by decide)), _, _, rfl, rfl, .inl ⟨_, rfl, _, _, rfl, rfl, (by show (2147483647 : Int) ≠ 0; decide), ?_⟩⟩
            refine ⟨_, rfl, _, _, rfl, rfl, .inr (.inl (by decide)), _, rfl, a, _, 0, _, rfl, rfl, SqL.of ha2, atI_nat (j := 0) rfl, _, _, rfl, rfl, .inr (.inl (by decide)), _, _, rfl, rfl, .inl ⟨_, rfl, _, _, rfl, rfl, (by show (1000000007 : Int) ≠ 0; decide), ?_⟩⟩
            refine ⟨_, rfl, _, _, rfl, rfl, ⟨by decide, by decide⟩, .inl ⟨_, rfl, _, rfl, _, _, rfl, rfl, by omega, ?_⟩⟩
            rw [hv] at key
            refine key _ F _ ⟨fun x o z => ?_, fun x o z n => ?_, fun _ _ _ => rfl, fun x z => ?_⟩ ⟨a, b, rfl, ne, fa, fb, upd_same, ?_⟩ (.int _)
            · rw [upd_ne (ne_of_none z fa)]; exact sub x o z
            · rw [upd_ne fun w => n (.inl w)]; exact z
            · by_cases w : x = a
              · subst w; rw [upd_same] at z; cases z
              · rw [upd_ne w] at z; exact z
            · rw [upd_ne ne.symm]; exact hb
        · exact p.elim
  · exact p.elim
/-! ### the law's state is made -/
def rAbsI : List V → Hp → VK → Prop := fun xs H Q => ∃ i, xs = [V.int i] ∧ Q (V.int (if i < 0 then -i else i)) H
def t_state (K : PySem.W.Frag) : TS :=
  tSeq (tAsg (tLc (iList K (tSl (rSlL K) (tVar 0) tNoPart (tPart (tC (.int 63))))) (gName 2) tYes (tCB rAbsI (tCons (tVar 2) tNil)) [2]) (gName 1))
  (tSeq (tIfS (tB (tEqI (tCB (rLenI K) (tCons (tVar 1) tNil)) (tC (.int 0)))) (tAsg (tLst (tCons (tC (.int 0)) tNil)) (gName 1)) tNext)
  (tRet (tLst (tCons (tC (.int 0)) (tCons (tVar 1) tNil)))))
def spState (K : PySem.W.Frag) : Sp := fun vs H Q _ => ∃ (a : Addr) (ns : List Int), vs = [.ref a] ∧ SqL K H a (ns.map V.int) ∧ ns.length ≤ 63 ∧
  ∀ (p c : Addr) (cs : List Int) (H' : Hp), cs ≠ [] → p ≠ c → H p = none → H c = none → Same H H' → H' p = some (.lst [.int 0, .ref c]) → H' c = some (.lst (cs.map V.int)) → Q (.ref p) H'
theorem state_pure {K : PySem.W.Frag} {N : List Str} (hN : N.length = 3) {vs : List V} {H : Hp} {Q : VK} {E : XK} (h : spState K vs H Q E) :
    t_state K { nx := fun _ H' => Q .non H', rt := Q } (L2.start N vs) H := by
  obtain ⟨a, ns, rfl, hS, hlen, q⟩ := h
  have est : L2.start N [.ref a] = [some (.ref a), none, none] := by
    unfold L2.start
    rw [hN]
    rfl
  rw [est]
  refine ⟨.ref a, rfl, 63, rfl, a, _, rfl, hS, fun b nb => ⟨b, rfl, ⟨_, SqL.of upd_same⟩, fun D nD => ?_⟩⟩
  have nDb : b ≠ D := fun z => by rw [← z, upd_same] at nD; cases nD
  have nD0 : H D = none := by rw [upd_ne nDb.symm] at nD; exact nD
  have ecut : cutV (ns.map V.int) none (some 63) = (cutL ns none (some 63)).map V.int := by
    unfold cutV cutL
    rw [List.length_map, List.map_take, List.map_drop]
  generalize hcs : cutL ns none (some 63) = ms at ecut
  have hms : ms.length ≤ 63 := by
    rw [← hcs]
    unfold cutL
    rw [List.length_take, List.length_drop]
    omega
  rw [ecut] at nD ⊢
  let ab : Int → Int := fun i => if i < 0 then -i else i
  refine lc_list (K := K) (a := b) (xs := ms.map V.int) (fun i H' => Same H H' ∧ H' b = some (.lst (ms.map V.int)) ∧ H' D = some (.lst (((ms.take i).map ab).map V.int))) ?_ (fun i H' _ hp => SqL.of hp.2.1) (fun i x H' hx hp => ?_) fun H' hp => ?_
  · refine ⟨fun x o z => ?_, ?_, upd_same⟩
    · rw [upd_ne (ne_of_none z nD0), upd_ne (ne_of_none z nb)]; exact z
    · rw [upd_ne nDb, upd_same]
  · obtain ⟨hs, hb, hD⟩ := hp
    have hi : i < ms.length := by
      by_cases z : i < ms.length
      · exact z
      · rw [List.getElem?_eq_none_iff.mpr (by rw [List.length_map]; omega)] at hx; cases hx
    rw [List.getElem?_map, List.getElem?_eq_getElem hi] at hx
    cases hx
    refine ⟨rfl, _, rfl, ms[i], rfl, _, hD, ?_, ?_⟩
    · rw [List.length_map, List.length_map, List.length_take, sizeLine_eq]
      omega
    · refine ⟨fun x o z => ?_, ?_, ?_⟩
      · rw [upd_ne (ne_of_none z nD0)]; exact hs x o z
      · rw [upd_ne nDb]; exact hb
      · rw [upd_same, List.take_add_one, List.getElem?_eq_getElem hi, List.map_append, List.map_append]
        rfl
  · obtain ⟨hs, hb, hD⟩ := hp
    rw [List.length_map, List.take_length] at hD
    refine ⟨.ref D, rfl, .ref D, ms.length, rfl, .inl ⟨_, SqL.of hD, by rw [List.length_map, List.length_map]⟩, _, _, rfl, rfl, _, rfl, ?_⟩
    by_cases hz : ms = []
    · subst hz
      refine iteT ⟨by rw [sizeLine_eq]; show 1 ≤ 16777216; decide, fun c nc => ?_⟩
      have ncD : D ≠ c := ne_of_none hD nc
      have nc0 : H c = none := hs.free nc
      refine ⟨.ref c, rfl, by rw [sizeLine_eq]; show 2 ≤ 16777216; decide, fun p np => ?_⟩
      have npc : p ≠ c := fun z => by rw [z, upd_same] at np; cases np
      have np0 : H p = none := by rw [upd_ne npc] at np; exact hs.free np
      refine q p c [0] _ (fun z => nomatch z) npc np0 nc0 (fun x o z => ?_) upd_same ?_
      · rw [upd_ne (ne_of_none z np0), upd_ne (ne_of_none z nc0)]; exact hs x o z
      · rw [upd_ne npc.symm, upd_same]; rfl
    · have hd : decide ((ms.length : Int) = 0) = false := decide_eq_false (by
        cases ms with
        | nil => exact absurd rfl hz
        | cons _ _ => rw [List.length_cons]; omega)
      show (if decide ((ms.length : Int) = 0) = true then _ else _)
      rw [hd]
      refine iteF ⟨.ref D, rfl, by rw [sizeLine_eq]; show 2 ≤ 16777216; decide, fun p np => ?_⟩
      have npD : D ≠ p := ne_of_none hD np
      have np0 : H p = none := hs.free np
      refine q p D (ms.map ab) _ (fun z => hz (by simpa using z)) npD.symm np0 nD0 (fun x o z => ?_) upd_same ?_
      · rw [upd_ne (ne_of_none z np0)]; exact hs x o z
      · rw [upd_ne npD]; exact hD
/-! ### the law itself -/
def spLaw (K : PySem.W.Frag) : Sp := fun vs H Q _ => ∃ (a : Addr) (ns : List Int), vs = [.ref a] ∧ SqL K H a (ns.map V.int) ∧ ns.length ≤ 63 ∧ ∀ H', Q (.bl true) H'
def env0 (n : Nat) : Ev := .un :: .st :: List.replicate n .un
def t_law (K : PySem.W.Frag) (mg : Str → Option Value) (W : WX) (g : Ev → LS → SOut) : TS :=
  tSeq (tAsg (tCall (spState K) [] E0 (tCons (tVar 0) tNil)) (gName 1)) (fun D σ H => ∃ G, tGS K mg W G g D σ H)
theorem pss_ex {X : Cx} {W : WX} {sts : List Stmt} {g : Ev → LS → SOut} (h : ∀ G, SSs X W G sts g) : PSs X sts (fun D σ H => ∃ G, tGS X.K X.mg W G g D σ H) :=
  ⟨fun pins s σ H D I ⟨G, q⟩ => (h G).run pins s σ H D I q⟩
theorem law_pure {K : PySem.W.Frag} {mg : Str → Option Value} {W : WX} {g : Ev → LS → SOut} {N : List Str} {n : Nat} (hN : N.length = n + 2) (hg : ∀ cs : List Int, cs ≠ [] → ∃ s, g (env0 n) (some (0, cs)) = .rt (.bool true) s) {vs : List V} {H : Hp} {Q : VK} {E : XK} (h : spLaw K vs H Q E) :
    t_law K mg W g { nx := fun _ H' => Q .non H', rt := Q } (L2.start N vs) H := by
  obtain ⟨a, ns, rfl, hS, hlen, q⟩ := h
  have est : L2.start N [.ref a] = some (.ref a) :: none :: List.replicate n none := by
    unfold L2.start
    rw [hN]
    rfl
  rw [est]
  refine ⟨.ref a, rfl, a, ns, rfl, hS, hlen, fun p c cs H' hne npc hp hc sm ep ec => ?_⟩
  obtain ⟨s, hg⟩ := hg cs hne
  have so : StOk (some (p, c)) H H' (some (0, cs)) := ⟨p, c, rfl, npc, hp, hc, ep, ec⟩
  have nost : ∀ (i : Nat) (ds : List D), (env0 n)[i]? ≠ some (EV.ow ds) := fun i ds h => by
    unfold env0 at h
    match i with
    | 0 => cases h
    | 1 => cases h
    | i + 2 =>
      have := List.eq_of_mem_replicate (List.mem_of_getElem? (show (List.replicate n EV.un)[i]? = some (.ow ds) from h))
      cases this
  refine ⟨some (p, c), H, H', H, env0 n, some (0, cs), ⟨Step.refl sm, by simp [env0], fun i e h => ?_, fun i j di dj _ h1 _ => absurd h1 (nost i di), so⟩, ?_⟩
  · unfold env0 at h
    match i with
    | 0 => cases h; exact ⟨_, rfl, trivial⟩
    | 1 => cases h; exact ⟨_, rfl, p, c, rfl, rfl⟩
    | i + 2 =>
      have h' : (List.replicate n EV.un)[i]? = some e := h
      have := List.eq_of_mem_replicate (List.mem_of_getElem? h')
      subst this
      have hl : i < n := by
        by_cases z : i < n
        · exact z
        · rw [List.getElem?_eq_none_iff.mpr (by rw [List.length_replicate]; omega)] at h'; cases h'
      refine ⟨none, ?_, trivial⟩
      show (List.replicate n (none : Option V))[i]? = some none
      rw [List.getElem?_replicate]
      simp [hl]
  · rw [hg]
    intro v F' H2 _ _ rp
    cases rp
    exact q H2
end DS
end

section
set_option Elab.async false
set_option linter.all false
set_option maxRecDepth 100000
set_option autoImplicit false
namespace DS
open PySem PySem.Spec L2
open PyProof.Rows hiding St
/-! ## an own exception class over ValueError, its __init__ saying super().__init__(..) -/
abbrev envK (qual : Str) (scope : Scope) (L f : Addr) (cd : Value) (cc : Addr) : Env := PySem.W.ksEnv qual scope L f cd cc
def cxK (CX : CXT) (P : Program) (w : World) (K : PySem.W.Frag) (mg : Str → Option Value) (base : Heap) (N : List Str) (qual : Str) (scope : Scope) (f : Addr) (cd : Value) (cc : Addr) (A : Around) (outer : List Env) (s : Shared) (H : Hp) (E : XK) : Cx where
  prog := P
  w := w
  K := K
  mg := mg
  base := base
  A := A.deeper (envK qual scope s.heap.objs.size f cd cc)
  N := N
  s_0 := s
  H_0 := H
  env := envK qual scope s.heap.objs.size f cd cc
  outer := outer
  stack := envK qual scope s.heap.objs.size f cd cc :: outer
  ex := []
  calm := true
  fn := fun _ => false
  pn := []
  xe := fun e s' => wpAny (model P w) (A.deeper (envK qual scope s.heap.objs.size f cd cc)) (leaving (envK qual scope s.heap.objs.size f cd cc) e) (fun _ s'' => CX outer H s E e s'') (fun e' s'' => CX outer H s E e' s'') s'
/-- the scope of such an __init__ -/
structure SupScope (N ps : List Str) (sc : Scope) : Prop where
  kind : sc.kind = .function
  co : sc.isCoroutine = false
  gen : sc.isGenerator = false
  nd : ps.Nodup
  eq : N = ps
  par : ∀ x ∈ ps, sc.names.lookup x = some .local
  nocell : ∀ y ∈ sc.names, y.2 ≠ .cell
  free : ∀ x, sc.names.lookup x = some .free → x = ("__class__" : Str)
  cls : sc.names.lookup ("__class__" : Str) = some .free
  sup : sc.names.lookup ("super" : Str) = some .globalImplicit
theorem free_of {l : List (Str × NameKind)} (h : (l.all fun p => decide (p.2 ≠ .free) || decide (p.1 = ("__class__" : Str))) = true) : ∀ x, l.lookup x = some .free → x = ("__class__" : Str) := fun x e => by
  have := List.all_eq_true.mp h _ (PySem.mem_of_lookup e)
  simpa using this
structure MkC (P : Program) (K : PySem.W.Frag) (C fI : Addr) (fd : FuncData) (qual : Str) (params : Arguments) (body : List Stmt) (scope : Scope) (cc cda : Addr) : Prop where
  T : OexC K C
  iC : PySem.W.findIn K (.ref C) "__init__" = some (some (.ref fI))
  tI : PySem.W.typeIn K (.ref fI) = some (.type "function")
  lk : ∃ (oc : Value) (od : Option Addr) (osl : Array (Option Value)) (name : Str) (dV kV doc pm : Value) (an : Option Addr) (ct : Value), fd = PySem.W.ksFn name qual params body scope dV kV doc pm an (.ref cda) ct cc ∧ K.lookup fI = some ⟨oc, od, .func fd, osl⟩
  code : PySem.W.codeIn K (.ref cda) qual = true
  file : ∃ (ccl : Value) (cdd : Option Addr) (vs : Array Value) (ccs : Array (Option Value)) (file : Str) (tf : Tok), K.lookup cda = some ⟨ccl, cdd, .fields vs, ccs⟩ ∧ vs[2]? = some (.str file tf) ∧ ((P.main.file : Str) == file) = true
  cell : ∃ (cl : Value) (cld : Option Addr) (csl : Array (Option Value)), K.lookup cc = some ⟨cl, cld, .cell (some (.ref C)), csl⟩
  sup : PySem.W.ks_superIn K C C "__init__" = some (some (.builtin "ValueError.__init__"))
  sub : PySem.W.subIn K (.ref C) (.type "ValueError") = some true
  mro : PySem.W.mroIn K C (.ref C) = some true
  gsup : PySem.W.nsIn K mainGlobals "super" = some none
  opq : PySem.W.nsIn K cStatics "thirdparty.any" = some none
  top : (P.main.scope.names.lookup ("super" : Str)).isSome = false
theorem lookup_nodup {α β : Type} [BEq α] [LawfulBEq α] {x : α} {v : β} : ∀ {l : List (α × β)}, (l.map (·.1)).Nodup → (x, v) ∈ l → l.lookup x = some v
  | (y, w) :: l, nd, h => by
    rw [List.map_cons, List.nodup_cons] at nd
    rcases List.mem_cons.mp h with e | h
    · cases e
      simp
    · have ne : x ≠ y := fun z => nd.1 (by rw [← z]; exact List.mem_map_of_mem (f := (·.1)) h)
      rw [List.lookup_cons, beq_false_of_ne ne]
      exact lookup_nodup nd.2 h
section
variable {CX : CXT} {P : Program} {w : World} {K : PySem.W.Frag} {mg : Str → Option Value} {base : Heap} {N ps : List Str} {qual : Str} {scope : Scope} {f cc C cda : Addr} {cd : Value} {A : Around} {outer : List Env} {s s1 : Shared} {H : Hp} {E : XK} {us : List Value} {vs : List V}
theorem zip_get : ∀ {ps : List Str} {us : List Value} {i : Nat} {y : Str} {u : Value}, ps[i]? = some y → us[i]? = some u → (y, u) ∈ ps.zip us
  | [], _, _, _, _, h, _ => by simp at h
  | _ :: _, [], _, _, _, _, h => by simp at h
  | p :: ps, v :: us, 0, y, u, h1, h2 => by
    cases h1; cases h2
    exact List.mem_cons_self
  | p :: ps, v :: us, i + 1, y, u, h1, h2 => List.mem_cons_of_mem _ (zip_get (i := i) h1 h2)
theorem zip_fst : ∀ {ps : List Str} {us : List Value}, ps.Nodup → ((ps.zip us).map (·.1)).Nodup
  | [], _, _ => List.nodup_nil
  | _ :: _, [], _ => List.nodup_nil
  | p :: ps, v :: us, h => by
    obtain ⟨h1, h2⟩ := List.nodup_cons.mp h
    refine List.nodup_cons.mpr ⟨fun z => h1 ?_, zip_fst h2⟩
    obtain ⟨q, hq, e⟩ := List.mem_map.mp z
    exact (show q.1 = p from e) ▸ (List.of_mem_zip hq).1
theorem inv_startK {h0 : Heap} {t : Nat} (S : SupScope N ps scope) (hd : A.handled = none) (e0 : Env0 P w K mg base A outer s H) (hl : vs.length = ps.length) (r : Vals vs us)
    (hc : ∃ o, base.get? cc = some o ∧ o.data = .cell (some (.ref C)))
    (hn : h0.Ns s.heap.objs.size (fun x => (ps.zip us).reverse.lookup x)) (hk : ∀ b o, s.heap.get? b = some o → h0.get? b = some o) :
    Inv (cxK CX P w K mg base N qual scope f cd cc A outer s H E) [] (L2.start N vs) H { s with heap := h0, toks := t } := by
  obtain ⟨oc, hc1, hc2⟩ := hc
  obtain ⟨hc3, hc4⟩ := e0.bs _ _ hc1
  have noA : ∀ b : Addr, b ∉ (cxK CX P w K mg base N qual scope f cd cc A outer s H E).ex := fun b z => absurd (show b ∈ ([] : List Addr) from z) (by simp)
  have one : ∀ {y : Str} {c : Addr}, ([(("__class__" : Str), cc)] : List (Str × Addr)).lookup y = some c → y = "__class__" ∧ c = cc := fun {y c} h => by
    rw [List.lookup_cons] at h
    by_cases z : y = ("__class__" : Str)
    · subst z
      rw [beq_self_eq_true] at h
      exact ⟨rfl, (Option.some.inj h).symm⟩
    · rw [beq_false_of_ne z] at h
      cases h
  refine ⟨⟨e0.mod, S.kind, rfl, rfl, Nat.le_refl _, fun y z c h1 h2 => ?_, fun y hy => ?_, fun y c h _ => ?_, fun _ => hd, Around.frames_deeper e0.frames, .inr ⟨rfl, rfl⟩, fun b z => absurd z (noA b), e0.bs, e0.bsz, fun b _ _ => noA b, fun b z => absurd z (noA b), e0.funs, e0.frf⟩,
    rfl, e0.bare, Un.kept hk, ⟨_, hn, fun i y v h1 h2 h3 => ?_⟩, fun y c h => ?_, e0.hok.fresh (Nat.le_refl _), fun y c h => ?_, fun p hp => absurd (show p ∈ ([] : List (Addr × Obj)) from hp) (by simp), e0.hok.kept hk, ?_⟩
  · exact (one h1).1.trans (one h2).1.symm
  · have hy : scope.names.lookup y = some .cell ∨ scope.names.lookup y = some .free := hy
    rcases hy with hy | hy
    · exact absurd rfl (S.nocell _ (PySem.mem_of_lookup hy))
    · rw [S.free y hy]
      exact ⟨cc, by show List.lookup (("__class__" : Str)) [(("__class__" : Str), cc)] = some cc; rw [List.lookup_cons, beq_self_eq_true]⟩
  · exact nomatch (show false = true from h)
  · have hi : i < vs.length := by
      unfold L2.start at h2
      by_cases hi : i < vs.length
      · exact hi
      · rw [List.getElem?_append_right (by simpa using hi)] at h2
        rw [List.getElem?_replicate] at h2
        split at h2 <;> cases h2
    have ha : vs[i]? = some v := by
      unfold L2.start at h2
      rw [List.getElem?_append_left (by simpa using hi), List.getElem?_map] at h2
      cases e : vs[i]? with
      | none => rw [e] at h2; cases h2
      | some a => rw [e] at h2; cases h2; rfl
    obtain ⟨u, hu, rv⟩ := r.get ha
    have hp : ps[i]? = some y := by rw [← S.eq]; exact h1
    refine ⟨u, rv, .inl ⟨S.par y (List.mem_of_getElem? hp), ?_⟩⟩
    refine lookup_nodup ?_ (List.mem_reverse.mpr (zip_get hp hu))
    rw [List.map_reverse]
    exact List.pairwise_reverse.mpr ((zip_fst S.nd).imp fun h => Ne.symm h)
  · rw [(one h).2]
    exact ⟨_, oc, hk _ _ hc3, hc2⟩
  · rw [(one h).2]
    exact hc4
  · unfold L2.start
    show _ = N.length
    rw [List.length_append, List.length_map, List.length_replicate, S.eq, hl]
    omega
end
section
variable {CX : CXT} {P : Program} {w : World} {K : PySem.W.Frag} {mg : Str → Option Value} {base : Heap} {N ps : List Str} {qual : Str} {scope : Scope} {f cc C cda a : Addr} {A : Around} {outer : List Env} {s s0 : Shared} {H H0 : Hp} {E : XK} {us : List Value} {vs : List V}
  {fd : FuncData} {params : Arguments} {body : List Stmt} {ar : Arg} {σ : L2.St} {e : Expr} {t : TA} {Qn : Hp → Prop} {p0 p1 p2 p3 p4 : Pos} {pl : Sem Bool}
theorem super_run (M : MkC P K C f fd qual params body scope cc cda) (S : SupScope N ps scope) (hp : (params.posonlyargs ++ params.args).head? = some ar) (h0 : N[0]? = some ar.arg)
    (I : Inv (cxK CX P w K mg base N qual scope f (.ref cda) cc A outer s0 H0 E) [] σ H s) (hσ : σ[0]? = some (some (.ref a))) (he : H a = some (exo a C none)) (ha : PA (cxK CX P w K mg base N qual scope f (.ref cda) cc A outer s0 H0 E) [e] t)
    (h : t σ H fun vs H1 => vs.length ≤ 1000 ∧ H1 a = some (exo a C none) ∧ Qn H1)
    (hst : starEach (e :: []) (envK qual scope s0.heap.objs.size f (.ref cda) cc) = (false, eval e (envK qual scope s0.heap.objs.size f (.ref cda) cc)) :: starEach [] (envK qual scope s0.heap.objs.size f (.ref cda) cc) := by rfl)
    (hi : interactive (envK qual scope s0.heap.objs.size f (.ref cda) cc) = false := by rfl) (hsw : swapsWith (.Call (.Attribute (.Call (.Name "super" p0) [] [] p1) "__init__" p2) [e] [] p3) none p4.line (envK qual scope s0.heap.objs.size f (.ref cda) cc) = pure false := by rfl)
    (hev : eval (.Call (.Attribute (.Call (.Name "super" p0) [] [] p1) "__init__" p2) [e] [] p3) (envK qual scope s0.heap.objs.size f (.ref cda) cc) = (do
      let ov ← attributeBase (.Call (.Name "super" p0) [] [] p1) "__init__" (envK qual scope s0.heap.objs.size f (.ref cda) cc) (eval (.Call (.Name "super" p0) [] [] p1) (envK qual scope s0.heap.objs.size f (.ref cda) cc))
      standAt p2.atName
      let (f', first) ← holding [ov] (getMethod ov "__init__" pl)
      callWith p3 f' first (backTo p3 (starEach [e] (envK qual scope s0.heap.objs.size f (.ref cda) cc))) []) := by rfl) :
    PySem.wpAt (model P w) (A.deeper (envK qual scope s0.heap.objs.size f (.ref cda) cc)) (.func body (envK qual scope s0.heap.objs.size f (.ref cda) cc)) (exec (.Expr (.Call (.Attribute (.Call (.Name "super" p0) [] [] p1) "__init__" p2) [e] [] p3) p4) (envK qual scope s0.heap.objs.size f (.ref cda) cc))
      (fun fl s' => fl = .next ∧ ∃ H1, Inv (cxK CX P w K mg base N qual scope f (.ref cda) cc A outer s0 H0 E) [] σ H1 s' ∧ Qn H1) (cxK CX P w K mg base N qual scope f (.ref cda) cc A outer s0 H0 E).xe s := by
  obtain ⟨oc, od, osl, name, dV, kV, doc, pm, an, ct, rfl, lk⟩ := M.lk
  obtain ⟨ccl, cdd, fvs, ccs, file, tf, lcda, hvs, hfile⟩ := M.file
  obtain ⟨cl, cld, csl, lcc⟩ := M.cell
  obtain ⟨nm, q, Nn, bs, bm, sn, sub, ab, col, dd, k0, k1, k2, k3, k5, hC, hbm⟩ := M.T.cls
  obtain ⟨t1, ho⟩ := exo_at I.hok he
  have hself : ar.arg ∈ ps := by rw [← S.eq]; exact List.mem_of_getElem? h0
  obtain ⟨m, hns, hloc⟩ := I.loc
  obtain ⟨u0, ru, lu⟩ := hloc 0 ar.arg (.ref a) h0 hσ (.inl (S.par _ hself))
  obtain rfl : u0 = Value.ref a := ru
  have hv : m ar.arg = some (.ref a) := by
    rcases lu with ⟨_, z⟩ | ⟨z | z, _⟩
    · exact z
    · exact nomatch (S.par _ hself).symm.trans z
    · exact nomatch (S.par _ hself).symm.trans z
  have hmg : mg "super" = none := PySem.W.mg_none_of I.mod.kin I.mod.glob M.gsup
  obtain ⟨mb, hb1, hb2⟩ := I.mod.blt
  have hboot : bootBuiltins "super" = some (.type "super") := by decide +kernel
  obtain ⟨hh, g, d, tk, os⟩ := s
  refine PySem.ks_wpAt_Expr_any (PySem.ks_wpAt_MethodCall (pl := pl) ?_ hev) hi hsw
  refine PySem.ks_wpAt_super_base (env := envK qual scope s0.heap.objs.size f (.ref cda) cc) S.sup S.cls rfl rfl (I.kIn _ _ lk) rfl hp rfl (I.kIn _ _ lcda) rfl hvs hfile M.top ?_
  refine PySem.W.ks_loadName_global S.kind S.sup (Calls.loadGlobal_builtin (env := envK qual scope s0.heap.objs.size f (.ref cda) cc) (I.mod.glob.keeps I.bk) hmg (hb1.keeps I.bk) ((hb2 _ (by decide +kernel)).trans hboot) ⟨rfl, ?_⟩)
  refine wpAny_loadName_free S.kind S.cls (show List.lookup ("__class__" : Str) [(("__class__" : Str), cc)] = some cc by rw [List.lookup_cons, beq_self_eq_true]) ⟨_, I.kIn _ _ lcc, rfl⟩ ?_
  refine wpAny_loadName_local S.kind (S.par _ hself) hns hv ?_
  have hCh := I.kIn _ _ hC
  refine ks_wpAny_isType_cls hCh rfl ⟨rfl, ?_⟩
  refine ks_wpAny_call_super hCh rfl ho rfl (fun c e => nomatch e) (PySem.W.looks_mroIn I.kIn M.mro) (fun h1 e1 kp1 => ?_)
  have I1 : Inv (cxK CX P w K mg base N qual scope f (.ref cda) cc A outer s0 H0 E) [] σ H ⟨h1, g, d, tk, os⟩ := I.kept (t' := tk) kp1
  have hcls : PySem.W.clsIn K C = some { name := nm, bases := bs, mro := .ref C :: bm, ns := Nn, qualname := q, hasDict := true, slotNames := sn, subclasses := sub, abstract := ab, collection := col, hasDel := false } := by unfold PySem.W.clsIn; rw [hC] <;> rfl
  have hsup := M.sup
  unfold PySem.W.ks_superIn at hsup
  rw [hcls] at hsup
  have ho1 := kp1 _ _ ho
  have hIA : PySem.W.InstAt h1 a { cls := .ref C, dict := none, data := .fields #[.ref t1, .none, .none, .none, .bool false, .none] } C none := ⟨ho1, rfl, rfl, trivial⟩
  refine PySem.W.kxs_getMethod PySem.W.kxs_ValueError e1 (PySem.W.looks_opaque I1.kIn M.opq) (l₀ := .ref C :: bm) (fun A Q E s k q => wpAny_bind ((PySem.W.looks_clsIn I1.kIn hcls) A _ E s k (wpAny_pure q))) rfl I1.kIn hsup (hIA.type.andThen (PySem.W.looks_subIn I1.kIn M.sub)) (PySem.W.ks_ne I1.kIn hIA hcls) (by decide) ?_
  have kp2 : ∀ b o, h1.get? b = some o → (h1.push (PySem.W.kxs_mw "ValueError.__init__" a)).get? b = some o := fun b o z => Heap.get?_push_of_some _ z
  have I2 := I1.kept (t' := tk + 1) kp2
  have hu : (h1.push (PySem.W.kxs_mw "ValueError.__init__" a)).get? h1.objs.size = some (PySem.W.kxs_mw "ValueError.__init__" a) := Heap.get?_push_at rfl rfl
  have hun : H h1.objs.size = none := I1.hok.fresh (Nat.le_refl _)
  have I3 : Inv (cxK CX P w K mg base N qual scope f (.ref cda) cc A outer s0 H0 E) ([] ++ [(h1.objs.size, PySem.W.kxs_mw "ValueError.__init__" a)]) σ H ⟨h1.push (PySem.W.kxs_mw "ValueError.__init__" a), g, d, tk + 1, os⟩ := I2.pins_of fun p hp => by
    rw [List.nil_append, List.mem_singleton] at hp
    subst hp
    exact ⟨hu, hun, Nat.ne_of_gt I1.lt, I1.nofs (Nat.le_refl _), fun v z => nomatch z⟩
  rw [hst]
  refine PySem.W.kxs_callWith (i := "ValueError.__init__") (x := a) rfl (PySem.Calls.evalArgs_plain ?_)
  show wpAny _ _ (spliced (backTo p3 ((false, eval e (envK qual scope s0.heap.objs.size f (.ref cda) cc)) :: starEach [] (envK qual scope s0.heap.objs.size f (.ref cda) cc)))) _ _ _
  rw [← hst]
  refine thn (ha.run p3 _ _ σ H _ I3 h) fun us s3 ⟨vs, H3, I4, r, hl, ea, hq⟩ => ?_
  obtain ⟨hu3, _⟩ := I4.pin (h1.objs.size, PySem.W.kxs_mw "ValueError.__init__" a) (by simp)
  refine ⟨hu3, ?_⟩
  have hz : us.length ≤ sizeLine := by rw [← r.length, sizeLine_eq]; omega
  obtain ⟨t3, ho3⟩ := exo_at I4.hok ea
  have hC3 := I4.kIn _ _ hC
  obtain ⟨hh3, g3, d3, tk3, os3⟩ := s3
  refine wpAny_call (codeAny_of_tree ?_)
  show wpAny _ _ (callAny (.ref h1.objs.size) ⟨[] ++ us, []⟩) _ _ _
  rw [List.nil_append]
  simp only [callAny]
  refine wpAny_bind (wpAny_load hu3 ?_)
  simp only [PySem.W.kxs_mw, show (Value.type "method-wrapper" == Value.type "method" || Value.type "method-wrapper" == Value.type "builtin_function_or_method" || Value.type "method-wrapper" == Value.type "method-wrapper") = true by decide, if_true]
  refine PySem.W.KFB.if_so (by decide) ?_
  refine wpAny_bind (PySem.W.check_bound_init F.excBase_ValueError.toExcCallFacts hC3 ho3 rfl ?_)
  refine wpAny_bind (wpAny_pure (wpAny_pure ?_))
  refine ⟨plainId_quiet F.excBase_ValueError.init.plain _, codeAny_builtin F.excBase_ValueError.initEntry ?_⟩
  refine PySem.W.exc_init_tree (cls := .ref C) (t0 := t3) (dv := none) (c2 := .none) (c3 := .none) (b4 := .bool false) ho3 hz fun h4 k4 e4 t4 => ?_
  have J := I4.write (t' := tk3) (x := a) (e := a) (o := exo a C none) (by rw [ea]; exact True.intro) (.inl rfl) k4 ⟨_, e4⟩ (exo_ok e4)
  have eu : upd H3 a (exo a C none) = H3 := by
    funext b
    by_cases hb : b = a
    · rw [hb, upd_same, ea]
    · rw [upd_ne hb]
  rw [eu] at J
  exact ⟨trivial, H3, J.unpinned, hq⟩
/-- such an __init__ keeps its promise -/
theorem init_ok {sp : Sp} {rest : List Stmt} {k : Nat} (M : MkC P K C f fd qual params (.Expr (.Call (.Attribute (.Call (.Name "super" p0) [] [] p1) "__init__" p2) [e] [] p3) p4 :: rest) scope cc cda) (S : SupScope N ps scope) (hp : (params.posonlyargs ++ params.args).head? = some ar) (h0 : N[0]? = some ar.arg)
    (len : ∀ vs H Q E, sp vs H Q E → vs.length = ps.length)
    (hbody : ∀ (A : Around) (outer : List Env) (s : Shared) (H : Hp) (vs : List V) (Q : VK) (E : XK), Room k (A.deeper (envK qual scope s.heap.objs.size f (.ref cda) cc)) → sp vs H Q E →
      ∃ t u a ws, vs = .ref a :: ws ∧ H a = some (exo a C none) ∧ PA (cxK CX P w K mg base N qual scope f (.ref cda) cc A outer s H E) [e] t ∧ PSs (cxK CX P w K mg base N qual scope f (.ref cda) cc A outer s H E) rest u ∧
        t (L2.start N vs) H fun vs1 H1 => vs1.length ≤ 1000 ∧ H1 a = some (exo a C none) ∧ u { nx := fun _ H' => Q .non H', rt := Q } (L2.start N vs) H1)
    (hst : ∀ L, starEach (e :: []) (envK qual scope L f (.ref cda) cc) = (false, eval e (envK qual scope L f (.ref cda) cc)) :: starEach [] (envK qual scope L f (.ref cda) cc))
    (hi : ∀ L, interactive (envK qual scope L f (.ref cda) cc) = false) (hsw : ∀ L, swapsWith (.Call (.Attribute (.Call (.Name "super" p0) [] [] p1) "__init__" p2) [e] [] p3) none p4.line (envK qual scope L f (.ref cda) cc) = pure false)
    (hev : ∀ L, eval (.Call (.Attribute (.Call (.Name "super" p0) [] [] p1) "__init__" p2) [e] [] p3) (envK qual scope L f (.ref cda) cc) = (do
      let ov ← attributeBase (.Call (.Name "super" p0) [] [] p1) "__init__" (envK qual scope L f (.ref cda) cc) (eval (.Call (.Name "super" p0) [] [] p1) (envK qual scope L f (.ref cda) cc))
      standAt p2.atName
      let (f', first) ← holding [ov] (getMethod ov "__init__" pl)
      callWith p3 f' first (backTo p3 (starEach [e] (envK qual scope L f (.ref cda) cc))) [])) :
    FnOk P w K mg base CX (k + 1) f fd ps sp := by
  refine ⟨len, fun A outer s H args us vs Q E hr e0 hb r hsp => ?_⟩
  obtain ⟨oc, od, osl, name, dV, kV, doc, pm, an, ct, efd, lk⟩ := id M.lk
  obtain ⟨cl, cld, csl, lcc⟩ := M.cell
  have hl := len _ _ _ _ hsp
  have KX : K.In s.heap := e0.mod.kin.keeps fun b o e => (e0.bs b o e).1
  have lim : s.heap.NoLimit := e0.mod.nolimit.keeps fun b o e => (e0.bs b o e).1
  subst efd
  refine PySem.ks_codeAny_call_defAt hr.depth (KX _ _ lk) rfl lim (PySem.W.codeRec_of KX M.code) rfl hb S.nocell (fun x hx => S.par x.1 (List.of_mem_zip hx).1) (fun h1 hn hk => ?_) S.co S.gen S.kind
  obtain ⟨t, u, a, ws, ev, ea, ha, hu, hq⟩ := hbody A outer s H vs Q E (hr.deeper _) hsp
  have I : Inv (cxK CX P w K mg base N qual scope f (.ref cda) cc A outer s H E) [] (L2.start N vs) H { s with heap := h1, toks := s.toks + (ps.zip us).length } :=
    inv_startK S hr.hd e0 hl r ⟨_, e0.mod.kin _ _ lcc, rfl⟩ hn hk
  have hσ : (L2.start N vs)[0]? = some (some (.ref a)) := by rw [ev]; rfl
  refine PySem.ks_wpAt_execs_cons (ks_wpAt_mono (super_run M S hp h0 I hσ ea ha hq (hst _) (hi _) (hsw _) (hev _)) (fun fl s' hs => ?_) fun _ _ z => z)
  obtain ⟨rfl, H1, I1, hq1⟩ := hs
  refine wpAt_of_wpAny (wpAny_mono (hu.run [] s' _ H1 _ I1 hq1) (fun fl s2 hs => ?_) fun e s2 hs => hs)
  have fin : ∀ {σ' : L2.St} {H' : Hp} {v : V} {u : Value}, Inv (cxK CX P w K mg base N qual scope f (.ref cda) cc A outer s H E) [] σ' H' s2 → RelV v u → Q v H' → CE outer P w H s Q u s2 :=
    fun {σ' H' v u} J rv q => ⟨v, H', J.os, J.bare, J.base, J.hok, rv, q⟩
  cases fl with
  | ret u =>
    obtain ⟨v, σ', H', J, rv, q⟩ := hs
    exact fin J rv q
  | next =>
    obtain ⟨σ', H', J, q⟩ := hs
    exact fin (v := V.non) (u := Value.none) J rfl q
  | brk =>
    obtain ⟨_, _, _, q⟩ := hs
    exact False.elim q
  | cont =>
    obtain ⟨_, _, _, q⟩ := hs
    exact False.elim q
end
end DS
end

section
set_option Elab.async false
set_option linter.all false
set_option maxRecDepth 100000
set_option autoImplicit false
namespace DS
open PySem PySem.Spec L2
open PyProof.Rows hiding St
/-! ## raise, try .. except -/
def spE (C : Addr) (fld : Str) : Sp := fun vs H Q E => ∃ (a : Addr) (z : Str), vs = [.ref a, .str z] ∧ z.length ≤ 1000 ∧ H a = some (exo a C none) ∧ ∀ dx, H dx = none → dx ≠ a → Q .non (upd (upd H dx (exd dx [(fld, .str z)])) a (exo a C (some dx)))
/-- an own exception class: made by one text, that its field fld keeps -/
structure EOk (P : Program) (w : World) (K : PySem.W.Frag) (mg : Str → Option Value) (base : Heap) (name fld : Str) : Prop where
  ex : ∃ (C fI : Addr) (fd : FuncData) (ps : List Str), mg name = some (.ref C) ∧ OexC K C ∧ PySem.W.findIn K (.ref C) "__init__" = some (some (.ref fI)) ∧ PySem.W.typeIn K (.ref fI) = some (.type "function") ∧ Binds K fd ps [] ∧ FnOk P w K mg base (L2.CX P w) 1 fI fd ps (spE C fld) ∧
    XfC K C ∧ PySem.W.findIn K (.ref C) fld = some none ∧ PySem.W.exmOne K (.ref C) (.ref C) = some true
section
variable {X : Cx} {W : WX} {G : Gh} {e a b : Expr} {es : List Expr} {K : PySem.W.Frag} {F H F' H' F0 H0 : Hp} {σ : L2.St} {env env' : Ev} {s s' : LS} {v : V} {d : D} {pos pos' p : Pos} {k : Nat} {name fld : Str}
def raiseD (name fld : Str) (g : Ev → LS → Out D) (env : Ev) (s : LS) : SOut := evS (g env s) env fun d s => match d with
  | .str z => if z.length ≤ 1000 then .err ⟨name, [(fld, .str z)]⟩ env s else .bad
  | _ => .bad
theorem ss_raise {g : Ev → LS → Out D} (c : Cc X W k) (hE : EOk X.prog X.w X.K X.mg X.base name fld) (hk : 2 ≤ k) (hg : Gl X name) (he : SE X W G e g)
    (hdb : (name == ("__debug__" : Str)) = false := by decide) (hst : starEach (e :: []) X.env = (false, eval e X.env) :: starEach [] X.env := by rfl) (hpl : (backTo pos (starEach [] X.env)).any (·.1) = false := by rfl) :
    SS X W G (.Raise (some (.Call (.Name name p) [e] [] pos)) none pos') (raiseD name fld g) := by
  obtain ⟨C, fI, fd, ps, hm, T, iC, tI, hb, Fn, _⟩ := hE.ex
  obtain ⟨t, h1, h2⟩ := he.use
  have hx : Passes (L2.CX X.prog X.w) X (fun _ _ _ => False) := passes_call c.tk fun _ _ _ _ z => z.elim
  refine SS.mk (ps_raise c.calm c.tk (pmk_oex T iC tI Fn (c.room.mono hk) hb .nil hx hg hm (pa_cons h1 pa_nil hst) hdb hst hpl)) fun F0 H0 F H σ env s D r pp => ?_
  refine h2 F0 H0 F H σ env s _ r (ev_use r pp fun d s1 v F1 H1 rl1 st1 rp p1 => ?_)
  cases d with
  | str z =>
    change PostS _ _ _ _ _ _ _ _ (if z.length ≤ 1000 then SOut.err _ env s1 else .bad) at p1
    split at p1
    · rename_i hz
      cases rp
      refine ⟨by simp, fun a ha => ⟨a, z, rfl, hz, upd_same, fun dx hdx hne => ⟨rfl, dx, [(fld, .str z)], upd_same, by rw [upd_ne hne, upd_same], by rw [upd_ne hne] at hdx; exact hdx, ?_⟩⟩⟩
      rw [upd_ne hne] at hdx
      have e1 : upd (del (upd (upd (upd H1 a (exo a C none)) dx (exd dx [(fld, .str z)])) a (exo a C (some dx))) a) dx (.xd [(fld, .str z)]) = upd H1 dx (.xd [(fld, .str z)]) := by
        funext b
        by_cases hbd : b = dx
        · rw [hbd, upd_same, upd_same]
        · rw [upd_ne hbd, upd_ne hbd]
          by_cases hba : b = a
          · rw [hba, del_same, ha]
          · rw [del_ne hba, upd_ne hba, upd_ne hbd, upd_ne hba]
      rw [e1]
      have st := (step_new (F := F1) (o := .xd [(fld, .str z)]) rl1.st.sub hdx)
      refine p1 _ _ (upd F1 dx (.xd [(fld, .str z)])) _ σ (rl1.step st.weak (rl1.so.pure st)) (st.inc rl1.st.sub) ⟨C, dx, _, hm, rfl, rfl, upd_same, rfl, .str z, trivial⟩
    · exact p1.elim
  | none => exact p1.elim
  | bool _ => exact p1.elim
  | int _ => exact p1.elim
  | list _ => exact p1.elim
  | tuple _ => exact p1.elim
  | dict _ => exact p1.elim
/-! ### try .. except -/
def clr (i : Nat) : SOut → SOut
  | .nx e s => .nx (e.set i .un) s
  | .bk e s => .bk (e.set i .un) s
  | .ct e s => .ct (e.set i .un) s
  | .rt d s => .rt d s
  | _ => .bad
open Classical in
noncomputable def tryD (cn : Str) (i : Nat) (gb : Ev → LS → SOut) (gs : Addr → Addr → Ev → LS → SOut) (env : Ev) (s : LS) : SOut := match gb env s with
  | .err x e s1 => if x.cls = cn ∧ (∀ a dd, clr i (gs a dd (e.set i (.ex a dd x.fs)) s1) = clr i (gs 0 0 (e.set i (.ex 0 0 x.fs)) s1)) then clr i (gs 0 0 (e.set i (.ex 0 0 x.fs)) s1) else .bad
  | o => o
/-- e.f in the suite -/
def exfD (a dd : Addr) (i : Nat) (f : Str) (env : Ev) (s : LS) : Out D := match env[i]? with
  | some (.ex a' dd' fs) => if a' = a ∧ dd' = dd then lift (fs.lookup f) s else .bad
  | _ => .bad
theorem FsOk.get {f : Str} : ∀ {vs : List (Str × V)} {fs : List (Str × D)} {d : D}, FsOk K F vs fs → fs.lookup f = some d → ∃ v, vs.lookup f = some v ∧ Rp K F v d
  | [], [], _, _, h => by cases h
  | (n, v) :: vs, (m, d') :: fs, d, ⟨e, r, q⟩, h => by
    subst e
    rw [List.lookup_cons] at h ⊢
    by_cases z : f = n
    · subst z
      rw [beq_self_eq_true] at h ⊢
      cases h
      exact ⟨v, rfl, r⟩
    · rw [beq_false_of_ne z] at h ⊢
      exact FsOk.get q h
  | [], _ :: _, _, q, _ => q.elim
  | _ :: _, [], _, q, _ => q.elim
theorem se_exf {ad C dd : Addr} {oe : Obj} {pn : List (Addr × Obj)} {i : Nat} (T : XfC X.K C) (hno : PySem.W.findIn X.K (.ref C) fld = some none) (hz : Zc (.ref C) (some dd) oe) (hf : ∃ vs, oe.data = .fields vs)
    (he : PE (X.suite ad ((ad, oe) :: pn)) e (tVar i)) (hb : attributeBase e fld X.env (eval e X.env) = eval e X.env := by rfl) :
    SE (X.suite ad ((ad, oe) :: pn)) W0 G (.Attribute e fld pos) (exfD ad dd i fld) := by
  refine SG.mk (pe_xf T hno hz hf he hb) fun F0 H0 F H σ env s Q rl pp => ?_
  unfold exfD at pp
  split at pp
  · rename_i a' dd' fs hi
    split at pp
    · rename_i hq
      obtain ⟨rfl, rfl⟩ := hq
      obtain ⟨x, e1, e2, vs, hF, hfs⟩ := rl.slots i _ hi
      subst e2
      cases q : fs.lookup fld with
      | none => rw [q] at pp; exact pp.elim
      | some d =>
        rw [q] at pp
        obtain ⟨v, hv, rv⟩ := hfs.get q
        exact ⟨.ref a', e1, rfl, rfl, dd', vs, v, rfl, rl.st.sub _ _ hF, hv, pp v F H (Step.refl rl.st.sub) rl.so rv⟩
    · exact pp.elim
  · exact pp.elim
theorem Rel.setEx {i : Nat} {ad dd : Addr} {vs : List (Str × V)} {fs : List (Str × D)} (r : Rel K G F0 H0 F H σ env s) (hF : F dd = some (.xd vs)) (hfs : FsOk K F vs fs) : Rel K G F0 H0 F H (σ.set i (some (.ref ad))) (env.set i (.ex ad dd fs)) s := by
  have hl : ∀ {ev : EV} {e : EV}, (env.set i ev)[i]? = some e → i < env.length := fun {ev e} h => by
    by_cases w : i < env.length
    · exact w
    · rw [List.getElem?_eq_none_iff.mpr (by rw [List.length_set]; omega)] at h; cases h
  refine ⟨r.st, by rw [List.length_set, List.length_set]; exact r.len, fun j e h => ?_, fun j l dj dl hne h1 h2 => ?_, r.so⟩
  · by_cases z : i = j
    · subst z
      have hl' := hl h
      rw [List.getElem?_set_self hl'] at h
      cases h
      exact ⟨_, List.getElem?_set_self (by rw [← r.len]; exact hl'), rfl, vs, hF, hfs⟩
    · rw [List.getElem?_set_ne z] at h
      rw [List.getElem?_set_ne z]
      exact r.slots j e h
  · have nj : i ≠ j := fun z => by
      subst z
      rw [List.getElem?_set_self (hl h1)] at h1; cases h1
    have nl : i ≠ l := fun z => by
      subst z
      rw [List.getElem?_set_self (hl h2)] at h2; cases h2
    rw [List.getElem?_set_ne nj] at h1 ⊢
    rw [List.getElem?_set_ne nl] at h2 ⊢
    exact r.dist j l dj dl hne h1 h2
theorem Rel.clear {i : Nat} (r : Rel K G F0 H0 F H σ env s) : Rel K G F0 H0 F H (σ.set i none) (env.set i .un) s := by
  have := Rel.wipe (vs := [i]) r
  exact this
theorem ss_try {x n : Str} {i : Nat} {np pos' : Pos} {body suite : List Stmt} {b₀ : Stmt} {gb : Ev → LS → SOut} {gs : Addr → Addr → Ev → LS → SOut} (c : Cc X W k) (hE : EOk X.prog X.w X.K X.mg X.base x fld) (hs : X.stack = X.env :: X.outer) (hf : X.env.frame = some X.env.locals) (hi : X.N[i]? = some n) (hln : X.env.kindOf n = some .local) (hg : Gl X x)
    (hb : ∀ (W' : WX) (pn : List (Addr × Obj)) (xe : Value → Shared → Prop), Cc (X.tr pn xe) W' k → SSs (X.tr pn xe) W' G body gb)
    (hsu : ∀ (C ad dd : Addr) (oe : Obj) (pn : List (Addr × Obj)), XfC X.K C → PySem.W.findIn X.K (.ref C) fld = some none → Zc (.ref C) (some dd) oe → (∃ vs, oe.data = .fields vs) → SSs (X.suite ad ((ad, oe) :: pn)) W0 G (b₀ :: suite) (gs ad dd))
    (hdb : (x == ("__debug__" : Str)) = false := by decide) :
    SS X W G (.Try body [.ExceptHandler (some (.Name x np)) (some n) (b₀ :: suite) pos'] [] [] pos) (tryD x i gb gs) := by
  obtain ⟨C, fI, fd, ps, hm, T, iC, tI, hbn, Fn, xf, hno, hex⟩ := hE.ex
  refine SS.mk (ps_try_as (c := .ref C) (Wout := W) (tb := fun W' => tGS X.K X.mg W' G gb) (ts := fun ad cls dd => fun D σ H => cls = .ref C ∧ ∃ ddd, dd = some ddd ∧ tGS X.K X.mg W0 G (gs ad ddd) D σ H) hs hf c.nd hi hln ⟨hg, hdb, .inl hm⟩ c.tk
    (fun W' pn xe tk po => hb W' pn xe ⟨tk, c.room, c.calm, c.nd, po⟩) (fun ad oe cls dd pn hz hv => ?_)) fun F0 H0 F H σ env s D r pp => ?_
  · refine ⟨fun pins s σ H D I h => ?_⟩
    obtain ⟨rfl, ddd, rfl, h⟩ := h
    exact (hsu C ad ddd oe pn xf hno hz hv).run pins s σ H D I h
  · refine ⟨F0, H0, F, env, s, r, ?_⟩
    unfold tryD at pp
    cases q : gb env s with
    | nx e s1 => rw [q] at pp; exact pp
    | rt d s1 => rw [q] at pp; exact pp
    | bk e s1 => rw [q] at pp; exact pp
    | ct e s1 => rw [q] at pp; exact pp
    | bad => rw [q] at pp; exact pp.elim
    | err y e s1 =>
      rw [q] at pp
      simp only [] at pp
      split at pp
      · rename_i hc
        obtain ⟨hc1, hc2⟩ := hc
        intro cls dd F' H' σ' r' inc rx
        obtain ⟨C', ddd, fs, e1, e2, e3, e4, e5⟩ := rx
        rw [hc1, hm] at e1
        cases e1
        subst e2
        subst e3
        refine ⟨true, hex, fun _ ad ha => ⟨rfl, ddd, rfl, F0, H0, F', _, s1, r'.setEx e4 e5, ?_⟩, fun z => by cases z⟩
        have pp' := hc2 ad ddd
        rw [← pp'] at pp
        have p2 := PostS.inc inc pp
        have clear2 : ∀ {F2 H2 : Hp} {σ2 : L2.St} {e2 : Ev} {s2 : LS}, Rel X.K G F0 H0 F2 H2 σ2 e2 s2 → Rel X.K G F0 H0 F2 H2 (σ2.set i none) (e2.set i .un) s2 := fun r2 => r2.clear
        cases q2 : gs ad ddd (e.set i (.ex ad ddd y.fs)) s1 with
        | nx e2 s2 => rw [q2] at p2; exact fun F2 H2 σ2 r2 i2 => p2 F2 H2 _ (clear2 r2) i2
        | bk e2 s2 => rw [q2] at p2; exact fun F2 H2 σ2 r2 i2 => p2 F2 H2 _ (clear2 r2) i2
        | ct e2 s2 => rw [q2] at p2; exact fun F2 H2 σ2 r2 i2 => p2 F2 H2 _ (clear2 r2) i2
        | rt d s2 => rw [q2] at p2; exact p2
        | err z e2 s2 => rw [q2] at p2; exact p2.elim
        | bad => rw [q2] at p2; exact p2.elim
      · exact pp.elim
end
end DS
end

section
set_option Elab.async false
set_option linter.all false
set_option maxRecDepth 100000
set_option autoImplicit false
namespace DS
open PySem PySem.Spec L2
open PyProof.Rows hiding St
/-! ## the head's facts: exception classes too -/
def oexB (K : PySem.W.Frag) (C : Addr) : Bool := match K.lookup C with
  | some ⟨.type "type", _, .cls cd, sl⟩ => (match cd.mro, sl.toList with
    | .ref C' :: bm, [_, _, _, _, some (.builtin n), _] => C' == C && (n == "ValueError.__new__" && (!cd.hasDel && (cd.hasDict && PySem.HandSPX.refsVE bm)))
    | _, _ => false)
  | _ => false
theorem oexB_ok {K : PySem.W.Frag} {C : Addr} (h : oexB K C = true) : ∃ nm q N bs bm sn sub ab col dd k0 k1 k2 k3 k5, K.lookup C = some (excClassObj nm q C N bs bm true sn sub ab col dd k0 k1 k2 k3 k5 "ValueError.__new__") ∧ PySem.HandSPX.refsVE bm = true := by
  unfold oexB at h
  split at h
  · rename_i dd cd sl ho
    split at h
    · rename_i C' bm k0 k1 k2 k3 n k5 hm hs
      simp only [Bool.and_eq_true, beq_iff_eq, Bool.not_eq_true'] at h
      obtain ⟨rfl, rfl, hdel, hdict, ht⟩ := h
      obtain ⟨nm, bs, mro, ns, qn, hd, sn, sub, ab, col, del⟩ := cd
      dsimp only at hm hdel hdict
      subst hm hdel hdict
      have hsl : sl = #[k0, k1, k2, k3, some (.builtin "ValueError.__new__"), k5] := by
        apply Array.ext'
        exact hs
      subst hsl
      exact ⟨nm, qn, ns, bs, bm, sn, sub, ab, col, dd, k0, k1, k2, k3, k5, ho, ht⟩
    · cases h
  · cases h
def fileB (P : Program) (K : PySem.W.Frag) (cda : Addr) : Bool := match K.lookup cda with
  | some ⟨_, _, .fields vs, _⟩ => (match (vs[2]? : Option Value) with
    | some (Value.str file _) => (P.main.file : Str) == file
    | _ => false)
  | _ => false
theorem fileB_ok {P : Program} {K : PySem.W.Frag} {cda : Addr} (h : fileB P K cda = true) : ∃ (ccl : Value) (cdd : Option Addr) (vs : Array Value) (ccs : Array (Option Value)) (file : Str) (tf : Tok), K.lookup cda = some ⟨ccl, cdd, .fields vs, ccs⟩ ∧ vs[2]? = some (.str file tf) ∧ ((P.main.file : Str) == file) = true := by
  unfold fileB at h
  split at h
  · rename_i a b vs c ho
    split at h
    · rename_i file tf hv
      exact ⟨a, b, vs, c, file, tf, ho, hv, h⟩
    · cases h
  · cases h
def cellB (K : PySem.W.Frag) (cc C : Addr) : Bool := match K.lookup cc with
  | some ⟨_, _, .cell (some (.ref D)), _⟩ => D == C
  | _ => false
theorem cellB_ok {K : PySem.W.Frag} {cc C : Addr} (h : cellB K cc C = true) : ∃ (cl : Value) (cld : Option Addr) (csl : Array (Option Value)), K.lookup cc = some ⟨cl, cld, .cell (some (.ref C)), csl⟩ := by
  unfold cellB at h
  split at h
  · rename_i a b D c ho
    have e := beq_iff_eq.mp h
    subst e
    exact ⟨a, b, c, ho⟩
  · cases h
abbrev InV := Option (Str × Arguments × FuncBody × Scope × Addr × Addr)
def inV (K : PySem.W.Frag) (x : Str) : InV := match K.lookup (He.ma K (He.ga K x) "__init__") with
  | some ⟨_, _, .func fd, _⟩ => some (fd.qualname, fd.params, fd.body, fd.scope, fd.globals, fd.builtins)
  | _ => none
def inB (P : Program) (K : PySem.W.Frag) (x : Str) : Bool := match K.lookup (He.ma K (He.ga K x) "__init__") with
  | some ⟨_, _, .func fd, _⟩ => (match fd.closure, fd.code with
    | [(n, cc)], .ref cda => decide (n = ("__class__" : Str)) && (PySem.W.codeIn K (.ref cda) fd.qualname && (cellB K cc (He.ga K x) && (fileB P K cda && decide (fd.defaults = .none))))
    | _, _ => false)
  | _ => false
/-- an exception class of the program, the field that it keeps -/
def clB (P : Program) (K : PySem.W.Frag) (x fld : Str) : Bool :=
  oexB K (He.ga K x) && (He.eqO (PySem.W.findIn K (.ref (He.ga K x)) "__setattr__") (some (some (.builtin "object.__setattr__"))) && (decide (PySem.W.subIn K (.ref (He.ga K x)) (.type "BaseException") = some true) && (decide (PySem.W.typeIn K (.ref (He.ga K x)) = some (.type "type")) && (PySem.W.keepIn K (.ref (He.ga K x)) &&
  (He.eqO (PySem.W.findIn K (.ref (He.ga K x)) "__init__") (some (some (.ref (He.ma K (He.ga K x) "__init__")))) && (decide (PySem.W.typeIn K (.ref (He.ma K (He.ga K x) "__init__")) = some (.type "function")) && (He.eqO (PySem.W.ks_superIn K (He.ga K x) (He.ga K x) "__init__") (some (some (.builtin "ValueError.__init__"))) &&
  (decide (PySem.W.subIn K (.ref (He.ga K x)) (.type "ValueError") = some true) && (decide (PySem.W.mroIn K (He.ga K x) (.ref (He.ga K x)) = some true) && (He.eqO (PySem.W.nsIn K mainGlobals "super") (some none) && (He.eqO (PySem.W.nsIn K cStatics "thirdparty.any") (some none) && (xfB K (He.ga K x) &&
  (He.eqO (PySem.W.findIn K (.ref (He.ga K x)) fld) (some none) && (decide (PySem.W.exmOne K (.ref (He.ga K x)) (.ref (He.ga K x)) = some true) && (inB P K x && !(P.main.scope.names.lookup ("super" : Str)).isSome)))))))))))))))
theorem mkC_of {P : Program} {K : PySem.W.Frag} {x fld qual : Str} {params : Arguments} {body : List Stmt} {scope : Scope} (c : clB P K x fld = true) (o : inV K x = some (qual, params, .stmts body, scope, mainGlobals, builtinsNs)) :
    ∃ (fd : FuncData) (cc cda : Addr) (name : Str) (kV doc pm : Value) (an : Option Addr) (ct : Value), MkC P K (He.ga K x) (He.ma K (He.ga K x) "__init__") fd qual params body scope cc cda ∧ fd = PySem.W.ksFn name qual params body scope .none kV doc pm an (.ref cda) ct cc ∧ XfC K (He.ga K x) ∧ PySem.W.findIn K (.ref (He.ga K x)) fld = some none ∧ PySem.W.exmOne K (.ref (He.ga K x)) (.ref (He.ga K x)) = some true := by
  unfold clB at c
  simp only [Bool.and_eq_true, decide_eq_true_eq, Bool.not_eq_true'] at c
  obtain ⟨c1, c2, c3, c4, c5, c6, c7, c8, c9, c10, c11, c12, c13, c14, c15, c16, c17⟩ := c
  unfold inB at c16
  unfold inV at o
  cases q : K.lookup (He.ma K (He.ga K x) "__init__") with
  | none => rw [q] at c16; cases c16
  | some ob =>
    obtain ⟨oc, od, dt, osl⟩ := ob
    rw [q] at c16 o
    cases dt with
    | func fd =>
      obtain ⟨n1, n2, n3, n4, n5, n6, n7, n8, n9, n10, n11, n12, n13, n14, n15⟩ := fd
      simp only [Option.some.injEq, Prod.mk.injEq] at o
      obtain ⟨h1, h2, h3, h4, h5, h6⟩ := o
      subst h1 h2 h3 h4 h5 h6
      dsimp only at c16
      split at c16
      · rename_i n cc cda
        simp only [Bool.and_eq_true, decide_eq_true_eq] at c16
        obtain ⟨d1, d2, d3, d4, d5⟩ := c16
        subst d1 d5
        exact ⟨_, cc, cda, n1, n9, n10, n11, n12, n14, ⟨⟨oexB_ok c1, He.eqO_ok c2, c3, c4, c5⟩, He.eqO_ok c6, c7, ⟨oc, od, osl, n1, .none, n9, n10, n11, n12, n14, rfl, q⟩, d2, fileB_ok d4, cellB_ok d3, He.eqO_ok c8, c9, c10, He.eqO_ok c11, He.eqO_ok c12, c17⟩, rfl, xfB_ok c13, He.eqO_ok c14, c15⟩
      · cases c16
    | _ => cases c16
/-- the reading of the text that super().__init__ is given -/
def tMsg (msg : Str) : TA := tCons (tOp (fun x y H Q => ∃ i j, x = .str i ∧ y = .str j ∧ i.length + j.length ≤ sizeLine ∧ Q (.str (i ++ j)) H) (tC (.str msg)) (tVar 1)) tNil
theorem eok_of {P : Program} {w : World} {K : PySem.W.Frag} {mg : Str → Option Value} {base : Heap} {x fld qual msg : Str} {params : Arguments} {scope : Scope} {sn wn : Str} {e : Expr} {p0 p1 p2 p3 p4 p5 p6 p8 : Pos} {ar : Arg} {rhs : Expr} {pl : Sem Bool}
    (hm : mg x = some (.ref (He.ga K x))) (c : clB P K x fld = true)
    (o : inV K x = some (qual, params, .stmts [.Expr (.Call (.Attribute (.Call (.Name "super" p0) [] [] p1) "__init__" p2) [e] [] p3) p4, .Assign [.Attribute (.Name sn p5) fld p6] rhs p8], scope, mainGlobals, builtinsNs))
    (S : SupScope [sn, wn] [sn, wn] scope) (hp : (params.posonlyargs ++ params.args).head? = some ar) (har : ar.arg = sn) (hmsg : msg.length ≤ 1000)
    (hbind : ∀ (name : Str) (kV doc pm : Value) (an : Option Addr) (cdv ct : Value) (cc : Addr) (us : List Value), us.length = 2 → bindArgs (PySem.W.ksFn name qual params [.Expr (.Call (.Attribute (.Call (.Name "super" p0) [] [] p1) "__init__" p2) [e] [] p3) p4, .Assign [.Attribute (.Name sn p5) fld p6] rhs p8] scope .none kV doc pm an cdv ct cc) ⟨us, []⟩ = pure ([sn, wn].zip us))
    (hA : ∀ (f : Addr) (cd : Value) (cc : Addr) (A : Around) (outer : List Env) (s : Shared) (H : Hp) (E : XK), PA (cxK (L2.CX P w) P w K mg base [sn, wn] qual scope f cd cc A outer s H E) [e] (tMsg msg))
    (hR : ∀ (f : Addr) (cd : Value) (cc : Addr) (A : Around) (outer : List Env) (s : Shared) (H : Hp) (E : XK), PS (cxK (L2.CX P w) P w K mg base [sn, wn] qual scope f cd cc A outer s H E) (.Assign [.Attribute (.Name sn p5) fld p6] rhs p8) (tOst K fld (tVar 0) (tVar 1)))
    (hst : ∀ L f cd cc, starEach (e :: []) (envK qual scope L f cd cc) = (false, eval e (envK qual scope L f cd cc)) :: starEach [] (envK qual scope L f cd cc))
    (hi : ∀ L f cd cc, interactive (envK qual scope L f cd cc) = false) (hsw : ∀ L f cd cc, swapsWith (.Call (.Attribute (.Call (.Name "super" p0) [] [] p1) "__init__" p2) [e] [] p3) none p4.line (envK qual scope L f cd cc) = pure false)
    (hev : ∀ L f cd cc, eval (.Call (.Attribute (.Call (.Name "super" p0) [] [] p1) "__init__" p2) [e] [] p3) (envK qual scope L f cd cc) = (do
      let ov ← attributeBase (.Call (.Name "super" p0) [] [] p1) "__init__" (envK qual scope L f cd cc) (eval (.Call (.Name "super" p0) [] [] p1) (envK qual scope L f cd cc))
      standAt p2.atName
      let (f', first) ← holding [ov] (getMethod ov "__init__" pl)
      callWith p3 f' first (backTo p3 (starEach [e] (envK qual scope L f cd cc))) [])) : EOk P w K mg base x fld := by
  obtain ⟨fd, cc, cda, name, kV, doc, pm, an, ct, M, efd, xf, hno, hex⟩ := mkC_of c o
  have hb : Binds K fd [sn, wn] [] := Binds.all fun us hl => by rw [efd]; exact hbind name kV doc pm an (.ref cda) ct cc us hl
  refine ⟨He.ga K x, _, fd, [sn, wn], hm, M.T, M.iC, M.tI, hb, ?_, xf, hno, hex⟩
  refine init_ok (pl := pl) M S hp (by rw [har]; rfl) (fun vs H Q E h => by obtain ⟨a, z, rfl, _⟩ := h; rfl) (fun A outer s H vs Q E hr h => ?_) (fun L => hst L _ _ _) (fun L => hi L _ _ _) (fun L => hsw L _ _ _) (fun L => hev L _ _ _)
  obtain ⟨a, z, rfl, hz, ha, hq⟩ := h
  refine ⟨tMsg msg, _, a, [.str z], rfl, ha, hA _ _ _ A outer s H E, pss_one (hR _ _ _ A outer s H E), ?_⟩
  refine ⟨.str z, rfl, msg, z, rfl, rfl, by rw [sizeLine_eq]; omega, ?_⟩
  refine ⟨by simp, ha, .str z, rfl, .ref a, rfl, a, He.ga K x, rfl, M.T, hno, .inl ⟨ha, fun dx hdx hne => ?_⟩⟩
  exact hq dx hdx hne
/-! ### the Hook -/
structure ClD where
  name : Str
  fld : Str
  qual : Str
  params : Arguments
  body : List Stmt
  scope : Scope
def ClD.val (d : ClD) : InV := some (d.qual, d.params, .stmts d.body, d.scope, mainGlobals, builtinsNs)
def asX (g : Addr → Option Obj) (n : Nat) : List Addr := cStatics :: He.asD g n
abbrev AlX : Type := He.AlD × (Bool × List InV)
def obsX (P : Program) (fa : List He.Fa) (fn : List He.DefD) (cl : List ClD) (K : PySem.W.Frag) : AlX := (He.obsD fa fn K, (cl.all fun d => clB P K d.name d.fld, cl.map fun d => inV K d.name))
def valX (fn : List He.DefD) (cl : List ClD) : AlX := (He.valD fn, (true, cl.map ClD.val))
def SaysX (P : Program) (fa : List He.Fa) (fn : List He.DefD) (cl : List ClD) (K : PySem.W.Frag) : Prop := obsX P fa fn cl K = valX fn cl
def obsXG (P : Program) (n : Nat) (fa : List He.Fa) (fn : List He.DefD) (cl : List ClD) (g : Addr → Option Obj) : AlX := obsX P fa fn cl (He.frG g (asX g n))
def hookX (P : Program) (n : Nat) (fa : List He.Fa) (fn : List He.DefD) (cl : List ClD) : PySem.W.Hook where
  α := AlX
  obs := fun s => obsXG P n fa fn cl s.heap.get?
  val := fun _ => valX fn cl
  says := fun _ h => ∃ K : PySem.W.Frag, K.In h ∧ SaysX P fa fn cl K
  of := fun _ _ e => ⟨_, He.frG_in, e⟩
  keeps := fun _ _ _ ⟨K, hK, c⟩ k => ⟨K, PySem.W.Frag.In.keeps hK k, c⟩
theorem obsXG_eq {P : Program} {n : Nat} {fa : List He.Fa} {fn : List He.DefD} {cl : List ClD} {g : Addr → Option Obj} {s : Shared} (h : ∀ a, g a = s.heap.get? a) : obsXG P n fa fn cl g = (hookX P n fa fn cl).obs s := by
  have e : g = s.heap.get? := funext h
  rw [e] <;> rfl
theorem SaysX.d {P : Program} {fa : List He.Fa} {fn : List He.DefD} {cl : List ClD} {K : PySem.W.Frag} (c : SaysX P fa fn cl K) : He.SaysD fa fn K := congrArg (fun z : AlX => z.1) c
theorem SaysX.cl_ {P : Program} {fa : List He.Fa} {fn : List He.DefD} {cl : List ClD} {K : PySem.W.Frag} (c : SaysX P fa fn cl K) (i : Nat) {d : ClD} (h : cl[i]? = some d := by rfl) : clB P K d.name d.fld = true ∧ inV K d.name = d.val := by
  have c1 : (cl.all fun d => clB P K d.name d.fld) = true := congrArg (fun z : AlX => z.2.1) c
  have c2 : (cl.map fun d => inV K d.name) = cl.map ClD.val := congrArg (fun z : AlX => z.2.2) c
  refine ⟨List.all_eq_true.mp c1 d (List.mem_of_getElem? h), ?_⟩
  have e2 : (cl.map fun d => inV K d.name)[i]? = (cl.map ClD.val)[i]? := by rw [c2]
  rw [List.getElem?_map, List.getElem?_map, h] at e2
  exact Option.some.inj e2
end DS
end

section
set_option Elab.async false
set_option linter.all false
set_option maxRecDepth 100000
set_option maxHeartbeats 4000000
set_option autoImplicit false
namespace DS
open PySem PySem.Spec L2
open PyProof.Rows hiding St
/-! ## x[::-1], tuple * int, in, names of the module -/
section
open PyProof.Rows HT
variable {prog : Program} {w : World} {A : Around} {E : Value → Shared → Prop} {s : Shared}
theorem revApplied {sl : Addr} {vs : Value} {n : Nat} {Q : Int × Int × Nat → Shared → Prop} (hs : s.heap.IsSliceOf sl .none .none vs) (ps : IsPart vs (some (-1)))
    (h : Q ((n : Int) - 1, -1, n) s) : wpAny (model prog w) A (Builtin.Slice.sliceApplied (.ref sl) (pure (n : Int))) Q E s := by
  obtain ⟨os, hos, hcs, hds⟩ := id hs
  unfold Builtin.Slice.sliceApplied Builtin.Slice.sliceFields
  refine wpAny_bind (wpAny_bind (wpAny_field hos hds (x := .none) rfl (wpAny_bind (wpAny_field hos hds (x := .none) rfl (wpAny_bind (wpAny_field hos hds (x := vs) rfl (wpAny_pure ?_)))))))
  refine wpAny_bind (slicePart_ ps ?_)
  show wpAny _ _ (if ((-1 : Int) == 0) = true then _ else _) _ _ s
  rw [if_neg (by decide)]
  refine wpAny_bind (slicePart_none (wpAny_bind (slicePart_none (wpAny_bind (wpAny_pure ?_)))))
  have e1 : Builtin.Slice.sliceAdjust none none (-1) (n : Int) = ((n : Int) - 1, -1) := rfl
  have e2 : Builtin.Slice.slicePlaces ((n : Int) - 1) (-1) (-1) = n := by
    unfold Builtin.Slice.slicePlaces
    have h1 : ¬ ((-1 : Int) > 0) := by omega
    simp only [h1, if_false, show (- -1 : Int) = 1 from rfl, Int.ediv_one]
    split <;> omega
  show wpAny _ _ (match Builtin.Slice.sliceAdjust none none (-1) (n : Int) with | (lo, hi) => pure (lo, (-1 : Int), Builtin.Slice.slicePlaces lo hi (-1))) _ _ s
  rw [e1]
  show wpAny _ _ (pure ((n : Int) - 1, (-1 : Int), Builtin.Slice.slicePlaces ((n : Int) - 1) (-1) (-1))) _ _ s
  rw [e2]
  exact wpAny_pure h
theorem pick_rev (xs : Array Value) : ((List.range xs.size).filterMap fun (k : Nat) => xs[((xs.size : Int) - 1 + (k : Int) * (-1)).toNat]?).toArray = xs.toList.reverse.toArray := by
  rw [← PySem.W.krv_all xs, ← List.filterMap_reverse, ← PySem.W.krv_range, List.filterMap_map]
  congr 1
  refine filterMap_congr' fun k hk => ?_
  have := List.mem_range.mp hk
  have e : ((xs.size : Int) - 1 + (k : Int) * (-1)).toNat = xs.size - 1 - k := by omega
  rw [e]
  rfl
where
  filterMap_congr' {α β : Type} {f g : α → Option β} {l : List α} (h : ∀ x ∈ l, f x = g x) : l.filterMap f = l.filterMap g := by
    induction l with
    | nil => rfl
    | cons a l ih =>
      rw [List.filterMap_cons, List.filterMap_cons, h a List.mem_cons_self, ih fun x hx => h x (List.mem_cons_of_mem _ hx)]
theorem getItem_tuple_rev {t sl : Addr} {items : Array Value} {vs : Value} {Q : Value → Shared → Prop} (ht : IsTup s.heap t items) (hs : s.heap.IsSliceOf sl .none .none vs) (ps : IsPart vs (some (-1)))
    (h : Q (.ref s.heap.objs.size) { s with heap := s.heap.push { cls := .type "tuple", data := .seq items.toList.reverse.toArray } })
    (hsz : items.size ≤ sizeLine) : wpAny (model prog w) A (getItem (.ref t) (.ref sl)) Q E s := by
  have htake : sizeOk (.seq items.toList.reverse.toArray) := by
    show items.toList.reverse.toArray.size ≤ sizeLine
    rw [List.size_toArray, List.length_reverse, Array.length_toList]
    exact hsz
  obtain ⟨os, hos, hcs, hds⟩ := id hs
  have hTs : s.TypeIs (.ref sl) "slice" := ⟨os, hos, hcs⟩
  unfold getItem
  try with_reducible refine wpAny_holding ?_
  first | refine wpAny_bind (wpAny_pure ?_) | skip
  refine wpAny_bind (wpAny_sequenceKey ht.typeIs (by decide) ?_)
  refine wpAny_bind (wpAny_callSpecial?_slot (name := Str.ofString "__getitem__") ht.typeIs PyProof.Rows.slot_tuple_getitem
    (wpAny_call_entry PyProof.Rows.slot_tuple_getitem ht.typeIs entry_tuple_getitem ?_ (args_tuple_getitem _ _)))
  show wpAny _ _ (Builtin.Tuple.tupleItemsOf (.ref t) >>= _) _ _ s
  refine wpAny_bind (tupleItemsOf_ ht ?_)
  refine wpAny_bind (wpAny_typeOf hTs ?_)
  rw [if_pos (by decide)]
  refine wpAny_bind (revApplied hs ps ?_)
  have hno : ¬ (((items.size : Int) - 1 == 0 && (-1 : Int) == 1 && items.size == items.size) = true) := by
    intro q
    rw [Bool.and_eq_true, Bool.and_eq_true] at q
    exact absurd (eq_of_beq q.1.2) (by decide)
  show wpAny _ _ (if ((items.size : Int) - 1 == 0 && (-1 : Int) == 1 && items.size == items.size) = true then _ else _) _ _ s
  rw [if_neg hno, pick_rev]
  first
    | exact wpAny_bind (m := Builtin.Tuple.tupleExact _) (wpAny_newObj_type (wpAny_pure ⟨_, rfl, wpAny_pure h⟩) htake)
    | exact wpAny_bind (m := Builtin.Tuple.tupleExact _) (wpAny_newObj_type (wpAny_bind (wpAny_pure (wpAny_pure ⟨_, rfl, wpAny_pure h⟩))) htake)
    | exact wpAny_bind (wpAny_bind (m := Builtin.Tuple.tupleExact _) (wpAny_newObj_type (wpAny_pure (wpAny_pure ⟨_, rfl, wpAny_pure h⟩)) htake))
    | exact wpAny_bind (wpAny_bind (m := Builtin.Tuple.tupleExact _) (wpAny_newObj_type (wpAny_pure ⟨_, rfl, wpAny_pure h⟩) htake))
end
def tRevT (K : PySem.W.Frag) (te : TE) : TE := fun σ H Q => te σ H fun x H1 => ∃ a xs, x = .ref a ∧ SqT K H1 a xs ∧ ∀ p, H1 p = none → Q (.ref p) (upd H1 p (.tup xs.reverse))
theorem pe_revT {X : Cx} {e : Expr} {te : TE} {k : Nat} {p1 p2 p3 pos : Pos} (he : PE X e te) : PE X (.Subscript e (.Slice none none (some (.UnaryOp .USub (.Constant (.int 1) k p1) p2)) p3) pos) (tRevT X.K te) := by
  refine ⟨fun pins s σ H Q I h => ?_⟩
  refine Subscript_ (thn (he.run pins s σ H _ I h) fun v s1 ⟨x, H1, I1, r1, q1⟩ => ?_)
  obtain ⟨a, xs, ex, hx, q⟩ := q1
  subst ex
  cases r1
  have hst : PO X (some (.UnaryOp .USub (.Constant (.int 1) k p1) p2)) (tPart (tUn (rU fun i => .int (-i)) (tC (.int 1)))) := po_some (pe_un un_neg pe_int)
  refine wpAny_Slice (thn (po_none.run pins s1 σ H1 (fun o H2 => o = none ∧ H2 = H1) I1 ⟨rfl, rfl⟩) fun vl s2 ⟨l, H2, I2, pl, el, e2⟩ => ?_)
  subst el e2
  refine thn (po_none.run pins s2 σ H2 (fun o H3 => o = none ∧ H3 = H2) I2 ⟨rfl, rfl⟩) fun vu s3 ⟨u, H3, I3, pu, eu, e3⟩ => ?_
  subst eu e3
  refine thn (hst.run pins s3 σ H3 (fun o H4 => o = some (-1) ∧ H4 = H3) I3 ⟨1, rfl, -1, rfl, rfl, rfl⟩) fun vs s4 ⟨o, H4, I4, ps, eo, e4⟩ => ?_
  subst eo e4
  obtain rfl : vl = .none := by cases pl; rfl
  obtain rfl : vu = .none := by cases pu; rfl
  have I5 : Inv X pins σ H4 { s4 with heap := s4.heap.push { cls := .type "slice", data := .fields #[.none, .none, vs] } } := I4.kept (t' := s4.toks) fun b ob q => Heap.get?_push_of_some _ q
  obtain ⟨its, r, ht, hz⟩ := I5.tuple hx
  have hlen := r.length
  have hsz : its.toArray.size ≤ sizeLine := by rw [List.size_toArray, ← hlen]; exact hz
  show wpAny (model X.prog X.w) X.A (subscriptTail e (.Slice none none (some (.UnaryOp .USub (.Constant (.int 1) k p1) p2)) p3) (.ref a) (.ref s4.heap.objs.size)) (EP X pins σ Q) X.xe { s4 with heap := s4.heap.push { cls := .type "slice", data := .fields #[.none, .none, vs] } }
  refine tail_any (ops := [.ref a, .ref s4.heap.objs.size]) ht.typeIs (PyProof.Rows.slot_tuple_getitem.lookup) ?_ (by with_unfolding_all rfl)
  refine getItem_tuple_rev ht (Heap.IsSliceOf.new _ .none .none vs) ps ?_ hsz
  refine ⟨.ref _, _, I5.laid (t' := s4.toks) (o := .tup xs.reverse) (fun b ob q => Heap.get?_push_of_some _ q) (Nat.le_refl _) ?_, rfl, q _ (I5.hok.fresh (Nat.le_refl _))⟩
  exact ⟨by rw [List.length_reverse]; exact hz, _, r.reverse, IsTup.new _ _⟩
section
variable {X : Cx} {W : WX} {G : Gh} {e a b : Expr} {K : PySem.W.Frag} {F H F' H' F0 H0 : Hp} {σ : L2.St} {env env' : Ev} {s s' : LS} {v : V} {d : D} {pos p : Pos} {k : Nat}
theorem PE.or {t1 t2 : TE} (h1 : PE X e t1) (h2 : PE X e t2) : PE X e (fun σ H Q => t1 σ H Q ∨ t2 σ H Q) := ⟨fun pins s σ H Q I h => h.elim (h1.run pins s σ H Q I) (h2.run pins s σ H Q I)⟩
def revD : D → Option D
  | .list ds => some (.list ds.reverse)
  | .tuple ds => some (.tuple ds.reverse)
  | _ => none
theorem se_rev {g : Ev → LS → Out D} {j : Nat} {p1 p2 p3 : Pos} (h : SW X W G e g) : SE X W G (.Subscript e (.Slice none none (some (.UnaryOp .USub (.Constant (.int 1) j p1) p2)) p3) pos) (op1 revD g) := by
  obtain ⟨t, h1, h2⟩ := h.use
  refine SG.mk (PE.or (pe_revL h1) (pe_revT h1)) fun F0 H0 F H σ env s Q rl p => ?_
  unfold op1 at p
  cases q : g env s with
  | bad => rw [q] at p; exact p.elim
  | err z s1 =>
    rw [q] at p
    exact .inl (h2 F0 H0 F H σ env s _ rl (by rw [q]; exact p))
  | ok d s1 =>
    rw [q] at p
    change Post _ _ _ _ _ _ _ _ _ (lift (revD d) s1) at p
    cases q2 : revD d with
    | none => rw [q2] at p; exact p.elim
    | some d2 =>
      rw [q2] at p
      unfold revD at q2
      split at q2
      · cases q2
        refine .inl (h2 F0 H0 F H σ env s _ rl ?_)
        rw [q]
        intro v F1 H1 st so rv
        obtain ⟨pp, xs, rfl, hp, ra⟩ := Wd.lst rv st.sub
        refine ⟨pp, xs, rfl, SqL.of hp, fun q hq => ?_⟩
        have sn := step_new (F := F1) (o := .lst xs.reverse) st.sub hq
        exact p _ _ _ (st.trans sn.weak) (so.pure sn) (.lst upd_same ((RpAll.reverse ra).mono (sn.inc st.sub)))
      · cases q2
        refine .inr (h2 F0 H0 F H σ env s _ rl ?_)
        rw [q]
        intro v F1 H1 st so rv
        obtain ⟨pp, xs, rfl, hp, ra⟩ := Wd.tup rv
        refine ⟨pp, xs, rfl, sqT_mono st.sub hp, fun q hq => ?_⟩
        have sn := step_new (F := F1) (o := .tup xs.reverse) st.sub hq
        exact p _ _ _ (st.trans sn.weak) (so.pure sn) (.tup (SqT.of upd_same) ((RpAll.reverse ra).mono (sn.inc st.sub)))
      · cases q2
/-! ### x in list -/
def inD : D → D → Option D
  | x, .list ds => if SeqAt.shaped x = true ∧ SeqAt.shaped (.list ds) = true then some (.bool (ds.any fun z => PyData.eqv z x)) else none
  | _, _ => none
def notInD : D → D → Option D
  | x, .list ds => if SeqAt.shaped x = true ∧ SeqAt.shaped (.list ds) = true then some (.bool (!ds.any fun z => PyData.eqv z x)) else none
  | _, _ => none
theorem inO (hu : X.A.units + 65 < cLine) : OpS X G (compareOp .In) inD := by
  refine ⟨_, op_inD hu, fun F H x y dx dy d Q sub hx hy e q => ?_⟩
  unfold inD at e
  split at e
  · split at e
    · rename_i h
      cases e
      exact ⟨dx, _, hx.dp sub, hy.dp sub, h.1, h.2, stay sub q (.bl _)⟩
    · cases e
  · cases e
theorem notInO (hu : X.A.units + 65 < cLine) : OpS X G (compareOp .NotIn) notInD := by
  refine ⟨_, op_notInD hu, fun F H x y dx dy d Q sub hx hy e q => ?_⟩
  unfold notInD at e
  split at e
  · split at e
    · rename_i h
      cases e
      exact ⟨dx, _, hx.dp sub, hy.dp sub, h.1, h.2, stay sub q (.bl _)⟩
    · cases e
  · cases e
/-! ### a module's number -/
theorem se_globI {x : Str} {i : Int} (h : ∃ t, X.mg x = some (.int i t)) (hg : Gl X x := by rfl) (hd : (x == ("__debug__" : Str)) = false := by decide) : SE X W G (.Name x pos) (cD (.int i)) := by
  obtain ⟨t, h⟩ := h
  exact SG.mk (pe_glob (v := .int i) hg h ⟨_, rfl⟩ hd) fun F0 H0 F H σ env s Q rl p => p _ F H (Step.refl rl.st.sub) rl.so (.int i)
end
section
open PyProof.Rows
theorem tuple_mul1 (l : Addr) (items : Array Value) (n : Nat) (dd : Option Addr) (sl : Array (Option Value)) (x : Int) (u : Tok) (c0 : (decide (x < -(2 ^ 63)) || decide (x ≥ 2 ^ 63)) = false) (c1 : (items.isEmpty || x == 1) = true) :
    Meets (Builtin.«tuple.__mul__» ⟨[.ref l, .int x u], []⟩) (fun _ R s => s.heap.get? l = some { cls := .type "tuple", dict := dd, data := .seq items n, slots := sl } ∧
      R (.ok (.ret (Value.ref l))) { s with toks := s.toks }) :=
  .of_wp fun prog w A R s h => by
    obtain ⟨hp, g, d, tk, os⟩ := s
    obtain ⟨hl, h⟩ := h
    have f1 := AutoSeq1.idx_int
    wp_walk using wpAny_loadPart' hl
    repeat (first
      | (refine wpAny_ite_false (decide_eq_false (by rw [c0]; exact Bool.false_ne_true)) ?_; wp_walk using wpAny_loadPart' hl)
      | (refine wpAny_ite_true (decide_eq_true c1) ?_; wp_walk using wpAny_loadPart' hl))
    exact ⟨_, rfl, h⟩
theorem tuple_mul0 (l : Addr) (items : Array Value) (n : Nat) (dd : Option Addr) (sl : Array (Option Value)) (x : Int) (u : Tok) (c0 : (decide (x < -(2 ^ 63)) || decide (x ≥ 2 ^ 63)) = false) (c1 : (items.isEmpty || x == 1) = false) (c2 : (decide (x ≤ 0) || items.isEmpty) = true) :
    Meets (Builtin.«tuple.__mul__» ⟨[.ref l, .int x u], []⟩) (fun _ R s => s.heap.get? l = some { cls := .type "tuple", dict := dd, data := .seq items n, slots := sl } ∧
      R (.ok (.ret (Value.ref s.heap.objs.size))) { s with heap := s.heap.push { cls := Value.type "tuple", data := Data.seq #[] }, toks := s.toks }) :=
  .of_wp fun prog w A R s h => by
    obtain ⟨hp, g, d, tk, os⟩ := s
    obtain ⟨hl, h⟩ := h
    have f1 := AutoSeq1.idx_int
    wp_walk using wpAny_loadPart' hl
    repeat (first
      | (refine wpAny_ite_false (decide_eq_false (by rw [c0]; exact Bool.false_ne_true)) ?_; wp_walk using wpAny_loadPart' hl)
      | (refine wpAny_ite_false (decide_eq_false (by rw [c1]; exact Bool.false_ne_true)) ?_; wp_walk using wpAny_loadPart' hl)
      | (refine wpAny_ite_true (decide_eq_true c2) ?_; wp_walk using wpAny_loadPart' hl))
    exact ⟨_, rfl, h⟩
end
def rRepA (K : PySem.W.Frag) : R2 := fun x y H Q => ∃ l k xs, x = .ref l ∧ y = .int k ∧ SqT K H l xs ∧ xs ≠ [] ∧ -(2 ^ 62) ≤ k ∧ k ≤ 1000 ∧ xs.length ≤ 1000 ∧ (k = 1 → Q (.ref l) H) ∧ (k ≤ 0 → ∀ p, H p = none → Q (.ref p) (upd H p (.tup []))) ∧ (2 ≤ k → ∀ p, H p = none → Q (.ref p) (upd H p (.tup (List.replicate k.toNat xs).flatten)))
section
variable {X : Cx} {G : Gh}
theorem op_repA : OpR X (binaryOp .Mult) (rRepA X.K) := by
  intro pins s σ H x y v u Q I rx ry h
  obtain ⟨l, k, xs, rfl, rfl, hT, hne, h1, h2, hz, q1, q0, q2⟩ := h
  by_cases hk : 2 ≤ k
  · exact op_repT pins s σ H _ _ v u Q I rx ry ⟨l, k, xs, rfl, rfl, hT, hne, hk, h2, hz, q2 hk⟩
  · cases rx
    obtain ⟨t, rfl⟩ := ry
    obtain ⟨its, r, ⟨⟨cls, dd, data, sl⟩, ho, hc, n, hd⟩, hs⟩ := I.tuple hT
    simp only at hc hd
    subst hc hd
    have hle : its.length = xs.length := r.length.symm
    have hn : its ≠ [] := fun e => hne (by
      rw [e] at hle
      exact List.eq_nil_of_length_eq_zero hle.symm)
    have hi : its.toArray.isEmpty = false := by
      cases its with
      | nil => exact absurd rfl hn
      | cons a b => rfl
    have c0 : (decide (k < -(2 ^ 63)) || decide (k ≥ 2 ^ 63)) = false := by
      rw [decide_eq_false (by omega), decide_eq_false (by omega)] <;> rfl
    by_cases hk1 : k = 1
    · have c1 : (its.toArray.isEmpty || k == 1) = true := by rw [hk1]; simp
      exact wpAny_binaryOp_repeat_ref (T := "tuple") (U := "int") (by decide) ⟨_, ho, rfl⟩ (fun s' => typeIs_int s' k t) noFill_tuple_mul F.fills_int_mul F.slot_int_rmul repeat_tuple F.slot_int_index.lookup
        (call_meets F.slot_int_rmul (typeIs_int s k t) F.entry_int_rmul (F.args_int_rmul_2 _ _) (int_rmul_tuple k t l its.toArray n dd sl)
          ⟨ho, rfl, ⟨_, ho, rfl⟩, call_meets F.slot_tuple_mul ⟨_, ho, rfl⟩ F.entry_tuple_mul (F.args_tuple_mul_2 _ _) (tuple_mul1 l its.toArray n dd sl k t c0 c1) ⟨ho, .ref l, H, I, rfl, q1 hk1⟩⟩)
    · have c1 : (its.toArray.isEmpty || k == 1) = false := by
        rw [hi, Bool.false_or]
        exact beq_eq_false_iff_ne.mpr hk1
      have c2 : (decide (k ≤ 0) || its.toArray.isEmpty) = true := by
        rw [decide_eq_true (by omega)] <;> rfl
      refine wpAny_binaryOp_repeat_ref (T := "tuple") (U := "int") (by decide) ⟨_, ho, rfl⟩ (fun s' => typeIs_int s' k t) noFill_tuple_mul F.fills_int_mul F.slot_int_rmul repeat_tuple F.slot_int_index.lookup
        (call_meets F.slot_int_rmul (typeIs_int s k t) F.entry_int_rmul (F.args_int_rmul_2 _ _) (int_rmul_tuple k t l its.toArray n dd sl)
          ⟨ho, rfl, ⟨_, ho, rfl⟩, call_meets F.slot_tuple_mul ⟨_, ho, rfl⟩ F.entry_tuple_mul (F.args_tuple_mul_2 _ _) (tuple_mul0 l its.toArray n dd sl k t c0 c1 c2) ⟨ho, ?_⟩⟩)
      refine ⟨.ref s.heap.objs.size, _, I.laid (t' := s.toks) (o := .tup []) (fun b ob q => Heap.get?_push_of_some _ q) (Nat.le_refl _) ?_, rfl, q0 (by omega) _ (I.hok.fresh (Nat.le_refl _))⟩
      exact ⟨Nat.zero_le _, _, .nil, IsTup.new _ _⟩
def mulT : D → D → Option D
  | .tuple xs, .int k => if xs ≠ [] ∧ -(2 ^ 62) ≤ k ∧ k ≤ 1000 ∧ xs.length ≤ 1000 then some (.tuple (List.replicate k.toNat xs).flatten) else none
  | _, _ => none
theorem mulTO : OpS X G (binaryOp .Mult) mulT := by
  refine ⟨_, op_repA, fun F H x y dx dy d Q sub hx hy e q => ?_⟩
  unfold mulT at e
  split at e
  · split at e
    · rename_i xs k h
      obtain ⟨h1, h2, h3, h4⟩ := h
      cases e
      obtain ⟨a, us, rfl, sa, ra⟩ := Wd.tup hx
      obtain rfl := Wd.int hy
      have hlen := ra.length
      refine ⟨a, k, us, rfl, rfl, sqT_mono sub sa, fun z => h1 (by subst z; cases ra; rfl), h2, h3, by rw [hlen]; exact h4, fun hk => ?_, fun hk p hp => ?_, fun hk p hp => ?_⟩
      · subst hk
        have e1 : (List.replicate (1 : Int).toNat xs).flatten = xs := by simp
        rw [e1] at q
        exact stay sub q (.tup sa ra)
      · have e1 : k.toNat = 0 := by omega
        rw [e1] at q
        have st := step_new (F := F) (o := .tup []) sub hp
        exact q _ _ _ st (.tup (SqT.of upd_same) .nil)
      · have st := step_new (F := F) (o := .tup (List.replicate k.toNat us).flatten) sub hp
        exact q _ _ _ st (.tup (SqT.of upd_same) ((RpAll.rep ra _).mono (st.inc sub)))
    · cases e
  · cases e
end
/-! ### list(range(..)) -/
section
variable {X : Cx} {W : WX} {G : Gh} {e a b : Expr} {K : PySem.W.Frag} {F H F' H' F0 H0 : Hp} {σ : L2.St} {env env' : Ev} {s s' : LS} {v : V} {d : D} {pos p p2 pos2 : Pos} {k : Nat}
def rngF1 (g : Ev → LS → Out D) (env : Ev) (s : LS) : Out (List D) := (g env s).bind fun d s => match d with
  | .int j => if -(2 ^ 62) ≤ j ∧ j ≤ 2 ^ 24 then .ok (rangeL 0 j.toNat) s else .bad
  | _ => .bad
theorem rp_range : ∀ (n : Nat) (lo : Int), RpAll K F ((List.range n).map fun i => V.int (lo + (i : Nat))) (rangeL lo n) := by
  intro n lo
  unfold rangeL
  generalize List.range n = l
  induction l with
  | nil => exact .nil
  | cons i l ih => exact .cons (.int _) ih
theorem sf_listRg {g : Ev → LS → Out D} (c : Cc X W k) (hg : Gl X "list") (hm : X.mg "list" = none) (hg2 : Gl X "range") (hm2 : X.mg "range" = none) (ha : SE X W G a g)
    (na : starEach [a] X.env = (false, eval a X.env) :: starEach [] X.env := by rfl) (na2 : starEach [.Call (.Name "range" p2) [a] [] pos2] X.env = (false, eval (.Call (.Name "range" p2) [a] [] pos2) X.env) :: starEach [] X.env := by rfl) :
    SF X W G (.Call (.Name "list" p) [.Call (.Name "range" p2) [a] [] pos2] [] pos) (rngF1 g) := by
  obtain ⟨t, h1, h2⟩ := ha.use
  refine SG.mk (pe_listRg c.calm hg hm (prg_1 hg2 hm2 h1 na) na2) fun F0 H0 F H σ env s Q rl pp => h2 F0 H0 F H σ env s _ rl (post_bind pp fun d s1 x F1 H1 st so rx p1 => ?_)
  split at p1
  · split at p1
    · rename_i j hb
      cases rx
      refine ⟨j, rfl, ⟨by decide, by decide, by omega, by omega, by omega⟩, fun q hq => ?_⟩
      have e1 : (rgV 0 j) = (List.range j.toNat).map fun i => V.int (0 + (i : Nat)) := by unfold rgV; rw [Int.sub_zero]
      rw [e1]
      exact own_fin st.sub so (rp_range _ 0) p1 hq
    · exact p1.elim
  · exact p1.elim
end
end DS
end

section
set_option Elab.async false
set_option linter.all false
set_option maxRecDepth 100000
set_option autoImplicit false
namespace DS
open PySem PySem.Spec L2
open PyProof.Rows hiding St
/-! ## len(set(..)) of tuples of ints; turns of a while -/
def tLenSetT (K : PySem.W.Frag) (ta : TE) : TE := fun σ H Q => ta σ H fun x H1 => ∃ (l : Addr) (ks : List (Addr × List Int)), x = V.ref l ∧ SqL K H1 l (ks.map fun p => V.ref p.1) ∧ (∀ p ∈ ks, SqT K H1 p.1 (p.2.map V.int)) ∧ ks.length < 64 ∧
  ∀ L : List (List Int), L.Nodup → (∀ z ∈ L, z ∈ ks.map (·.2)) → (∀ z ∈ ks.map (·.2), z ∈ L) → Q (.int L.length) H1
section
variable {X : Cx} {W : WX} {G : Gh} {K : PySem.W.Frag} {F H F' H' F0 H0 : Hp} {σ : L2.St} {env env' : Ev} {s s' : LS} {v : V} {d : D} {k : Nat}
theorem pe_lenSetT {a : Expr} {ta : TE} {p p2 q pos : Pos} (hc : X.calm = true) (hu : X.A.units + 64 < cLine) (hg : Gl X "len") (hm : X.mg "len" = none) (hg2 : Gl X "set") (hm2 : X.mg "set" = none) (ha : PE X a ta)
    (na : starEach [a] X.env = (false, eval a X.env) :: starEach [] X.env := by rfl) : PE X (.Call (.Name "len" p) [.Call (.Name "set" p2) [a] [] q] [] pos) (tLenSetT X.K ta) := by
  refine ⟨fun pins s σ H Q I h => ?_⟩
  refine Call_ (ld_blt I hg hm PySem.boot_len ?_)
  refine PyProof.Rows.callWith_builtin1 (PyProof.Rows.args_cons ?_ rfl) rfl rfl
  refine Call_ (ld_blt I hg2 hm2 PyProof.Rows.boot_set ?_)
  refine PyProof.Rows.callWith_type1 (PyProof.Rows.args_cons (thn (ha.run pins s σ H _ I h) fun v s1 ⟨x, H1, I1, r1, q1⟩ => PyProof.Rows.args_nil ?_) na) na rfl
  obtain ⟨l, ks, rfl, hl, hk, hf, q1⟩ := q1
  cases r1
  obtain ⟨its, rv, pl, hz⟩ := I1.list hl
  refine call_set_tups (P := X.prog) (w := X.w) ks (I1.ok.hd hc) pl.isList (by simpa using refs_of_vals rv) (fun p hp => I1.isT (hk p hp)) hf (by omega) fun h' tk L es ep t R g k => ?_
  refine PyProof.Rows.args_nil ?_
  have I2 : Inv X pins σ H1 { s1 with heap := h', toks := tk } := I1.kept fun b o e => k b o e
  obtain ⟨o, ho, hex, hd⟩ := R.ob
  have hsz : es.size = L.length := by
    have := congrArg List.length R.rows
    unfold rowsOf at this
    rw [Array.length_toList, List.length_map] at this
    exact this
  have hlen : L.length < 64 := Nat.lt_of_le_of_lt g.len hf
  refine call_len_set ho hex hd (SetTR.fits (s := { s1 with heap := h', toks := tk }) R) (by omega) ⟨.int L.length, H1, I2.tok _, ⟨_, by rw [hsz]⟩, ?_⟩
  have q2 := q1 (L.map (·.2)) R.nd (fun z hz => ?_) fun z hz => ?_
  · rw [List.length_map] at q2
    exact q2
  · obtain ⟨p, hp, rfl⟩ := List.mem_map.mp hz
    exact List.mem_map_of_mem (f := (·.2)) (List.mem_of_mem_take (g.sub p hp))
  · obtain ⟨p, hp, rfl⟩ := List.mem_map.mp hz
    exact g.all p (by rw [List.take_length]; exact hp)
def tupI : D → Option (List Int)
  | .tuple ds => intsOf ds
  | _ => none
def tupsI : List D → Option (List (List Int))
  | [] => some []
  | d :: ds => match tupI d, tupsI ds with
    | some k, some r => some (k :: r)
    | _, _ => none
/-- the different ones -/
def diff {α : Type} [DecidableEq α] : List α → List α
  | [] => []
  | x :: l => if x ∈ diff l then diff l else x :: diff l
theorem mem_diff {α : Type} [DecidableEq α] {x : α} : ∀ {l : List α}, x ∈ diff l ↔ x ∈ l
  | [] => Iff.rfl
  | y :: l => by
    unfold diff
    split
    · rename_i h
      rw [mem_diff (l := l), List.mem_cons]
      exact ⟨Or.inr, fun z => z.elim (fun e => by rw [e]; exact mem_diff.mp h) id⟩
    · rw [List.mem_cons, List.mem_cons, mem_diff (l := l)]
theorem nodup_diff {α : Type} [DecidableEq α] : ∀ l : List α, (diff l).Nodup
  | [] => List.nodup_nil
  | y :: l => by
    unfold diff
    split
    · exact nodup_diff l
    · rename_i h
      exact List.nodup_cons.mpr ⟨h, nodup_diff l⟩
theorem nodup_le {α : Type} [DecidableEq α] : ∀ {l l' : List α}, l.Nodup → (∀ x ∈ l, x ∈ l') → l.length ≤ l'.length
  | [], _, _, _ => Nat.zero_le _
  | x :: l, l', nd, h => by
    obtain ⟨n1, n2⟩ := List.nodup_cons.mp nd
    have hx := h x List.mem_cons_self
    have h2 := nodup_le (l' := l'.erase x) n2 fun y hy => (List.mem_erase_of_ne fun e => n1 (by rw [← e]; exact hy)).mpr (h y (List.mem_cons_of_mem _ hy))
    have h3 := List.length_erase_of_mem hx
    have h4 : 0 < l'.length := List.length_pos_of_mem hx
    rw [List.length_cons]
    omega
def lenSetD : D → Option D
  | .list ds => if ds.length < 64 then (tupsI ds).map fun ks => .int (diff ks).length else none
  | _ => none
theorem rp_ints : ∀ {vs : List V} {ds : List D} {ns : List Int}, RpAll K F vs ds → intsOf ds = some ns → vs = ns.map V.int
  | [], [], ns, _, h => by
    cases h
    rfl
  | v :: vs, d :: ds, ns, .cons a r, h => by
    cases d with
    | int i =>
      change (intsOf ds).map (i :: ·) = some ns at h
      cases q : intsOf ds with
      | none => rw [q] at h; cases h
      | some ms =>
        rw [q] at h
        cases h
        cases a
        rw [List.map_cons, rp_ints r q]
    | _ => cases h
theorem rp_tups : ∀ {vs : List V} {ds : List D} {ks : List (List Int)}, RpAll K F vs ds → tupsI ds = some ks → ∃ ps : List (Addr × List Int), vs = ps.map (fun p => V.ref p.1) ∧ ps.map (·.2) = ks ∧ ∀ p ∈ ps, SqT K F p.1 (p.2.map V.int)
  | [], [], ks, _, h => by
    cases h
    exact ⟨[], rfl, rfl, fun p hp => by cases hp⟩
  | v :: vs, d :: ds, ks, .cons a r, h => by
    unfold tupsI at h
    split at h
    · rename_i k r' hk hr
      cases h
      obtain ⟨ps, e1, e2, e3⟩ := rp_tups r hr
      unfold tupI at hk
      split at hk
      · cases a with
        | @tup ad xs es sq ra =>
          have ex := rp_ints ra hk
          refine ⟨(ad, k) :: ps, by rw [e1]; rfl, by rw [List.map_cons, e2], fun p hp => ?_⟩
          rcases List.mem_cons.mp hp with rfl | hp
          · rw [← ex]; exact sq
          · exact e3 p hp
      · cases hk
    · cases h
theorem se_lenSet {a : Expr} {g : Ev → LS → Out D} {p p2 q pos : Pos} (c : Cc X W k) (hg : Gl X "len") (hm : X.mg "len" = none) (hg2 : Gl X "set") (hm2 : X.mg "set" = none) (ha : SE X W G a g)
    (na : starEach [a] X.env = (false, eval a X.env) :: starEach [] X.env := by rfl) : SE X W G (.Call (.Name "len" p) [.Call (.Name "set" p2) [a] [] q] [] pos) (op1 lenSetD g) := by
  obtain ⟨t, h1, h2⟩ := ha.use
  refine SG.mk (pe_lenSetT c.calm c.u64 hg hm hg2 hm2 h1 na) fun F0 H0 F H σ env s Q rl pp => h2 F0 H0 F H σ env s _ rl (post_bind pp fun d s1 x F1 H1 st so rx p1 => ?_)
  cases q3 : lenSetD d with
  | none => rw [q3] at p1; exact p1.elim
  | some d2 =>
    rw [q3] at p1
    unfold lenSetD at q3
    split at q3
    · rename_i ds
      split at q3
      · rename_i hlt
        cases q4 : tupsI ds with
        | none => rw [q4] at q3; cases q3
        | some ks =>
          rw [q4] at q3
          cases q3
          cases rx with
          | @lst ad xs _ hF ra =>
            obtain ⟨ps, rfl, e2, e3⟩ := rp_tups ra q4
            have hl := ra.length
            rw [List.length_map] at hl
            refine ⟨ad, ps, rfl, SqL.of (st.sub _ _ hF), fun p hp => sqT_mono st.sub (e3 p hp), by omega, fun L nd s1' s2' => ?_⟩
            have e : (L.length : Int) = ((diff ks).length : Int) := by
              have a1 : L.length ≤ (diff ks).length := nodup_le nd fun z hz => mem_diff.mpr (by rw [← e2]; exact s1' z hz)
              have a2 : (diff ks).length ≤ L.length := nodup_le (nodup_diff ks) fun z hz => s2' z (by rw [e2]; exact mem_diff.mp hz)
              omega
            rw [e]
            exact p1 _ F1 H1 (Step.refl st.sub) so (.int _)
      · cases q3
    · cases q3
end
def fuL (i : Nat) (env : Ev) (_ : LS) : Nat := match env[i]? with
  | some (.sh (.tuple ds)) => ds.length + 1
  | _ => 0
def fuP (i : Nat) (env : Ev) (_ : LS) : Nat := match env[i]? with
  | some (.sh (.tuple (.tuple ds :: _))) => ds.length + 1
  | _ => 0
end DS
end

section
set_option linter.all false
set_option autoImplicit false
namespace DS
open PySem
variable {α β : Type}
@[simp] theorem bind_ok (a : α) (s : LS) (f : α → LS → Out β) : (Out.ok a s).bind f = f a s := rfl
@[simp] theorem bind_err (x : Exn) (s : LS) (f : α → LS → Out β) : (Out.err x s : Out α).bind f = .err x s := rfl
@[simp] theorem bind_bad (f : α → LS → Out β) : (Out.bad : Out α).bind f = .bad := rfl
@[simp] theorem lift_some (a : α) (s : LS) : lift (some a) s = .ok a s := rfl
@[simp] theorem lift_none (s : LS) : lift (none : Option α) s = .bad := rfl
@[simp] theorem evS_ok (a : α) (s : LS) (env : Ev) (f : α → LS → SOut) : evS (.ok a s) env f = f a s := rfl
@[simp] theorem evS_err (x : Exn) (s : LS) (env : Ev) (f : α → LS → SOut) : evS (.err x s : Out α) env f = .err x env s := rfl
@[simp] theorem evS_bad (env : Ev) (f : α → LS → SOut) : evS (.bad : Out α) env f = .bad := rfl
@[simp] theorem noErr_ok (a : α) (s : LS) : noErr (.ok a s) = .ok a s := rfl
theorem seqD_nx {g1 g2 : Ev → LS → SOut} {env e : Ev} {s s1 : LS} (h : g1 env s = .nx e s1) : seqD g1 g2 env s = g2 e s1 := by unfold seqD; rw [h]
theorem seqD_rt {g1 g2 : Ev → LS → SOut} {env : Ev} {d : D} {s s1 : LS} (h : g1 env s = .rt d s1) : seqD g1 g2 env s = .rt d s1 := by unfold seqD; rw [h]
theorem seqD_err {g1 g2 : Ev → LS → SOut} {env e : Ev} {x : Exn} {s s1 : LS} (h : g1 env s = .err x e s1) : seqD g1 g2 env s = .err x e s1 := by unfold seqD; rw [h]
@[simp] theorem seqD_def (g1 g2 : Ev → LS → SOut) (env : Ev) (s : LS) : seqD g1 g2 env s = match g1 env s with
  | .nx e s => g2 e s
  | o => o := rfl
@[simp] theorem varD_def (i : Nat) (env : Ev) (s : LS) : varD i env s = match env[i]? with
  | some (.sh d) => .ok d s
  | _ => .bad := rfl
@[simp] theorem varW_def (i : Nat) (env : Ev) (s : LS) : varW i env s = match env[i]? with
  | some (.sh d) => .ok d s
  | some (.ow ds) => .ok (.list ds) s
  | _ => .bad := rfl
@[simp] theorem varX_def (i : Nat) (env : Ev) (s : LS) : varX i env s = match env[i]? with
  | some (.sh d) => .ok (.sh d) s
  | some (.ow ds) => .ok (.ow ds) s
  | some .st => .ok .st s
  | _ => .bad := rfl
@[simp] theorem cD_def (d : D) (env : Ev) (s : LS) : cD d env s = .ok d s := rfl
@[simp] theorem op2_def (f : D → D → Option D) (ga gb : Ev → LS → Out D) (env : Ev) (s : LS) : op2 f ga gb env s = (ga env s).bind fun x s1 => (gb env s1).bind fun y s2 => lift (f x y) s2 := rfl
@[simp] theorem op1_def (f : D → Option D) (ga : Ev → LS → Out D) (env : Ev) (s : LS) : op1 f ga env s = (ga env s).bind fun x s1 => lift (f x) s1 := rfl
@[simp] theorem asSh_def (g : Ev → LS → Out D) (env : Ev) (s : LS) : asSh g env s = (g env s).bind fun d s => .ok (.sh d) s := rfl
@[simp] theorem asOw_def (g : Ev → LS → Out (List D)) (env : Ev) (s : LS) : asOw g env s = (g env s).bind fun d s => .ok (.ow d) s := rfl
@[simp] theorem asLst_def (g : Ev → LS → Out (List D)) (env : Ev) (s : LS) : asLst g env s = (g env s).bind fun d s => .ok (.list d) s := rfl
@[simp] theorem tst_def (g : Ev → LS → Out D) (env : Ev) (s : LS) : tst g env s = (g env s).bind fun d s => lift (asB d) s := rfl
@[simp] theorem tst2_def (f : D → D → Option D) (ga gb : Ev → LS → Out D) (env : Ev) (s : LS) : tst2 f ga gb env s = (op2 f ga gb env s).bind fun d s => lift (asB d) s := rfl
@[simp] theorem asB_bool (b : Bool) : asB (.bool b) = some b := rfl
@[simp] theorem asI_int (i : Int) : asI (.int i) = some i := rfl
@[simp] theorem andB_def (ga gb : Ev → LS → Out Bool) (env : Ev) (s : LS) : andB ga gb env s = (ga env s).bind fun b s => if b then gb env s else .ok false s := rfl
@[simp] theorem orB_def (ga gb : Ev → LS → Out Bool) (env : Ev) (s : LS) : orB ga gb env s = (ga env s).bind fun b s => if b then .ok true s else gb env s := rfl
@[simp] theorem notB_def (ga : Ev → LS → Out Bool) (env : Ev) (s : LS) : notB ga env s = (ga env s).bind fun b s => .ok (!b) s := rfl
@[simp] theorem andD_def (ga gb : Ev → LS → Out D) (env : Ev) (s : LS) : andD ga gb env s = (ga env s).bind fun d s => (lift (asB d) s).bind fun b s => if b then gb env s else .ok (.bool false) s := rfl
@[simp] theorem orD_def (ga gb : Ev → LS → Out D) (env : Ev) (s : LS) : orD ga gb env s = (ga env s).bind fun d s => (lift (asB d) s).bind fun b s => if b then .ok (.bool true) s else gb env s := rfl
@[simp] theorem notD_def (ga : Ev → LS → Out D) (env : Ev) (s : LS) : notD ga env s = (ga env s).bind fun d s => (lift (asB d) s).bind fun b s => .ok (.bool !b) s := rfl
@[simp] theorem ifG_def (gc : Ev → LS → Out Bool) (ga gb : Ev → LS → Out α) (env : Ev) (s : LS) : ifG gc ga gb env s = (gc env s).bind fun b s => if b then ga env s else gb env s := rfl
@[simp] theorem nilG_def (env : Ev) (s : LS) : (nilG env s : Out (List α)) = .ok [] s := rfl
@[simp] theorem consG_def (ga : Ev → LS → Out α) (gr : Ev → LS → Out (List α)) (env : Ev) (s : LS) : consG ga gr env s = (ga env s).bind fun a s => (gr env s).bind fun r s => .ok (a :: r) s := rfl
@[simp] theorem callG_def (m : List EV → LS → Out D) (gas : Ev → LS → Out (List EV)) (env : Ev) (s : LS) : callG m gas env s = (gas env s).bind fun args s => if args.all EV.solid = true then m args s else .bad := rfl
@[simp] theorem callL_def (m : List EV → LS → Out D) (gas : Ev → LS → Out (List EV)) (env : Ev) (s : LS) : callL m gas env s = (gas env s).bind fun args s => if (args.map EV.lent).all EV.solid = true then flatOut (m (args.map EV.lent) s) else .bad := rfl
@[simp] theorem callB_def (g : List D → Option D) (gas : Ev → LS → Out (List D)) (env : Ev) (s : LS) : callB g gas env s = (gas env s).bind fun ds s => lift (g ds) s := rfl
@[simp] theorem solid_sh (d : D) : EV.solid (.sh d) = true := rfl
@[simp] theorem solid_st : EV.solid .st = true := rfl
@[simp] theorem lent_sh (d : D) : EV.lent (.sh d) = .sh d := rfl
@[simp] theorem lent_st : EV.lent .st = .st := rfl
@[simp] theorem lent_ow (d : List D) : EV.lent (.ow d) = .sh (.list d) := rfl
@[simp] theorem isiG_def (f : D → Bool) (g : Ev → LS → Out D) (env : Ev) (s : LS) : isiG f g env s = (g env s).bind fun d s => .ok (.bool (f d)) s := rfl
@[simp] theorem nopD_def (env : Ev) (s : LS) : nopD env s = .nx env s := rfl
@[simp] theorem retD_def (g : Ev → LS → Out D) (env : Ev) (s : LS) : retD g env s = evS (g env s) env fun d s => .rt d s := rfl
@[simp] theorem retN_def (env : Ev) (s : LS) : retN env s = .rt .none s := rfl
@[simp] theorem brkD_def (env : Ev) (s : LS) : brkD env s = .bk env s := rfl
@[simp] theorem cntD_def (env : Ev) (s : LS) : cntD env s = .ct env s := rfl
@[simp] theorem ifD_def (gc : Ev → LS → Out Bool) (ga gb : Ev → LS → SOut) (env : Ev) (s : LS) : ifD gc ga gb env s = evS (gc env s) env fun b s => if b then ga env s else gb env s := rfl
@[simp] theorem exprD_def (g : Ev → LS → Out α) (env : Ev) (s : LS) : exprD g env s = evS (g env s) env fun _ s => .nx env s := rfl
@[simp] theorem setD_def (i : Nat) (g : Ev → LS → Out EV) (env : Ev) (s : LS) : setD i g env s = evS (g env s) env fun v s => .nx (env.set i v) s := rfl
@[simp] theorem par2_def (i j : Nat) (ga gb : Ev → LS → Out EV) (env : Ev) (s : LS) : par2 i j ga gb env s = evS (ga env s) env fun x s => evS (gb env s) env fun y s => .nx ((env.set i x).set j y) s := rfl
@[simp] theorem par3_def (i j l : Nat) (ga gb gc : Ev → LS → Out EV) (env : Ev) (s : LS) : par3 i j l ga gb gc env s = evS (ga env s) env fun x s => evS (gb env s) env fun y s => evS (gc env s) env fun z s => .nx (((env.set i x).set j y).set l z) s := rfl
@[simp] theorem unpD_def (t : Tg) (g : Ev → LS → Out D) (env : Ev) (s : LS) : unpD t g env s = evS (g env s) env fun d s => match t.asg d env with
  | some env' => .nx env' s
  | none => .bad := rfl
@[simp] theorem augD_def (f : D → D → Option D) (i : Nat) (g : Ev → LS → Out D) (env : Ev) (s : LS) : augD f i g env s = match env[i]? with
  | some (.sh x) => evS (g env s) env fun y s => match f x y with
    | some z => .nx (env.set i (.sh z)) s
    | none => .bad
  | _ => .bad := rfl
@[simp] theorem augI_int (i j : Int) : augI (.int i) (.int j) = some (.int (i + j)) := rfl
@[simp] theorem appD_def (i : Nat) (g : Ev → LS → Out D) (env : Ev) (s : LS) : appD i g env s = match env[i]? with
  | some (.ow ds) => evS (g env s) env fun d s => if ds.length < sizeLine then .nx (env.set i (.ow (ds ++ [d]))) s else .bad
  | _ => .bad := rfl
@[simp] theorem popD_def (i : Nat) (env : Ev) (s : LS) : popD i env s = match env[i]? with
  | some (.ow ds) => if ds ≠ [] then .nx (env.set i (.ow ds.dropLast)) s else .bad
  | _ => .bad := rfl
@[simp] theorem stoD_def (i : Nat) (gi g : Ev → LS → Out D) (env : Ev) (s : LS) : stoD i gi g env s = evS (g env s) env fun d s => match env[i]? with
  | some (.ow ds) => evS (gi env s) env fun k s => match (asI k).bind (L2.ixN ds.length) with
    | some j => .nx (env.set i (.ow (ds.set j d))) s
    | none => .bad
  | _ => .bad := rfl
@[simp] theorem frz_def (i : Nat) (env : Ev) : frz i env = match env[i]? with
  | some (.ow ds) => env.set i (.sh (.list ds))
  | _ => env := rfl
@[simp] theorem frzD_def (i : Nat) (g : Ev → LS → SOut) (env : Ev) (s : LS) : frzD i g env s = g (frz i env) s := rfl
@[simp] theorem frzA_def (i : Nat) (g : Ev → LS → SOut) (env : Ev) (s : LS) : frzA i g env s = match g env s with
  | .nx e s => .nx (frz i e) s
  | o => o := rfl
@[simp] theorem forG_def (t : Tg) (gi : Ev → LS → Out (List D)) (gb : Ev → LS → SOut) (env : Ev) (s : LS) : forG t gi gb env s = evS (gi env s) env fun items s => forD t gb items env s := rfl
@[simp] theorem forD_nil (t : Tg) (gb : Ev → LS → SOut) (env : Ev) (s : LS) : forD t gb [] env s = .nx env s := rfl
theorem forD_cons (t : Tg) (gb : Ev → LS → SOut) (d : D) (ds : List D) (env : Ev) (s : LS) : forD t gb (d :: ds) env s = match t.asg d env with
  | none => .bad
  | some env1 => match gb env1 s with
    | .nx e s => forD t gb ds e s
    | .ct e s => forD t gb ds e s
    | .bk e s => .nx e s
    | o => o := rfl
theorem forD_nx {t : Tg} {gb : Ev → LS → SOut} {d : D} {ds : List D} {env env1 e : Ev} {s s' : LS} (h1 : t.asg d env = some env1) (h2 : gb env1 s = .nx e s') : forD t gb (d :: ds) env s = forD t gb ds e s' := by
  rw [forD_cons, h1]
  simp only [h2]
@[simp] theorem asg_nm (i : Nat) (d : D) (env : Ev) : (Tg.nm i).asg d env = some (env.set i (.sh d)) := rfl
@[simp] theorem asg_tp (is : List Nat) (ds : List D) (env : Ev) : (Tg.tp is).asg (.tuple ds) env = setAll is ds env := rfl
@[simp] theorem setAll_nil (env : Ev) : setAll [] [] env = some env := rfl
@[simp] theorem setAll_cons (i : Nat) (is : List Nat) (d : D) (ds : List D) (env : Ev) : setAll (i :: is) (d :: ds) env = setAll is ds (env.set i (.sh d)) := rfl
@[simp] theorem itemG_def (g : Ev → LS → Out D) (env : Ev) (s : LS) : itemG g env s = (g env s).bind fun d s => lift (listF d) s := rfl
@[simp] theorem listG_def (g : Ev → LS → Out D) (env : Ev) (s : LS) : listG g env s = (g env s).bind fun d s => lift (listF d) s := rfl
@[simp] theorem listF_list (ds : List D) : listF (.list ds) = some ds := rfl
@[simp] theorem listF_tuple (ds : List D) : listF (.tuple ds) = some ds := rfl
@[simp] theorem lcG_def (t : Tg) (vs : List Nat) (gi : Ev → LS → Out (List D)) (gc : Ev → LS → Out Bool) (ge : Ev → LS → Out D) (env : Ev) (s : LS) : lcG t vs gi gc ge env s =
  (gi env s).bind fun items s => if items.length ≤ sizeLine then lcD t gc ge items (wipeE env vs) s else .bad := rfl
@[simp] theorem wipeE_nil (env : Ev) : wipeE env [] = env := rfl
@[simp] theorem wipeE_cons (env : Ev) (v : Nat) (vs : List Nat) : wipeE env (v :: vs) = (wipeE env vs).set v .un := rfl
@[simp] theorem yesB_def (env : Ev) (s : LS) : yesB env s = .ok true s := rfl
@[simp] theorem addD_int (i j : Int) : addD (.int i) (.int j) = some (.int (i + j)) := rfl
@[simp] theorem subD_int (i j : Int) : subD (.int i) (.int j) = some (.int (i - j)) := rfl
@[simp] theorem negI_int (i : Int) : negI (.int i) = some (.int (-i)) := rfl
theorem mulD_int {i j : Int} (h : mulOk i j) : mulD (.int i) (.int j) = some (.int (i * j)) := if_pos h
theorem fdivD_int {i j : Int} (h : j ≠ 0) (h2 : j.natAbs.log2 < 9000) : fdivD (.int i) (.int j) = some (.int (i.fdiv j)) := if_pos ⟨h, h2⟩
theorem modD_int {i j : Int} (h : j ≠ 0) : modD (.int i) (.int j) = some (.int (i.fmod j)) := if_pos h
@[simp] theorem ltD_int (i j : Int) : ltD (.int i) (.int j) = some (.bool (decide (i < j))) := rfl
@[simp] theorem leD_int (i j : Int) : leD (.int i) (.int j) = some (.bool (decide (i ≤ j))) := rfl
@[simp] theorem gtD_int (i j : Int) : gtD (.int i) (.int j) = some (.bool (decide (j < i))) := rfl
@[simp] theorem geD_int (i j : Int) : geD (.int i) (.int j) = some (.bool (decide (j ≤ i))) := rfl
theorem shaped_int (i : Int) : SeqAt.shaped (.int i) = true := rfl
theorem shaped_bool (b : Bool) : SeqAt.shaped (.bool b) = true := rfl
theorem shaped_none : SeqAt.shaped .none = true := rfl
@[simp] theorem eqD_int (i j : Int) : eqD (.int i) (.int j) = some (.bool (i == j)) := by
  unfold eqD
  rw [if_pos ⟨shaped_int i, shaped_int j⟩]
  simp only [PyData.eqv]
@[simp] theorem neD_int (i j : Int) : neD (.int i) (.int j) = some (.bool (i != j)) := by
  unfold neD
  rw [if_pos ⟨shaped_int i, shaped_int j⟩]
  simp only [PyData.eqv]
  rfl
@[simp] theorem eqD_bool (i j : Bool) : eqD (.bool i) (.bool j) = some (.bool (i == j)) := by
  unfold eqD
  rw [if_pos ⟨shaped_bool i, shaped_bool j⟩]
  simp only [PyData.eqv]
@[simp] theorem neD_bool (i j : Bool) : neD (.bool i) (.bool j) = some (.bool (i != j)) := by
  unfold neD
  rw [if_pos ⟨shaped_bool i, shaped_bool j⟩]
  simp only [PyData.eqv]
  rfl
@[simp] theorem isD_none (x : D) : isD x .none = some (.bool (isNone x)) := by cases x <;> rfl
@[simp] theorem isntD_none (x : D) : isntD x .none = some (.bool (!isNone x)) := by cases x <;> rfl
@[simp] theorem isD_bool (a b : Bool) : isD (.bool a) (.bool b) = some (.bool (decide (a = b))) := rfl
@[simp] theorem isntD_bool (a b : Bool) : isntD (.bool a) (.bool b) = some (.bool (!decide (a = b))) := rfl
@[simp] theorem isNone_none : isNone .none = true := rfl
@[simp] theorem isNone_tuple (ds : List D) : isNone (.tuple ds) = false := rfl
@[simp] theorem isNone_list (ds : List D) : isNone (.list ds) = false := rfl
@[simp] theorem isNone_int (i : Int) : isNone (.int i) = false := rfl
@[simp] theorem lenF_list (ds : List D) : lenF [.list ds] = some (.int ds.length) := rfl
@[simp] theorem lenF_tuple (ds : List D) : lenF [.tuple ds] = some (.int ds.length) := rfl
@[simp] theorem absF_int (i : Int) : absF [.int i] = some (.int i.natAbs) := rfl
@[simp] theorem intF_int (i : Int) : intF [.int i] = some (.int i) := rfl
@[simp] theorem tupF_list (ds : List D) : tupF [.list ds] = some (.tuple ds) := rfl
@[simp] theorem tupF_tuple (ds : List D) : tupF [.tuple ds] = some (.tuple ds) := rfl
@[simp] theorem maxF_int (i j : Int) : maxF [.int i, .int j] = some (.int (max i j)) := rfl
@[simp] theorem minF_int (i j : Int) : minF [.int i, .int j] = some (.int (min i j)) := rfl
@[simp] theorem allF_list (ds : List D) : allF [.list ds] = (bools ds).map fun bs => .bool (bs.all id) := rfl
@[simp] theorem bools_nil : bools [] = some [] := rfl
@[simp] theorem bools_cons (b : Bool) (r : List D) : bools (.bool b :: r) = (bools r).map (b :: ·) := rfl
theorem atI_nat {xs : List α} {j : Nat} : L2.atI xs (j : Int) = xs[j]? := by
  unfold L2.atI L2.ixN
  rw [if_pos (Int.natCast_nonneg j)]
  by_cases h : (j : Int) < xs.length
  · rw [if_pos h]; rfl
  · rw [if_neg h, List.getElem?_eq_none_iff.mpr (by omega)]; rfl
@[simp] theorem atI_zero (x : α) (xs : List α) : L2.atI (x :: xs) 0 = some x := atI_nat (j := 0)
@[simp] theorem atI_one (x y : α) (xs : List α) : L2.atI (x :: y :: xs) 1 = some y := atI_nat (j := 1)
@[simp] theorem atI_two (x y z : α) (xs : List α) : L2.atI (x :: y :: z :: xs) 2 = some z := atI_nat (j := 2)
@[simp] theorem ixD_tuple (xs : List D) (i : Int) : ixD (.tuple xs) (.int i) = L2.atI xs i := rfl
@[simp] theorem ixD_list (xs : List D) (i : Int) : ixD (.list xs) (.int i) = L2.atI xs i := rfl
theorem small_line {n : Nat} (h : n ≤ 100000) : n ≤ sizeLine := by rw [sizeLine_eq]; omega
theorem small_line' {n : Nat} (h : n < 100000) : n < sizeLine := by rw [sizeLine_eq]; omega
@[simp] theorem tupG_def (g : Ev → LS → Out (List D)) (env : Ev) (s : LS) : tupG g env s = (g env s).bind fun ds s => if ds.length ≤ sizeLine then .ok (.tuple ds) s else .bad := rfl
@[simp] theorem lstG_def (g : Ev → LS → Out (List D)) (env : Ev) (s : LS) : lstG g env s = (g env s).bind fun ds s => if ds.length ≤ sizeLine then .ok ds s else .bad := rfl
@[simp] theorem line0 : 0 ≤ sizeLine := Nat.zero_le _
@[simp] theorem line1 : 1 ≤ sizeLine := small_line (by decide)
@[simp] theorem line2 : 2 ≤ sizeLine := small_line (by decide)
@[simp] theorem line3 : 3 ≤ sizeLine := small_line (by decide)
@[simp] theorem line4 : 4 ≤ sizeLine := small_line (by decide)
@[simp] theorem line5 : 5 ≤ sizeLine := small_line (by decide)
@[simp] theorem rng1_def (g : Ev → LS → Out D) (env : Ev) (s : LS) : rng1 g env s = (g env s).bind fun d s => match d with
  | .int j => if rngB j then .ok (rangeL 0 j.toNat) s else .bad
  | _ => .bad := rfl
@[simp] theorem rng2_def (ga gb : Ev → LS → Out D) (env : Ev) (s : LS) : rng2 ga gb env s = (ga env s).bind fun x s => (gb env s).bind fun y s => match x, y with
  | .int i, .int j => if rngB i ∧ rngB j then .ok (rangeL i (j - i).toNat) s else .bad
  | _, _ => .bad := rfl
@[simp] theorem rngD_def (ga gb gc : Ev → LS → Out D) (env : Ev) (s : LS) : rngD ga gb gc env s = (ga env s).bind fun x s => (gb env s).bind fun y s => (gc env s).bind fun z s => match x, y, z with
  | .int i, .int j, .int c => if rngB i ∧ rngB j ∧ c = -1 then .ok (downL i (i - j).toNat) s else .bad
  | _, _, _ => .bad := rfl
@[simp] theorem repG_def (ga : Ev → LS → Out (List D)) (gb : Ev → LS → Out D) (env : Ev) (s : LS) : repG ga gb env s = (ga env s).bind fun ds s => (gb env s).bind fun d s => lift (repL ds d) s := rfl
@[simp] theorem catG_def (ga gb : Ev → LS → Out D) (env : Ev) (s : LS) : catG ga gb env s = (ga env s).bind fun x s => (gb env s).bind fun y s => match x, y with
  | .list xs, .list ys => if xs.length + ys.length ≤ sizeLine then .ok (xs ++ ys) s else .bad
  | _, _ => .bad := rfl
theorem run_rt {n : Nat} {g : Ev → LS → SOut} {args : List EV} {s s' : LS} {d : D} (h : g (args ++ List.replicate (n - args.length) .un) s = .rt d s') : DS.run n g args s = .ok d s' := by unfold DS.run; rw [h]
theorem run_err {n : Nat} {g : Ev → LS → SOut} {args : List EV} {s s' : LS} {x : Exn} {e : Ev} (h : g (args ++ List.replicate (n - args.length) .un) s = .err x e s') : DS.run n g args s = .err x s' := by unfold DS.run; rw [h]
@[simp] theorem run_def (n : Nat) (g : Ev → LS → SOut) (args : List EV) (s : LS) : DS.run n g args s = match g (args ++ List.replicate (n - args.length) .un) s with
  | .nx _ s => .ok .none s
  | .rt d s => .ok d s
  | .err x _ s => .err x s
  | _ => .bad := rfl
@[simp] theorem whileG_def (fuel : Ev → LS → Nat) (gc : Ev → LS → Out Bool) (gb : Ev → LS → SOut) (env : Ev) (s : LS) : whileG fuel gc gb env s = whileD gc gb (fuel env s) env s := rfl
theorem whileD_succ (gc : Ev → LS → Out Bool) (gb : Ev → LS → SOut) (n : Nat) (env : Ev) (s : LS) : whileD gc gb (n + 1) env s = evS (gc env s) env fun b s => if b then match gb env s with
      | .nx e s => whileD gc gb n e s
      | .ct e s => whileD gc gb n e s
      | .bk e s => .nx e s
      | o => o
    else .nx env s := rfl
end DS
end

section
set_option linter.all false
set_option maxRecDepth 100000
set_option autoImplicit false
namespace NW
open PySem
open DS

def fu_divisor_1 : Ev → LS → Nat := fuI 1
def g_divisor : Ev → LS → SOut := (seqD (par2 0 1 (asSh (callB absF (consG (varW 0) nilG))) (asSh (callB absF (consG (varW 1) nilG))))
  (seqD (whileG fu_divisor_1 (tst2 neD (varW 1) (cD (.int 0))) (par2 0 1 (asSh (varD 1)) (asSh (op2 modD (varW 0) (varW 1)))))
  (retD (varD 0))))
def m_divisor : List EV → LS → Out D := run 2 g_divisor
def g_part : Ev → LS → SOut := (seqD (ifD (tst2 ltD (varW 1) (cD (.int 0))) (par2 0 1 (asSh (op2 subD (cD (.int 0)) (varW 0))) (asSh (op2 subD (cD (.int 0)) (varW 1)))) nopD)
  (seqD (setD 2 (asSh (callG m_divisor (consG (varX 0) (consG (varX 1) nilG)))))
  (retD (tupG (consG (op2 fdivD (varW 0) (varW 2)) (consG (op2 fdivD (varW 1) (varW 2)) nilG))))))
def m_part : List EV → LS → Out D := run 3 g_part
def g_is_part : Ev → LS → SOut := (seqD (ifD (orB (notB (tst (isiG isTup (varW 0)))) (tst2 neD (callB lenF (consG (varW 0) nilG)) (cD (.int 2)))) (retD (cD (.bool false))) nopD)
  (seqD (ifD (notB (tst (callB allF (consG (asLst (lcG (.nm 1) [1] (itemG (varD 0)) yesB (andD (isiG isInt (varW 1)) (notD (isiG isBool (varW 1)))))) nilG)))) (retD (cD (.bool false))) nopD)
  (retD (andD (op2 geD (op2 ixD (varW 0) (cD (.int 1))) (cD (.int 1))) (op2 eqD (callG m_divisor (consG (asSh (op2 ixD (varW 0) (cD (.int 0)))) (consG (asSh (op2 ixD (varW 0) (cD (.int 1)))) nilG))) (cD (.int 1)))))))
def m_is_part : List EV → LS → Out D := run 2 g_is_part
def g_plus : Ev → LS → SOut := (retD (callG m_part (consG (asSh (op2 addD (op2 mulD (op2 ixD (varW 0) (cD (.int 0))) (op2 ixD (varW 1) (cD (.int 1)))) (op2 mulD (op2 ixD (varW 1) (cD (.int 0))) (op2 ixD (varW 0) (cD (.int 1)))))) (consG (asSh (op2 mulD (op2 ixD (varW 0) (cD (.int 1))) (op2 ixD (varW 1) (cD (.int 1))))) nilG))))
def m_plus : List EV → LS → Out D := run 2 g_plus
def g_minus : Ev → LS → SOut := (retD (callG m_part (consG (asSh (op2 subD (op2 mulD (op2 ixD (varW 0) (cD (.int 0))) (op2 ixD (varW 1) (cD (.int 1)))) (op2 mulD (op2 ixD (varW 1) (cD (.int 0))) (op2 ixD (varW 0) (cD (.int 1)))))) (consG (asSh (op2 mulD (op2 ixD (varW 0) (cD (.int 1))) (op2 ixD (varW 1) (cD (.int 1))))) nilG))))
def m_minus : List EV → LS → Out D := run 2 g_minus
def g_times : Ev → LS → SOut := (retD (callG m_part (consG (asSh (op2 mulD (op2 ixD (varW 0) (cD (.int 0))) (op2 ixD (varW 1) (cD (.int 0))))) (consG (asSh (op2 mulD (op2 ixD (varW 0) (cD (.int 1))) (op2 ixD (varW 1) (cD (.int 1))))) nilG))))
def m_times : List EV → LS → Out D := run 2 g_times
def g_over : Ev → LS → SOut := (retD (callG m_part (consG (asSh (op2 mulD (op2 ixD (varW 0) (cD (.int 0))) (op2 ixD (varW 1) (cD (.int 1))))) (consG (asSh (op2 mulD (op2 ixD (varW 0) (cD (.int 1))) (op2 ixD (varW 1) (cD (.int 0))))) nilG))))
def m_over : List EV → LS → Out D := run 2 g_over
def g_is_less : Ev → LS → SOut := (retD (op2 ltD (op2 mulD (op2 ixD (varW 0) (cD (.int 0))) (op2 ixD (varW 1) (cD (.int 1)))) (op2 mulD (op2 ixD (varW 1) (cD (.int 0))) (op2 ixD (varW 0) (cD (.int 1))))))
def m_is_less : List EV → LS → Out D := run 2 g_is_less
def g_total : Ev → LS → SOut := (seqD (setD 1 (asSh (tupG (consG (cD (.int 0)) (consG (cD (.int 1)) nilG)))))
  (seqD (forG (.nm 2) (itemG (varD 0)) (setD 1 (asSh (callG m_plus (consG (varX 1) (consG (varX 2) nilG))))))
  (retD (varD 1))))
def m_total : List EV → LS → Out D := run 3 g_total
def g_least_of : Ev → LS → SOut := (seqD (setD 1 (asSh (cD .none)))
  (seqD (forG (.nm 2) (itemG (varD 0)) (ifD (orB (tst2 isD (varW 1) (cD .none)) (tst (callG m_is_less (consG (varX 2) (consG (varX 1) nilG))))) (setD 1 (asSh (varD 2))) nopD))
  (retD (varD 1))))
def m_least_of : List EV → LS → Out D := run 3 g_least_of
def g_whole_below : Ev → LS → SOut := (retD (op2 fdivD (op2 ixD (varW 0) (cD (.int 0))) (op2 ixD (varW 0) (cD (.int 1)))))
def m_whole_below : List EV → LS → Out D := run 1 g_whole_below
def g_whole_above : Ev → LS → SOut := (retD (op2 subD (cD (.int 0)) (op2 fdivD (op2 subD (cD (.int 0)) (op2 ixD (varW 0) (cD (.int 0)))) (op2 ixD (varW 0) (cD (.int 1))))))
def m_whole_above : List EV → LS → Out D := run 1 g_whole_above
def g_is_whole_part : Ev → LS → SOut := (retD (op2 eqD (op2 ixD (varW 0) (cD (.int 1))) (cD (.int 1))))
def m_is_whole_part : List EV → LS → Out D := run 1 g_is_whole_part
def g_are_parts : Ev → LS → SOut := (retD (andD (isiG isTup (varW 0)) (andD (op2 eqD (callB lenF (consG (varW 0) nilG)) (varW 1)) (callB allF (consG (asLst (lcG (.nm 2) [2] (itemG (varD 0)) yesB (callG m_is_part (consG (varX 2) nilG)))) nilG)))))
def m_are_parts : List EV → LS → Out D := run 3 g_are_parts
def g_scaled : Ev → LS → SOut := (seqD (setD 1 (asSh (cD (.int 1))))
  (seqD (forG (.nm 2) (itemG (varD 0)) (setD 1 (asSh (op2 fdivD (op2 mulD (varW 1) (op2 ixD (varW 2) (cD (.int 1)))) (callG m_divisor (consG (varX 1) (consG (asSh (op2 ixD (varW 2) (cD (.int 1)))) nilG)))))))
  (seqD (frzA 3 (setD 3 (asOw (lcG (.nm 2) [2] (itemG (varD 0)) yesB (op2 mulD (op2 ixD (varW 2) (cD (.int 0))) (op2 fdivD (varW 1) (op2 ixD (varW 2) (cD (.int 1)))))))))
  (seqD (setD 4 (asSh (cD (.int 0))))
  (seqD (forG (.nm 5) (itemG (varD 3)) (setD 4 (asSh (callG m_divisor (consG (varX 4) (consG (varX 5) nilG))))))
  (retD (ifG (tst2 eqD (varW 4) (cD (.int 0))) (callB tupF (consG (varW 3) nilG)) (callB tupF (consG (asLst (lcG (.nm 5) [5] (itemG (varD 3)) yesB (op2 fdivD (varW 5) (varW 4)))) nilG)))))))))
def m_scaled : List EV → LS → Out D := run 6 g_scaled
def g_dot : Ev → LS → SOut := (retD (callG m_total (consG (asSh (asLst (lcG (.nm 2) [2] (rng1 (callB lenF (consG (varW 0) nilG))) yesB (callG m_times (consG (asSh (op2 ixD (varW 1) (varD 2))) (consG (asSh (tupG (consG (op2 ixD (varW 0) (varD 2)) (consG (cD (.int 1)) nilG)))) nilG)))))) nilG)))
def m_dot : List EV → LS → Out D := run 3 g_dot
end NW
end

section
set_option linter.all false
set_option maxRecDepth 100000
set_option autoImplicit false
namespace NW
open PySem
open DS

def g__law_pick : Ev → LS → SOut := (retD (op2 ixD (varW 1) (callG m__law_take (consG (varX 0) (consG (asSh (callB lenF (consG (varW 1) nilG))) nilG)))))
def m__law_pick : List EV → LS → Out D := run 2 g__law_pick
def g__law_fr : Ev → LS → SOut := (seqD (ifD (tst2 ltD (varW 1) (cD (.int 0))) (par2 0 1 (asSh (op2 subD (cD (.int 0)) (varW 0))) (asSh (op2 subD (cD (.int 0)) (varW 1)))) nopD)
  (seqD (par2 2 3 (asSh (callB absF (consG (varW 0) nilG))) (asSh (varD 1)))
  (seqD (forG (.nm 4) (rng1 (cD (.int 4000))) (seqD (ifD (tst2 eqD (varW 3) (cD (.int 0))) brkD nopD)
  (par2 2 3 (asSh (varD 3)) (asSh (op2 modD (callB intF (consG (varW 2) nilG)) (varW 3))))))
  (retD (tupG (consG (op2 fdivD (varW 0) (varW 2)) (consG (op2 fdivD (varW 1) (varW 2)) nilG)))))))
def m__law_fr : List EV → LS → Out D := run 5 g__law_fr
def g__law_is_fr : Ev → LS → SOut := (seqD (ifD (orB (notB (tst (isiG isTup (varW 0)))) (orB (tst2 neD (callB lenF (consG (varW 0) nilG)) (cD (.int 2))) (tst2 gtD (callB lenF (consG (asLst (lcG (.nm 1) [1] (itemG (varD 0)) (orB (notB (tst (isiG isInt (varW 1)))) (tst (isiG isBool (varW 1)))) (varD 1))) nilG)) (cD (.int 0))))) (retD (cD (.bool false))) nopD)
  (retD (andD (op2 geD (op2 ixD (varW 0) (cD (.int 1))) (cD (.int 1))) (op2 eqD (callG m__law_fr (consG (asSh (op2 ixD (varW 0) (cD (.int 0)))) (consG (asSh (op2 ixD (varW 0) (cD (.int 1)))) nilG))) (varW 0)))))
def m__law_is_fr : List EV → LS → Out D := run 2 g__law_is_fr
def g__law_are_frs : Ev → LS → SOut := (retD (andD (isiG isTup (varW 0)) (andD (op2 eqD (callB lenF (consG (varW 0) nilG)) (varW 1)) (op2 eqD (callB lenF (consG (asLst (lcG (.nm 2) [2] (itemG (varD 0)) (notB (tst (callG m__law_is_fr (consG (varX 2) nilG)))) (varD 2))) nilG)) (cD (.int 0))))))
def m__law_are_frs : List EV → LS → Out D := run 3 g__law_are_frs
def g__law_add : Ev → LS → SOut := (retD (callG m__law_fr (consG (asSh (op2 addD (op2 mulD (op2 ixD (varW 0) (cD (.int 0))) (op2 ixD (varW 1) (cD (.int 1)))) (op2 mulD (op2 ixD (varW 1) (cD (.int 0))) (op2 ixD (varW 0) (cD (.int 1)))))) (consG (asSh (op2 mulD (op2 ixD (varW 0) (cD (.int 1))) (op2 ixD (varW 1) (cD (.int 1))))) nilG))))
def m__law_add : List EV → LS → Out D := run 2 g__law_add
def g__law_mul : Ev → LS → SOut := (retD (callG m__law_fr (consG (asSh (op2 mulD (op2 ixD (varW 0) (cD (.int 0))) (op2 ixD (varW 1) (cD (.int 0))))) (consG (asSh (op2 mulD (op2 ixD (varW 0) (cD (.int 1))) (op2 ixD (varW 1) (cD (.int 1))))) nilG))))
def m__law_mul : List EV → LS → Out D := run 2 g__law_mul
def g__law_sub : Ev → LS → SOut := (retD (callG m__law_add (consG (varX 0) (consG (asSh (tupG (consG (op2 subD (cD (.int 0)) (op2 ixD (varW 1) (cD (.int 0)))) (consG (op2 ixD (varW 1) (cD (.int 1))) nilG)))) nilG))))
def m__law_sub : List EV → LS → Out D := run 2 g__law_sub
def g__law_sign : Ev → LS → SOut := (seqD (setD 2 (asSh (op2 subD (op2 mulD (op2 ixD (varW 0) (cD (.int 0))) (op2 ixD (varW 1) (cD (.int 1)))) (op2 mulD (op2 ixD (varW 1) (cD (.int 0))) (op2 ixD (varW 0) (cD (.int 1)))))))
  (retD (ifG (tst2 eqD (varW 2) (cD (.int 0))) (cD (.int 0)) (ifG (tst2 gtD (varW 2) (cD (.int 0))) (cD (.int 1)) (op1 negI (cD (.int 1)))))))
def m__law_sign : List EV → LS → Out D := run 3 g__law_sign
end NW
end

section
set_option linter.all false
set_option autoImplicit false
namespace NW
open PySem hiding run
open DS
/-- a part -/
def R (q : Rat) : D := .tuple [.int q.num, .int q.den]
theorem R_def (q : Rat) : R q = .tuple [.int q.num, .int q.den] := rfl
theorem R_inj {p q : Rat} (h : R p = R q) : p = q := by
  unfold R at h
  injection h with h
  injection h with h1 h2
  injection h2 with h2 _
  injection h1 with h1
  injection h2 with h2
  exact Rat.ext h1 (by omega)
/-! ### the greatest common divisor by Euclid -/
theorem log2_le_of_le {a b : Nat} (h : a ≤ b) (hb : b.log2 < 9000) : a.log2 < 9000 := by
  by_cases z : a = 0
  · subst z; decide
  · have hb0 : b ≠ 0 := by omega
    have h1 := (Nat.log2_lt hb0).mp hb
    exact (Nat.log2_lt z).mpr (Nat.lt_of_le_of_lt h h1)
theorem fmod_nat (a b : Nat) : (a : Int).fmod b = ((a % b : Nat) : Int) := by
  rw [Int.fmod_eq_emod_of_nonneg _ (by omega)]
  rfl
theorem gcd_step (a b : Nat) : b.gcd (a % b) = a.gcd b := by
  rw [Nat.gcd_comm a b, Nat.gcd_rec b a, Nat.gcd_comm]
theorem euclid_while : ∀ (n : Nat) (a b : Nat) (s : LS), b < n →
    whileD (tst2 neD (varW 1) (cD (.int 0))) (par2 0 1 (asSh (varD 1)) (asSh (op2 modD (varW 0) (varW 1)))) n [.sh (.int a), .sh (.int b)] s = .nx [.sh (.int (a.gcd b : Nat)), .sh (.int 0)] s
  | 0, a, b, s, h => absurd h (Nat.not_lt_zero _)
  | n + 1, a, b, s, h => by
    rw [whileD_succ]
    by_cases hb : b = 0
    · subst hb
      simp
    · have hb' : ((b : Int) != 0) = true := by simpa using hb
      have hb2 : (b : Int) ≠ 0 := by omega
      have ih := euclid_while n b (a % b) s (by have := Nat.mod_lt a (show b > 0 by omega); omega)
      simp only [tst2_def, op2_def, varW_def, cD_def, List.getElem?_cons_succ, List.getElem?_cons_zero, bind_ok, neD_int, lift_some, asB_bool, evS_ok, hb', if_true, par2_def, asSh_def, varD_def, modD_int hb2, fmod_nat, List.set_cons_zero, List.set_cons_succ]
      rw [ih, gcd_step]
theorem m_divisor_eq (a b : Int) (s : LS) : m_divisor [.sh (.int a), .sh (.int b)] s = .ok (.int (a.gcd b : Nat)) s := by
  unfold m_divisor g_divisor
  refine run_rt ?_
  rw [seqD_nx (e := [.sh (.int (a.natAbs : Nat)), .sh (.int (b.natAbs : Nat))]) (s1 := s) (by simp)]
  rw [seqD_nx (e := [.sh (.int (a.gcd b : Nat)), .sh (.int 0)]) (s1 := s)]
  · simp
  · rw [whileG_def]
    exact euclid_while _ a.natAbs b.natAbs s (by simp [fuI, fu_divisor_1])
/-! ### a part made of two integers -/
theorem fdiv_nat_dvd {a : Int} {b : Nat} (hb : b ≠ 0) : a.fdiv b = a / b := by
  rw [Int.fdiv_eq_ediv_of_nonneg _ (by omega)]
theorem R_divInt_pos {a : Int} {b : Nat} (hb : b ≠ 0) : R (Rat.divInt a b) = .tuple [.int (a / (a.gcd b : Nat)), .int ((b : Int) / (a.gcd b : Nat))] := by
  unfold R
  have e : Rat.divInt a b = Rat.normalize a b hb := by
    rw [Rat.divInt_ofNat]
    exact (Rat.normalize_eq_mkRat hb).symm
  rw [e, Rat.normalize_eq hb]
  simp [Int.gcd]
theorem m_part_eq (a b : Int) (s : LS) (hb : b ≠ 0) (hz : b.natAbs.log2 < 9000) : m_part [.sh (.int a), .sh (.int b)] s = .ok (R (Rat.divInt a b)) s := by
  have key : ∀ (a b : Int), 0 < b → b.natAbs.log2 < 9000 → ∀ s, (seqD (setD 2 (asSh (callG m_divisor (consG (varX 0) (consG (varX 1) nilG)))))
      (retD (tupG (consG (op2 fdivD (varW 0) (varW 2)) (consG (op2 fdivD (varW 1) (varW 2)) nilG))))) [.sh (.int a), .sh (.int b), .un] s = .rt (R (Rat.divInt a b)) s := by
    intro a b hb hz s
    obtain ⟨n, rfl⟩ : ∃ n : Nat, b = n := ⟨b.toNat, by omega⟩
    have hn : n ≠ 0 := by omega
    have hg0 : a.gcd n ≠ 0 := fun z => by
      have := Int.gcd_eq_zero_iff.mp z
      omega
    have hgle : a.gcd n ≤ n := Int.gcd_le_natAbs_right a (by omega : (n : Int) ≠ 0) |> fun h => by simpa using h
    have hgz : ((a.gcd n : Nat) : Int).natAbs.log2 < 9000 := log2_le_of_le (by simpa using hgle) (by simpa using hz)
    have hg1 : ((a.gcd n : Nat) : Int) ≠ 0 := by omega
    rw [R_divInt_pos hn]
    simp [m_divisor_eq, fdivD_int hg1 hgz, fdiv_nat_dvd hg0]
  unfold m_part g_part
  refine run_rt ?_
  by_cases hneg : b < 0
  · have k := key (-a) (-b) (by omega) (by simpa using hz) s
    have e : Rat.divInt (-a) (-b) = Rat.divInt a b := by
      rw [Rat.neg_divInt_neg]
    rw [e] at k
    rw [seqD_nx (e := [.sh (.int (-a)), .sh (.int (-b)), .un]) (s1 := s) (by simp [hneg])]
    exact k
  · rw [seqD_nx (e := [.sh (.int a), .sh (.int b), .un]) (s1 := s) (by simp [hneg])]
    exact key a b (by omega) hz s
/-! ### sizes -/
/-- above and below are less than 2 ^ k -/
def Sz (k : Nat) (q : Rat) : Prop := q.num.natAbs < 2 ^ k ∧ q.den < 2 ^ k
theorem Sz.mono {k l : Nat} {q : Rat} (h : Sz k q) (hl : k ≤ l) : Sz l q := by
  have := Nat.pow_le_pow_right (show 2 > 0 by decide) hl
  exact ⟨Nat.lt_of_lt_of_le h.1 this, Nat.lt_of_lt_of_le h.2 this⟩
theorem log2_of_lt {n k m : Nat} (h : n < 2 ^ k) (hk : k ≤ m) (hm : 0 < m) : n.log2 < m := by
  by_cases z : n = 0
  · subst z; simpa using hm
  · exact Nat.lt_of_lt_of_le ((Nat.log2_lt z).mpr h) hk
theorem mul_lt_pow {a b k l : Nat} (h1 : a < 2 ^ k) (h2 : b < 2 ^ l) : a * b < 2 ^ (k + l) := by
  rw [Nat.pow_add]
  exact Nat.mul_lt_mul'' h1 h2
theorem mulOk_of {i j : Int} {k l : Nat} (h1 : i.natAbs < 2 ^ k) (h2 : j.natAbs < 2 ^ l) (h : k + l ≤ 900000) : mulOk i j := by
  refine .inr (.inr ?_)
  have a := log2_of_lt h1 (Nat.le_succ k) (Nat.succ_pos k)
  have b := log2_of_lt h2 (Nat.le_succ l) (Nat.succ_pos l)
  omega
theorem num_divInt_le (a : Int) {b : Int} (hb : b ≠ 0) : (Rat.divInt a b).num.natAbs ≤ a.natAbs ∧ (Rat.divInt a b).den ≤ b.natAbs := by
  refine ⟨?_, ?_⟩
  · rw [Rat.num_divInt]
    refine Nat.le_trans (Int.natAbs_ediv_le_natAbs _ _) ?_
    rw [Int.natAbs_mul]
    have : b.sign.natAbs ≤ 1 := by
      rcases Int.lt_trichotomy b 0 with h | h | h
      · rw [Int.sign_eq_neg_one_of_neg h]; decide
      · exact absurd h hb
      · rw [Int.sign_eq_one_of_pos h]; decide
    calc b.sign.natAbs * a.natAbs ≤ 1 * a.natAbs := Nat.mul_le_mul_right _ this
      _ = a.natAbs := Nat.one_mul _
  · rw [Rat.den_divInt, if_neg hb]
    exact Nat.div_le_self _ _
theorem Sz.divInt {a b : Int} {k : Nat} (hb : b ≠ 0) (h1 : a.natAbs < 2 ^ k) (h2 : b.natAbs < 2 ^ k) : Sz k (Rat.divInt a b) :=
  ⟨Nat.lt_of_le_of_lt (num_divInt_le a hb).1 h1, Nat.lt_of_le_of_lt (num_divInt_le a hb).2 h2⟩
theorem add_eq_divInt (p q : Rat) : p + q = Rat.divInt (p.num * q.den + q.num * p.den) (p.den * q.den) := by
  rw [← Rat.divInt_add_divInt _ _ (by exact_mod_cast p.den_nz) (by exact_mod_cast q.den_nz), Rat.num_divInt_den, Rat.num_divInt_den]
theorem sub_eq_divInt (p q : Rat) : p - q = Rat.divInt (p.num * q.den - q.num * p.den) (p.den * q.den) := by
  rw [← Rat.divInt_sub_divInt _ _ (by exact_mod_cast p.den_nz) (by exact_mod_cast q.den_nz), Rat.num_divInt_den, Rat.num_divInt_den]
theorem mul_eq_divInt (p q : Rat) : p * q = Rat.divInt (p.num * q.num) (p.den * q.den) := by
  rw [← Rat.divInt_mul_divInt, Rat.num_divInt_den, Rat.num_divInt_den]
theorem div_eq_divInt (p q : Rat) : p / q = Rat.divInt (p.num * q.den) (p.den * q.num) := by
  rw [Rat.div_def, ← Rat.divInt_mul_divInt, Rat.num_divInt_den, ← Rat.inv_divInt, Rat.num_divInt_den]
theorem den_ne (q : Rat) : (q.den : Int) ≠ 0 := by exact_mod_cast q.den_nz
theorem dens_ne (p q : Rat) : (p.den : Int) * q.den ≠ 0 := Int.mul_ne_zero (den_ne p) (den_ne q)
variable {k l : Nat} {p q : Rat}
theorem add_nums (hp : Sz k p) (hq : Sz l q) : (p.num * q.den + q.num * p.den).natAbs < 2 ^ (k + l + 1) ∧ (p.num * q.den - q.num * p.den).natAbs < 2 ^ (k + l + 1) := by
  have a : (p.num * q.den).natAbs < 2 ^ (k + l) := by rw [Int.natAbs_mul]; exact mul_lt_pow hp.1 hq.2
  have b : (q.num * p.den).natAbs < 2 ^ (k + l) := by rw [Int.natAbs_mul, Nat.add_comm]; exact mul_lt_pow hq.1 hp.2
  rw [Nat.pow_succ]
  omega
theorem mul_dens (hp : Sz k p) (hq : Sz l q) : ((p.den : Int) * q.den).natAbs < 2 ^ (k + l) := by rw [Int.natAbs_mul]; exact mul_lt_pow hp.2 hq.2
theorem pow_le_succ (n : Nat) : 2 ^ n ≤ 2 ^ (n + 1) := Nat.pow_le_pow_right (by decide) (Nat.le_succ n)
theorem Sz.add (hp : Sz k p) (hq : Sz l q) : Sz (k + l + 1) (p + q) := by
  rw [add_eq_divInt]
  exact Sz.divInt (dens_ne p q) (add_nums hp hq).1 (Nat.lt_of_lt_of_le (mul_dens hp hq) (pow_le_succ _))
theorem Sz.sub (hp : Sz k p) (hq : Sz l q) : Sz (k + l + 1) (p - q) := by
  rw [sub_eq_divInt]
  exact Sz.divInt (dens_ne p q) (add_nums hp hq).2 (Nat.lt_of_lt_of_le (mul_dens hp hq) (pow_le_succ _))
theorem Sz.mul (hp : Sz k p) (hq : Sz l q) : Sz (k + l) (p * q) := by
  rw [mul_eq_divInt]
  exact Sz.divInt (dens_ne p q) (by rw [Int.natAbs_mul]; exact mul_lt_pow hp.1 hq.1) (mul_dens hp hq)
theorem Sz.neg (hp : Sz k p) : Sz k (-p) := ⟨by rw [Rat.neg_num, Int.natAbs_neg]; exact hp.1, by rw [Rat.neg_den]; exact hp.2⟩
/-! ### the program's reckoning -/
theorem ok_of {i j : Int} {a b : Nat} (h1 : i.natAbs < 2 ^ a) (h2 : j.natAbs < 2 ^ b) (h : a + b ≤ 8999) : mulD (.int i) (.int j) = some (.int (i * j)) := mulD_int (mulOk_of h1 h2 (by omega))
theorem nat_abs_lt {n k : Nat} (h : n < 2 ^ k) : (n : Int).natAbs < 2 ^ k := by simpa using h
theorem m_plus_eq (hp : Sz k p) (hq : Sz l q) (h : k + l ≤ 8999) (s : LS) : m_plus [.sh (R p), .sh (R q)] s = .ok (R (p + q)) s := by
  have h1 : mulD (.int p.num) (.int q.den) = some (.int (p.num * q.den)) := ok_of hp.1 (nat_abs_lt hq.2) h
  have h2 : mulD (.int q.num) (.int p.den) = some (.int (q.num * p.den)) := ok_of hq.1 (nat_abs_lt hp.2) (by omega)
  have h3 : mulD (.int p.den) (.int q.den) = some (.int (p.den * q.den)) := ok_of (nat_abs_lt hp.2) (nat_abs_lt hq.2) h
  have e := m_part_eq (p.num * q.den + q.num * p.den) (p.den * q.den) s (dens_ne p q) (log2_of_lt (mul_dens hp hq) (by omega) (by omega))
  rw [R_def p, R_def q, add_eq_divInt p q]
  unfold m_plus g_plus
  simp -implicitDefEqProofs [h1, h2, h3, e]
theorem m_minus_eq (hp : Sz k p) (hq : Sz l q) (h : k + l ≤ 8999) (s : LS) : m_minus [.sh (R p), .sh (R q)] s = .ok (R (p - q)) s := by
  have h1 : mulD (.int p.num) (.int q.den) = some (.int (p.num * q.den)) := ok_of hp.1 (nat_abs_lt hq.2) h
  have h2 : mulD (.int q.num) (.int p.den) = some (.int (q.num * p.den)) := ok_of hq.1 (nat_abs_lt hp.2) (by omega)
  have h3 : mulD (.int p.den) (.int q.den) = some (.int (p.den * q.den)) := ok_of (nat_abs_lt hp.2) (nat_abs_lt hq.2) h
  have e := m_part_eq (p.num * q.den - q.num * p.den) (p.den * q.den) s (dens_ne p q) (log2_of_lt (mul_dens hp hq) (by omega) (by omega))
  rw [R_def p, R_def q, sub_eq_divInt p q]
  unfold m_minus g_minus
  simp -implicitDefEqProofs [h1, h2, h3, e]
theorem m_times_eq (hp : Sz k p) (hq : Sz l q) (h : k + l ≤ 8999) (s : LS) : m_times [.sh (R p), .sh (R q)] s = .ok (R (p * q)) s := by
  have h1 : mulD (.int p.num) (.int q.num) = some (.int (p.num * q.num)) := ok_of hp.1 hq.1 h
  have h3 : mulD (.int p.den) (.int q.den) = some (.int (p.den * q.den)) := ok_of (nat_abs_lt hp.2) (nat_abs_lt hq.2) h
  have e := m_part_eq (p.num * q.num) (p.den * q.den) s (dens_ne p q) (log2_of_lt (mul_dens hp hq) (by omega) (by omega))
  rw [R_def p, R_def q, mul_eq_divInt p q]
  unfold m_times g_times
  simp -implicitDefEqProofs [h1, h3, e]
theorem num_ne {q : Rat} (h : q ≠ 0) : q.num ≠ 0 := fun z => h (Rat.num_eq_zero.mp z)
theorem m_over_eq (hp : Sz k p) (hq : Sz l q) (hz : q ≠ 0) (h : k + l ≤ 8999) (s : LS) : m_over [.sh (R p), .sh (R q)] s = .ok (R (p / q)) s := by
  have h1 : mulD (.int p.num) (.int q.den) = some (.int (p.num * q.den)) := ok_of hp.1 (nat_abs_lt hq.2) h
  have h3 : mulD (.int p.den) (.int q.num) = some (.int (p.den * q.num)) := ok_of (nat_abs_lt hp.2) hq.1 h
  have hd : ((p.den : Int) * q.num).natAbs < 2 ^ (k + l) := by rw [Int.natAbs_mul]; exact mul_lt_pow hp.2 hq.1
  have e := m_part_eq (p.num * q.den) (p.den * q.num) s (Int.mul_ne_zero (den_ne p) (num_ne hz)) (log2_of_lt hd (by omega) (by omega))
  rw [R_def p, R_def q, div_eq_divInt p q]
  unfold m_over g_over
  simp -implicitDefEqProofs [h1, h3, e]
theorem m_is_less_eq (hp : Sz k p) (hq : Sz l q) (h : k + l ≤ 8999) (s : LS) : m_is_less [.sh (R p), .sh (R q)] s = .ok (.bool (decide (p < q))) s := by
  have h1 : mulD (.int p.num) (.int q.den) = some (.int (p.num * q.den)) := ok_of hp.1 (nat_abs_lt hq.2) h
  have h2 : mulD (.int q.num) (.int p.den) = some (.int (q.num * p.den)) := ok_of hq.1 (nat_abs_lt hp.2) (by omega)
  rw [R_def p, R_def q]
  unfold m_is_less g_is_less
  simp [h1, h2, Rat.lt_iff]
end NW
end

section
set_option linter.all false
set_option autoImplicit false
namespace NW
open PySem hiding run
open DS
/-! ## the older laws' own reckoning: Euclid by a for of written length -/
abbrev frBody (i j k l : Nat) : Ev → LS → SOut := seqD (ifD (tst2 eqD (varW j) (cD (.int 0))) brkD nopD) (par2 k l (asSh (varD j)) (asSh (op2 modD (callB intF (consG (varW i) nilG)) (varW j))))
theorem frBody_zero (x0 x1 x4 : EV) (a : Nat) (s : LS) : frBody 2 3 2 3 [x0, x1, .sh (.int a), .sh (.int 0), x4] s = .bk [x0, x1, .sh (.int a), .sh (.int 0), x4] s := by
  simp -implicitDefEqProofs [frBody]
theorem frBody_pos (x0 x1 x4 : EV) (a b : Nat) (hb : b ≠ 0) (s : LS) : frBody 2 3 2 3 [x0, x1, .sh (.int a), .sh (.int b), x4] s = .nx [x0, x1, .sh (.int b), .sh (.int (a % b : Nat)), x4] s := by
  have h1 : ((b : Int) == 0) = false := by simpa using hb
  have h2 : (b : Int) ≠ 0 := by omega
  simp -implicitDefEqProofs only [frBody, seqD_def, ifD_def, tst2_def, op2_def, varW_def, cD_def, List.getElem?_cons_succ, List.getElem?_cons_zero, bind_ok, eqD_int, h1, lift_some, asB_bool, evS_ok, Bool.false_eq_true, if_false, nopD_def, par2_def, asSh_def, varD_def, callB_def, consG_def, nilG_def, intF_int, modD_int h2, fmod_nat, List.set_cons_zero, List.set_cons_succ]
theorem half_two {a b m : Nat} (hb : b < 2 ^ (m + 1)) (hr : a % b ≠ 0) (h0 : b ≠ 0) : b % (a % b) < 2 ^ m := by
  have h1 : a % b < b := Nat.mod_lt _ (by omega)
  have h2 : b % (a % b) < a % b := Nat.mod_lt _ (by omega)
  have h3 : b % (a % b) ≤ b - a % b := by
    have e := Nat.mod_eq_sub_mod (a := b) (b := a % b) (by omega)
    rw [e]
    exact Nat.mod_le _ _
  rw [Nat.pow_succ] at hb
  omega
theorem euclid_for : ∀ (m a b : Nat) (ds : List D) (x0 x1 x4 : EV) (s : LS), b < 2 ^ m → 2 * m ≤ ds.length →
    ∃ x, forD (.nm 4) (frBody 2 3 2 3) ds [x0, x1, .sh (.int a), .sh (.int b), x4] s = .nx [x0, x1, .sh (.int (a.gcd b : Nat)), .sh (.int 0), x] s := by
  have zero : ∀ (a : Nat) (ds : List D) (x0 x1 x4 : EV) (s : LS), ∃ x, forD (.nm 4) (frBody 2 3 2 3) ds [x0, x1, .sh (.int a), .sh (.int 0), x4] s = .nx [x0, x1, .sh (.int a), .sh (.int 0), x] s := by
    intro a ds x0 x1 x4 s
    cases ds with
    | nil => exact ⟨_, rfl⟩
    | cons d ds =>
      refine ⟨.sh d, ?_⟩
      rw [forD_cons]
      simp only [asg_nm, List.set_cons_zero, List.set_cons_succ]
      rw [frBody_zero]
  intro m
  induction m with
  | zero =>
    intro a b ds x0 x1 x4 s hb _
    have : b = 0 := by simpa using hb
    subst this
    rw [Nat.gcd_zero_right]
    exact zero a ds x0 x1 x4 s
  | succ m ih =>
    intro a b ds x0 x1 x4 s hb hl
    by_cases h0 : b = 0
    · subst h0
      rw [Nat.gcd_zero_right]
      exact zero a ds x0 x1 x4 s
    · match ds, hl with
      | d1 :: d2 :: ds, hl =>
        rw [forD_cons]
        simp only [asg_nm, List.set_cons_zero, List.set_cons_succ]
        rw [frBody_pos _ _ _ _ _ h0]
        by_cases hr : a % b = 0
        · obtain ⟨x, hx⟩ := zero b (d2 :: ds) x0 x1 (.sh d1) s
          refine ⟨x, ?_⟩
          simp only [hr]
          rw [← gcd_step, hr, Nat.gcd_zero_right]
          exact hx
        · obtain ⟨x, hx⟩ := ih (a % b) (b % (a % b)) ds x0 x1 (.sh d2) s (half_two hb hr h0) (by simp only [List.length_cons] at hl; omega)
          refine ⟨x, ?_⟩
          simp only []
          rw [forD_cons]
          simp only [asg_nm, List.set_cons_zero, List.set_cons_succ]
          rw [frBody_pos _ _ _ _ _ hr]
          simp only []
          rw [← gcd_step a b, ← gcd_step b (a % b)]
          exact hx
theorem rangeL_length (lo : Int) (n : Nat) : (rangeL lo n).length = n := by simp [rangeL]
theorem rngB_small {i : Int} (h0 : -1000000 ≤ i) (h : i ≤ 1000000) : rngB i := by unfold rngB; omega
theorem m__law_fr_eq (a b : Int) (s : LS) (hb : b ≠ 0) (hz : b.natAbs < 2 ^ 1990) : m__law_fr [.sh (.int a), .sh (.int b)] s = .ok (R (Rat.divInt a b)) s := by
  have key : ∀ (a b : Int), 0 < b → b.natAbs < 2 ^ 1990 → ∀ s, (seqD (par2 2 3 (asSh (callB absF (consG (varW 0) nilG))) (asSh (varD 1)))
      (seqD (forG (.nm 4) (rng1 (cD (.int 4000))) (frBody 2 3 2 3))
      (retD (tupG (consG (op2 fdivD (varW 0) (varW 2)) (consG (op2 fdivD (varW 1) (varW 2)) nilG)))))) [.sh (.int a), .sh (.int b), .un, .un, .un] s = .rt (R (Rat.divInt a b)) s := by
    intro a b hb hz s
    obtain ⟨n, rfl⟩ : ∃ n : Nat, b = n := ⟨b.toNat, by omega⟩
    have hn : n ≠ 0 := by omega
    have hz' : n < 2 ^ 1990 := by simpa using hz
    rw [seqD_nx (e := [.sh (.int a), .sh (.int n), .sh (.int (a.natAbs : Nat)), .sh (.int n), .un]) (s1 := s) (by simp -implicitDefEqProofs)]
    obtain ⟨x, hx⟩ := euclid_for 1990 a.natAbs n (rangeL 0 4000) (.sh (.int a)) (.sh (.int n)) .un s hz' (by rw [rangeL_length]; decide)
    rw [seqD_nx (e := [.sh (.int a), .sh (.int n), .sh (.int (a.natAbs.gcd n : Nat)), .sh (.int 0), x]) (s1 := s)]
    · have hg0 : a.natAbs.gcd n ≠ 0 := fun z => by
        have := Nat.eq_zero_of_gcd_eq_zero_right z
        omega
      have hgle : a.natAbs.gcd n ≤ n := Nat.gcd_le_right _ (by omega)
      have hgz : ((a.natAbs.gcd n : Nat) : Int).natAbs.log2 < 9000 := by
        have h1 : (a.natAbs.gcd n) < 2 ^ 1990 := by omega
        have := log2_of_lt h1 (show 1990 ≤ 9000 by omega) (by omega)
        simpa using this
      have hg1 : ((a.natAbs.gcd n : Nat) : Int) ≠ 0 := by omega
      have eg : a.natAbs.gcd n = a.gcd n := rfl
      rw [R_divInt_pos hn, ← eg]
      simp -implicitDefEqProofs [fdivD_int hg1 hgz, fdiv_nat_dvd hg0]
    · have hr : rngB 4000 := rngB_small (by decide) (by decide)
      rw [forG_def, rng1_def]
      simp -implicitDefEqProofs only [cD_def, bind_ok, if_pos hr, evS_ok]
      exact hx
  unfold m__law_fr g__law_fr
  refine run_rt ?_
  by_cases hneg : b < 0
  · have k := key (-a) (-b) (by omega) (by simpa using hz) s
    rw [Rat.neg_divInt_neg] at k
    rw [seqD_nx (e := [.sh (.int (-a)), .sh (.int (-b)), .un, .un, .un]) (s1 := s) (by simp -implicitDefEqProofs [hneg])]
    exact k
  · rw [seqD_nx (e := [.sh (.int a), .sh (.int b), .un, .un, .un]) (s1 := s) (by simp -implicitDefEqProofs [hneg])]
    exact key a b (by omega) hz s
variable {k l : Nat} {p q : Rat}
theorem m__law_add_eq (hp : Sz k p) (hq : Sz l q) (h : k + l ≤ 1990) (s : LS) : m__law_add [.sh (R p), .sh (R q)] s = .ok (R (p + q)) s := by
  have h1 : mulD (.int p.num) (.int q.den) = some (.int (p.num * q.den)) := ok_of hp.1 (nat_abs_lt hq.2) (by omega)
  have h2 : mulD (.int q.num) (.int p.den) = some (.int (q.num * p.den)) := ok_of hq.1 (nat_abs_lt hp.2) (by omega)
  have h3 : mulD (.int p.den) (.int q.den) = some (.int (p.den * q.den)) := ok_of (nat_abs_lt hp.2) (nat_abs_lt hq.2) (by omega)
  have e := m__law_fr_eq (p.num * q.den + q.num * p.den) (p.den * q.den) s (dens_ne p q) (Nat.lt_of_lt_of_le (mul_dens hp hq) (Nat.pow_le_pow_right (by decide) h))
  rw [R_def p, R_def q, add_eq_divInt p q]
  unfold m__law_add g__law_add
  simp -implicitDefEqProofs [h1, h2, h3, e]
theorem m__law_mul_eq (hp : Sz k p) (hq : Sz l q) (h : k + l ≤ 1990) (s : LS) : m__law_mul [.sh (R p), .sh (R q)] s = .ok (R (p * q)) s := by
  have h1 : mulD (.int p.num) (.int q.num) = some (.int (p.num * q.num)) := ok_of hp.1 hq.1 (by omega)
  have h3 : mulD (.int p.den) (.int q.den) = some (.int (p.den * q.den)) := ok_of (nat_abs_lt hp.2) (nat_abs_lt hq.2) (by omega)
  have e := m__law_fr_eq (p.num * q.num) (p.den * q.den) s (dens_ne p q) (Nat.lt_of_lt_of_le (mul_dens hp hq) (Nat.pow_le_pow_right (by decide) h))
  rw [R_def p, R_def q, mul_eq_divInt p q]
  unfold m__law_mul g__law_mul
  simp -implicitDefEqProofs [h1, h3, e]
theorem R_neg (q : Rat) : R (-q) = .tuple [.int (-q.num), .int q.den] := by rw [R_def, Rat.neg_num, Rat.neg_den]
theorem m__law_sub_eq (hp : Sz k p) (hq : Sz l q) (h : k + l ≤ 1990) (s : LS) : m__law_sub [.sh (R p), .sh (R q)] s = .ok (R (p - q)) s := by
  have e := m__law_add_eq hp hq.neg h s
  rw [R_neg] at e
  have es : p + -q = p - q := (Rat.sub_eq_add_neg p q).symm
  rw [es] at e
  rw [R_def q]
  unfold m__law_sub g__law_sub
  simp -implicitDefEqProofs [e]
def sgn (p q : Rat) : Int := if p = q then 0 else if q < p then 1 else -1
theorem m__law_sign_eq (hp : Sz k p) (hq : Sz l q) (h : k + l ≤ 1990) (s : LS) : m__law_sign [.sh (R p), .sh (R q)] s = .ok (.int (sgn p q)) s := by
  have h1 : mulD (.int p.num) (.int q.den) = some (.int (p.num * q.den)) := ok_of hp.1 (nat_abs_lt hq.2) (by omega)
  have h2 : mulD (.int q.num) (.int p.den) = some (.int (q.num * p.den)) := ok_of hq.1 (nat_abs_lt hp.2) (by omega)
  rw [R_def p, R_def q]
  unfold m__law_sign g__law_sign
  have a1 : q < p ↔ q.num * p.den < p.num * q.den := Rat.lt_iff q p
  have a2 : p < q ↔ p.num * q.den < q.num * p.den := Rat.lt_iff p q
  have a3 : p = q ↔ ¬ (q < p) ∧ ¬ (p < q) := by
    constructor
    · rintro rfl; exact ⟨Rat.lt_irrefl, Rat.lt_irrefl⟩
    · rintro ⟨h1, h2⟩; exact Rat.le_antisymm (Rat.not_lt.mp h1) (Rat.not_lt.mp h2)
  by_cases c : p = q
  · subst c
    simp -implicitDefEqProofs [h1, h2, sgn]
  · by_cases d : q < p
    · have d' := a1.mp d
      have e1 : (p.num * (q.den : Int) - q.num * p.den == 0) = false := by simp; omega
      simp -implicitDefEqProofs [h1, h2, e1, sgn, c, d, d']
    · have d' : p.num * q.den < q.num * p.den := a2.mp (by
        rcases Decidable.em (p < q) with z | z
        · exact z
        · exact absurd (a3.mpr ⟨d, z⟩) c)
      have e1 : (p.num * (q.den : Int) - q.num * p.den == 0) = false := by simp; omega
      have e2 : ¬ q.num * p.den < p.num * q.den := by omega
      simp -implicitDefEqProofs [h1, h2, e1, sgn, c, d, e2]
end NW
end

section
set_option linter.all false
set_option autoImplicit false
namespace DS
open PySem
/-! ## loops -/
theorem forD_inv {t : Tg} {gb : Ev → LS → SOut} (P : Nat → Ev → LS → Prop) : ∀ (items : List D) (env : Ev) (s : LS), P 0 env s →
    (∀ i d env s, items[i]? = some d → P i env s → ∃ env1, t.asg d env = some env1 ∧ ∃ e' s', (gb env1 s = .nx e' s' ∨ gb env1 s = .ct e' s') ∧ P (i + 1) e' s') →
    ∃ e' s', forD t gb items env s = .nx e' s' ∧ P items.length e' s' := by
  intro items
  induction items generalizing P with
  | nil => exact fun env s h _ => ⟨env, s, rfl, h⟩
  | cons d ds ih =>
    intro env s h0 hs
    obtain ⟨env1, h1, e', s', h2, h3⟩ := hs 0 d env s rfl h0
    obtain ⟨e2, s2, h4, h5⟩ := ih (fun i => P (i + 1)) e' s' h3 fun i d' env s hi hp => hs (i + 1) d' env s hi hp
    refine ⟨e2, s2, ?_, h5⟩
    rw [forD_cons, h1]
    rcases h2 with h2 | h2 <;> simp only [h2, h4]
/-- a comprehension that draws nothing -/
theorem lcD_map {i : Nat} {ge : Ev → LS → Out D} (f : D → D) : ∀ (ds : List D) (env : Ev) (s : LS), (∀ d ∈ ds, ge (env.set i (.sh d)) s = .ok (f d) s) → lcD (.nm i) yesB ge ds env s = .ok (ds.map f) s
  | [], _, _, _ => rfl
  | d :: ds, env, s, h => by
    have ih := lcD_map f ds env s fun d' hd => h d' (List.mem_cons_of_mem _ hd)
    simp only [lcD, asg_nm, yesB_def, noErr_ok, bind_ok, if_true, h d List.mem_cons_self, ih, List.map_cons]
theorem lcD_filter {i : Nat} {gc : Ev → LS → Out Bool} {ge : Ev → LS → Out D} (p : D → Bool) (f : D → D) : ∀ (ds : List D) (env : Ev) (s : LS), (∀ d ∈ ds, gc (env.set i (.sh d)) s = .ok (p d) s) → (∀ d ∈ ds, p d = true → ge (env.set i (.sh d)) s = .ok (f d) s) →
    lcD (.nm i) gc ge ds env s = .ok ((ds.filter p).map f) s
  | [], _, _, _, _ => rfl
  | d :: ds, env, s, hc, h => by
    have ih := lcD_filter p f ds env s (fun d' hd => hc d' (List.mem_cons_of_mem _ hd)) fun d' hd => h d' (List.mem_cons_of_mem _ hd)
    simp only [lcD, asg_nm, hc d List.mem_cons_self, noErr_ok, bind_ok]
    cases q : p d with
    | true => simp only [if_true, h d List.mem_cons_self q, noErr_ok, bind_ok, ih, List.filter_cons_of_pos q, List.map_cons]
    | false => simp only [Bool.false_eq_true, if_false, ih, List.filter_cons_of_neg (by simp [q] : ¬ p d = true)]
/-- a comprehension that draws -/
theorem lcD_draw {i : Nat} {ge : Ev → LS → Out D} (WF : LS → Prop) (P : D → Prop) : ∀ (ds : List D) (env : Ev) (s : LS), WF s → (∀ d ∈ ds, ∀ s, WF s → ∃ y s', ge (env.set i (.sh d)) s = .ok y s' ∧ WF s' ∧ P y) →
    ∃ rs s', lcD (.nm i) yesB ge ds env s = .ok rs s' ∧ WF s' ∧ rs.length = ds.length ∧ ∀ y ∈ rs, P y
  | [], env, s, h, _ => ⟨[], s, rfl, h, rfl, fun y hy => by cases hy⟩
  | d :: ds, env, s, h0, h => by
    obtain ⟨y, s1, e1, w1, p1⟩ := h d List.mem_cons_self s h0
    obtain ⟨rs, s2, e2, w2, l2, p2⟩ := lcD_draw WF P ds env s1 w1 fun d' hd => h d' (List.mem_cons_of_mem _ hd)
    refine ⟨y :: rs, s2, ?_, w2, by rw [List.length_cons, List.length_cons, l2], fun z hz => ?_⟩
    · simp only [lcD, asg_nm, yesB_def, noErr_ok, bind_ok, if_true, e1, e2]
    · cases hz with
      | head => exact p1
      | tail _ hz => exact p2 z hz
/-! ## draws -/
def WFS (s : LS) : Prop := ∃ p cs, s = some (p, cs) ∧ cs ≠ []
theorem take_ok {s : LS} (h : WFS s) {most : Int} (h1 : 1 ≤ most) (h2 : most < 2 ^ 64) : ∃ r s', m__law_take [.st, .sh (.int most)] s = .ok (.int r) s' ∧ WFS s' ∧ 0 ≤ r ∧ r < most := by
  obtain ⟨p, cs, rfl, hne⟩ := h
  by_cases hm : most < 2
  · exact ⟨0, some (p, cs), if_pos hm, ⟨p, cs, rfl, hne⟩, by omega, by omega⟩
  · refine ⟨(takeV most p cs).1, some (takeV most p cs).2, ?_, ?_, ?_⟩
    · show (if most < 2 then _ else if cs ≠ [] ∧ most < 2 ^ 64 then _ else _) = _
      rw [if_neg hm, if_pos ⟨hne, h2⟩]
    · unfold takeV
      dsimp only
      split
      · refine ⟨_, _, rfl, fun z => hne ?_⟩
        have := congrArg List.length z
        rw [List.length_set] at this
        exact List.eq_nil_of_length_eq_zero this
      · exact ⟨_, _, rfl, hne⟩
    · unfold takeV
      dsimp only
      split
      · exact ⟨Int.fmod_nonneg_of_pos _ (by omega), Int.fmod_lt_of_pos _ (by omega)⟩
      · exact ⟨Int.fmod_nonneg_of_pos _ (by omega), Int.fmod_lt_of_pos _ (by omega)⟩
end DS
namespace NW
open PySem hiding run
open DS
theorem pick_ok {s : LS} (h : WFS s) {xs : List D} (h1 : xs ≠ []) (h2 : xs.length < 1000000) : ∃ x s', m__law_pick [.st, .sh (.list xs)] s = .ok x s' ∧ WFS s' ∧ x ∈ xs := by
  have hl : 0 < xs.length := List.length_pos_iff.mpr h1
  obtain ⟨r, s', e, w, r0, r1⟩ := take_ok h (most := xs.length) (by omega) (by omega)
  have hr : r.toNat < xs.length := by omega
  refine ⟨xs[r.toNat], s', ?_, w, List.getElem_mem hr⟩
  have ea : L2.atI xs r = some xs[r.toNat] := by
    have := DS.atI_nat (xs := xs) (j := r.toNat)
    rw [Int.toNat_of_nonneg r0] at this
    rw [this, List.getElem?_eq_getElem hr]
  unfold m__law_pick g__law_pick
  simp -implicitDefEqProofs [e, ea]
/-! ## data compared -/
theorem shaped_R (q : Rat) : SeqAt.shaped (R q) = true := by
  have h1 : (R q).canLay0 = true := by simp [R, PyData.canLay0, PyData.canLayAll0]
  have h2 : (R q).depth ≤ 64 := by simp [R, PyData.depth, PyData.depthAll]
  unfold SeqAt.shaped
  rw [h1, decide_eq_true h2]
  rfl
theorem eqv_R (p q : Rat) : PyData.eqv (R p) (R q) = decide (p = q) := by
  have e : PyData.eqv (R p) (R q) = ((p.num == q.num) && (((p.den : Int) == q.den) && true)) := by simp [R, PyData.eqv, PyData.eqvAll]
  rw [e]
  by_cases h : p = q
  · subst h; simp
  · rw [decide_eq_false h]
    by_cases h1 : p.num = q.num
    · have h2 : (p.den : Int) ≠ q.den := fun z => h (Rat.ext h1 (by omega))
      simp [h2]
    · simp [h1]
theorem neD_R (p q : Rat) : neD (R p) (R q) = some (.bool (!decide (p = q))) := by
  unfold neD
  rw [if_pos ⟨shaped_R p, shaped_R q⟩, eqv_R]
theorem eqD_R (p q : Rat) : eqD (R p) (R q) = some (.bool (decide (p = q))) := by
  unfold eqD
  rw [if_pos ⟨shaped_R p, shaped_R q⟩, eqv_R]
@[simp] theorem neD_R_self (p : Rat) : neD (R p) (R p) = some (.bool false) := by rw [neD_R]; simp
theorem R_zero : R 0 = .tuple [.int 0, .int 1] := rfl
theorem R_one : R 1 = .tuple [.int 1, .int 1] := rfl
theorem R_int (n : Int) : R (n : Rat) = .tuple [.int n, .int 1] := by
  rw [R_def, Rat.num_intCast, Rat.den_intCast]
  rfl
theorem Sz_zero : Sz 1 (0 : Rat) := ⟨by decide, by decide⟩
theorem Sz_one : Sz 1 (1 : Rat) := ⟨by decide, by decide⟩
theorem Sz_int {n : Int} {k : Nat} (h : n.natAbs < 2 ^ k) (hk : 0 < k) : Sz k (n : Rat) := by
  refine ⟨by rw [Rat.num_intCast]; exact h, ?_⟩
  rw [Rat.den_intCast]
  exact Nat.one_lt_two_pow (by omega)
/-! ## the rows of parts -/
theorem foldl_Sz {k : Nat} : ∀ (qs : List Rat) (q0 : Rat) (j : Nat), (∀ q ∈ qs, Sz k q) → Sz j q0 → Sz (j + qs.length * (k + 1)) (qs.foldl (· + ·) q0)
  | [], q0, j, _, h => by simpa using h
  | q :: qs, q0, j, h, h0 => by
    have h1 := h0.add (h q List.mem_cons_self)
    have h2 := foldl_Sz qs (q0 + q) (j + k + 1) (fun q' hq => h q' (List.mem_cons_of_mem _ hq)) h1
    have e : j + (q :: qs).length * (k + 1) = j + k + 1 + qs.length * (k + 1) := by
      rw [List.length_cons, Nat.succ_mul]; omega
    rw [e]
    exact h2
end NW
end

section
set_option linter.all false
set_option autoImplicit false
namespace NW
open PySem hiding run
open DS
/-! ## sums of rows -/
def sumQ (q0 : Rat) (qs : List Rat) : Rat := qs.foldl (· + ·) q0
theorem total_loop {k : Nat} (s : LS) (x0 : EV) : ∀ (qs : List Rat) (q0 : Rat) (j : Nat) (x2 : EV), (∀ q ∈ qs, Sz k q) → Sz j q0 → j + qs.length * (k + 1) + k ≤ 8999 →
    ∃ x, forD (.nm 2) (setD 1 (asSh (callG m_plus (consG (varX 1) (consG (varX 2) nilG))))) (qs.map R) [x0, .sh (R q0), x2] s = .nx [x0, .sh (R (sumQ q0 qs)), x] s
  | [], q0, j, x2, _, _, _ => ⟨x2, rfl⟩
  | q :: qs, q0, j, x2, h, h0, hz => by
    have hq := h q List.mem_cons_self
    have hl : (q :: qs).length * (k + 1) = qs.length * (k + 1) + (k + 1) := by rw [List.length_cons, Nat.succ_mul]
    have e := m_plus_eq h0 hq (by omega) s
    obtain ⟨x, hx⟩ := total_loop s x0 qs (q0 + q) (j + k + 1) (.sh (R q)) (fun q' hq => h q' (List.mem_cons_of_mem _ hq)) (h0.add hq) (by omega)
    refine ⟨x, ?_⟩
    rw [List.map_cons, forD_cons]
    simp -implicitDefEqProofs [e]
    exact hx
theorem m_total_eq {k : Nat} (qs : List Rat) (s : LS) (h : ∀ q ∈ qs, Sz k q) (hz : 1 + qs.length * (k + 1) + k ≤ 8999) : m_total [.sh (.list (qs.map R))] s = .ok (R (sumQ 0 qs)) s := by
  obtain ⟨x, hx⟩ := total_loop s (.sh (.list (qs.map R))) qs 0 1 .un h Sz_zero (by omega)
  unfold m_total g_total
  refine run_rt ?_
  rw [seqD_nx (e := [.sh (.list (qs.map R)), .sh (R 0), .un]) (s1 := s) (by simp -implicitDefEqProofs [R_zero])]
  rw [seqD_nx (e := [.sh (.list (qs.map R)), .sh (R (sumQ 0 qs)), x]) (s1 := s)]
  · simp -implicitDefEqProofs
  · rw [forG_def]
    simp -implicitDefEqProofs
    simpa using hx
/-! ## the least -/
def optD : Option Rat → D
  | none => .none
  | some q => R q
def lessQ (o : Option Rat) (n : Rat) : Option Rat := match o with
  | none => some n
  | some b => if n < b then some n else some b
theorem isNone_R (q : Rat) : isNone (R q) = false := rfl
theorem least_loop {k : Nat} (hk : k + k ≤ 8999) (s : LS) (x0 : EV) : ∀ (qs : List Rat) (o : Option Rat) (x2 : EV), (∀ q ∈ qs, Sz k q) → (∀ q, o = some q → Sz k q) →
    ∃ x, forD (.nm 2) (ifD (orB (tst2 isD (varW 1) (cD .none)) (tst (callG m_is_less (consG (varX 2) (consG (varX 1) nilG))))) (setD 1 (asSh (varD 2))) nopD) (qs.map R) [x0, .sh (optD o), x2] s = .nx [x0, .sh (optD (qs.foldl lessQ o)), x] s
  | [], o, x2, _, _ => ⟨x2, rfl⟩
  | q :: qs, o, x2, h, h0 => by
    have hq := h q List.mem_cons_self
    have hrest := fun q' hq => h q' (List.mem_cons_of_mem q hq)
    have hnew : ∀ q', lessQ o q = some q' → Sz k q' := fun q' e => by
      cases o with
      | none => cases e; exact hq
      | some b =>
        unfold lessQ at e
        dsimp only at e
        split at e
        · cases e; exact hq
        · cases e; exact h0 _ rfl
    obtain ⟨x, hx⟩ := least_loop hk s x0 qs (lessQ o q) (.sh (R q)) hrest hnew
    refine ⟨x, ?_⟩
    rw [List.map_cons, forD_cons, List.foldl_cons]
    cases o with
    | none =>
      simp -implicitDefEqProofs [optD]
      exact hx
    | some b =>
      have e := m_is_less_eq hq (h0 b rfl) hk s
      have hx' : forD (.nm 2) _ (List.map R qs) [x0, .sh (optD (if q < b then some q else some b)), .sh (R q)] s = _ := hx
      by_cases c : q < b
      · rw [if_pos c] at hx'
        simp -implicitDefEqProofs [optD, isNone_R, e, c]
        simpa [optD, lessQ, c] using hx'
      · rw [if_neg c] at hx'
        simp -implicitDefEqProofs [optD, isNone_R, e, c]
        simpa [optD, lessQ, c] using hx'
theorem m_least_of_eq {k : Nat} (hk : k + k ≤ 8999) (qs : List Rat) (s : LS) (h : ∀ q ∈ qs, Sz k q) : m_least_of [.sh (.list (qs.map R))] s = .ok (optD (qs.foldl lessQ none)) s := by
  obtain ⟨x, hx⟩ := least_loop hk s (.sh (.list (qs.map R))) qs none .un h (fun q e => nomatch e)
  unfold m_least_of g_least_of
  refine run_rt ?_
  rw [seqD_nx (e := [.sh (.list (qs.map R)), .sh (optD none), .un]) (s1 := s) (by simp -implicitDefEqProofs [optD])]
  rw [seqD_nx (e := [.sh (.list (qs.map R)), .sh (optD (qs.foldl lessQ none)), x]) (s1 := s)]
  · simp -implicitDefEqProofs
  · rw [forG_def]
    simp -implicitDefEqProofs
    simpa using hx
/-! ## floors -/
theorem log2_den {k : Nat} {q : Rat} (h : Sz k q) (hk : k ≤ 8999) : ((q.den : Int)).natAbs.log2 < 9000 := by
  have := log2_of_lt h.2 (show k ≤ 9000 by omega) (by omega)
  simpa using this
theorem m_whole_below_eq {k : Nat} {q : Rat} (h : Sz k q) (hk : k ≤ 8999) (s : LS) : m_whole_below [.sh (R q)] s = .ok (.int (q.num / q.den)) s := by
  unfold m_whole_below g_whole_below
  rw [R_def]
  simp -implicitDefEqProofs [fdivD_int (den_ne q) (log2_den h hk), fdiv_nat_dvd q.den_nz]
theorem m_whole_above_eq {k : Nat} {q : Rat} (h : Sz k q) (hk : k ≤ 8999) (s : LS) : m_whole_above [.sh (R q)] s = .ok (.int (-((-q.num) / q.den))) s := by
  unfold m_whole_above g_whole_above
  rw [R_def]
  simp -implicitDefEqProofs [fdivD_int (den_ne q) (log2_den h hk), fdiv_nat_dvd q.den_nz]
theorem m_is_whole_part_eq (a b : Int) (s : LS) : m_is_whole_part [.sh (.tuple [.int a, .int b])] s = .ok (.bool (b == 1)) s := by
  unfold m_is_whole_part g_is_whole_part
  simp -implicitDefEqProofs
/-! ## what is a part -/
def isPartD : D → Bool
  | .tuple [.int a, .int b] => decide (1 ≤ b) && (a.gcd b == 1)
  | _ => false
def plainInt (d : D) : Bool := isInt d && !isBool d
theorem bools_map (f : D → Bool) : ∀ ds : List D, bools (ds.map fun d => .bool (f d)) = some (ds.map f)
  | [] => rfl
  | d :: ds => by simp [bools_map f ds]
theorem gcd_eqD (a b : Int) : (((a.gcd b : Nat) : Int) == 1) = (a.gcd b == 1) := by
  by_cases h : a.gcd b = 1
  · rw [h]; rfl
  · rw [beq_eq_false_iff_ne.mpr h, beq_eq_false_iff_ne]
    omega
theorem plain_cases {d : D} (h : plainInt d = true) : ∃ i, d = .int i := by
  cases d <;> simp [plainInt, isInt, isBool] at h
  exact ⟨_, rfl⟩
theorem m_is_part_eq (d : D) (hd : ∀ ds, d = .tuple ds → ds.length ≤ 1000) (s : LS) : m_is_part [.sh d] s = .ok (.bool (isPartD d)) s := by
  unfold m_is_part g_is_part
  refine run_rt ?_
  have hno : ∀ d, isTup d = false → isPartD d = false := fun d h => by cases d <;> simp [isTup] at h <;> rfl
  cases hT : isTup d with
  | false =>
    rw [seqD_rt (d := .bool false) (s1 := s) (by simp -implicitDefEqProofs [hT]), hno d hT]
  | true =>
    cases d with
    | tuple ds =>
      have hlen := hd ds rfl
      by_cases h2 : ds.length = 2
      · match ds, h2 with
        | [x, y], _ =>
          rw [seqD_nx (e := [.sh (.tuple [x, y]), .un]) (s1 := s) (by simp -implicitDefEqProofs [isTup])]
          have hl : lcD (.nm 1) yesB (andD (isiG isInt (varW 1)) (notD (isiG isBool (varW 1)))) [x, y] [.sh (.tuple [x, y]), .un] s = .ok ([x, y].map fun d => .bool (plainInt d)) s := by
            refine lcD_map _ _ _ _ fun d _ => ?_
            cases h : isInt d <;> cases h' : isBool d <;> simp -implicitDefEqProofs [plainInt, h, h']
          cases hp : (plainInt x && plainInt y) with
          | false =>
            rw [seqD_rt (d := .bool false) (s1 := s) (by
              simp -implicitDefEqProofs [hl, bools]
              simp only [Bool.and_eq_false_iff] at hp
              rcases hp with hp | hp <;> simp [hp])]
            have : isPartD (.tuple [x, y]) = false := by
              cases x <;> cases y <;> first | rfl | (simp [plainInt, isInt, isBool] at hp)
            rw [this]
          | true =>
            have hp' := Bool.and_eq_true_iff.mp hp
            obtain ⟨i, rfl⟩ := plain_cases hp'.1
            obtain ⟨j, rfl⟩ := plain_cases hp'.2
            rw [seqD_nx (e := [.sh (.tuple [.int i, .int j]), .un]) (s1 := s) (by
              simp -implicitDefEqProofs [hl, bools, hp'.1, hp'.2])]
            by_cases hj : 1 ≤ j
            · simp -implicitDefEqProofs [m_divisor_eq, hj, isPartD, gcd_eqD]
            · simp -implicitDefEqProofs [hj, isPartD]
      · have h2' : ((ds.length : Int) != 2) = true := by
          simp
          omega
        rw [seqD_rt (d := .bool false) (s1 := s) (by simp -implicitDefEqProofs [isTup, h2'])]
        have : isPartD (.tuple ds) = false := by
          match ds, h2 with
          | [], _ => rfl
          | [_], _ => cases ‹D› <;> rfl
          | _ :: _ :: _ :: _, _ => unfold isPartD; split <;> first | rfl | (rename_i h; cases h)
          | [_, _], h => exact absurd rfl h
        rw [this]
    | _ => cases hT
/-! ## rows of parts -/
def arePartsD (d : D) (many : Int) : Bool := match d with
  | .tuple ds => ((ds.length : Int) == many) && ds.all isPartD
  | _ => false
def small (d : D) : Prop := ∀ ds, d = .tuple ds → ds.length ≤ 1000
theorem m_are_parts_eq (d : D) (many : Int) (hd : small d) (hds : ∀ ds, d = .tuple ds → ∀ x ∈ ds, small x) (s : LS) : m_are_parts [.sh d, .sh (.int many)] s = .ok (.bool (arePartsD d many)) s := by
  unfold m_are_parts g_are_parts
  refine run_rt ?_
  have hno : ∀ d, isTup d = false → arePartsD d many = false := fun d h => by cases d <;> simp [isTup] at h <;> rfl
  cases hT : isTup d with
  | false => simp -implicitDefEqProofs [hT, hno d hT]
  | true =>
    cases d with
    | tuple ds =>
      have hl : lcD (.nm 2) yesB (callG m_is_part (consG (varX 2) nilG)) ds [.sh (.tuple ds), .sh (.int many), .un] s = .ok (ds.map fun d => .bool (isPartD d)) s := by
        refine lcD_map _ _ _ _ fun d hd' => ?_
        simp -implicitDefEqProofs [m_is_part_eq d (hds ds rfl d hd')]
      have hz : ds.length ≤ sizeLine := small_line (by have := hd ds rfl; omega)
      by_cases hm : (ds.length : Int) = many
      · simp -implicitDefEqProofs [isTup, hm, hl, hz, bools_map, arePartsD, List.all_map]
      · simp -implicitDefEqProofs [isTup, hm, arePartsD]
    | _ => cases hT
/-! ## integers of a row -/
def lcmL (n : Nat) (qs : List Rat) : Nat := qs.foldl (fun a q => a.lcm q.den) n
theorem lcm_turn {k j n : Nat} {q : Rat} (hq : q.den < 2 ^ k) (h0 : n ≠ 0) (h1 : n < 2 ^ j) (hz : j + k ≤ 8000) (s : LS) (x0 x3 x4 x5 : EV) :
   setD 1 (asSh (op2 fdivD (op2 mulD (varW 1) (op2 ixD (varW 2) (cD (.int 1)))) (callG m_divisor (consG (varX 1) (consG (asSh (op2 ixD (varW 2) (cD (.int 1)))) nilG))))) [x0, .sh (.int (n : Nat)), .sh (R q), x3, x4, x5] s = .nx [x0, .sh (.int (n.lcm q.den : Nat)), .sh (R q), x3, x4, x5] s := by
  have hg0 : n.gcd q.den ≠ 0 := fun z => q.den_nz (Nat.eq_zero_of_gcd_eq_zero_right z)
  have hgi : ((n : Int).gcd (q.den : Int) : Nat) = n.gcd q.den := Int.gcd_natCast_natCast n q.den
  have hgl : n.gcd q.den < 2 ^ k := Nat.lt_of_le_of_lt (Nat.gcd_le_right _ q.den_pos) hq
  have hgz : ((n.gcd q.den : Nat) : Int).natAbs.log2 < 9000 := by
    have := log2_of_lt hgl (show k ≤ 9000 by omega) (by omega)
    rw [Int.natAbs_natCast]
    exact this
  have hg1 : ((n.gcd q.den : Nat) : Int) ≠ 0 := by omega
  have h1m : mulD (.int (n : Nat)) (.int q.den) = some (.int ((n : Int) * q.den)) := ok_of (a := j) (b := k) (by simpa using h1) (by simpa using hq) (by omega)
  have hdiv : ((n : Int) * (q.den : Int)) / ((n.gcd q.den : Nat) : Int) = ((n.lcm q.den : Nat) : Int) := by
    rw [← Int.natCast_mul, ← Int.natCast_ediv, ← Nat.lcm.eq_1]
  have hd : fdivD (.int ((n : Int) * q.den)) (.int (n.gcd q.den : Nat)) = some (.int (n.lcm q.den : Nat)) := by
    rw [fdivD_int hg1 hgz, fdiv_nat_dvd hg0, hdiv]
  have hdd := m_divisor_eq n q.den s
  rw [hgi] at hdd
  rw [R_def]
  simp -implicitDefEqProofs [h1m, hdd, hd]
theorem lcm_loop {k : Nat} (s : LS) (x0 x3 x4 x5 : EV) (qs : List Rat) : ∀ (n j : Nat) (x2 : EV), (∀ q ∈ qs, q.den < 2 ^ k) → n ≠ 0 → n < 2 ^ j → j + qs.length * k + k ≤ 8000 →
    ∃ x, forD (.nm 2) (setD 1 (asSh (op2 fdivD (op2 mulD (varW 1) (op2 ixD (varW 2) (cD (.int 1)))) (callG m_divisor (consG (varX 1) (consG (asSh (op2 ixD (varW 2) (cD (.int 1)))) nilG)))))) (qs.map R) [x0, .sh (.int (n : Nat)), x2, x3, x4, x5] s
      = .nx [x0, .sh (.int (lcmL n qs : Nat)), x, x3, x4, x5] s ∧ lcmL n qs ≠ 0 ∧ lcmL n qs < 2 ^ (j + qs.length * k) ∧ n ∣ lcmL n qs ∧ ∀ q ∈ qs, q.den ∣ lcmL n qs := by
  induction qs with
  | nil =>
    intro n j x2 _ h0 h1 _
    refine ⟨x2, by rw [List.map_nil, forD_nil]; rfl, h0, ?_, Nat.dvd_refl _, fun q h => by cases h⟩
    rw [List.length_nil, Nat.zero_mul, Nat.add_zero]
    exact h1
  | cons q qs ih =>
    intro n j x2 h h0 h1 hz
    have hq := h q List.mem_cons_self
    have hl : (q :: qs).length * k = qs.length * k + k := by rw [List.length_cons, Nat.succ_mul]
    rw [hl] at hz ⊢
    have hlt : n.lcm q.den < 2 ^ (j + k) := Nat.lt_of_le_of_lt (Nat.le_of_dvd (Nat.mul_pos (by omega) q.den_pos) (Nat.lcm_dvd_mul n q.den)) (mul_lt_pow h1 hq)
    have hne : n.lcm q.den ≠ 0 := Nat.lcm_ne_zero h0 q.den_nz
    obtain ⟨x, hx, a1, a2, a3, a4⟩ := ih (n.lcm q.den) (j + k) (.sh (R q)) (fun q' hq => h q' (List.mem_cons_of_mem _ hq)) hne hlt (by omega)
    have e : j + (qs.length * k + k) = j + k + qs.length * k := by omega
    have hz' : j + k ≤ 8000 := by omega
    have step := lcm_turn hq h0 h1 hz' s x0 x3 x4 x5
    rw [e]
    refine ⟨x, ?_, a1, a2, Nat.dvd_trans (Nat.dvd_lcm_left _ _) a3, fun q' hq' => ?_⟩
    · rw [List.map_cons, forD_nx (env1 := [x0, .sh (.int (n : Nat)), .sh (R q), x3, x4, x5]) rfl step]
      exact hx
    · cases hq' with
      | head => exact Nat.dvd_trans (Nat.dvd_lcm_right _ _) a3
      | tail _ hq' => exact a4 q' hq'
def gcdL (n : Nat) (ns : List Int) : Nat := ns.foldl (fun a i => a.gcd i.natAbs) n
theorem gcd_loop (s : LS) (x0 x1 x2 x3 : EV) : ∀ (ns : List Int) (n : Nat) (x5 : EV),
    ∃ x, forD (.nm 5) (setD 4 (asSh (callG m_divisor (consG (varX 4) (consG (varX 5) nilG))))) (ns.map .int) [x0, x1, x2, x3, .sh (.int (n : Nat)), x5] s = .nx [x0, x1, x2, x3, .sh (.int (gcdL n ns : Nat)), x] s
  | [], n, x5 => ⟨x5, rfl⟩
  | i :: ns, n, x5 => by
    obtain ⟨x, hx⟩ := gcd_loop s x0 x1 x2 x3 ns (n.gcd i.natAbs) (.sh (.int i))
    refine ⟨x, ?_⟩
    have e : ((n : Int).gcd i : Nat) = n.gcd i.natAbs := rfl
    rw [List.map_cons, forD_cons]
    simp -implicitDefEqProofs [m_divisor_eq, e]
    exact hx
theorem gcdL_dvd : ∀ (ns : List Int) (n : Nat), gcdL n ns ∣ n ∧ ∀ i ∈ ns, ((gcdL n ns : Nat) : Int) ∣ i
  | [], n => ⟨Nat.dvd_refl _, fun i h => by cases h⟩
  | i :: ns, n => by
    obtain ⟨h1, h2⟩ := gcdL_dvd ns (n.gcd i.natAbs)
    refine ⟨Nat.dvd_trans h1 (Nat.gcd_dvd_left _ _), fun j hj => ?_⟩
    cases hj with
    | head => exact Int.ofNat_dvd_left.mpr (Nat.dvd_trans h1 (Nat.gcd_dvd_right _ _))
    | tail _ hj => exact h2 j hj
theorem gcdL_mul (g : Nat) : ∀ (ns : List Int) (n : Nat), gcdL (g * n) (ns.map fun i => (g : Int) * i) = g * gcdL n ns
  | [], n => rfl
  | i :: ns, n => by
    have e : (g * n).gcd ((g : Int) * i).natAbs = g * n.gcd i.natAbs := by
      rw [Int.natAbs_mul, Int.natAbs_natCast, Nat.gcd_mul_left]
    show gcdL ((g * n).gcd ((g : Int) * i).natAbs) _ = g * gcdL (n.gcd i.natAbs) ns
    rw [e]
    exact gcdL_mul g ns _
theorem gcdL_zero : ∀ (ns : List Int) (n : Nat), gcdL n ns = 0 → n = 0 ∧ ∀ i ∈ ns, i = 0
  | [], n, h => ⟨h, fun i h => by cases h⟩
  | i :: ns, n, h => by
    obtain ⟨h1, h2⟩ := gcdL_zero ns _ h
    have := Nat.gcd_eq_zero_iff.mp h1
    refine ⟨this.1, fun j hj => ?_⟩
    cases hj with
    | head => omega
    | tail _ hj => exact h2 j hj
theorem rat_eq_div (q : Rat) : q = (q.num : Rat) / (q.den : Rat) := by
  have := Rat.divInt_eq_div q.num q.den
  rw [Rat.num_divInt_den] at this
  exact this
theorem whole_of {q : Rat} {L : Nat} (h : q.den ∣ L) : ((q.num * ((L : Int) / q.den) : Int) : Rat) = (L : Rat) * q := by
  obtain ⟨m, rfl⟩ := h
  have hd : (q.den : Rat) ≠ 0 := by exact_mod_cast q.den_nz
  have e : (((q.den * m : Nat) : Int) / (q.den : Int)) = (m : Int) := by
    rw [Int.natCast_mul]
    exact Int.mul_ediv_cancel_left _ (den_ne q)
  rw [e]
  have e2 := rat_eq_div q
  have e3 : q * (q.den : Rat) = (q.num : Rat) := by
    have := Rat.div_mul_cancel (a := (q.num : Rat)) hd
    rw [← e2] at this
    exact this
  rw [Rat.intCast_mul, ← e3, Rat.natCast_mul]
  have : ((m : Int) : Rat) = (m : Rat) := by norm_cast
  rw [this]
  grind
theorem log2_den' {k : Nat} {q : Rat} (h : q.den < 2 ^ k) (hk : k ≤ 8999) : ((q.den : Int)).natAbs.log2 < 9000 := by
  have := log2_of_lt h (show k ≤ 9000 by omega) (by omega)
  simpa using this
theorem m_scaled_eq {k l : Nat} (qs : List Rat) (s : LS) (h : ∀ q ∈ qs, q.num.natAbs < 2 ^ l ∧ q.den < 2 ^ k) (hz : 1 + qs.length * k + k + l ≤ 8000) (hn : qs.length ≤ 1000) :
    ∃ (c : Rat) (f : Rat → Int), m_scaled [.sh (.list (qs.map R))] s = .ok (.tuple ((qs.map f).map .int)) s ∧ 0 < c ∧ (∀ q ∈ qs, (f q : Rat) = c * q) ∧ ((∃ q ∈ qs, q ≠ 0) → gcdL 0 (qs.map f) = 1) ∧ ∀ q ∈ qs, (f q).natAbs < 2 ^ (1 + qs.length * k + l) := by
  obtain ⟨x, hx, L0, Lz, -, Ld⟩ := lcm_loop (k := k) s (.sh (.list (qs.map R))) .un .un .un qs 1 1 .un (fun q hq => (h q hq).2) (by decide) (by decide) (by omega)
  generalize hL : lcmL 1 qs = L at *
  let f0 : Rat → Int := fun q => q.num * ((L : Int) / q.den)
  have f0_eq : ∀ q ∈ qs, (f0 q : Rat) = (L : Rat) * q := fun q hq => whole_of (Ld q hq)
  have Lpos : (0 : Rat) < L := by exact_mod_cast Nat.pos_of_ne_zero L0
  have q_div : ∀ q : Rat, ((L : Int) / (q.den : Int)).natAbs < 2 ^ (1 + qs.length * k) := fun q => by
    have : ((L : Int) / (q.den : Int)) = ((L / q.den : Nat) : Int) := by norm_cast
    rw [this, Int.natAbs_natCast]
    exact Nat.lt_of_le_of_lt (Nat.div_le_self _ _) Lz
  have f0_sz : ∀ q ∈ qs, (f0 q).natAbs < 2 ^ (1 + qs.length * k + l) := fun q hq => by
    show (q.num * ((L : Int) / q.den)).natAbs < _
    rw [Int.natAbs_mul, Nat.add_comm (1 + qs.length * k) l]
    exact mul_lt_pow (h q hq).1 (q_div q)
  -- the row of whole numbers
  have hrow : lcD (.nm 2) yesB (op2 mulD (op2 ixD (varW 2) (cD (.int 0))) (op2 fdivD (varW 1) (op2 ixD (varW 2) (cD (.int 1))))) (qs.map R) [.sh (.list (qs.map R)), .sh (.int (L : Nat)), .un, .un, .un, .un] s = .ok ((qs.map f0).map .int) s := by
    have key := lcD_map (i := 2) (ge := op2 mulD (op2 ixD (varW 2) (cD (.int 0))) (op2 fdivD (varW 1) (op2 ixD (varW 2) (cD (.int 1))))) (fun d => match d with | .tuple [.int a, .int b] => .int (a * ((L : Int) / b)) | d => d) (qs.map R) [.sh (.list (qs.map R)), .sh (.int (L : Nat)), .un, .un, .un, .un] s (fun d hd => by
      obtain ⟨q, hq, rfl⟩ := List.mem_map.mp hd
      have hq' := h q hq
      have hm : mulD (.int q.num) (.int ((L : Int) / q.den)) = some (.int (q.num * ((L : Int) / q.den))) := ok_of hq'.1 (q_div q) (by omega)
      simp -implicitDefEqProofs [R_def, fdivD_int (den_ne q) (log2_den' hq'.2 (by omega)), fdiv_nat_dvd q.den_nz, hm])
    rw [key, List.map_map, List.map_map]
    rfl
  obtain ⟨x5, hg⟩ := gcd_loop s (.sh (.list (qs.map R))) (.sh (.int (L : Nat))) x (.sh (.list ((qs.map f0).map .int))) (qs.map f0) 0 .un
  generalize hG : gcdL 0 (qs.map f0) = g at hg
  have hGd := (gcdL_dvd (qs.map f0) 0).2
  rw [hG] at hGd
  have hline : qs.length ≤ sizeLine := small_line (by omega)
  have start : ∀ d, (retD (ifG (tst2 eqD (varW 4) (cD (.int 0))) (callB tupF (consG (varW 3) nilG)) (callB tupF (consG (asLst (lcG (.nm 5) [5] (itemG (varD 3)) yesB (op2 fdivD (varW 5) (varW 4)))) nilG)))) [.sh (.list (qs.map R)), .sh (.int (L : Nat)), x, .sh (.list ((qs.map f0).map .int)), .sh (.int (g : Nat)), x5] s = .rt d s → m_scaled [.sh (.list (qs.map R))] s = .ok d s := fun d hd => by
    unfold m_scaled g_scaled
    refine run_rt ?_
    rw [seqD_nx (e := [.sh (.list (qs.map R)), .sh (.int (1 : Nat)), .un, .un, .un, .un]) (s1 := s) (by simp -implicitDefEqProofs)]
    rw [seqD_nx (e := [.sh (.list (qs.map R)), .sh (.int (L : Nat)), x, .un, .un, .un]) (s1 := s) (by
      rw [forG_def]
      simp -implicitDefEqProofs only [itemG_def, varD_def, List.getElem?_cons_zero, bind_ok, listF_list, lift_some, evS_ok]
      exact hx)]
    rw [seqD_nx (e := [.sh (.list (qs.map R)), .sh (.int (L : Nat)), x, .sh (.list ((qs.map f0).map .int)), .un, .un]) (s1 := s) (by
      simp -implicitDefEqProofs [-List.map_map, hline]
      rw [hrow]
      simp -implicitDefEqProofs [-List.map_map])]
    rw [seqD_nx (e := [.sh (.list (qs.map R)), .sh (.int (L : Nat)), x, .sh (.list ((qs.map f0).map .int)), .sh (.int (0 : Nat)), .un]) (s1 := s) (by simp -implicitDefEqProofs)]
    rw [seqD_nx (e := [.sh (.list (qs.map R)), .sh (.int (L : Nat)), x, .sh (.list ((qs.map f0).map .int)), .sh (.int (g : Nat)), x5]) (s1 := s) (by
      rw [forG_def]
      simp -implicitDefEqProofs only [itemG_def, varD_def, List.getElem?_cons_zero, List.getElem?_cons_succ, bind_ok, listF_list, lift_some, evS_ok]
      exact hg)]
    exact hd
  by_cases g0 : g = 0
  · subst g0
    refine ⟨L, f0, start _ ?_, Lpos, f0_eq, fun ⟨q, hq, hne⟩ => ?_, f0_sz⟩
    · simp -implicitDefEqProofs
    · exfalso
      have z := (gcdL_zero _ _ hG).2 (f0 q) (List.mem_map_of_mem hq)
      have e := f0_eq q hq
      rw [z] at e
      have : (L : Rat) * q = 0 := by rw [← e]; rfl
      rcases Rat.mul_eq_zero.mp this with w | w
      · exact absurd w (by intro w; rw [w] at Lpos; exact Rat.lt_irrefl Lpos)
      · exact hne w
  · have hg1 : ((g : Nat) : Int) ≠ 0 := by omega
    have gpos : (0 : Rat) < g := by exact_mod_cast Nat.pos_of_ne_zero g0
    have gne : (g : Rat) ≠ 0 := fun w => by rw [w] at gpos; exact Rat.lt_irrefl gpos
    have hmul : ∀ q ∈ qs, (g : Int) * (f0 q / g) = f0 q := fun q hq => Int.mul_ediv_cancel' (hGd _ (List.mem_map_of_mem hq))
    have hgz : ((g : Nat) : Int).natAbs.log2 < 9000 := by
      by_cases hall : ∀ q ∈ qs, f0 q = 0
      · exfalso
        have : ∀ (ns : List Int) (n : Nat), n = 0 → (∀ i ∈ ns, i = 0) → gcdL n ns = 0 := by
          intro ns
          induction ns with
          | nil => intro n h _; exact h
          | cons i ns ih => intro n h hi; exact ih _ (by rw [h, hi i List.mem_cons_self]; rfl) fun j hj => hi j (List.mem_cons_of_mem _ hj)
        exact g0 (by rw [← hG]; exact this _ _ rfl fun i hi => by obtain ⟨q, hq, rfl⟩ := List.mem_map.mp hi; exact hall q hq)
      · have ⟨q, hq⟩ : ∃ q, ¬ (q ∈ qs → f0 q = 0) := Classical.not_forall.mp hall
        have hq1 : q ∈ qs := Classical.byContradiction fun z => hq fun w => absurd w z
        have hq2 : f0 q ≠ 0 := fun z => hq fun _ => z
        have hle : g ≤ (f0 q).natAbs := Nat.le_of_dvd (by omega) (Int.ofNat_dvd_left.mp (hGd _ (List.mem_map_of_mem hq1)))
        have := log2_of_lt (Nat.lt_of_le_of_lt hle (f0_sz q hq1)) (show 1 + qs.length * k + l ≤ 9000 by omega) (by omega)
        simpa using this
    refine ⟨(L : Rat) / g, fun q => f0 q / g, start _ ?_, ?_, fun q hq => ?_, fun _ => ?_, fun q hq => ?_⟩
    · have hz2 : (((g : Nat) : Int) == 0) = false := by simpa using g0
      have hrow2 : lcD (.nm 5) yesB (op2 fdivD (varW 5) (varW 4)) ((qs.map f0).map .int) [.sh (.list (qs.map R)), .sh (.int (L : Nat)), x, .sh (.list ((qs.map f0).map .int)), .sh (.int (g : Nat)), .un] s = .ok ((qs.map fun q => f0 q / g).map .int) s := by
        have key := lcD_map (i := 5) (ge := op2 fdivD (varW 5) (varW 4)) (fun d => match d with | .int a => .int (a / g) | d => d) ((qs.map f0).map .int) [.sh (.list (qs.map R)), .sh (.int (L : Nat)), x, .sh (.list ((qs.map f0).map .int)), .sh (.int (g : Nat)), .un] s (fun d hd => by
          obtain ⟨i, hi, rfl⟩ := List.mem_map.mp hd
          simp -implicitDefEqProofs [fdivD_int hg1 hgz, fdiv_nat_dvd g0])
        rw [key, List.map_map, List.map_map, List.map_map]
        rfl
      simp -implicitDefEqProofs [-List.map_map, hz2, hline]
      rw [hrow2]
      simp -implicitDefEqProofs [-List.map_map]
    · rw [Rat.div_def]
      exact Rat.mul_pos Lpos (Rat.inv_pos.mpr gpos)
    · have e := f0_eq q hq
      have e2 : ((g : Int) : Rat) * ((f0 q / g : Int) : Rat) = (f0 q : Rat) := by rw [← Rat.intCast_mul, hmul q hq]
      have e3 : ((g : Int) : Rat) = (g : Rat) := by norm_cast
      rw [e3, e] at e2
      have : ((f0 q / g : Int) : Rat) = (L : Rat) / g * q := by grind
      exact this
    · have e : (qs.map f0) = (qs.map fun q => f0 q / g).map fun i => (g : Int) * i := by
        rw [List.map_map]
        exact List.map_congr_left fun q hq => (hmul q hq).symm
      have := gcdL_mul g (qs.map fun q => f0 q / g) 0
      rw [← e, Nat.mul_zero, hG] at this
      have h1 : g * gcdL 0 (qs.map fun q => f0 q / g) = g * 1 := by omega
      exact Nat.eq_of_mul_eq_mul_left (Nat.pos_of_ne_zero g0) h1
    · exact Nat.lt_of_le_of_lt (Int.natAbs_ediv_le_natAbs _ _) (f0_sz q hq)
end NW
end

section
set_option linter.all false
set_option maxRecDepth 100000
set_option autoImplicit false
namespace NP
open PySem
open DS
open NW hiding m_scaled g_scaled

noncomputable def g_is_poly : Ev → LS → SOut := (seqD (ifD (orB (notB (tst (isiG isTup (varW 0)))) (orB (tst2 gtD (callB lenF (consG (varW 0) nilG)) (op2 addD (cD (.int 30)) (cD (.int 1)))) (notB (tst (callB allF (consG (asLst (lcG (.nm 1) [1] (itemG (varD 0)) yesB (callG m_is_part (consG (varX 1) nilG)))) nilG)))))) (retD (cD (.bool false))) nopD)
  (retD (orD (op2 eqD (callB lenF (consG (varW 0) nilG)) (cD (.int 0))) (op2 neD (op2 ixD (op2 ixD (varW 0) (op1 negI (cD (.int 1)))) (cD (.int 0))) (cD (.int 0))))))
noncomputable def m_is_poly : List EV → LS → Out D := run 2 g_is_poly
def fu_trimmed_1 : Ev → LS → Nat := fuI 1
noncomputable def g_trimmed : Ev → LS → SOut := (seqD (setD 1 (asSh (callB lenF (consG (varW 0) nilG))))
  (seqD (whileG fu_trimmed_1 (andB (tst2 gtD (varW 1) (cD (.int 0))) (tst2 eqD (op2 ixD (op2 ixD (varW 0) (op2 subD (varW 1) (cD (.int 1)))) (cD (.int 0))) (cD (.int 0)))) (augD subD 1 (cD (.int 1))))
  (retD (callB tupF (consG (slG (varW 0) noP (someP (varD 1))) nilG)))))
noncomputable def m_trimmed : List EV → LS → Out D := run 2 g_trimmed
noncomputable def g_of_wholes : Ev → LS → SOut := (retD (callG m_trimmed (consG (asSh (asLst (lcG (.nm 1) [1] (itemG (varD 0)) yesB (tupG (consG (varD 1) (consG (cD (.int 1)) nilG)))))) nilG)))
noncomputable def m_of_wholes : List EV → LS → Out D := run 2 g_of_wholes
noncomputable def g_added : Ev → LS → SOut := (seqD (setD 2 (asSh (callB maxF (consG (callB lenF (consG (varW 0) nilG)) (consG (callB lenF (consG (varW 1) nilG)) nilG)))))
  (seqD (unpD (.tp [3, 4]) (tupG (consG (op2 addD (varW 0) (op2 mulT (tupG (consG (tupG (consG (cD (.int 0)) (consG (cD (.int 1)) nilG))) nilG)) (op2 subD (varW 2) (callB lenF (consG (varW 0) nilG))))) (consG (op2 addD (varW 1) (op2 mulT (tupG (consG (tupG (consG (cD (.int 0)) (consG (cD (.int 1)) nilG))) nilG)) (op2 subD (varW 2) (callB lenF (consG (varW 1) nilG))))) nilG))))
  (retD (callG m_trimmed (consG (asSh (asLst (lcG (.nm 5) [5] (rng1 (varD 2)) yesB (callG m_plus (consG (asSh (op2 ixD (varW 3) (varD 5))) (consG (asSh (op2 ixD (varW 4) (varD 5))) nilG)))))) nilG)))))
noncomputable def m_added : List EV → LS → Out D := run 6 g_added
noncomputable def g_scaled : Ev → LS → SOut := (retD (callG m_trimmed (consG (asSh (asLst (lcG (.nm 2) [2] (itemG (varD 0)) yesB (callG m_times (consG (varX 2) (consG (varX 1) nilG)))))) nilG)))
noncomputable def m_scaled : List EV → LS → Out D := run 3 g_scaled
noncomputable def g_less : Ev → LS → SOut := (retD (callG m_added (consG (varX 0) (consG (asSh (callG m_scaled (consG (varX 1) (consG (asSh (tupG (consG (op2 subD (cD (.int 0)) (cD (.int 1))) (consG (cD (.int 1)) nilG)))) nilG)))) nilG))))
noncomputable def m_less : List EV → LS → Out D := run 2 g_less
noncomputable def g_product : Ev → LS → SOut := (seqD (ifD (orB (tst2 eqD (callB lenF (consG (varW 0) nilG)) (cD (.int 0))) (tst2 eqD (callB lenF (consG (varW 1) nilG)) (cD (.int 0)))) (retD (tupG nilG)) nopD)
  (seqD (setD 2 (asOw (repG (lstG (consG (tupG (consG (cD (.int 0)) (consG (cD (.int 1)) nilG))) nilG)) (op2 subD (op2 addD (callB lenF (consG (varW 0) nilG)) (callB lenF (consG (varW 1) nilG))) (cD (.int 1))))))
  (seqD (forG (.nm 3) (rng1 (callB lenF (consG (varW 0) nilG))) (forG (.nm 4) (rng1 (callB lenF (consG (varW 1) nilG))) (stoD 2 (op2 addD (varW 3) (varW 4)) (callG m_plus (consG (asSh (op2 ixD (varW 2) (op2 addD (varW 3) (varW 4)))) (consG (asSh (callG m_times (consG (asSh (op2 ixD (varW 0) (varD 3))) (consG (asSh (op2 ixD (varW 1) (varD 4))) nilG)))) nilG))))))
  (retD (callL m_trimmed (consG (varX 2) nilG))))))
noncomputable def m_product : List EV → LS → Out D := run 5 g_product
noncomputable def g_value_at : Ev → LS → SOut := (seqD (setD 2 (asSh (tupG (consG (cD (.int 0)) (consG (cD (.int 1)) nilG)))))
  (seqD (forG (.nm 3) (itemG (op1 revD (varW 0))) (setD 2 (asSh (callG m_plus (consG (asSh (callG m_times (consG (varX 2) (consG (varX 1) nilG)))) (consG (varX 3) nilG))))))
  (retD (varD 2))))
noncomputable def m_value_at : List EV → LS → Out D := run 4 g_value_at
noncomputable def g_derived : Ev → LS → SOut := (retD (callG m_trimmed (consG (asSh (asLst (lcG (.nm 1) [1] (rng2 (cD (.int 1)) (callB lenF (consG (varW 0) nilG))) yesB (callG m_times (consG (asSh (op2 ixD (varW 0) (varD 1))) (consG (asSh (tupG (consG (varD 1) (consG (cD (.int 1)) nilG)))) nilG)))))) nilG)))
noncomputable def m_derived : List EV → LS → Out D := run 2 g_derived
noncomputable def g_divided : Ev → LS → SOut := (seqD (ifD (tst2 eqD (callB lenF (consG (varW 1) nilG)) (cD (.int 0))) (raiseD "Misstep" "word" (cD (.str (PySem.Str.ofString "nought")))) nopD)
  (seqD (par2 2 3 (asOw (listG (varW 0))) (asOw (repG (lstG (consG (tupG (consG (cD (.int 0)) (consG (cD (.int 1)) nilG))) nilG)) (callB maxF (consG (cD (.int 0)) (consG (op2 addD (op2 subD (callB lenF (consG (varW 0) nilG)) (callB lenF (consG (varW 1) nilG))) (cD (.int 1))) nilG))))))
  (seqD (forG (.nm 4) (rngD (op2 subD (callB lenF (consG (varW 0) nilG)) (callB lenF (consG (varW 1) nilG))) (op1 negI (cD (.int 1))) (op1 negI (cD (.int 1)))) (seqD (stoD 3 (varD 4) (callG m_over (consG (asSh (op2 ixD (varW 2) (op2 subD (op2 addD (varW 4) (callB lenF (consG (varW 1) nilG))) (cD (.int 1))))) (consG (asSh (op2 ixD (varW 1) (op1 negI (cD (.int 1))))) nilG))))
  (forG (.nm 5) (rng1 (callB lenF (consG (varW 1) nilG))) (stoD 2 (op2 addD (varW 4) (varW 5)) (callG m_minus (consG (asSh (op2 ixD (varW 2) (op2 addD (varW 4) (varW 5)))) (consG (asSh (callG m_times (consG (asSh (op2 ixD (varW 3) (varD 4))) (consG (asSh (op2 ixD (varW 1) (varD 5))) nilG)))) nilG)))))))
  (retD (tupG (consG (callL m_trimmed (consG (varX 3) nilG)) (consG (callL m_trimmed (consG (varX 2) nilG)) nilG)))))))
noncomputable def m_divided : List EV → LS → Out D := run 6 g_divided
noncomputable def g_monic : Ev → LS → SOut := (retD (ifG (tst2 gtD (callB lenF (consG (varW 0) nilG)) (cD (.int 0))) (callG m_scaled (consG (varX 0) (consG (asSh (callG m_over (consG (asSh (tupG (consG (cD (.int 1)) (consG (cD (.int 1)) nilG)))) (consG (asSh (op2 ixD (varW 0) (op1 negI (cD (.int 1))))) nilG)))) nilG))) (tupG nilG)))
noncomputable def m_monic : List EV → LS → Out D := run 1 g_monic
def fu_common_1 : Ev → LS → Nat := fuL 1
noncomputable def g_common : Ev → LS → SOut := (seqD (whileG fu_common_1 (tst2 gtD (callB lenF (consG (varW 1) nilG)) (cD (.int 0))) (par2 0 1 (asSh (varD 1)) (asSh (op2 ixD (callG m_divided (consG (varX 0) (consG (varX 1) nilG))) (cD (.int 1))))))
  (retD (callG m_monic (consG (varX 0) nilG))))
noncomputable def m_common : List EV → LS → Out D := run 2 g_common
noncomputable def g_is_simple : Ev → LS → SOut := (retD (op2 leD (callB lenF (consG (callG m_common (consG (varX 0) (consG (asSh (callG m_derived (consG (varX 0) nilG))) nilG))) nilG)) (cD (.int 1))))
noncomputable def m_is_simple : List EV → LS → Out D := run 1 g_is_simple
noncomputable def g_line : Ev → LS → SOut := (retD (tupG (consG (callG m_times (consG (asSh (tupG (consG (op2 subD (cD (.int 0)) (cD (.int 1))) (consG (cD (.int 1)) nilG)))) (consG (varX 0) nilG))) (consG (tupG (consG (cD (.int 1)) (consG (cD (.int 1)) nilG))) nilG))))
noncomputable def m_line : List EV → LS → Out D := run 1 g_line
noncomputable def g_from_roots : Ev → LS → SOut := (seqD (setD 1 (asSh (tupG (consG (tupG (consG (cD (.int 1)) (consG (cD (.int 1)) nilG))) nilG))))
  (seqD (forG (.nm 2) (itemG (varD 0)) (setD 1 (asSh (callG m_product (consG (varX 1) (consG (asSh (callG m_line (consG (varX 2) nilG))) nilG))))))
  (retD (varD 1))))
noncomputable def m_from_roots : List EV → LS → Out D := run 3 g_from_roots
noncomputable def g__law_trim : Ev → LS → SOut := (seqD (setD 1 (asOw (listG (varW 0))))
  (seqD (forG (.nm 2) (rng1 (callB lenF (consG (varW 0) nilG))) (ifD (andB (tst2 gtD (callB lenF (consG (varW 1) nilG)) (cD (.int 0))) (tst2 eqD (op2 ixD (op2 ixD (varW 1) (op1 negI (cD (.int 1)))) (cD (.int 0))) (cD (.int 0)))) (popD 1) nopD))
  (retD (callB tupF (consG (varW 1) nilG)))))
noncomputable def m__law_trim : List EV → LS → Out D := run 3 g__law_trim
noncomputable def g__law_sum : Ev → LS → SOut := (seqD (par2 3 4 (asSh (callB maxF (consG (callB lenF (consG (varW 0) nilG)) (consG (callB lenF (consG (varW 1) nilG)) nilG)))) (asOw (lstG nilG)))
  (seqD (forG (.nm 5) (rng1 (varD 3)) (seqD (par2 6 7 (asSh (ifG (tst2 ltD (varW 5) (callB lenF (consG (varW 0) nilG))) (op2 ixD (varW 0) (varD 5)) (tupG (consG (cD (.int 0)) (consG (cD (.int 1)) nilG))))) (asSh (ifG (tst2 ltD (varW 5) (callB lenF (consG (varW 1) nilG))) (op2 ixD (varW 1) (varD 5)) (tupG (consG (cD (.int 0)) (consG (cD (.int 1)) nilG))))))
  (appD 4 (callG m__law_add (consG (varX 6) (consG (asSh (callG m__law_mul (consG (varX 7) (consG (varX 2) nilG)))) nilG))))))
  (retD (callL m__law_trim (consG (varX 4) nilG)))))
noncomputable def m__law_sum : List EV → LS → Out D := run 8 g__law_sum
noncomputable def g__law_times : Ev → LS → SOut := (seqD (setD 2 (asOw (repG (lstG (consG (tupG (consG (cD (.int 0)) (consG (cD (.int 1)) nilG))) nilG)) (callB maxF (consG (cD (.int 0)) (consG (op2 subD (op2 addD (callB lenF (consG (varW 0) nilG)) (callB lenF (consG (varW 1) nilG))) (cD (.int 1))) nilG))))))
  (seqD (forG (.nm 3) (rng1 (callB lenF (consG (varW 0) nilG))) (forG (.nm 4) (rng1 (callB lenF (consG (varW 1) nilG))) (stoD 2 (op2 addD (varW 3) (varW 4)) (callG m__law_add (consG (asSh (op2 ixD (varW 2) (op2 addD (varW 3) (varW 4)))) (consG (asSh (callG m__law_mul (consG (asSh (op2 ixD (varW 0) (varD 3))) (consG (asSh (op2 ixD (varW 1) (varD 4))) nilG)))) nilG))))))
  (retD (callL m__law_trim (consG (varX 2) nilG)))))
noncomputable def m__law_times : List EV → LS → Out D := run 5 g__law_times
noncomputable def g__law_val : Ev → LS → SOut := (seqD (setD 2 (asSh (tupG (consG (cD (.int 0)) (consG (cD (.int 1)) nilG)))))
  (seqD (forG (.nm 3) (itemG (op1 revD (varW 0))) (setD 2 (asSh (callG m__law_add (consG (asSh (callG m__law_mul (consG (varX 2) (consG (varX 1) nilG)))) (consG (varX 3) nilG))))))
  (retD (varD 2))))
noncomputable def m__law_val : List EV → LS → Out D := run 4 g__law_val
noncomputable def g__law_flip : Ev → LS → SOut := (retD (callG m__law_fr (consG (asSh (op2 ixD (varW 0) (cD (.int 1)))) (consG (asSh (op2 ixD (varW 0) (cD (.int 0)))) nilG))))
noncomputable def m__law_flip : List EV → LS → Out D := run 1 g__law_flip
noncomputable def g__law_rest : Ev → LS → SOut := (seqD (par2 2 3 (asOw (listG (varW 0))) (asOw (repG (lstG (consG (tupG (consG (cD (.int 0)) (consG (cD (.int 1)) nilG))) nilG)) (callB maxF (consG (cD (.int 0)) (consG (op2 addD (op2 subD (callB lenF (consG (varW 0) nilG)) (callB lenF (consG (varW 1) nilG))) (cD (.int 1))) nilG))))))
  (seqD (forG (.nm 4) (itemG (op1 revD (asLst (rngF1 (op2 addD (op2 subD (callB lenF (consG (varW 0) nilG)) (callB lenF (consG (varW 1) nilG))) (cD (.int 1))))))) (seqD (stoD 3 (varD 4) (callG m__law_mul (consG (asSh (op2 ixD (varW 2) (op2 subD (op2 addD (varW 4) (callB lenF (consG (varW 1) nilG))) (cD (.int 1))))) (consG (asSh (callG m__law_flip (consG (asSh (op2 ixD (varW 1) (op1 negI (cD (.int 1))))) nilG))) nilG))))
  (forG (.nm 5) (rng1 (callB lenF (consG (varW 1) nilG))) (stoD 2 (op2 addD (varW 4) (varW 5)) (callG m__law_sub (consG (asSh (op2 ixD (varW 2) (op2 addD (varW 4) (varW 5)))) (consG (asSh (callG m__law_mul (consG (asSh (op2 ixD (varW 3) (varD 4))) (consG (asSh (op2 ixD (varW 1) (varD 5))) nilG)))) nilG)))))))
  (retD (tupG (consG (callL m__law_trim (consG (varX 3) nilG)) (consG (callL m__law_trim (consG (varX 2) nilG)) nilG))))))
noncomputable def m__law_rest : List EV → LS → Out D := run 6 g__law_rest
noncomputable def g__law_slope : Ev → LS → SOut := (retD (callG m__law_trim (consG (asSh (asLst (lcG (.nm 1) [1] (rng2 (cD (.int 1)) (callB lenF (consG (varW 0) nilG))) yesB (callG m__law_mul (consG (asSh (op2 ixD (varW 0) (varD 1))) (consG (asSh (tupG (consG (varD 1) (consG (cD (.int 1)) nilG)))) nilG)))))) nilG)))
noncomputable def m__law_slope : List EV → LS → Out D := run 2 g__law_slope
noncomputable def g__law_part : Ev → LS → SOut := (retD (callG m__law_fr (consG (asSh (op2 subD (callG m__law_take (consG (varX 0) (consG (asSh (op2 addD (op2 mulD (cD (.int 2)) (varW 1)) (cD (.int 1)))) nilG))) (varW 1))) (consG (asSh (op2 addD (cD (.int 1)) (callG m__law_take (consG (varX 0) (consG (varX 2) nilG))))) nilG))))
noncomputable def m__law_part : List EV → LS → Out D := run 3 g__law_part
noncomputable def g__law_poly : Ev → LS → SOut := (retD (callG m__law_trim (consG (asSh (asLst (lcG (.nm 3) [3] (rng1 (varD 1)) yesB (callG m__law_part (consG (varX 0) (consG (varX 2) (consG (asSh (cD (.int 3))) nilG))))))) nilG)))
noncomputable def m__law_poly : List EV → LS → Out D := run 4 g__law_poly
noncomputable def g__law_steps : Ev → LS → SOut := (seqD (setD 3 (asSh (op2 addD (cD (.int 1)) (callG m__law_take (consG (varX 0) (consG (varX 1) nilG))))))
  (seqD (setD 4 (asOw (lstG nilG)))
  (seqD (forG (.nm 5) (rng1 (op2 subD (varW 3) (cD (.int 1)))) (seqD (setD 6 (asSh (callG m__law_fr (consG (asSh (op2 addD (cD (.int 1)) (callG m__law_take (consG (varX 0) (consG (asSh (cD (.int 4))) nilG))))) (consG (asSh (op2 addD (cD (.int 1)) (callG m__law_take (consG (varX 0) (consG (asSh (cD (.int 3))) nilG))))) nilG)))))
  (appD 4 (ifG (orB (tst2 eqD (varW 2) (cD (.int 1))) (tst2 eqD (callG m__law_take (consG (varX 0) (consG (asSh (cD (.int 2))) nilG))) (cD (.int 0)))) (varD 6) (tupG (consG (op2 subD (cD (.int 0)) (op2 ixD (varW 6) (cD (.int 0)))) (consG (op2 ixD (varW 6) (cD (.int 1))) nilG)))))))
  (retD (tupG (consG (cD (.str (PySem.Str.ofString "steps"))) (consG (callB tupF (consG (asLst (lcG (.nm 5) [5] (rng1 (varD 3)) yesB (callG m__law_part (consG (varX 0) (consG (asSh (cD (.int 3))) (consG (asSh (cD (.int 2))) nilG)))))) nilG)) (consG (callB tupF (consG (varW 4) nilG)) nilG))))))))
noncomputable def m__law_steps : List EV → LS → Out D := run 7 g__law_steps
noncomputable def g__law_polys : Ev → LS → SOut := (seqD (setD 1 (asOw (lstG (consG (tupG (consG (tupG (consG (cD (.int 1)) (consG (cD (.int 1)) nilG))) nilG)) nilG))))
  (seqD (forG (.nm 2) (rng1 (callB lenF (consG (op2 ixD (varW 0) (cD (.int 1))) nilG))) (seqD (setD 3 (asSh (callG m__law_times (consG (asSh (tupG (consG (tupG (consG (op2 subD (cD (.int 0)) (op2 ixD (op2 ixD (op2 ixD (varW 0) (cD (.int 1))) (varD 2)) (cD (.int 0)))) (consG (op2 ixD (op2 ixD (op2 ixD (varW 0) (cD (.int 1))) (varD 2)) (cD (.int 1))) nilG))) (consG (tupG (consG (cD (.int 1)) (consG (cD (.int 1)) nilG))) nilG)))) (consG (asSh (op2 ixD (varW 1) (varD 2))) nilG)))))
  (appD 1 (ifG (tst2 gtD (varW 2) (cD (.int 0))) (callG m__law_sum (consG (varX 3) (consG (asSh (op2 ixD (varW 1) (op2 subD (varW 2) (cD (.int 1))))) (consG (asSh (tupG (consG (op2 subD (cD (.int 0)) (op2 ixD (op2 ixD (op2 ixD (varW 0) (cD (.int 2))) (op2 subD (varW 2) (cD (.int 1)))) (cD (.int 0)))) (consG (op2 ixD (op2 ixD (op2 ixD (varW 0) (cD (.int 2))) (op2 subD (varW 2) (cD (.int 1)))) (cD (.int 1))) nilG)))) nilG)))) (varD 3)))))
  (frzD 1 (retD (varD 1)))))
noncomputable def m__law_polys : List EV → LS → Out D := run 4 g__law_polys
noncomputable def g__law_seconds : Ev → LS → SOut := (seqD (setD 1 (asOw (lstG (consG (tupG nilG) (consG (tupG (consG (tupG (consG (cD (.int 1)) (consG (cD (.int 1)) nilG))) nilG)) nilG)))))
  (seqD (forG (.nm 2) (rng2 (cD (.int 1)) (callB lenF (consG (op2 ixD (varW 0) (cD (.int 1))) nilG))) (seqD (setD 3 (asSh (callG m__law_times (consG (asSh (tupG (consG (tupG (consG (op2 subD (cD (.int 0)) (op2 ixD (op2 ixD (op2 ixD (varW 0) (cD (.int 1))) (varD 2)) (cD (.int 0)))) (consG (op2 ixD (op2 ixD (op2 ixD (varW 0) (cD (.int 1))) (varD 2)) (cD (.int 1))) nilG))) (consG (tupG (consG (cD (.int 1)) (consG (cD (.int 1)) nilG))) nilG)))) (consG (asSh (op2 ixD (varW 1) (varD 2))) nilG)))))
  (appD 1 (callG m__law_sum (consG (varX 3) (consG (asSh (op2 ixD (varW 1) (op2 subD (varW 2) (cD (.int 1))))) (consG (asSh (tupG (consG (op2 subD (cD (.int 0)) (op2 ixD (op2 ixD (op2 ixD (varW 0) (cD (.int 2))) (op2 subD (varW 2) (cD (.int 1)))) (cD (.int 0)))) (consG (op2 ixD (op2 ixD (op2 ixD (varW 0) (cD (.int 2))) (op2 subD (varW 2) (cD (.int 1)))) (cD (.int 1))) nilG)))) nilG)))))))
  (frzD 1 (retD (varD 1)))))
noncomputable def m__law_seconds : List EV → LS → Out D := run 4 g__law_seconds
noncomputable def g__law_lengths : Ev → LS → SOut := (seqD (setD 1 (asOw (lstG (consG (tupG (consG (cD (.int 1)) (consG (cD (.int 1)) nilG))) nilG))))
  (seqD (forG (.nm 2) (itemG (op2 ixD (varW 0) (cD (.int 2)))) (appD 1 (callG m__law_mul (consG (asSh (op2 ixD (varW 1) (op1 negI (cD (.int 1))))) (consG (varX 2) nilG)))))
  (frzD 1 (retD (varD 1)))))
noncomputable def m__law_lengths : List EV → LS → Out D := run 3 g__law_lengths
noncomputable def g__law_moments : Ev → LS → SOut := (seqD (par2 2 3 (asSh (callB lenF (consG (op2 ixD (varW 0) (cD (.int 1))) nilG))) (asOw (lstG nilG)))
  (seqD (setD 4 (asSh (asLst (catG (asLst (lstG (consG (tupG (consG (cD (.int 1)) (consG (cD (.int 1)) nilG))) nilG))) (asLst (repG (lstG (consG (tupG (consG (cD (.int 0)) (consG (cD (.int 1)) nilG))) nilG)) (op2 subD (varW 2) (cD (.int 1)))))))))
  (seqD (forG (.nm 5) (rng1 (varD 1)) (seqD (appD 3 (op2 ixD (varW 4) (cD (.int 0))))
  (seqD (setD 6 (asOw (lstG nilG)))
  (seqD (forG (.nm 7) (rng1 (varD 2)) (seqD (setD 8 (asSh (callG m__law_mul (consG (asSh (op2 ixD (varW 4) (varD 7))) (consG (asSh (op2 ixD (op2 ixD (varW 0) (cD (.int 1))) (varD 7))) nilG)))))
  (seqD (setD 8 (asSh (ifG (tst2 gtD (varW 7) (cD (.int 0))) (callG m__law_add (consG (varX 8) (consG (asSh (op2 ixD (varW 4) (op2 subD (varW 7) (cD (.int 1))))) nilG))) (varD 8))))
  (appD 6 (ifG (tst2 ltD (op2 addD (varW 7) (cD (.int 1))) (varW 2)) (callG m__law_add (consG (varX 8) (consG (asSh (callG m__law_mul (consG (asSh (op2 ixD (varW 4) (op2 addD (varW 7) (cD (.int 1))))) (consG (asSh (op2 ixD (op2 ixD (varW 0) (cD (.int 2))) (varD 7))) nilG)))) nilG))) (varD 8))))))
  (frzD 6 (setD 4 (asSh (varD 6))))))))
  (retD (callB tupF (consG (varW 3) nilG))))))
noncomputable def m__law_moments : List EV → LS → Out D := run 9 g__law_moments
noncomputable def g__law_weighed : Ev → LS → SOut := (seqD (setD 2 (asSh (tupG (consG (cD (.int 0)) (consG (cD (.int 1)) nilG)))))
  (seqD (forG (.nm 3) (rng1 (callB lenF (consG (varW 1) nilG))) (setD 2 (asSh (callG m__law_add (consG (varX 2) (consG (asSh (callG m__law_mul (consG (asSh (op2 ixD (varW 1) (varD 3))) (consG (asSh (op2 ixD (varW 0) (varD 3))) nilG)))) nilG))))))
  (retD (varD 2))))
noncomputable def m__law_weighed : List EV → LS → Out D := run 4 g__law_weighed
end NP
end

section
set_option linter.all false
set_option autoImplicit false
namespace NW
/-! ## polynomials: rows of parts, from the lowest -/
def ev (p : List Rat) (x : Rat) : Rat := p.foldr (fun c a => c + x * a) 0
@[simp] theorem ev_nil (x : Rat) : ev [] x = 0 := rfl
@[simp] theorem ev_cons (c : Rat) (p : List Rat) (x : Rat) : ev (c :: p) x = c + x * ev p x := rfl
def trimQ : List Rat → List Rat
  | [] => []
  | c :: p => if trimQ p = [] then (if c = 0 then [] else [c]) else c :: trimQ p
theorem trim_cons (c : Rat) (p : List Rat) : trimQ (c :: p) = if trimQ p = [] then (if c = 0 then [] else [c]) else c :: trimQ p := rfl
theorem trim_nil : trimQ [] = [] := rfl
theorem ev_trim (x : Rat) : ∀ p : List Rat, ev (trimQ p) x = ev p x
  | [] => rfl
  | c :: p => by
    have ih := ev_trim x p
    rw [trim_cons]
    by_cases h : trimQ p = []
    · rw [if_pos h]
      rw [h, ev_nil] at ih
      by_cases hc : c = 0
      · rw [if_pos hc, ev_nil, ev_cons, ← ih, hc]; grind
      · rw [if_neg hc, ev_cons, ev_cons, ← ih, ev_nil]
    · rw [if_neg h, ev_cons, ev_cons, ih]
theorem trim_trim : ∀ p : List Rat, trimQ (trimQ p) = trimQ p
  | [] => rfl
  | c :: p => by
    have ih := trim_trim p
    rw [trim_cons]
    by_cases h : trimQ p = []
    · rw [if_pos h]
      by_cases hc : c = 0
      · rw [if_pos hc]; rfl
      · rw [if_neg hc, trim_cons, trim_nil, if_pos rfl, if_neg hc]
    · rw [if_neg h, trim_cons, ih, if_neg h]
theorem trim_len : ∀ p : List Rat, (trimQ p).length ≤ p.length
  | [] => Nat.le_refl _
  | c :: p => by
    have ih := trim_len p
    rw [trim_cons]
    by_cases h : trimQ p = []
    · rw [if_pos h]
      by_cases hc : c = 0
      · rw [if_pos hc]; exact Nat.zero_le _
      · rw [if_neg hc]; simp
    · rw [if_neg h, List.length_cons, List.length_cons]; omega
theorem mem_trim {c : Rat} : ∀ {p : List Rat}, c ∈ trimQ p → c ∈ p
  | [], h => h
  | d :: p, h => by
    rw [trim_cons] at h
    by_cases h1 : trimQ p = []
    · rw [if_pos h1] at h
      by_cases hc : d = 0
      · rw [if_pos hc] at h; cases h
      · rw [if_neg hc, List.mem_singleton] at h
        rw [h]; exact List.mem_cons_self
    · rw [if_neg h1] at h
      rcases List.mem_cons.mp h with h | h
      · rw [h]; exact List.mem_cons_self
      · exact List.mem_cons_of_mem _ (mem_trim h)
theorem trim_zero {p : List Rat} (h : ∀ c ∈ p, c = 0) : trimQ p = [] := by
  induction p with
  | nil => rfl
  | cons c p ih =>
    rw [trim_cons]
    rw [if_pos (ih fun d hd => h d (List.mem_cons_of_mem _ hd)), if_pos (h c List.mem_cons_self)]
/-- the row is trimmed -/
def Tr (p : List Rat) : Prop := trimQ p = p
theorem Tr.trim (p : List Rat) : Tr (trimQ p) := trim_trim p
theorem Tr.nil : Tr [] := rfl
theorem Tr.tail {c : Rat} {p : List Rat} (h : Tr (c :: p)) : Tr p := by
  rw [Tr, trim_cons] at h
  by_cases h1 : trimQ p = []
  · rw [if_pos h1] at h
    by_cases hc : c = 0
    · rw [if_pos hc] at h; cases h
    · rw [if_neg hc] at h
      have := (List.cons.inj h).2
      rw [← this]; rfl
  · rw [if_neg h1] at h
    exact (List.cons.inj h).2
theorem Tr.iff {p : List Rat} : Tr p ↔ ∀ h : p ≠ [], p.getLast h ≠ 0 := by
  induction p with
  | nil => exact ⟨fun _ h => absurd rfl h, fun _ => rfl⟩
  | cons c p ih =>
    by_cases hp : p = []
    · subst hp
      refine ⟨fun h _ => ?_, fun h => ?_⟩
      · rw [Tr, trim_cons] at h
        rw [trim_nil, if_pos rfl] at h
        intro e
        have e' : c = 0 := e
        rw [if_pos e'] at h; cases h
      · rw [Tr, trim_cons]
        rw [trim_nil, if_pos rfl, if_neg (fun e => h (by simp) (by simpa using e))]
    · refine ⟨fun h _ => ?_, fun h => ?_⟩
      · rw [List.getLast_cons hp]
        exact ih.mp h.tail hp
      · have h1 : Tr p := ih.mpr fun hn => by
          have := h (by simp)
          rwa [List.getLast_cons hp] at this
        rw [Tr, trim_cons]
        rw [h1, if_neg hp]
/-! ### roots -/
/-- (p(x) - p(a)) : (x - a) -/
def syn (a : Rat) : List Rat → List Rat
  | [] => []
  | [_] => []
  | _ :: c :: p => ev (c :: p) a :: syn a (c :: p)
theorem syn_len (a : Rat) : ∀ p : List Rat, (syn a p).length = p.length - 1
  | [] => rfl
  | [_] => rfl
  | _ :: c :: p => by
    have := syn_len a (c :: p)
    unfold syn
    rw [List.length_cons, this]
    simp
theorem syn_ev (a x : Rat) : ∀ p : List Rat, ev p x = ev p a + (x - a) * ev (syn a p) x
  | [] => by show (0 : Rat) = 0 + (x - a) * 0; grind
  | [c] => by show c + x * 0 = c + a * 0 + (x - a) * 0; grind
  | d :: c :: p => by
    have ih := syn_ev a x (c :: p)
    unfold syn
    rw [ev_cons d, ev_cons d, ev_cons (ev (c :: p) a), ih]
    grind
theorem syn_zero (a : Rat) : ∀ p : List Rat, (∀ s ∈ syn a p, s = 0) → ev p a = 0 → ∀ c ∈ p, c = 0
  | [], _, _ => fun c h => by cases h
  | [c], _, h => fun d hd => by
    rw [List.mem_singleton.mp hd]
    have h' : c + a * 0 = 0 := h
    grind
  | d :: c :: p, hs, h => by
    have h1 : ev (c :: p) a = 0 := hs _ (by unfold syn; exact List.mem_cons_self)
    have ih := syn_zero a (c :: p) (fun s hs' => hs s (by unfold syn; exact List.mem_cons_of_mem _ hs')) h1
    intro z hz
    rcases List.mem_cons.mp hz with rfl | hz
    · rw [ev_cons, h1] at h; grind
    · exact ih z hz
theorem zero_of_roots : ∀ (rs : List Rat) (p : List Rat), rs.Nodup → (∀ r ∈ rs, ev p r = 0) → p.length ≤ rs.length → ∀ c ∈ p, c = 0
  | [], p, _, _, hl => by
    have : p = [] := List.eq_nil_of_length_eq_zero (by simpa using hl)
    subst this
    exact fun c h => by cases h
  | a :: rs, p, nd, h, hl => by
    obtain ⟨n1, n2⟩ := List.nodup_cons.mp nd
    have ha := h a List.mem_cons_self
    refine syn_zero a p (zero_of_roots rs (syn a p) n2 (fun r hr => ?_) ?_) ha
    · have e := syn_ev a r p
      rw [h r (List.mem_cons_of_mem _ hr), ha] at e
      have ne : r - a ≠ 0 := fun z => n1 (by
        have : r = a := by grind
        rw [← this]; exact hr)
      have : (r - a) * ev (syn a p) r = 0 := by grind
      rcases Rat.mul_eq_zero.mp this with z | z
      · exact absurd z ne
      · exact z
    · rw [syn_len]
      rw [List.length_cons] at hl
      omega
def subQ : List Rat → List Rat → List Rat
  | [], q => q.map fun c => -c
  | p, [] => p
  | a :: p, b :: q => (a - b) :: subQ p q
theorem ev_neg (x : Rat) : ∀ q : List Rat, ev (q.map fun c => -c) x = - ev q x
  | [] => by simp
  | c :: q => by rw [List.map_cons, ev_cons, ev_cons, ev_neg x q]; grind
theorem ev_subQ (x : Rat) : ∀ p q : List Rat, ev (subQ p q) x = ev p x - ev q x
  | [], q => by unfold subQ; rw [ev_neg, ev_nil]; grind
  | a :: p, [] => by unfold subQ; rw [ev_nil]; grind
  | a :: p, b :: q => by unfold subQ; rw [ev_cons, ev_cons, ev_cons, ev_subQ x p q]; grind
theorem subQ_zero : ∀ p q : List Rat, (∀ c ∈ subQ p q, c = 0) → trimQ p = trimQ q
  | [], q, h => by
    rw [trim_zero (p := q)]
    · rfl
    · intro c hc
      have := h (-c) (List.mem_map_of_mem (f := fun c => -c) hc)
      grind
  | a :: p, [], h => by
    rw [trim_zero (p := a :: p) h]
    rfl
  | a :: p, b :: q, h => by
    have ih := subQ_zero p q fun c hc => h c (List.mem_cons_of_mem _ hc)
    have e : a = b := by
      have : a - b = 0 := h (a - b) List.mem_cons_self
      grind
    rw [trim_cons, trim_cons, ih, e]
def pts (n : Nat) : List Rat := (List.range n).map fun (i : Nat) => ((i : Int) : Rat)
theorem pts_nodup (n : Nat) : (pts n).Nodup := by
  unfold pts
  refine List.Pairwise.map _ (fun a b (h : a ≠ b) e => h ?_) List.nodup_range
  have : ((a : Int) : Rat) = ((b : Int) : Rat) := e
  have := Rat.intCast_inj.mp this
  omega
theorem eq_of_ev {p q : List Rat} (h : ∀ x, ev p x = ev q x) : trimQ p = trimQ q :=
  subQ_zero p q (zero_of_roots (pts (subQ p q).length) _ (pts_nodup _) (fun r _ => by rw [ev_subQ, h r]; grind) (by unfold pts; simp))
theorem Tr.eq {p q : List Rat} (hp : Tr p) (hq : Tr q) (h : ∀ x, ev p x = ev q x) : p = q := by
  have := eq_of_ev h
  rwa [hp, hq] at this
end NW
end

section
set_option linter.all false
set_option autoImplicit false
namespace NP
open PySem hiding run
open DS NW
abbrev PL (q : List Rat) : D := .tuple (q.map R)
abbrev LL (q : List Rat) : D := .list (q.map R)
theorem trim_app0 : ∀ p : List Rat, trimQ (p ++ [0]) = trimQ p
  | [] => rfl
  | c :: p => by rw [List.cons_append, trim_cons, trim_cons, trim_app0 p]
theorem trim_app {c : Rat} (hc : c ≠ 0) : ∀ p : List Rat, trimQ (p ++ [c]) = p ++ [c]
  | [] => by rw [List.nil_append, trim_cons, trim_nil, if_pos rfl, if_neg hc]
  | d :: p => by
    rw [List.cons_append, trim_cons, trim_app hc p, if_neg (by simp)]
theorem take_last {q : List Rat} {n : Nat} (h : n < q.length) : q.take (n + 1) = q.take n ++ [q.getD n 0] := by
  rw [List.take_succ, List.getElem?_eq_getElem h, List.getD_eq_getElem?_getD, List.getElem?_eq_getElem h]
  rfl
theorem trim_take {q : List Rat} {n : Nat} (h : n < q.length) : trimQ (q.take (n + 1)) = if q.getD n 0 = 0 then trimQ (q.take n) else q.take (n + 1) := by
  rw [take_last h]
  by_cases hc : q.getD n 0 = 0
  · rw [if_pos hc, hc, trim_app0]
  · rw [if_neg hc, trim_app hc]
/-- where the trimmed row ends -/
def trimN (q : List Rat) : Nat → Nat
  | 0 => 0
  | n + 1 => if q.getD n 0 = 0 then trimN q n else n + 1
theorem trimN_le (q : List Rat) : ∀ n, trimN q n ≤ n
  | 0 => Nat.le_refl _
  | n + 1 => by
    unfold trimN
    split
    · exact Nat.le_succ_of_le (trimN_le q n)
    · exact Nat.le_refl _
theorem trimN_eq (q : List Rat) : ∀ n, n ≤ q.length → trimQ (q.take n) = q.take (trimN q n)
  | 0, _ => rfl
  | n + 1, h => by
    rw [trim_take (by omega)]
    unfold trimN
    split
    · exact trimN_eq q n (by omega)
    · rfl
theorem atI_row {q : List Rat} {n : Nat} (h : n < q.length) : L2.atI (q.map R) (n : Int) = some (R (q.getD n 0)) := by
  rw [DS.atI_nat, List.getElem?_map, List.getD_eq_getElem?_getD, List.getElem?_eq_getElem h]
  rfl
theorem num_zero {q : Rat} : (q.num == 0) = decide (q = 0) := by
  by_cases h : q = 0
  · subst h; rfl
  · rw [decide_eq_false h, beq_eq_false_iff_ne]
    exact fun e => h (Rat.num_eq_zero.mp e)
abbrev tc : Ev → LS → Out Bool := andB (tst2 gtD (varW 1) (cD (.int 0))) (tst2 eqD (op2 ixD (op2 ixD (varW 0) (op2 subD (varW 1) (cD (.int 1)))) (cD (.int 0))) (cD (.int 0)))
abbrev tb : Ev → LS → SOut := augD subD 1 (cD (.int 1))
theorem trim_while (q : List Rat) (s : LS) {d : D} (hd : d = PL q ∨ d = LL q) : ∀ n, n ≤ q.length → ∀ m, n < m → whileD tc tb m [.sh d, .sh (.int (n : Int))] s = .nx [.sh d, .sh (.int (trimN q n : Nat))] s
  | 0, _, 0, hm => by omega
  | 0, _, m + 1, _ => by
    rw [whileD_succ]
    simp -implicitDefEqProofs [trimN]
  | n + 1, h, 0, hm => by omega
  | n + 1, h, m + 1, hm => by
    have ih := trim_while q s hd n (by omega) m (by omega)
    have e := atI_row (q := q) (n := n) (by omega)
    have e1 : ((n + 1 : Nat) : Int) - 1 = (n : Int) := by omega
    have e2 : (0 : Int) < ((n + 1 : Nat) : Int) := by omega
    have e3 := num_zero (q := q.getD n 0)
    rw [whileD_succ]
    unfold trimN
    by_cases hc : q.getD n 0 = 0
    · rw [if_pos hc]
      rw [decide_eq_true hc] at e3
      have step : tc [.sh d, .sh (.int ((n + 1 : Nat) : Int))] s = .ok true s := by
        rcases hd with rfl | rfl <;> simp -implicitDefEqProofs [-List.getD_eq_getElem?_getD, e1, e2, e, e3, R_def]
      have step2 : tb [.sh d, .sh (.int ((n + 1 : Nat) : Int))] s = .nx [.sh d, .sh (.int (n : Int))] s := by
        simp -implicitDefEqProofs [e1]
      rw [step, evS_ok, if_pos rfl, step2]
      exact ih
    · rw [if_neg hc]
      rw [decide_eq_false hc] at e3
      have step : tc [.sh d, .sh (.int ((n + 1 : Nat) : Int))] s = .ok false s := by
        rcases hd with rfl | rfl <;> simp -implicitDefEqProofs [-List.getD_eq_getElem?_getD, e1, e2, e, e3, R_def]
      rw [step, evS_ok, if_neg (by decide)]
theorem cut_take {α : Type} (xs : List α) (n : Nat) (h : n ≤ xs.length) : cutL xs none (some (n : Int)) = xs.take n := by
  unfold cutL
  rw [HT.sIx_none, HT.sIx_nat, Nat.min_eq_left h, List.drop_zero, Nat.sub_zero]
theorem m_trimmed_eq (q : List Rat) (s : LS) {d : D} (hd : d = PL q ∨ d = LL q) : m_trimmed [.sh d] s = .ok (PL (trimQ q)) s := by
  have hw := trim_while q s hd q.length (Nat.le_refl _) (q.length + 1) (Nat.lt_succ_self _)
  have hq := trimN_eq q q.length (Nat.le_refl _)
  rw [List.take_length] at hq
  have hle := trimN_le q q.length
  have hc : cutL (q.map R) none (some ((trimN q q.length : Nat) : Int)) = (trimQ q).map R := by
    rw [cut_take _ _ (by rw [List.length_map]; exact hle), hq, List.map_take]
  have hlen : lenF [d] = some (.int (q.length : Int)) := by rcases hd with rfl | rfl <;> simp
  unfold m_trimmed g_trimmed
  refine run_rt ?_
  show seqD _ _ [.sh d, .un] s = _
  rw [seqD_nx (e := [.sh d, .sh (.int (q.length : Int))]) (s1 := s) (by simp -implicitDefEqProofs [hlen])]
  rw [seqD_nx (e := [.sh d, .sh (.int ((trimN q q.length : Nat) : Int))]) (s1 := s) (by rw [whileG_def]; exact hw)]
  rcases hd with rfl | rfl <;> simp -implicitDefEqProofs [slG, noP, someP, slD, hc, -List.map_take]
/-! ### the law's own trim -/
theorem ixN_last (n : Nat) : L2.ixN (n + 1) (-1) = some n := by
  unfold L2.ixN
  simp
  omega
theorem getLast_row {q : List Rat} {n : Nat} (h : n < q.length) : L2.atI ((q.take (n + 1)).map R) (-1) = some (R (q.getD n 0)) := by
  unfold L2.atI
  have hl : ((q.take (n + 1)).map R).length = n + 1 := by rw [List.length_map, List.length_take]; omega
  rw [hl, ixN_last, Option.bind_some, List.getElem?_map, List.getElem?_take_of_lt (by omega), List.getD_eq_getElem?_getD, List.getElem?_eq_getElem h]
  rfl
def stepN (q : List Rat) : Nat → Nat
  | 0 => 0
  | n + 1 => if q.getD n 0 = 0 then n else n + 1
theorem stepN_succ (q : List Rat) (n : Nat) : stepN q (n + 1) = if q.getD n 0 = 0 then n else n + 1 := rfl
theorem trimN_succ (q : List Rat) (n : Nat) : trimN q (n + 1) = if q.getD n 0 = 0 then trimN q n else n + 1 := rfl
def goN (q : List Rat) : Nat → Nat → Nat
  | 0, n => n
  | m + 1, n => goN q m (stepN q n)
theorem goN_stuck (q : List Rat) {n : Nat} (h : stepN q n = n) : ∀ m, goN q m n = n
  | 0 => rfl
  | m + 1 => by unfold goN; rw [h]; exact goN_stuck q h m
theorem goN_eq (q : List Rat) : ∀ m n, n ≤ m → goN q m n = trimN q n
  | 0, n, h => by
    obtain rfl : n = 0 := by omega
    rfl
  | m + 1, 0, _ => goN_stuck q rfl (m + 1)
  | m + 1, n + 1, h => by
    show goN q m (stepN q (n + 1)) = trimN q (n + 1)
    rw [stepN_succ, trimN_succ]
    by_cases hc : q.getD n 0 = 0
    · rw [if_pos hc, if_pos hc]
      exact goN_eq q m n (by omega)
    · rw [if_neg hc, if_neg hc]
      refine goN_stuck q ?_ m
      rw [stepN_succ, if_neg hc]
theorem stepN_le (q : List Rat) (n : Nat) : stepN q n ≤ n := by
  cases n with
  | zero => exact Nat.le_refl _
  | succ n =>
    rw [stepN_succ]
    split <;> omega
abbrev lt : Ev → LS → SOut := ifD (andB (tst2 gtD (callB lenF (consG (varW 1) nilG)) (cD (.int 0))) (tst2 eqD (op2 ixD (op2 ixD (varW 1) (op1 negI (cD (.int 1)))) (cD (.int 0))) (cD (.int 0)))) (popD 1) nopD
theorem law_trim_step (q : List Rat) (n : Nat) (hn : n ≤ q.length) (e0 e2 : EV) (s : LS) : lt [e0, .ow ((q.take n).map R), e2] s = .nx [e0, .ow ((q.take (stepN q n)).map R), e2] s := by
  cases n with
  | zero => simp -implicitDefEqProofs [stepN]
  | succ n =>
    have e := getLast_row (q := q) (n := n) (by omega)
    have hl : (((q.take (n + 1)).map R).length : Int) = (n : Int) + 1 := by rw [List.length_map, List.length_take]; omega
    have h0 : (0 : Int) < (n : Int) + 1 := by omega
    have e3 := num_zero (q := q.getD n 0)
    have hd : ((q.take (n + 1)).map R).dropLast = (q.take n).map R := by
      rw [← List.map_dropLast, take_last (by omega), List.dropLast_concat]
    have hne : (q.take (n + 1)).map R ≠ [] := fun z => by
      rw [z, List.length_nil] at hl
      omega
    rw [stepN_succ]
    generalize hrow : (q.take (n + 1)).map R = row at *
    by_cases hc : q.getD n 0 = 0
    · rw [if_pos hc]
      rw [decide_eq_true hc] at e3
      simp -implicitDefEqProofs [-List.getD_eq_getElem?_getD, -List.map_take, e, hl, h0, e3, hd, hne, R_def]
    · rw [if_neg hc]
      rw [decide_eq_false hc] at e3
      rw [← hrow] at *
      simp -implicitDefEqProofs [-List.getD_eq_getElem?_getD, -List.map_take, e, hl, h0, e3, R_def]
theorem law_trim_loop (q : List Rat) (e0 : EV) (s : LS) : ∀ (items : List D) (n : Nat) (e2 : EV), n ≤ q.length → ∃ e, forD (.nm 2) lt items [e0, .ow ((q.take n).map R), e2] s = .nx [e0, .ow ((q.take (goN q items.length n)).map R), e] s
  | [], n, e2, _ => ⟨e2, rfl⟩
  | d :: ds, n, e2, h => by
    obtain ⟨e, he⟩ := law_trim_loop q e0 s ds (stepN q n) (.sh d) (Nat.le_trans (stepN_le q n) h)
    refine ⟨e, ?_⟩
    rw [forD_nx (env1 := [e0, .ow ((q.take n).map R), .sh d]) rfl (law_trim_step q n h e0 (.sh d) s)]
    exact he
theorem m__law_trim_eq (q : List Rat) (s : LS) (hl : q.length ≤ 1000) {d : D} (hd : d = PL q ∨ d = LL q) : m__law_trim [.sh d] s = .ok (PL (trimQ q)) s := by
  obtain ⟨e, he⟩ := law_trim_loop q (.sh d) s (rangeL 0 q.length) q.length .un (Nat.le_refl _)
  have hr : rngB (q.length : Int) := rngB_small (by omega) (by omega)
  have hlen : lenF [d] = some (.int (q.length : Int)) := by rcases hd with rfl | rfl <;> simp
  have hls : listF d = some (q.map R) := by rcases hd with rfl | rfl <;> rfl
  rw [rangeL_length, goN_eq q _ _ (Nat.le_refl _)] at he
  have hq := trimN_eq q q.length (Nat.le_refl _)
  rw [List.take_length] at hq he
  rw [← hq] at he
  unfold m__law_trim g__law_trim
  refine run_rt ?_
  show seqD _ _ [.sh d, .un, .un] s = _
  rw [seqD_nx (e := [.sh d, .ow (q.map R), .un]) (s1 := s) (by simp -implicitDefEqProofs [hls])]
  rw [seqD_nx (e := [.sh d, .ow ((trimQ q).map R), e]) (s1 := s) (by rw [forG_def]; simp -implicitDefEqProofs only [rng1_def, callB_def, consG_def, nilG_def, varW_def, List.getElem?_cons_zero, bind_ok, hlen, lift_some, if_pos hr, evS_ok, Int.toNat_natCast]; exact he)]
  simp -implicitDefEqProofs
end NP
end

section
set_option linter.all false
set_option autoImplicit false
namespace NP
open PySem hiding run
open DS NW
/-! ## bounds: over one denominator -/
/-- c is n / d, n at most m -/
def Dn (d m : Nat) (c : Rat) : Prop := ∃ n : Int, c * (d : Rat) = (n : Rat) ∧ n.natAbs ≤ m
theorem Dn.zero (d m : Nat) : Dn d m 0 := ⟨0, by grind, by simp⟩
theorem Dn.mono {d m m' : Nat} {c : Rat} (h : Dn d m c) (hm : m ≤ m') : Dn d m' c := by
  obtain ⟨n, h1, h2⟩ := h
  exact ⟨n, h1, Nat.le_trans h2 hm⟩
theorem Dn.add {d m m' : Nat} {c c' : Rat} (h : Dn d m c) (h' : Dn d m' c') : Dn d (m + m') (c + c') := by
  obtain ⟨n, h1, h2⟩ := h
  obtain ⟨n', h1', h2'⟩ := h'
  refine ⟨n + n', ?_, by omega⟩
  rw [Rat.intCast_add, ← h1, ← h1']
  grind
theorem Dn.mul {d d' m m' : Nat} {c c' : Rat} (h : Dn d m c) (h' : Dn d' m' c') : Dn (d * d') (m * m') (c * c') := by
  obtain ⟨n, h1, h2⟩ := h
  obtain ⟨n', h1', h2'⟩ := h'
  refine ⟨n * n', ?_, by rw [Int.natAbs_mul]; exact Nat.mul_le_mul h2 h2'⟩
  rw [Rat.intCast_mul, ← h1, ← h1', Rat.natCast_mul]
  grind
theorem Dn.sz {d m k : Nat} {c : Rat} (h : Dn d m c) (hd : d ≠ 0) (h1 : d < 2 ^ k) (h2 : m < 2 ^ k) : Sz k c := by
  obtain ⟨n, e, hn⟩ := h
  have hd' : (d : Rat) ≠ 0 := by exact_mod_cast hd
  have ec : c = Rat.divInt n d := by
    rw [Rat.divInt_eq_div]
    have : c * (d : Rat) / (d : Rat) = c := by rw [Rat.div_def, Rat.mul_assoc, Rat.mul_inv_cancel _ hd', Rat.mul_one]
    rw [← this, e]
    rfl
  rw [ec]
  exact Sz.divInt (by exact_mod_cast hd) (Nat.lt_of_le_of_lt hn h2) (by simpa using h1)
/-! ## powers, rows changed at a place -/
def pw (x : Rat) : Nat → Rat
  | 0 => 1
  | n + 1 => x * pw x n
theorem pw_add (x : Rat) (a : Nat) : ∀ b, pw x (a + b) = pw x a * pw x b
  | 0 => by show pw x a = pw x a * 1; grind
  | b + 1 => by show x * pw x (a + b) = pw x a * (x * pw x b); rw [pw_add x a b]; grind
theorem ev_set (x c : Rat) : ∀ (l : List Rat) (i : Nat), i < l.length → ev (l.set i (l.getD i 0 + c)) x = ev l x + c * pw x i
  | [], _, h => by simp at h
  | a :: l, 0, _ => by
    show a + c + x * ev l x = a + x * ev l x + c * 1
    grind
  | a :: l, i + 1, h => by
    have ih := ev_set x c l i (by simpa using h)
    show a + x * ev (l.set i (l.getD i 0 + c)) x = a + x * ev l x + c * (x * pw x i)
    rw [ih]
    grind
theorem ev_snoc (x c : Rat) : ∀ l : List Rat, ev (l ++ [c]) x = ev l x + c * pw x l.length
  | [] => by show c + x * 0 = 0 + c * 1; grind
  | a :: l => by
    have ih := ev_snoc x c l
    show a + x * ev (l ++ [c]) x = a + x * ev l x + c * (x * pw x l.length)
    rw [ih]
    grind
theorem ev_take (x : Rat) {l : List Rat} {n : Nat} (h : n < l.length) : ev (l.take (n + 1)) x = ev (l.take n) x + l.getD n 0 * pw x n := by
  rw [take_last h, ev_snoc, List.length_take, Nat.min_eq_left (by omega)]
theorem ev_zeros (x : Rat) : ∀ n, ev (List.replicate n 0) x = 0
  | 0 => rfl
  | n + 1 => by
    rw [List.replicate_succ, ev_cons, ev_zeros x n]
    grind
/-! ## product -/
/-- a sum, a product of parts -/
def Ad (B : Nat) (f : List EV → LS → Out D) : Prop := ∀ {k l : Nat} {p q : Rat} (s : LS), Sz k p → Sz l q → k + l ≤ B → f [.sh (R p), .sh (R q)] s = .ok (R (p + q)) s
def Mu (B : Nat) (f : List EV → LS → Out D) : Prop := ∀ {k l : Nat} {p q : Rat} (s : LS), Sz k p → Sz l q → k + l ≤ B → f [.sh (R p), .sh (R q)] s = .ok (R (p * q)) s
theorem ad_plus : Ad 8999 m_plus := fun s h1 h2 h3 => m_plus_eq h1 h2 h3 s
theorem mu_times : Mu 8999 m_times := fun s h1 h2 h3 => m_times_eq h1 h2 h3 s
theorem ad_law : Ad 1990 m__law_add := fun s h1 h2 h3 => m__law_add_eq h1 h2 h3 s
theorem mu_law : Mu 1990 m__law_mul := fun s h1 h2 h3 => m__law_mul_eq h1 h2 h3 s
abbrev pbody (fa fm : List EV → LS → Out D) : Ev → LS → SOut := stoD 2 (op2 addD (varW 3) (varW 4)) (callG fa (consG (asSh (op2 ixD (varW 2) (op2 addD (varW 3) (varW 4)))) (consG (asSh (callG fm (consG (asSh (op2 ixD (varW 0) (varD 3))) (consG (asSh (op2 ixD (varW 1) (varD 4))) nilG)))) nilG)))
theorem ixN_nat {n j : Nat} (h : j < n) : L2.ixN n (j : Int) = some j := by
  unfold L2.ixN
  rw [if_pos (by omega), if_pos (by omega)]
  simp
theorem set_row (l : List Rat) (i : Nat) (c : Rat) : (l.map R).set i (R c) = (l.set i c).map R := by rw [List.map_set]
theorem pbody_eq {B k1 k2 k3 : Nat} {fa fm : List EV → LS → Out D} (ha : Ad B fa) (hm : Mu B fm) (p q l : List Rat) (a b : Nat) (s : LS) (h1 : a < p.length) (h2 : b < q.length) (h3 : a + b < l.length)
    (z1 : Sz k1 (p.getD a 0)) (z2 : Sz k2 (q.getD b 0)) (z3 : Sz k3 (l.getD (a + b) 0)) (hk : k3 + (k1 + k2) ≤ B) :
    pbody fa fm [.sh (PL p), .sh (PL q), .ow (l.map R), .sh (.int (a : Int)), .sh (.int (b : Int))] s = .nx [.sh (PL p), .sh (PL q), .ow ((l.set (a + b) (l.getD (a + b) 0 + p.getD a 0 * q.getD b 0)).map R), .sh (.int (a : Int)), .sh (.int (b : Int))] s := by
  have i1 := atI_row h1
  have i2 := atI_row h2
  have i3 := atI_row h3
  have ec : (a : Int) + (b : Int) = ((a + b : Nat) : Int) := by omega
  have e1 := hm s z1 z2 (by omega)
  have e2 := ha s z3 (z1.mul z2) (by omega)
  have e3 := ixN_nat (n := (l.map R).length) (j := a + b) (by rw [List.length_map]; exact h3)
  rw [List.length_map] at e3
  simp -implicitDefEqProofs [-List.getD_eq_getElem?_getD, -List.map_set, -Int.natCast_add, ec, i1, i2, i3, e1, e2, e3, set_row]
/-- a row over one denominator, with sizes in bits -/
structure Pb (d m : Nat) (p : List Rat) : Prop where
  nz : d ≠ 0
  dn : ∀ c ∈ p, Dn d m c
theorem Pb.get {d m : Nat} {p : List Rat} (h : Pb d m p) (i : Nat) : Dn d m (p.getD i 0) := by
  by_cases w : i < p.length
  · exact h.dn _ (getD_mem' w)
  · rw [List.getD_eq_getElem?_getD, List.getElem?_eq_none_iff.mpr (by omega)]
    exact Dn.zero d m
where
  getD_mem' {l : List Rat} {i : Nat} (h : i < l.length) : l.getD i 0 ∈ l := by
    rw [List.getD_eq_getElem?_getD, List.getElem?_eq_getElem h]
    exact List.getElem_mem h
theorem mem_set' {l : List Rat} {i : Nat} {c z : Rat} (h : z ∈ l.set i c) : z ∈ l ∨ z = c := by
  rcases List.mem_or_eq_of_mem_set h with h | h
  · exact .inl h
  · exact .inr h
theorem rangeL_get {n k : Nat} {d : D} (h : (rangeL 0 n)[k]? = some d) : k < n ∧ d = .int (k : Int) := by
  unfold rangeL at h
  rw [List.getElem?_map] at h
  by_cases w : k < n
  · rw [List.getElem?_range w] at h
    cases h
    exact ⟨w, by show PyData.int (0 + (k : Int)) = _; rw [Int.zero_add]⟩
  · rw [List.getElem?_eq_none_iff.mpr (by rw [List.length_range]; omega)] at h
    cases h
section
variable {B kp kq K dp mp dq mq : Nat} {fa fm : List EV → LS → Out D} {p q : List Rat}
theorem inner_loop (ha : Ad B fa) (hm : Mu B fm) (hp : Pb dp mp p) (hq : Pb dq mq q) (zp : dp < 2 ^ kp ∧ mp < 2 ^ kp) (zq : dq < 2 ^ kq ∧ mq < 2 ^ kq) (hK : dp * dq < 2 ^ K) (hB : K + (kp + kq) ≤ B) (a M0 : Nat) (hM : M0 + q.length * (mp * mq) < 2 ^ K) (ha' : a < p.length) (l0 : List Rat) (hl0 : a + q.length ≤ l0.length) (hd0 : ∀ c ∈ l0, Dn (dp * dq) M0 c) (e4 : EV) (s : LS) :
    ∃ l e, forD (.nm 4) (pbody fa fm) (rangeL 0 q.length) [.sh (PL p), .sh (PL q), .ow (l0.map R), .sh (.int (a : Int)), e4] s = .nx [.sh (PL p), .sh (PL q), .ow (l.map R), .sh (.int (a : Int)), e] s ∧ l.length = l0.length ∧ (∀ c ∈ l, Dn (dp * dq) (M0 + q.length * (mp * mq)) c) ∧ ∀ x, ev l x = ev l0 x + p.getD a 0 * pw x a * ev q x := by
  have key := forD_inv (t := .nm 4) (gb := pbody fa fm) (fun k env s' => ∃ l e, env = [.sh (PL p), .sh (PL q), .ow (l.map R), .sh (.int (a : Int)), e] ∧ s' = s ∧ k ≤ q.length ∧ l.length = l0.length ∧ (∀ c ∈ l, Dn (dp * dq) (M0 + k * (mp * mq)) c) ∧ ∀ x, ev l x = ev l0 x + p.getD a 0 * pw x a * ev (q.take k) x) (rangeL 0 q.length) _ s ⟨l0, e4, rfl, rfl, Nat.zero_le _, rfl, fun c hc => by rw [Nat.zero_mul]; exact hd0 c hc, fun x => by rw [List.take_zero, ev_nil]; grind⟩ (fun k d env s1 hk hP => by
    obtain ⟨l, e, rfl, rfl, hkl, hll, hd, hev⟩ := hP
    obtain ⟨hk1, rfl⟩ := rangeL_get hk
    refine ⟨_, rfl, ?_⟩
    have z1 : Sz kp (p.getD a 0) := (hp.get a).sz hp.nz zp.1 zp.2
    have z2 : Sz kq (q.getD k 0) := (hq.get k).sz hq.nz zq.1 zq.2
    have nz : dp * dq ≠ 0 := Nat.mul_ne_zero hp.nz hq.nz
    have hle : M0 + k * (mp * mq) ≤ M0 + q.length * (mp * mq) := Nat.add_le_add_left (Nat.mul_le_mul_right _ hkl) _
    have dl : Dn (dp * dq) (M0 + k * (mp * mq)) (l.getD (a + k) 0) := (Pb.mk nz hd).get (a + k)
    have z3 : Sz K (l.getD (a + k) 0) := dl.sz nz hK (by omega)
    have hlt : a + k < l.length := by omega
    have e := pbody_eq ha hm p q l a k s1 ha' hk1 hlt z1 z2 z3 hB
    refine ⟨_, s1, .inl e, _, _, rfl, rfl, hk1, by rw [List.length_set]; exact hll, fun c hc => ?_, fun x => ?_⟩
    · have hs : M0 + (k + 1) * (mp * mq) = M0 + k * (mp * mq) + mp * mq := by rw [Nat.add_mul, Nat.one_mul]; omega
      rw [hs]
      rcases mem_set' hc with hc | rfl
      · exact (hd c hc).mono (by omega)
      · exact dl.add ((hp.get a).mul (hq.get k))
    · rw [ev_set x _ l (a + k) hlt, hev, ev_take x hk1, pw_add]
      grind)
  obtain ⟨e', s', h1, l, e, rfl, rfl, _, hll, hd, hev⟩ := key
  rw [rangeL_length] at hd hev
  rw [List.take_length] at hev
  exact ⟨l, e, h1, hll, hd, hev⟩
abbrev prow (fa fm : List EV → LS → Out D) : Ev → LS → SOut := forG (.nm 4) (rng1 (callB lenF (consG (varW 1) nilG))) (pbody fa fm)
/-- the size of a product's coefficients -/
theorem outer_loop (ha : Ad B fa) (hm : Mu B fm) (hp : Pb dp mp p) (hq : Pb dq mq q) (zp : dp < 2 ^ kp ∧ mp < 2 ^ kp) (zq : dq < 2 ^ kq ∧ mq < 2 ^ kq) (hK : dp * dq < 2 ^ K) (hB : K + (kp + kq) ≤ B) (hM : p.length * q.length * (mp * mq) < 2 ^ K) (l0 : List Rat) (hl0 : p.length + q.length ≤ l0.length + 1) (h00 : ∀ c ∈ l0, c = 0) (hq0 : q.length ≤ 1000) (e3 e4 : EV) (s : LS) :
    ∃ l e e', forD (.nm 3) (prow fa fm) (rangeL 0 p.length) [.sh (PL p), .sh (PL q), .ow (l0.map R), e3, e4] s = .nx [.sh (PL p), .sh (PL q), .ow (l.map R), e, e'] s ∧ l.length = l0.length ∧ (∀ c ∈ l, Dn (dp * dq) (p.length * q.length * (mp * mq)) c) ∧ ∀ x, ev l x = ev p x * ev q x := by
  have hr : rngB (q.length : Int) := rngB_small (by omega) (by omega)
  have ev0 : ∀ x, ev l0 x = 0 := fun x => by rw [← ev_trim, trim_zero h00, ev_nil]
  have key := forD_inv (t := .nm 3) (gb := prow fa fm) (fun k env s' => ∃ l e e', env = [.sh (PL p), .sh (PL q), .ow (l.map R), e, e'] ∧ s' = s ∧ k ≤ p.length ∧ l.length = l0.length ∧ (∀ c ∈ l, Dn (dp * dq) (k * q.length * (mp * mq)) c) ∧ ∀ x, ev l x = ev (p.take k) x * ev q x) (rangeL 0 p.length) _ s ⟨l0, e3, e4, rfl, rfl, Nat.zero_le _, rfl, fun c hc => by rw [h00 c hc]; exact Dn.zero _ _, fun x => by rw [ev0, List.take_zero, ev_nil]; grind⟩ (fun k d env s1 hk hP => by
    obtain ⟨l, e, e', rfl, rfl, hkl, hll, hd, hev⟩ := hP
    obtain ⟨hk1, rfl⟩ := rangeL_get hk
    have hs : (k + 1) * q.length * (mp * mq) = k * q.length * (mp * mq) + q.length * (mp * mq) := by rw [Nat.add_mul, Nat.one_mul, Nat.add_mul]
    have hle : (k + 1) * q.length * (mp * mq) ≤ p.length * q.length * (mp * mq) := Nat.mul_le_mul_right _ (Nat.mul_le_mul_right _ hk1)
    obtain ⟨l2, e2, h1, h2, h3, h4⟩ := inner_loop ha hm hp hq zp zq hK hB k (k * q.length * (mp * mq)) (by omega) hk1 l (by omega) hd e' s1
    refine ⟨_, rfl, [.sh (PL p), .sh (PL q), .ow (l2.map R), .sh (.int (k : Int)), e2], s1, .inl ?_, l2, .sh (.int (k : Int)), e2, rfl, rfl, hk1, by rw [h2]; exact hll, fun c hc => by rw [hs]; exact h3 c hc, fun x => ?_⟩
    · show forG _ _ _ [.sh (PL p), .sh (PL q), .ow (l.map R), .sh (.int (k : Int)), e'] s1 = _
      rw [forG_def]
      simp -implicitDefEqProofs only [rng1_def, callB_def, consG_def, nilG_def, varW_def, List.getElem?_cons_succ, List.getElem?_cons_zero, bind_ok, lenF_tuple, lift_some, List.length_map, if_pos hr, evS_ok, Int.toNat_natCast]
      exact h1
    · rw [h4, hev, ev_take x hk1]
      grind)
  obtain ⟨e', s', h1, l, e, e2, rfl, rfl, _, hll, hd, hev⟩ := key
  rw [rangeL_length] at hd hev
  rw [List.take_length] at hev
  exact ⟨l, e, e2, h1, hll, hd, hev⟩
end
end NP
end

section
set_option linter.all false
set_option autoImplicit false
namespace NP
open PySem hiding run
open DS NW
/-! ## sums, products of rows -/
def addR : List Rat → List Rat → List Rat
  | [], q => q
  | p, [] => p
  | a :: p, b :: q => (a + b) :: addR p q
theorem addR_nil (p : List Rat) : addR p [] = p := by cases p <;> rfl
theorem ev_addR (x : Rat) : ∀ p q, ev (addR p q) x = ev p x + ev q x
  | [], q => by rw [addR, ev_nil]; grind
  | a :: p, [] => by rw [addR_nil, ev_nil]; grind
  | a :: p, b :: q => by rw [addR, ev_cons, ev_cons, ev_cons, ev_addR x p q]; grind
def sclR (c : Rat) (p : List Rat) : List Rat := p.map fun a => a * c
theorem ev_sclR (x c : Rat) : ∀ p, ev (sclR c p) x = ev p x * c
  | [] => by show (0 : Rat) = 0 * c; grind
  | a :: p => by
    have ih := ev_sclR x c p
    show a * c + x * ev (sclR c p) x = (a + x * ev p x) * c
    rw [ih]; grind
def mulR : List Rat → List Rat → List Rat
  | [], _ => []
  | a :: p, q => addR (sclR a q) (0 :: mulR p q)
theorem ev_mulR (x : Rat) : ∀ p q, ev (mulR p q) x = ev p x * ev q x
  | [], q => by show (0 : Rat) = 0 * ev q x; grind
  | a :: p, q => by rw [mulR, ev_addR, ev_sclR, ev_cons, ev_cons, ev_mulR x p q]; grind
def addQ (p q : List Rat) : List Rat := trimQ (addR p q)
def sclQ (c : Rat) (p : List Rat) : List Rat := trimQ (sclR c p)
def mulQ (p q : List Rat) : List Rat := trimQ (mulR p q)
@[simp] theorem ev_addQ (x : Rat) (p q : List Rat) : ev (addQ p q) x = ev p x + ev q x := by rw [addQ, ev_trim, ev_addR]
@[simp] theorem ev_sclQ (x c : Rat) (p : List Rat) : ev (sclQ c p) x = ev p x * c := by rw [sclQ, ev_trim, ev_sclR]
@[simp] theorem ev_mulQ (x : Rat) (p q : List Rat) : ev (mulQ p q) x = ev p x * ev q x := by rw [mulQ, ev_trim, ev_mulR]
theorem Tr.addQ (p q : List Rat) : Tr (addQ p q) := Tr.trim _
theorem Tr.sclQ (c : Rat) (p : List Rat) : Tr (sclQ c p) := Tr.trim _
theorem Tr.mulQ (p q : List Rat) : Tr (mulQ p q) := Tr.trim _
theorem Dn.addR {d m m' : Nat} : ∀ {p q : List Rat}, (∀ c ∈ p, Dn d m c) → (∀ c ∈ q, Dn d m' c) → ∀ c ∈ addR p q, Dn d (m + m') c
  | [], q, _, hq, c, hc => (hq c hc).mono (by omega)
  | a :: p, [], hp, _, c, hc => (hp c (by rwa [addR_nil] at hc)).mono (by omega)
  | a :: p, b :: q, hp, hq, c, hc => by
    rw [NP.addR] at hc
    rcases List.mem_cons.mp hc with rfl | hc
    · exact (hp a List.mem_cons_self).add (hq b List.mem_cons_self)
    · exact Dn.addR (fun z hz => hp z (List.mem_cons_of_mem _ hz)) (fun z hz => hq z (List.mem_cons_of_mem _ hz)) c hc
theorem Dn.mulR {dp mp dq mq : Nat} : ∀ {p q : List Rat}, (∀ c ∈ p, Dn dp mp c) → (∀ c ∈ q, Dn dq mq c) → ∀ c ∈ mulR p q, Dn (dp * dq) (p.length * (mp * mq)) c
  | [], q, _, _, c, hc => by cases hc
  | a :: p, q, hp, hq, c, hc => by
    rw [NP.mulR] at hc
    have h1 : ∀ c ∈ sclR a q, Dn (dp * dq) (mp * mq) c := fun c hc => by
      obtain ⟨b, hb, rfl⟩ := List.mem_map.mp hc
      have := (hp a List.mem_cons_self).mul (hq b hb)
      rwa [Rat.mul_comm] at this
    have h2 : ∀ c ∈ (0 : Rat) :: NP.mulR p q, Dn (dp * dq) (p.length * (mp * mq)) c := fun c hc => by
      rcases List.mem_cons.mp hc with rfl | hc
      · exact Dn.zero _ _
      · exact Dn.mulR (fun z hz => hp z (List.mem_cons_of_mem _ hz)) hq c hc
    refine (Dn.addR h1 h2 c hc).mono (Nat.le_of_eq ?_)
    rw [List.length_cons, Nat.add_mul, Nat.one_mul, Nat.add_comm]
theorem Pb.trim {d m : Nat} {p : List Rat} (h : Pb d m p) : Pb d m (trimQ p) := ⟨h.nz, fun c hc => h.dn c (mem_trim hc)⟩
theorem Pb.mulQ {dp mp dq mq : Nat} {p q : List Rat} (hp : Pb dp mp p) (hq : Pb dq mq q) : Pb (dp * dq) (p.length * (mp * mq)) (mulQ p q) := Pb.trim ⟨Nat.mul_ne_zero hp.nz hq.nz, Dn.mulR hp.dn hq.dn⟩
theorem flat_R (q : Rat) : flat (R q) = true := rfl
theorem flats_map : ∀ q : List Rat, flats (q.map R) = true
  | [] => rfl
  | c :: q => by
    have := flats_map q
    show (flat (R c) && flats (q.map R)) = true
    rw [flat_R, this]
    rfl
theorem flat_PL (q : List Rat) : flat (PL q) = true := flats_map q
theorem rep_zero (n : Nat) : (List.replicate n [R 0]).flatten = (List.replicate n (0 : Rat)).map R := by
  induction n with
  | zero => rfl
  | succ n ih =>
    rw [List.replicate_succ, List.flatten_cons, ih, List.replicate_succ, List.map_cons]
    rfl
section
variable {kp kq K dp mp dq mq : Nat} {p q : List Rat}
theorem m_product_eq (hp : Pb dp mp p) (hq : Pb dq mq q) (zp : dp < 2 ^ kp ∧ mp < 2 ^ kp) (zq : dq < 2 ^ kq ∧ mq < 2 ^ kq) (hK : dp * dq < 2 ^ K) (hB : K + (kp + kq) ≤ 8999) (hM : p.length * q.length * (mp * mq) < 2 ^ K) (hp0 : p.length ≤ 1000) (hq0 : q.length ≤ 1000) (s : LS) :
    m_product [.sh (PL p), .sh (PL q)] s = .ok (PL (mulQ p q)) s := by
  unfold m_product g_product
  by_cases h0 : p = [] ∨ q = []
  · have e : mulQ p q = [] := Tr.eq (Tr.mulQ p q) Tr.nil fun x => by
      rw [ev_mulQ, ev_nil]
      rcases h0 with rfl | rfl
      · rw [ev_nil]; grind
      · rw [ev_nil]; grind
    rw [e]
    refine run_rt ?_
    rw [seqD_rt (d := PL []) (s1 := s)]
    by_cases hpe : p = []
    · subst hpe
      simp -implicitDefEqProofs
    · have hqe : q = [] := h0.resolve_left hpe
      have hl : ((p.length : Int) == 0) = false := by
        have := List.length_pos_iff.mpr hpe
        rw [beq_eq_false_iff_ne]; omega
      subst hqe
      simp -implicitDefEqProofs [hl]
  · have hpe : p ≠ [] := fun z => h0 (.inl z)
    have hqe : q ≠ [] := fun z => h0 (.inr z)
    have lp := List.length_pos_iff.mpr hpe
    have lq := List.length_pos_iff.mpr hqe
    have b1 : ((p.length : Int) == 0) = false := by rw [beq_eq_false_iff_ne]; omega
    have b2 : ((q.length : Int) == 0) = false := by rw [beq_eq_false_iff_ne]; omega
    have hr : rngB (p.length : Int) := rngB_small (by omega) (by omega)
    obtain ⟨l, e, e', h1, hll, -, hev⟩ := outer_loop ad_plus mu_times hp hq zp zq hK hB hM (List.replicate (p.length + q.length - 1) 0) (by rw [List.length_replicate]; omega) (fun c hc => List.eq_of_mem_replicate hc) hq0 .un .un s
    have et : trimQ l = mulQ p q := Tr.eq (Tr.trim l) (Tr.mulQ p q) fun x => by rw [ev_trim, hev, ev_mulQ]
    have hn : ((p.length : Int) + (q.length : Int) - 1).toNat = p.length + q.length - 1 := by omega
    have hrep : repL [R 0] (.int ((p.length : Int) + (q.length : Int) - 1)) = some ((List.replicate (p.length + q.length - 1) (0 : Rat)).map R) := by
      show (if (p.length : Int) + (q.length : Int) - 1 < 2 ^ 62 ∧ -(2 ^ 62) < (p.length : Int) + (q.length : Int) - 1 ∧ 1 * ((p.length : Int) + (q.length : Int) - 1).toNat ≤ sizeLine then some (List.replicate ((p.length : Int) + (q.length : Int) - 1).toNat [R 0]).flatten else none) = _
      rw [hn, rep_zero, if_pos ⟨by omega, by omega, small_line (by omega)⟩]
    refine run_rt ?_
    show seqD _ _ [.sh (PL p), .sh (PL q), .un, .un, .un] s = _
    rw [seqD_nx (e := [.sh (PL p), .sh (PL q), .un, .un, .un]) (s1 := s) (by simp -implicitDefEqProofs [b1, b2])]
    rw [seqD_nx (e := [.sh (PL p), .sh (PL q), .ow ((List.replicate (p.length + q.length - 1) (0 : Rat)).map R), .un, .un]) (s1 := s) (by simp -implicitDefEqProofs only [setD_def, asOw_def, repG_def, lstG_def, tupG_def, consG_def, nilG_def, cD_def, bind_ok, List.length_cons, List.length_nil, Nat.reduceAdd, if_pos line2, if_pos line1, op2_def, callB_def, varW_def, List.getElem?_cons_zero, List.getElem?_cons_succ, lenF_tuple, lift_some, List.length_map, addD_int, subD_int, ← R_zero, hrep, evS_ok, List.set_cons_succ, List.set_cons_zero])]
    rw [seqD_nx (e := [.sh (PL p), .sh (PL q), .ow (l.map R), e, e']) (s1 := s) (by rw [forG_def]; simp -implicitDefEqProofs only [rng1_def, callB_def, consG_def, nilG_def, varW_def, List.getElem?_cons_zero, bind_ok, lenF_tuple, lift_some, List.length_map, if_pos hr, evS_ok, Int.toNat_natCast]; exact h1)]
    have ht := m_trimmed_eq l s (d := LL l) (.inr rfl)
    have hf := flat_PL (mulQ p q)
    rw [et] at ht
    simp -implicitDefEqProofs only [retD_def, callL_def, consG_def, nilG_def, varX_def, List.getElem?_cons_succ, List.getElem?_cons_zero, bind_ok, List.map_cons, List.map_nil, lent_ow, List.all_cons, List.all_nil, solid_sh, Bool.and_self, if_true, ht, evS_ok, flatOut, hf]
theorem m__law_times_eq (hp : Pb dp mp p) (hq : Pb dq mq q) (zp : dp < 2 ^ kp ∧ mp < 2 ^ kp) (zq : dq < 2 ^ kq ∧ mq < 2 ^ kq) (hK : dp * dq < 2 ^ K) (hB : K + (kp + kq) ≤ 1990) (hM : p.length * q.length * (mp * mq) < 2 ^ K) (hp0 : p.length ≤ 400) (hq0 : q.length ≤ 400) (s : LS) :
    m__law_times [.sh (PL p), .sh (PL q)] s = .ok (PL (mulQ p q)) s := by
  have hr : rngB (p.length : Int) := rngB_small (by omega) (by omega)
  obtain ⟨l, e, e', h1, hll, -, hev⟩ := outer_loop ad_law mu_law hp hq zp zq hK hB hM (List.replicate (p.length + q.length - 1) 0) (by rw [List.length_replicate]; omega) (fun c hc => List.eq_of_mem_replicate hc) (by omega) .un .un s
  rw [List.length_replicate] at hll
  have et : trimQ l = mulQ p q := Tr.eq (Tr.trim l) (Tr.mulQ p q) fun x => by rw [ev_trim, hev, ev_mulQ]
  have hmx : maxF [.int 0, .int ((p.length : Int) + (q.length : Int) - 1)] = some (.int (max 0 ((p.length : Int) + (q.length : Int) - 1))) := rfl
  have hn : (max 0 ((p.length : Int) + (q.length : Int) - 1)).toNat = p.length + q.length - 1 := by omega
  have hrep : repL [R 0] (.int (max 0 ((p.length : Int) + (q.length : Int) - 1))) = some ((List.replicate (p.length + q.length - 1) (0 : Rat)).map R) := by
    show (if max 0 ((p.length : Int) + (q.length : Int) - 1) < 2 ^ 62 ∧ -(2 ^ 62) < max 0 ((p.length : Int) + (q.length : Int) - 1) ∧ 1 * (max 0 ((p.length : Int) + (q.length : Int) - 1)).toNat ≤ sizeLine then some (List.replicate (max 0 ((p.length : Int) + (q.length : Int) - 1)).toNat [R 0]).flatten else none) = _
    rw [hn, rep_zero, if_pos ⟨by omega, by omega, small_line (by omega)⟩]
  unfold m__law_times g__law_times
  refine run_rt ?_
  show seqD _ _ [.sh (PL p), .sh (PL q), .un, .un, .un] s = _
  rw [seqD_nx (e := [.sh (PL p), .sh (PL q), .ow ((List.replicate (p.length + q.length - 1) (0 : Rat)).map R), .un, .un]) (s1 := s) (by simp -implicitDefEqProofs only [setD_def, asOw_def, repG_def, lstG_def, tupG_def, consG_def, nilG_def, cD_def, bind_ok, List.length_cons, List.length_nil, Nat.reduceAdd, if_pos line2, if_pos line1, op2_def, callB_def, varW_def, List.getElem?_cons_zero, List.getElem?_cons_succ, lenF_tuple, lift_some, List.length_map, addD_int, subD_int, hmx, ← R_zero, hrep, evS_ok, List.set_cons_succ, List.set_cons_zero])]
  rw [seqD_nx (e := [.sh (PL p), .sh (PL q), .ow (l.map R), e, e']) (s1 := s) (by rw [forG_def]; simp -implicitDefEqProofs only [rng1_def, callB_def, consG_def, nilG_def, varW_def, List.getElem?_cons_zero, bind_ok, lenF_tuple, lift_some, List.length_map, if_pos hr, evS_ok, Int.toNat_natCast]; exact h1)]
  have ht := m__law_trim_eq l s (by omega) (d := LL l) (.inr rfl)
  have hf := flat_PL (mulQ p q)
  rw [et] at ht
  simp -implicitDefEqProofs only [retD_def, callL_def, consG_def, nilG_def, varX_def, List.getElem?_cons_succ, List.getElem?_cons_zero, bind_ok, List.map_cons, List.map_nil, lent_ow, List.all_cons, List.all_nil, solid_sh, Bool.and_self, if_true, ht, evS_ok, flatOut, hf]
end
end NP
end

section
set_option linter.all false
set_option autoImplicit false
namespace NP
open PySem hiding run
open DS NW
/-! ## sums, multiples: what the program computes -/
theorem ev_range_add (x : Rat) (f g : Nat → Rat) : ∀ n, ev ((List.range n).map fun k => f k + g k) x = ev ((List.range n).map f) x + ev ((List.range n).map g) x
  | 0 => by show (0 : Rat) = 0 + 0; grind
  | n + 1 => by
    have ih := ev_range_add x f g n
    simp only [List.range_succ, List.map_append, List.map_cons, List.map_nil, ev_snoc, List.length_map, List.length_range]
    rw [ih]; grind
theorem range_getD (p : List Rat) : (List.range p.length).map (fun k => p.getD k 0) = p := by
  apply List.ext_getElem
  · simp
  · intro i h1 h2
    rw [List.getElem_map, List.getElem_range, List.getD_eq_getElem?_getD, List.getElem?_eq_getElem h2]
    rfl
theorem ev_pad (x : Rat) (p : List Rat) : ∀ n, ev (p ++ List.replicate n 0) x = ev p x
  | 0 => by rw [List.replicate_zero, List.append_nil]
  | n + 1 => by
    rw [List.replicate_succ', ← List.append_assoc, ev_snoc, ev_pad x p n]; grind
def Szs (k : Nat) (p : List Rat) : Prop := ∀ c ∈ p, Sz k c
theorem Szs.get {k : Nat} {p : List Rat} (h : Szs k p) (hk : 1 ≤ k) (i : Nat) : Sz k (p.getD i 0) := by
  by_cases w : i < p.length
  · refine h _ ?_
    rw [List.getD_eq_getElem?_getD, List.getElem?_eq_getElem w]
    exact List.getElem_mem w
  · rw [List.getD_eq_getElem?_getD, List.getElem?_eq_none_iff.mpr (by omega)]
    exact Sz_zero.mono hk
theorem Pb.szs {d m k : Nat} {p : List Rat} (h : Pb d m p) (h1 : d < 2 ^ k) (h2 : m < 2 ^ k) : Szs k p := fun c hc => (h.dn c hc).sz h.nz h1 h2
theorem rangeL_map (n : Nat) : rangeL 0 n = (List.range n).map fun (i : Nat) => PyData.int (i : Int) := by
  unfold rangeL
  exact List.map_congr_left fun i _ => by rw [Int.zero_add]
/-- [e(k) for k in range(n)], each a part -/
theorem lc_range {i : Nat} {ge : Ev → LS → Out D} (f : Nat → Rat) (n : Nat) (env : Ev) (s : LS) (h : ∀ k, k < n → ge (env.set i (.sh (.int (k : Int)))) s = .ok (R (f k)) s) : lcD (.nm i) yesB ge (rangeL 0 n) env s = .ok (((List.range n).map f).map R) s := by
  have key := lcD_map (i := i) (ge := ge) (fun d => match d with | .int j => R (f j.toNat) | d => d) (rangeL 0 n) env s (fun d hd => by
    rw [rangeL_map] at hd
    obtain ⟨k, hk, rfl⟩ := List.mem_map.mp hd
    exact h k (List.mem_range.mp hk))
  rw [key, rangeL_map, List.map_map, List.map_map]
  rfl
/-- [e(c) for c in row] -/
theorem lc_row {i : Nat} {ge : Ev → LS → Out D} (f : Rat → Rat) (p : List Rat) (env : Ev) (s : LS) (h : ∀ c ∈ p, ge (env.set i (.sh (R c))) s = .ok (R (f c)) s) : lcD (.nm i) yesB ge (p.map R) env s = .ok ((p.map f).map R) s := by
  induction p with
  | nil => rfl
  | cons c p ih =>
    have h1 := h c List.mem_cons_self
    have h2 := ih fun z hz => h z (List.mem_cons_of_mem _ hz)
    simp only [List.map_cons, lcD, asg_nm, yesB_def, noErr_ok, bind_ok, if_true, h1, h2]
section
variable {k l : Nat} {p q : List Rat} {c : Rat}
theorem m_scaled_eq (hp : Szs k p) (hc : Sz l c) (hk : k + l ≤ 8999) (hl : p.length ≤ 1000) (s : LS) : m_scaled [.sh (PL p), .sh (R c)] s = .ok (PL (sclQ c p)) s := by
  have hline : p.length ≤ sizeLine := small_line (by omega)
  have h1 := lc_row (i := 2) (ge := callG m_times (consG (varX 2) (consG (varX 1) nilG))) (fun a => a * c) p [.sh (PL p), .sh (R c), .un] s fun a ha => by
    have e := m_times_eq (hp a ha) hc hk s
    simp -implicitDefEqProofs [e]
  have ht := m_trimmed_eq (sclR c p) s (d := LL (sclR c p)) (.inr rfl)
  unfold m_scaled g_scaled
  refine run_rt ?_
  simp -implicitDefEqProofs [hline, -List.map_map]
  rw [h1]
  have ht' : m_trimmed [.sh (.list ((p.map fun a => a * c).map R))] s = .ok (PL (sclQ c p)) s := ht
  simp -implicitDefEqProofs [-List.map_map, ht']
theorem mulT_pad (n : Int) (h0 : 0 ≤ n) (h1 : n ≤ 1000) : mulT (.tuple [R 0]) (.int n) = some (PL (List.replicate n.toNat 0)) := by
  show (if [R 0] ≠ [] ∧ -(2 ^ 62) ≤ n ∧ n ≤ 1000 ∧ [R 0].length ≤ 1000 then some (PyData.tuple (List.replicate n.toNat [R 0]).flatten) else none) = _
  rw [if_pos ⟨by simp, by omega, h1, by simp⟩, rep_zero]
theorem addD_PL (p q : List Rat) (h : p.length + q.length ≤ 100000) : addD (PL p) (PL q) = some (PL (p ++ q)) := by
  show (if (p.map R).length + (q.map R).length ≤ sizeLine then some (PyData.tuple (p.map R ++ q.map R)) else none) = _
  rw [List.length_map, List.length_map, if_pos (small_line h), ← List.map_append]
theorem m_added_eq (hp : Szs k p) (hq : Szs l q) (hk1 : 1 ≤ k) (hl1 : 1 ≤ l) (hk : k + l ≤ 8999) (hpl : p.length ≤ 1000) (hql : q.length ≤ 1000) (s : LS) : m_added [.sh (PL p), .sh (PL q)] s = .ok (PL (addQ p q)) s := by
  generalize hn : max p.length q.length = n
  have hmx : max (p.length : Int) (q.length : Int) = (n : Int) := by omega
  have t1 : ((n : Int) - (p.length : Int)).toNat = n - p.length := by omega
  have t2 : ((n : Int) - (q.length : Int)).toNat = n - q.length := by omega
  have a1 := mulT_pad ((n : Int) - (p.length : Int)) (by omega) (by omega)
  have a2 := mulT_pad ((n : Int) - (q.length : Int)) (by omega) (by omega)
  rw [t1] at a1
  rw [t2] at a2
  generalize hP : p ++ List.replicate (n - p.length) 0 = P
  generalize hQ : q ++ List.replicate (n - q.length) 0 = Q
  have b1 := addD_PL p (List.replicate (n - p.length) 0) (by rw [List.length_replicate]; omega)
  have b2 := addD_PL q (List.replicate (n - q.length) 0) (by rw [List.length_replicate]; omega)
  rw [hP] at b1
  rw [hQ] at b2
  have lP : P.length = n := by rw [← hP, List.length_append, List.length_replicate]; omega
  have lQ : Q.length = n := by rw [← hQ, List.length_append, List.length_replicate]; omega
  have zP : Szs k P := fun c hc => by
    rw [← hP] at hc
    rcases List.mem_append.mp hc with hc | hc
    · exact hp c hc
    · rw [List.eq_of_mem_replicate hc]; exact Sz_zero.mono hk1
  have zQ : Szs l Q := fun c hc => by
    rw [← hQ] at hc
    rcases List.mem_append.mp hc with hc | hc
    · exact hq c hc
    · rw [List.eq_of_mem_replicate hc]; exact Sz_zero.mono hl1
  have hr : rngB (n : Int) := rngB_small (by omega) (by omega)
  have hline : n ≤ sizeLine := small_line (by omega)
  have h1 := lc_range (i := 5) (ge := callG m_plus (consG (asSh (op2 ixD (varW 3) (varD 5))) (consG (asSh (op2 ixD (varW 4) (varD 5))) nilG))) (fun k => P.getD k 0 + Q.getD k 0) n [.sh (PL p), .sh (PL q), .sh (.int (n : Int)), .sh (PL P), .sh (PL Q), .un] s fun j hj => by
    have i1 := atI_row (q := P) (n := j) (by omega)
    have i2 := atI_row (q := Q) (n := j) (by omega)
    have e := m_plus_eq (zP.get hk1 j) (zQ.get hl1 j) hk s
    simp -implicitDefEqProofs [-List.getD_eq_getElem?_getD, i1, i2, e]
  have et : trimQ ((List.range n).map fun k => P.getD k 0 + Q.getD k 0) = addQ p q := Tr.eq (Tr.trim _) (Tr.addQ p q) fun x => by
    have r1 := range_getD P
    have r2 := range_getD Q
    rw [lP] at r1
    rw [lQ] at r2
    rw [ev_trim, ev_range_add, r1, r2, ev_addQ, ← hP, ← hQ, ev_pad, ev_pad]
  have ht := m_trimmed_eq ((List.range n).map fun k => P.getD k 0 + Q.getD k 0) s (d := LL ((List.range n).map fun k => P.getD k 0 + Q.getD k 0)) (.inr rfl)
  rw [et] at ht
  unfold m_added g_added
  refine run_rt ?_
  show seqD _ _ [.sh (PL p), .sh (PL q), .un, .un, .un, .un] s = _
  rw [seqD_nx (e := [.sh (PL p), .sh (PL q), .sh (.int (n : Int)), .un, .un, .un]) (s1 := s) (by simp -implicitDefEqProofs [hmx])]
  rw [seqD_nx (e := [.sh (PL p), .sh (PL q), .sh (.int (n : Int)), .sh (PL P), .sh (PL Q), .un]) (s1 := s) (by
    simp -implicitDefEqProofs only [unpD_def, tupG_def, consG_def, nilG_def, op2_def, varW_def, cD_def, List.getElem?_cons_zero, List.getElem?_cons_succ, bind_ok, List.length_cons, List.length_nil, Nat.reduceAdd, if_pos line1, if_pos line2, callB_def, lenF_tuple, lift_some, List.length_map, subD_int, ← R_zero, a1, a2, b1, b2, evS_ok, asg_tp, setAll_cons, setAll_nil, List.set_cons_succ, List.set_cons_zero])]
  simp -implicitDefEqProofs only [retD_def, callG_def, consG_def, asSh_def, asLst_def, lcG_def, rng1_def, varD_def, nilG_def, List.getElem?_cons_zero, List.getElem?_cons_succ, bind_ok, if_pos hr, Int.toNat_natCast, rangeL_length, if_pos hline, wipeE_cons, wipeE_nil, List.set_cons_succ, List.set_cons_zero, h1, List.all_cons, List.all_nil, solid_sh, Bool.and_self, if_true, ht, evS_ok]
def subP (p q : List Rat) : List Rat := addQ p (sclQ (-1) q)
@[simp] theorem ev_subP (x : Rat) (p q : List Rat) : ev (subP p q) x = ev p x - ev q x := by rw [subP, ev_addQ, ev_sclQ]; grind
theorem R_neg1 : R (-1) = .tuple [.int (-1), .int 1] := rfl
theorem sclQ_len (c : Rat) (p : List Rat) : (sclQ c p).length ≤ p.length := by
  refine Nat.le_trans (trim_len _) ?_
  show (p.map _).length ≤ _
  rw [List.length_map]
  exact Nat.le_refl _
theorem Szs.sclQ (hp : Szs k p) (hc : Sz l c) : Szs (k + l) (sclQ c p) := fun z hz => by
  obtain ⟨a, ha, rfl⟩ := List.mem_map.mp (mem_trim hz)
  exact (hp a ha).mul hc
theorem m_less_eq (hp : Szs k p) (hq : Szs l q) (hk1 : 1 ≤ k) (hl1 : 1 ≤ l) (hk : k + (l + 1) ≤ 8999) (hpl : p.length ≤ 1000) (hql : q.length ≤ 1000) (s : LS) : m_less [.sh (PL p), .sh (PL q)] s = .ok (PL (subP p q)) s := by
  have hm1 : Sz 1 (-1 : Rat) := ⟨by decide, by decide⟩
  have e1 := m_scaled_eq hq hm1 (by omega) hql s
  rw [R_neg1] at e1
  have e2 := m_added_eq hp (hq.sclQ hm1) hk1 (by omega) hk hpl (Nat.le_trans (sclQ_len _ _) hql) s
  unfold m_less g_less
  refine run_rt ?_
  simp -implicitDefEqProofs [e1, e2, subP]
/-! ### the law's own sum -/
abbrev sbody : Ev → LS → SOut := (seqD (par2 6 7 (asSh (ifG (tst2 ltD (varW 5) (callB lenF (consG (varW 0) nilG))) (op2 ixD (varW 0) (varD 5)) (tupG (consG (cD (.int 0)) (consG (cD (.int 1)) nilG))))) (asSh (ifG (tst2 ltD (varW 5) (callB lenF (consG (varW 1) nilG))) (op2 ixD (varW 1) (varD 5)) (tupG (consG (cD (.int 0)) (consG (cD (.int 1)) nilG))))))
  (appD 4 (callG m__law_add (consG (varX 6) (consG (asSh (callG m__law_mul (consG (varX 7) (consG (varX 2) nilG)))) nilG)))))
theorem ifG_row (p : List Rat) (j : Nat) (env : Ev) (s : LS) {i i5 : Nat} (h0 : env[i]? = some (.sh (PL p))) (h5 : env[i5]? = some (.sh (.int (j : Int)))) :
    ifG (tst2 ltD (varW i5) (callB lenF (consG (varW i) nilG))) (op2 ixD (varW i) (varD i5)) (tupG (consG (cD (.int 0)) (consG (cD (.int 1)) nilG))) env s = .ok (R (p.getD j 0)) s := by
  by_cases h : j < p.length
  · have i1 := atI_row h
    have h' : (j : Int) < (p.length : Int) := by omega
    simp -implicitDefEqProofs [-List.getD_eq_getElem?_getD, h0, h5, i1, h']
  · have e : p.getD j 0 = 0 := by rw [List.getD_eq_getElem?_getD, List.getElem?_eq_none_iff.mpr (by omega)]; rfl
    have h' : ¬ (j : Int) < (p.length : Int) := by omega
    rw [e, R_zero]
    simp -implicitDefEqProofs [h0, h5, h']
theorem m__law_sum_eq {b : Nat} (hp : Szs k p) (hq : Szs l q) (hc : Sz b c) (hk1 : 1 ≤ k) (hl1 : 1 ≤ l) (hk : k + (l + b) ≤ 1990) (hpl : p.length ≤ 1000) (hql : q.length ≤ 1000) (s : LS) : m__law_sum [.sh (PL p), .sh (PL q), .sh (R c)] s = .ok (PL (addQ p (sclQ c q))) s := by
  generalize hn : max p.length q.length = n
  have hmx : max (p.length : Int) (q.length : Int) = (n : Int) := by omega
  have hr : rngB (n : Int) := rngB_small (by omega) (by omega)
  let f : Nat → Rat := fun j => p.getD j 0 + q.getD j 0 * c
  have key := forD_inv (t := .nm 5) (gb := sbody) (fun j env s' => ∃ e5 e6 e7, env = [.sh (PL p), .sh (PL q), .sh (R c), .sh (.int (n : Int)), .ow (((List.range j).map f).map R), e5, e6, e7] ∧ s' = s ∧ j ≤ n) (rangeL 0 n) [.sh (PL p), .sh (PL q), .sh (R c), .sh (.int (n : Int)), .ow [], .un, .un, .un] s ⟨.un, .un, .un, rfl, rfl, Nat.zero_le _⟩ (fun j d env s1 hj hP => by
    obtain ⟨e5, e6, e7, rfl, rfl, hjn⟩ := hP
    obtain ⟨hj1, rfl⟩ := rangeL_get hj
    refine ⟨_, rfl, [.sh (PL p), .sh (PL q), .sh (R c), .sh (.int (n : Int)), .ow (((List.range (j + 1)).map f).map R), .sh (.int (j : Int)), .sh (R (p.getD j 0)), .sh (R (q.getD j 0))], s1, .inl ?_, .sh (.int (j : Int)), .sh (R (p.getD j 0)), .sh (R (q.getD j 0)), rfl, rfl, hj1⟩
    have z1 := hp.get hk1 j
    have z2 := hq.get hl1 j
    have m1 := m__law_mul_eq z2 hc (by omega) s1
    have m2 := m__law_add_eq z1 (z2.mul hc) hk s1
    have g1 := ifG_row p j [.sh (PL p), .sh (PL q), .sh (R c), .sh (.int (n : Int)), .ow (((List.range j).map f).map R), .sh (.int (j : Int)), e6, e7] s1 (i := 0) (i5 := 5) rfl rfl
    have g2 := ifG_row q j [.sh (PL p), .sh (PL q), .sh (R c), .sh (.int (n : Int)), .ow (((List.range j).map f).map R), .sh (.int (j : Int)), e6, e7] s1 (i := 1) (i5 := 5) rfl rfl
    have hlen : (((List.range j).map f).map R).length < sizeLine := by
      rw [List.length_map, List.length_map, List.length_range]
      exact small_line' (by omega)
    have hsn : ((List.range j).map f).map R ++ [R (p.getD j 0 + q.getD j 0 * c)] = ((List.range (j + 1)).map f).map R := by
      rw [List.range_succ, List.map_append, List.map_append]
      rfl
    show seqD _ _ [.sh (PL p), .sh (PL q), .sh (R c), .sh (.int (n : Int)), .ow (((List.range j).map f).map R), .sh (.int (j : Int)), e6, e7] s1 = _
    rw [seqD_nx (e := [.sh (PL p), .sh (PL q), .sh (R c), .sh (.int (n : Int)), .ow (((List.range j).map f).map R), .sh (.int (j : Int)), .sh (R (p.getD j 0)), .sh (R (q.getD j 0))]) (s1 := s1) (by
      rw [par2_def, asSh_def, g1, bind_ok, evS_ok, asSh_def, g2, bind_ok, evS_ok]
      rfl)]
    generalize ((List.range j).map f).map R = row at *
    rw [← hsn]
    simp -implicitDefEqProofs only [appD_def, List.getElem?_cons_succ, List.getElem?_cons_zero, callG_def, consG_def, varX_def, asSh_def, nilG_def, bind_ok, List.all_cons, List.all_nil, solid_sh, Bool.and_self, if_true, m1, m2, evS_ok, if_pos hlen, List.set_cons_succ, List.set_cons_zero])
  obtain ⟨e', s', h1, e5, e6, e7, rfl, rfl, _⟩ := key
  rw [rangeL_length] at h1
  have et : trimQ ((List.range n).map f) = addQ p (sclQ c q) := Tr.eq (Tr.trim _) (Tr.addQ _ _) fun x => by
    have r1 := range_getD (p ++ List.replicate (n - p.length) 0)
    have r2 := range_getD (sclR c q ++ List.replicate (n - q.length) 0)
    have l1 : (p ++ List.replicate (n - p.length) (0 : Rat)).length = n := by rw [List.length_append, List.length_replicate]; omega
    have l2 : (sclR c q ++ List.replicate (n - q.length) (0 : Rat)).length = n := by
      rw [List.length_append, List.length_replicate, sclR, List.length_map]; omega
    rw [l1] at r1
    rw [l2] at r2
    have pad : ∀ (r : List Rat) (m j : Nat), (r ++ List.replicate m 0).getD j 0 = r.getD j 0 := fun r m j => by
      rw [List.getD_eq_getElem?_getD, List.getD_eq_getElem?_getD]
      by_cases w : j < r.length
      · rw [List.getElem?_append_left w]
      · rw [List.getElem?_append_right (by omega), List.getElem?_replicate, List.getElem?_eq_none_iff.mpr (show r.length ≤ j by omega)]
        split <;> rfl
    have scl : ∀ j, (sclR c q).getD j 0 = q.getD j 0 * c := fun j => by
      rw [List.getD_eq_getElem?_getD, List.getD_eq_getElem?_getD, sclR, List.getElem?_map]
      cases q[j]? with
      | none => show (0 : Rat) = 0 * c; grind
      | some a => rfl
    have e1 : (List.range n).map (fun j => p.getD j 0) = p ++ List.replicate (n - p.length) 0 :=
      (List.map_congr_left fun j _ => (pad p _ j).symm).trans r1
    have e2 : (List.range n).map (fun j => q.getD j 0 * c) = sclR c q ++ List.replicate (n - q.length) 0 :=
      (List.map_congr_left fun j _ => ((pad (sclR c q) _ j).trans (scl j)).symm).trans r2
    rw [ev_trim, ev_range_add x (fun j => p.getD j 0) (fun j => q.getD j 0 * c), e1, e2, ev_pad, ev_pad, ev_sclR, ev_addQ, ev_sclQ]
  have ht := m__law_trim_eq ((List.range n).map f) s' (by rw [List.length_map, List.length_range]; omega) (d := LL ((List.range n).map f)) (.inr rfl)
  have hf := flat_PL (addQ p (sclQ c q))
  rw [et] at ht
  unfold m__law_sum g__law_sum
  refine run_rt ?_
  show seqD _ _ [.sh (PL p), .sh (PL q), .sh (R c), .un, .un, .un, .un, .un] s' = _
  rw [seqD_nx (e := [.sh (PL p), .sh (PL q), .sh (R c), .sh (.int (n : Int)), .ow [], .un, .un, .un]) (s1 := s') (by simp -implicitDefEqProofs [hmx])]
  rw [seqD_nx (e := [.sh (PL p), .sh (PL q), .sh (R c), .sh (.int (n : Int)), .ow (((List.range n).map f).map R), e5, e6, e7]) (s1 := s') (by rw [forG_def]; simp -implicitDefEqProofs only [rng1_def, varD_def, List.getElem?_cons_succ, List.getElem?_cons_zero, bind_ok, if_pos hr, evS_ok, Int.toNat_natCast]; exact h1)]
  simp -implicitDefEqProofs only [retD_def, callL_def, consG_def, nilG_def, varX_def, List.getElem?_cons_succ, List.getElem?_cons_zero, bind_ok, List.map_cons, List.map_nil, lent_ow, List.all_cons, List.all_nil, solid_sh, Bool.and_self, if_true, ht, evS_ok, flatOut, hf]
end
end NP
end

section
set_option linter.all false
set_option autoImplicit false
namespace NP
open PySem hiding run
open DS NW
/-! ## values, slopes, lines -/
def hv (x : Rat) : Rat → List Rat → Rat
  | a, [] => a
  | a, c :: r => hv x (a * x + c) r
theorem hv_snoc (x c : Rat) : ∀ (r : List Rat) (a : Rat), hv x a (r ++ [c]) = hv x a r * x + c
  | [], a => rfl
  | d :: r, a => by
    show hv x (a * x + d) (r ++ [c]) = hv x (a * x + d) r * x + c
    exact hv_snoc x c r _
theorem hv_ev (x : Rat) : ∀ p : List Rat, hv x 0 p.reverse = ev p x
  | [] => rfl
  | c :: p => by rw [List.reverse_cons, hv_snoc, hv_ev x p, ev_cons]; grind
theorem revD_PL (p : List Rat) : revD (PL p) = some (PL p.reverse) := by
  show some (PyData.tuple (p.map R).reverse) = _
  rw [← List.map_reverse]
abbrev vbody (fa fm : List EV → LS → Out D) : Ev → LS → SOut := setD 2 (asSh (callG fa (consG (asSh (callG fm (consG (varX 2) (consG (varX 1) nilG)))) (consG (varX 3) nilG))))
theorem val_loop {B k b : Nat} {fa fm : List EV → LS → Out D} {x : Rat} (ha : Ad B fa) (hm : Mu B fm) (hx : Sz b x) (e0 : EV) (s : LS) : ∀ (r : List Rat) (a : Rat) (j : Nat) (e3 : EV), Szs k r → Sz j a → j + r.length * (b + k + 1) + b + k ≤ B →
    ∃ e, forD (.nm 3) (vbody fa fm) (r.map R) [e0, .sh (R x), .sh (R a), e3] s = .nx [e0, .sh (R x), .sh (R (hv x a r)), e] s
  | [], a, j, e3, _, _, _ => ⟨e3, rfl⟩
  | c :: r, a, j, e3, hr, h0, hz => by
    rw [List.length_cons, Nat.add_mul, Nat.one_mul] at hz
    have hc := hr c List.mem_cons_self
    have e1 := hm s h0 hx (by omega)
    have e2 := ha s (h0.mul hx) hc (by omega)
    obtain ⟨e, he⟩ := val_loop ha hm hx e0 s r (a * x + c) (j + b + k + 1) (.sh (R c)) (fun z hz => hr z (List.mem_cons_of_mem _ hz)) ((h0.mul hx).add hc) (by omega)
    refine ⟨e, ?_⟩
    rw [List.map_cons, forD_nx (env1 := [e0, .sh (R x), .sh (R a), .sh (R c)]) (e := [e0, .sh (R x), .sh (R (a * x + c)), .sh (R c)]) (s' := s) rfl (by simp -implicitDefEqProofs [e1, e2])]
    exact he
section
variable {k b : Nat} {p : List Rat} {x : Rat}
theorem m_value_at_eq (hp : Szs k p) (hx : Sz b x) (hz : 1 + p.length * (b + k + 1) + b + k ≤ 8999) (s : LS) : m_value_at [.sh (PL p), .sh (R x)] s = .ok (R (ev p x)) s := by
  obtain ⟨e, he⟩ := val_loop ad_plus mu_times hx (.sh (PL p)) s p.reverse 0 1 .un (fun c hc => hp c (List.mem_reverse.mp hc)) Sz_zero (by rw [List.length_reverse]; exact hz)
  rw [hv_ev] at he
  have hrev := revD_PL p
  unfold m_value_at g_value_at
  refine run_rt ?_
  show seqD _ _ [.sh (PL p), .sh (R x), .un, .un] s = _
  rw [seqD_nx (e := [.sh (PL p), .sh (R x), .sh (R 0), .un]) (s1 := s) (by simp -implicitDefEqProofs [R_zero])]
  rw [seqD_nx (e := [.sh (PL p), .sh (R x), .sh (R (ev p x)), e]) (s1 := s) (by rw [forG_def]; simp -implicitDefEqProofs only [itemG_def, op1_def, varW_def, List.getElem?_cons_zero, bind_ok, hrev, lift_some, listF_tuple, evS_ok]; exact he)]
  simp -implicitDefEqProofs
theorem m__law_val_eq (hp : Szs k p) (hx : Sz b x) (hz : 1 + p.length * (b + k + 1) + b + k ≤ 1990) (s : LS) : m__law_val [.sh (PL p), .sh (R x)] s = .ok (R (ev p x)) s := by
  obtain ⟨e, he⟩ := val_loop ad_law mu_law hx (.sh (PL p)) s p.reverse 0 1 .un (fun c hc => hp c (List.mem_reverse.mp hc)) Sz_zero (by rw [List.length_reverse]; exact hz)
  rw [hv_ev] at he
  have hrev := revD_PL p
  unfold m__law_val g__law_val
  refine run_rt ?_
  show seqD _ _ [.sh (PL p), .sh (R x), .un, .un] s = _
  rw [seqD_nx (e := [.sh (PL p), .sh (R x), .sh (R 0), .un]) (s1 := s) (by simp -implicitDefEqProofs [R_zero])]
  rw [seqD_nx (e := [.sh (PL p), .sh (R x), .sh (R (ev p x)), e]) (s1 := s) (by rw [forG_def]; simp -implicitDefEqProofs only [itemG_def, op1_def, varW_def, List.getElem?_cons_zero, bind_ok, hrev, lift_some, listF_tuple, evS_ok]; exact he)]
  simp -implicitDefEqProofs
/-! ### slopes -/
def drvR (p : List Rat) : List Rat := (List.range (p.length - 1)).map fun j => p.getD (j + 1) 0 * (((j + 1 : Nat) : Int) : Rat)
def drvQ (p : List Rat) : List Rat := trimQ (drvR p)
theorem lc_range1 {i : Nat} {ge : Ev → LS → Out D} (f : Nat → Rat) (n : Nat) (env : Ev) (s : LS) (h : ∀ k, k < n → ge (env.set i (.sh (.int (1 + (k : Int))))) s = .ok (R (f k)) s) : lcD (.nm i) yesB ge (rangeL 1 n) env s = .ok (((List.range n).map f).map R) s := by
  have key := lcD_map (i := i) (ge := ge) (fun d => match d with | .int j => R (f (j - 1).toNat) | d => d) (rangeL 1 n) env s (fun d hd => by
    obtain ⟨k, hk, rfl⟩ := List.mem_map.mp hd
    have e : (1 + (k : Int) - 1).toNat = k := by omega
    show ge _ s = .ok (R (f (1 + (k : Int) - 1).toNat)) s
    rw [e]
    exact h k (List.mem_range.mp hk))
  rw [key]
  unfold rangeL
  rw [List.map_map, List.map_map]
  congr 1
  refine List.map_congr_left fun k _ => ?_
  have e : (1 + (k : Int) - 1).toNat = k := by omega
  show R (f (1 + (k : Int) - 1).toNat) = R (f k)
  rw [e]
theorem m_derived_eq (hp : Szs k p) (hk1 : 1 ≤ k) (hz : k + 10 ≤ 8999) (hl : p.length ≤ 1000) (s : LS) : m_derived [.sh (PL p)] s = .ok (PL (drvQ p)) s := by
  have hr : rngB (p.length : Int) := rngB_small (by omega) (by omega)
  have hr1 : rngB 1 := rngB_small (by decide) (by decide)
  have ht1 : ((p.length : Int) - 1).toNat = p.length - 1 := by omega
  have hline : p.length - 1 ≤ sizeLine := small_line (by omega)
  have h1 := lc_range1 (i := 1) (ge := callG m_times (consG (asSh (op2 ixD (varW 0) (varD 1))) (consG (asSh (tupG (consG (varD 1) (consG (cD (.int 1)) nilG)))) nilG))) (fun j => p.getD (j + 1) 0 * (((j + 1 : Nat) : Int) : Rat)) (p.length - 1) [.sh (PL p), .un] s fun j hj => by
    have i1 := atI_row (q := p) (n := j + 1) (by omega)
    have ec : 1 + (j : Int) = ((j + 1 : Nat) : Int) := by omega
    have e := m_times_eq (hp.get hk1 (j + 1)) (Sz_int (n := ((j + 1 : Nat) : Int)) (k := 10) (by omega) (by decide)) hz s
    rw [R_int] at e
    rw [ec]
    simp -implicitDefEqProofs [-List.getD_eq_getElem?_getD, -Int.natCast_add, i1, e]
  have ht := m_trimmed_eq (drvR p) s (d := LL (drvR p)) (.inr rfl)
  unfold drvR at ht
  unfold m_derived g_derived
  refine run_rt ?_
  simp -implicitDefEqProofs only [List.replicate, List.length_cons, List.length_nil, List.cons_append, List.nil_append, retD_def, callG_def, consG_def, asSh_def, asLst_def, lcG_def, rng2_def, cD_def, callB_def, varW_def, nilG_def, List.getElem?_cons_zero, List.getElem?_cons_succ, bind_ok, lenF_tuple, lift_some, List.length_map, hr, hr1, and_self, if_true, ht1, rangeL_length, if_pos hline, wipeE_cons, wipeE_nil, List.set_cons_succ, List.set_cons_zero, h1, List.all_cons, List.all_nil, solid_sh, Bool.and_self, ht, evS_ok, drvQ, drvR]
end
end NP
end

section
set_option linter.all false
set_option autoImplicit false
namespace NP
open NW
/-! ## division: pure -/
theorem ev_set' (x v : Rat) (l : List Rat) (i : Nat) (h : i < l.length) : ev (l.set i v) x = ev l x + (v - l.getD i 0) * pw x i := by
  have := ev_set x (v - l.getD i 0) l i h
  rw [show l.getD i 0 + (v - l.getD i 0) = v by grind] at this
  exact this
theorem getD_set (l : List Rat) (i j : Nat) (v : Rat) : (l.set i v).getD j 0 = if i = j ∧ i < l.length then v else l.getD j 0 := by
  rw [List.getD_eq_getElem?_getD, List.getD_eq_getElem?_getD, List.getElem?_set]
  by_cases h : i = j
  · subst h
    by_cases w : i < l.length
    · simp [w]
    · simp [w]
  · simp [h]
/-- take c * q away from k on: the first n of q -/
def subAt (c : Rat) (q : List Rat) (k : Nat) : Nat → List Rat → List Rat
  | 0, r => r
  | n + 1, r => (subAt c q k n r).set (k + n) ((subAt c q k n r).getD (k + n) 0 - c * q.getD n 0)
theorem subAt_len (c : Rat) (q : List Rat) (k : Nat) (r : List Rat) : ∀ n, (subAt c q k n r).length = r.length
  | 0 => rfl
  | n + 1 => by rw [subAt, List.length_set, subAt_len c q k r n]
theorem subAt_ev (c x : Rat) (q : List Rat) (k : Nat) (r : List Rat) : ∀ n, n ≤ q.length → k + n ≤ r.length → ev (subAt c q k n r) x = ev r x - c * pw x k * ev (q.take n) x
  | 0, _, _ => by rw [subAt, List.take_zero, ev_nil]; grind
  | n + 1, h, hr => by
    rw [subAt, ev_set' _ _ _ _ (by rw [subAt_len]; omega), subAt_ev c x q k r n (by omega) (by omega), ev_take x (by omega), pw_add]
    grind
theorem subAt_get (c : Rat) (q : List Rat) (k : Nat) (r : List Rat) (i : Nat) : ∀ n, k + n ≤ r.length → (subAt c q k n r).getD i 0 = if k ≤ i ∧ i < k + n then r.getD i 0 - c * q.getD (i - k) 0 else r.getD i 0
  | 0, _ => by rw [subAt, if_neg (by omega)]
  | n + 1, h => by
    rw [subAt, getD_set, subAt_len, subAt_get c q k r i n (by omega), subAt_get c q k r (k + n) n (by omega)]
    by_cases e : k + n = i
    · subst e
      rw [if_pos ⟨rfl, by omega⟩, if_neg (by omega), if_pos (by omega), show k + n - k = n by omega]
    · rw [if_neg (fun z => e z.1)]
      by_cases w : k ≤ i ∧ i < k + n
      · rw [if_pos w, if_pos (by omega)]
      · rw [if_neg w, if_neg (by omega)]
def lead (q : List Rat) : Rat := q.getD (q.length - 1) 0
theorem lead_ne {q : List Rat} (h : Tr q) (hq : q ≠ []) : lead q ≠ 0 := by
  have h1 := Tr.iff.mp h hq
  rw [List.getLast_eq_getElem] at h1
  unfold lead
  have hl := List.length_pos_iff.mpr hq
  rw [List.getD_eq_getElem?_getD, List.getElem?_eq_getElem (by omega)]
  exact h1
/-- the turns k - 1, .., 0 -/
def dgo (q : List Rat) : Nat → List Rat → List Rat → List Rat × List Rat
  | 0, f, r => (f, r)
  | k + 1, f, r => dgo q k (f.set k (r.getD (k + q.length - 1) 0 / lead q)) (subAt (r.getD (k + q.length - 1) 0 / lead q) q k q.length r)
def quoQ (p q : List Rat) : List Rat := trimQ (dgo q (p.length + 1 - q.length) (List.replicate (p.length + 1 - q.length) 0) p).1
def restQ (p q : List Rat) : List Rat := trimQ (dgo q (p.length + 1 - q.length) (List.replicate (p.length + 1 - q.length) 0) p).2
theorem dgo_spec {q : List Rat} (hq : q ≠ []) (hl : lead q ≠ 0) : ∀ (k : Nat) (f r : List Rat), k ≤ f.length → k + q.length ≤ r.length + 1 → (∀ j, j < k → f.getD j 0 = 0) → (∀ j, k + q.length - 1 ≤ j → r.getD j 0 = 0) →
    (∀ x, ev (dgo q k f r).1 x * ev q x + ev (dgo q k f r).2 x = ev f x * ev q x + ev r x) ∧ (∀ j, q.length - 1 ≤ j → (dgo q k f r).2.getD j 0 = 0) ∧ (dgo q k f r).2.length = r.length
  | 0, f, r, _, _, _, hz => ⟨fun x => rfl, fun j hj => hz j (by omega), rfl⟩
  | k + 1, f, r, h1, h2, h3, hz => by
    have lq := List.length_pos_iff.mpr hq
    generalize hc : r.getD (k + q.length - 1) 0 / lead q = c
    have hcl : c * lead q = r.getD (k + q.length - 1) 0 := by
      rw [← hc, Rat.div_def, Rat.mul_assoc, Rat.inv_mul_cancel _ hl, Rat.mul_one]
    have ih := dgo_spec hq hl k (f.set k c) (subAt c q k q.length r) (by rw [List.length_set]; omega) (by rw [subAt_len]; omega) (fun j hj => by
      rw [getD_set, if_neg (by omega)]
      exact h3 j (by omega)) (fun j hj => by
      rw [subAt_get c q k r j q.length (by omega)]
      by_cases w : k ≤ j ∧ j < k + q.length
      · have e : j = k + q.length - 1 := by omega
        rw [if_pos w, e, show k + q.length - 1 - k = q.length - 1 by omega, show q.getD (q.length - 1) 0 = lead q from rfl, hcl]
        grind
      · rw [if_neg w]
        exact hz j (by omega))
    obtain ⟨i1, i2, i3⟩ := ih
    rw [dgo, hc]
    refine ⟨fun x => ?_, i2, by rw [i3, subAt_len]⟩
    rw [i1 x, ev_set' x c f k (by omega), h3 k (by omega), subAt_ev c x q k r q.length (Nat.le_refl _) (by omega), List.take_length]
    grind
theorem trim_short {r : List Rat} {n : Nat} (h : ∀ j, n ≤ j → r.getD j 0 = 0) : (trimQ r).length ≤ n := by
  have key : ∀ m, m ≤ r.length → trimN r m ≤ n := by
    intro m
    induction m with
    | zero => exact fun _ => Nat.zero_le _
    | succ m ih =>
      intro hm
      rw [trimN_succ]
      by_cases w : n ≤ m
      · rw [if_pos (h m w)]
        exact ih (by omega)
      · split
        · exact ih (by omega)
        · omega
  have e := trimN_eq r r.length (Nat.le_refl _)
  rw [List.take_length] at e
  rw [e, List.length_take]
  have := key r.length (Nat.le_refl _)
  omega
theorem div_spec {p q : List Rat} (hq : q ≠ []) (ht : Tr q) : (∀ x, ev p x = ev (quoQ p q) x * ev q x + ev (restQ p q) x) ∧ (restQ p q).length < q.length := by
  have lq := List.length_pos_iff.mpr hq
  have hl := lead_ne ht hq
  by_cases h : q.length ≤ p.length + 1
  · obtain ⟨a, b, _⟩ := dgo_spec hq hl (p.length + 1 - q.length) (List.replicate (p.length + 1 - q.length) 0) p (by rw [List.length_replicate]; exact Nat.le_refl _) (by omega) (fun j hj => by
      rw [List.getD_eq_getElem?_getD, List.getElem?_replicate]; split <;> rfl) (fun j hj => by
      rw [List.getD_eq_getElem?_getD, List.getElem?_eq_none_iff.mpr (by omega)]; rfl)
    refine ⟨fun x => ?_, ?_⟩
    · have := a x
      rw [ev_zeros] at this
      rw [quoQ, restQ, ev_trim, ev_trim, this]
      grind
    · have := trim_short b
      unfold restQ
      omega
  · have e : p.length + 1 - q.length = 0 := by omega
    refine ⟨fun x => ?_, ?_⟩
    · rw [quoQ, restQ, e, ev_trim, ev_trim]
      show ev p x = ev (List.replicate 0 0) x * ev q x + ev p x
      rw [ev_zeros]; grind
    · have := trim_len p
      rw [restQ, e]
      show (trimQ p).length < _
      omega
end NP
end

section
set_option linter.all false
set_option autoImplicit false
namespace NP
open NW
/-! ## division: sizes -/
theorem Dn.scale {d m : Nat} {c : Rat} (h : Dn d m c) (e : Nat) : Dn (d * e) (m * e) c := by
  obtain ⟨n, h1, h2⟩ := h
  refine ⟨n * e, ?_, by rw [Int.natAbs_mul, Int.natAbs_natCast]; exact Nat.mul_le_mul_right _ h2⟩
  rw [Rat.natCast_mul, Rat.intCast_mul, ← h1, Rat.intCast_natCast]
  grind
theorem Dn.neg {d m : Nat} {c : Rat} (h : Dn d m c) : Dn d m (-c) := by
  obtain ⟨n, h1, h2⟩ := h
  refine ⟨-n, ?_, by rw [Int.natAbs_neg]; exact h2⟩
  rw [Rat.intCast_neg, ← h1]
  grind
theorem Dn.sub {d m m' : Nat} {c c' : Rat} (h : Dn d m c) (h' : Dn d m' c') : Dn d (m + m') (c - c') := by
  have := h.add h'.neg
  rwa [← Rat.sub_eq_add_neg] at this
theorem natAbs_rat (L : Int) : ((L.natAbs : Nat) : Rat) = (L.sign : Rat) * (L : Rat) := by
  have h : ((L.natAbs : Nat) : Int) = L.sign * L := by
    rcases Int.lt_trichotomy L 0 with w | w | w
    · rw [Int.sign_eq_neg_one_of_neg w]; omega
    · subst w; rfl
    · rw [Int.sign_eq_one_of_pos w]; omega
  rw [← Rat.intCast_natCast, h, Rat.intCast_mul]
theorem Dn.quot {D M E N : Nat} {a l b : Rat} {L : Int} (ha : Dn D M a) (hl : l * (E : Rat) = (L : Rat)) (hl0 : l ≠ 0) (hL : L ≠ 0) (hb : Dn E N b) : Dn (D * L.natAbs) (M * N) (a / l * b) := by
  obtain ⟨x, hx, hx2⟩ := ha
  obtain ⟨y, hy, hy2⟩ := hb
  refine ⟨x * y * L.sign, ?_, ?_⟩
  · rw [Rat.natCast_mul, natAbs_rat, Rat.intCast_mul, Rat.intCast_mul, ← hx, ← hy, ← hl, Rat.div_def]
    have e := Rat.inv_mul_cancel l hl0
    have e2 : a * l⁻¹ * b * ((D : Rat) * ((L.sign : Rat) * (l * (E : Rat)))) = (l⁻¹ * l) * (a * (D : Rat) * (b * (E : Rat)) * (L.sign : Rat)) := by grind
    rw [e2, e]
    grind
  · rw [Int.natAbs_mul, Int.natAbs_mul, Int.natAbs_sign_of_ne_zero hL, Nat.mul_one]
    exact Nat.mul_le_mul hx2 hy2
theorem Dn.coef {D M E N : Nat} {a l : Rat} {L : Int} (ha : Dn D M a) (hl : l * (E : Rat) = (L : Rat)) (hl0 : l ≠ 0) (hL : L ≠ 0) : Dn (D * L.natAbs) (M * E) (a / l) := by
  obtain ⟨x, hx, hx2⟩ := ha
  refine ⟨x * E * L.sign, ?_, ?_⟩
  · rw [Rat.natCast_mul, natAbs_rat, Rat.intCast_mul, Rat.intCast_mul, Rat.intCast_natCast, ← hx, ← hl, Rat.div_def]
    have e := Rat.inv_mul_cancel l hl0
    have e2 : a * l⁻¹ * ((D : Rat) * ((L.sign : Rat) * (l * (E : Rat)))) = (l⁻¹ * l) * (a * (D : Rat) * (E : Rat) * (L.sign : Rat)) := by grind
    rw [e2, e]
    grind
  · rw [Int.natAbs_mul, Int.natAbs_mul, Int.natAbs_sign_of_ne_zero hL, Nat.mul_one, Int.natAbs_natCast]
    exact Nat.mul_le_mul_right _ hx2
/-- the leading numerator -/
theorem lead_num {E N : Nat} {q : List Rat} (hq : Pb E N q) (hl0 : lead q ≠ 0) : ∃ L : Int, lead q * (E : Rat) = (L : Rat) ∧ L ≠ 0 ∧ L.natAbs ≤ N := by
  obtain ⟨L, h1, h2⟩ := hq.get (q.length - 1)
  refine ⟨L, h1, fun z => ?_, h2⟩
  rw [z] at h1
  have h1' : lead q * (E : Rat) = 0 := h1
  rcases Rat.mul_eq_zero.mp h1' with h | h
  · exact hl0 h
  · exact hq.nz (by exact_mod_cast h)
theorem Pb.subAt {D M E N : Nat} {q r : List Rat} {L : Int} {a : Rat} (hr : Pb D M r) (ha : Dn D M a) (hq : Pb E N q) (hl : lead q * (E : Rat) = (L : Rat)) (hl0 : lead q ≠ 0) (hL : L ≠ 0) (hN : L.natAbs ≤ N) (k : Nat) : ∀ n, Pb (D * L.natAbs) (2 * (M * N)) (subAt (a / lead q) q k n r)
  | 0 => ⟨Nat.mul_ne_zero hr.nz (Int.natAbs_ne_zero.mpr hL), fun c hc => ((hr.dn c hc).scale _).mono (by
      have := Nat.mul_le_mul_left M hN
      omega)⟩
  | n + 1 => by
    have ih := Pb.subAt hr ha hq hl hl0 hL hN k n
    refine ⟨ih.nz, fun c hc => ?_⟩
    rw [NP.subAt] at hc
    rcases mem_set' hc with hc | rfl
    · exact ih.dn c hc
    · by_cases w : k + n < r.length
      · rw [subAt_get _ q k r (k + n) n (by omega), if_neg (by omega)]
        have h1 := (hr.get (k + n)).scale L.natAbs
        have h2 := ha.quot hl hl0 hL (hq.get n)
        have hM := Nat.mul_le_mul_left M hN
        exact (h1.sub h2).mono (by omega)
      · have e : (NP.subAt (a / lead q) q k n r).getD (k + n) 0 = 0 := by
          rw [List.getD_eq_getElem?_getD, List.getElem?_eq_none_iff.mpr (by rw [subAt_len]; omega)]; rfl
        rw [e]
        have h2 := ha.quot hl hl0 hL (hq.get n)
        exact ((Dn.zero _ 0).sub h2).mono (by omega)
end NP
end

section
set_option linter.all false
set_option autoImplicit false
namespace NP
open PySem hiding run
open DS NW
/-! ## division: what the program computes -/
def Su (B : Nat) (f : List EV → LS → Out D) : Prop := ∀ {k l : Nat} {p q : Rat} (s : LS), Sz k p → Sz l q → k + l ≤ B → f [.sh (R p), .sh (R q)] s = .ok (R (p - q)) s
theorem su_minus : Su 8999 m_minus := fun s h1 h2 h3 => m_minus_eq h1 h2 h3 s
theorem su_law : Su 1990 m__law_sub := fun s h1 h2 h3 => m__law_sub_eq h1 h2 h3 s
abbrev dbody (fs fm : List EV → LS → Out D) : Ev → LS → SOut := stoD 2 (op2 addD (varW 4) (varW 5)) (callG fs (consG (asSh (op2 ixD (varW 2) (op2 addD (varW 4) (varW 5)))) (consG (asSh (callG fm (consG (asSh (op2 ixD (varW 3) (varD 4))) (consG (asSh (op2 ixD (varW 1) (varD 5))) nilG)))) nilG)))
theorem dbody_eq {B k1 k2 k3 : Nat} {fs fm : List EV → LS → Out D} (hs : Su B fs) (hm : Mu B fm) (e0 : EV) (q r f : List Rat) (k j : Nat) (s : LS) (h1 : k < f.length) (h2 : j < q.length) (h3 : k + j < r.length)
    (z1 : Sz k1 (f.getD k 0)) (z2 : Sz k2 (q.getD j 0)) (z3 : Sz k3 (r.getD (k + j) 0)) (hk : k3 + (k1 + k2) ≤ B) :
    dbody fs fm [e0, .sh (PL q), .ow (r.map R), .ow (f.map R), .sh (.int (k : Int)), .sh (.int (j : Int))] s = .nx [e0, .sh (PL q), .ow ((r.set (k + j) (r.getD (k + j) 0 - f.getD k 0 * q.getD j 0)).map R), .ow (f.map R), .sh (.int (k : Int)), .sh (.int (j : Int))] s := by
  have i1 := atI_row h1
  have i2 := atI_row h2
  have i3 := atI_row h3
  have ec : (k : Int) + (j : Int) = ((k + j : Nat) : Int) := by omega
  have e1 := hm s z1 z2 (by omega)
  have e2 := hs s z3 (z1.mul z2) (by omega)
  have e3 := ixN_nat (n := (r.map R).length) (j := k + j) (by rw [List.length_map]; exact h3)
  rw [List.length_map] at e3
  simp -implicitDefEqProofs [-List.getD_eq_getElem?_getD, -List.map_set, -Int.natCast_add, ec, i1, i2, i3, e1, e2, e3, set_row]
theorem dinner {B K kc kq : Nat} {fs fm : List EV → LS → Out D} (hs : Su B fs) (hm : Mu B fm) (e0 : EV) (q r f : List Rat) (k : Nat) (c : Rat) (hf : k < f.length) (hc : f.getD k 0 = c) (hr : k + q.length ≤ r.length) (zc : Sz kc c) (zq : Szs kq q) (hq1 : 1 ≤ kq) (hK1 : 1 ≤ K) (zr : ∀ n, Szs K (subAt c q k n r)) (hB : K + (kc + kq) ≤ B) (e5 : EV) (s : LS) :
    ∃ e, forD (.nm 5) (dbody fs fm) (rangeL 0 q.length) [e0, .sh (PL q), .ow (r.map R), .ow (f.map R), .sh (.int (k : Int)), e5] s = .nx [e0, .sh (PL q), .ow ((subAt c q k q.length r).map R), .ow (f.map R), .sh (.int (k : Int)), e] s := by
  have key := forD_inv (t := .nm 5) (gb := dbody fs fm) (fun j env s' => ∃ e, env = [e0, .sh (PL q), .ow ((subAt c q k j r).map R), .ow (f.map R), .sh (.int (k : Int)), e] ∧ s' = s ∧ j ≤ q.length) (rangeL 0 q.length) _ s ⟨e5, rfl, rfl, Nat.zero_le _⟩ (fun j d env s1 hj hP => by
    obtain ⟨e, rfl, rfl, hjn⟩ := hP
    obtain ⟨hj1, rfl⟩ := rangeL_get hj
    have e := dbody_eq hs hm e0 q (subAt c q k j r) f k j s1 hf hj1 (by rw [subAt_len]; omega) (by rw [hc]; exact zc) (zq.get hq1 j) ((zr j).get hK1 (k + j)) hB
    rw [hc] at e
    exact ⟨_, rfl, _, s1, .inl e, .sh (.int (j : Int)), rfl, rfl, hj1⟩)
  obtain ⟨e', s', h1, e, rfl, rfl, _⟩ := key
  rw [rangeL_length] at h1
  exact ⟨e, h1⟩
theorem downL_succ (k : Nat) : downL (k : Int) (k + 1) = .int (k : Int) :: downL ((k : Int) - 1) k := by
  unfold downL
  rw [List.range_succ_eq_map, List.map_cons, List.map_map]
  have e1 : PyData.int ((k : Int) + ((0 : Nat) : Int) * (-1)) = .int (k : Int) := congrArg PyData.int (by omega)
  rw [e1]
  refine congrArg _ (List.map_congr_left fun i _ => ?_)
  exact congrArg PyData.int (by show (k : Int) + ((i + 1 : Nat) : Int) * (-1) = (k : Int) - 1 + (i : Int) * (-1); omega)
abbrev drow (g1 : Ev → LS → Out D) (fs fm : List EV → LS → Out D) : Ev → LS → SOut := seqD (stoD 3 (varD 4) g1) (forG (.nm 5) (rng1 (callB lenF (consG (varW 1) nilG))) (dbody fs fm))
/-- the turns: what stands behind them is dgo -/
theorem dgo_walk {B K kc kq E N : Nat} {fs fm : List EV → LS → Out D} {g1 : Ev → LS → Out D} {e0 : EV} {q : List Rat} {L : Int} (hs : Su B fs) (hm : Mu B fm) (hq : Pb E N q) (hl : lead q * (E : Rat) = (L : Rat)) (hl0 : lead q ≠ 0) (hL : L ≠ 0) (hN : L.natAbs ≤ N) (zq : Szs kq q) (hq1 : 1 ≤ kq) (hK1 : 1 ≤ K) (hqn : q ≠ []) (hql : q.length ≤ 1000) (hB : K + (kc + kq) ≤ B) (s : LS)
    (hg : ∀ (r f : List Rat) (k : Nat) (e5 : EV), k + q.length ≤ r.length → Szs K r → g1 [e0, .sh (PL q), .ow (r.map R), .ow (f.map R), .sh (.int (k : Int)), e5] s = .ok (R (r.getD (k + q.length - 1) 0 / lead q)) s) :
    ∀ (k D M : Nat) (f r : List Rat) (e4 e5 : EV), k ≤ f.length → k + q.length ≤ r.length + 1 → Pb D M r → D * L.natAbs ^ k < 2 ^ K → M * (2 * N) ^ k < 2 ^ K → D * L.natAbs ^ k < 2 ^ kc → M * (2 * N) ^ k * E < 2 ^ kc →
    ∃ e e', forD (.nm 4) (drow g1 fs fm) (downL ((k : Int) - 1) k) [e0, .sh (PL q), .ow (r.map R), .ow (f.map R), e4, e5] s = .nx [e0, .sh (PL q), .ow ((dgo q k f r).2.map R), .ow ((dgo q k f r).1.map R), e, e'] s
  | 0, D, M, f, r, e4, e5, _, _, _, _, _, _, _ => ⟨e4, e5, rfl⟩
  | k + 1, D, M, f, r, e4, e5, h1, h2, hr, b1, b2, b3, b4 => by
    have lq := List.length_pos_iff.mpr hqn
    have hLp : 1 ≤ L.natAbs := Nat.one_le_iff_ne_zero.mpr (Int.natAbs_ne_zero.mpr hL)
    have hNp : 1 ≤ 2 * N := by omega
    have hr' : rngB (q.length : Int) := rngB_small (by omega) (by omega)
    have pL : 1 ≤ L.natAbs ^ k := Nat.one_le_iff_ne_zero.mpr (Nat.ne_of_gt (Nat.pow_pos (by omega)))
    have pN : 1 ≤ (2 * N) ^ k := Nat.one_le_iff_ne_zero.mpr (Nat.ne_of_gt (Nat.pow_pos (by omega)))
    have eD : D * L.natAbs ^ (k + 1) = D * L.natAbs * L.natAbs ^ k := by rw [Nat.pow_succ, Nat.mul_comm (L.natAbs ^ k), ← Nat.mul_assoc]
    have eM : M * (2 * N) ^ (k + 1) = 2 * (M * N) * (2 * N) ^ k := by
      rw [Nat.pow_succ, Nat.mul_comm ((2 * N) ^ k), ← Nat.mul_assoc, ← Nat.mul_assoc M 2 N, Nat.mul_comm M 2, Nat.mul_assoc 2 M N]
    rw [eD] at b1 b3
    rw [eM] at b2 b4
    have d1 : D * L.natAbs ≤ D * L.natAbs * L.natAbs ^ k := Nat.le_mul_of_pos_right _ pL
    have d2 : 2 * (M * N) ≤ 2 * (M * N) * (2 * N) ^ k := Nat.le_mul_of_pos_right _ pN
    have d3 : M ≤ M * N := Nat.le_mul_of_pos_right _ (by omega)
    have d4 : D ≤ D * L.natAbs := Nat.le_mul_of_pos_right _ hLp
    have d5 : M * E ≤ 2 * (M * N) * (2 * N) ^ k * E := Nat.mul_le_mul_right _ (by omega)
    generalize hc : r.getD (k + q.length - 1) 0 / lead q = c
    have ha := hr.get (k + q.length - 1)
    have nz : D * L.natAbs ≠ 0 := Nat.mul_ne_zero hr.nz (by omega)
    have zc : Sz kc c := by
      rw [← hc]
      exact (ha.coef (N := N) hl hl0 hL).sz nz (by omega) (by omega)
    have hsub : ∀ n, Pb (D * L.natAbs) (2 * (M * N)) (subAt c q k n r) := fun n => by
      rw [← hc]
      exact Pb.subAt hr ha hq hl hl0 hL hN k n
    have zr : ∀ n, Szs K (subAt c q k n r) := fun n => (hsub n).szs (by omega) (by omega)
    have g := hg r f k e5 (by omega) (hr.szs (by omega) (by omega))
    rw [hc] at g
    have hfl : k < (f.map R).length := by rw [List.length_map]; omega
    have hix := ixN_nat hfl
    rw [List.length_map] at hix
    have st1 : stoD 3 (varD 4) g1 [e0, .sh (PL q), .ow (r.map R), .ow (f.map R), .sh (.int (k : Int)), e5] s = .nx [e0, .sh (PL q), .ow (r.map R), .ow ((f.set k c).map R), .sh (.int (k : Int)), e5] s := by
      rw [stoD_def, g]
      simp -implicitDefEqProofs [-List.map_set, hix, set_row]
    obtain ⟨e', hin⟩ := dinner hs hm e0 q r (f.set k c) k c (by rw [List.length_set]; omega) (by rw [getD_set, if_pos ⟨rfl, by omega⟩]) (by omega) zc zq hq1 hK1 zr hB e5 s
    obtain ⟨e2, e3, hfin⟩ := dgo_walk hs hm hq hl hl0 hL hN zq hq1 hK1 hqn hql hB s hg k (D * L.natAbs) (2 * (M * N)) (f.set k c) (subAt c q k q.length r) (.sh (.int (k : Int))) e' (by rw [List.length_set]; omega) (by rw [subAt_len]; omega) (hsub _) b1 b2 b3 b4
    refine ⟨e2, e3, ?_⟩
    have ek : ((k + 1 : Nat) : Int) - 1 = (k : Int) := by omega
    rw [ek, downL_succ, forD_nx (env1 := [e0, .sh (PL q), .ow (r.map R), .ow (f.map R), .sh (.int (k : Int)), e5]) (e := [e0, .sh (PL q), .ow ((subAt c q k q.length r).map R), .ow ((f.set k c).map R), .sh (.int (k : Int)), e']) (s' := s) rfl ?_]
    · rw [dgo, hc]
      exact hfin
    · show seqD _ _ _ s = _
      rw [seqD_nx st1, forG_def]
      simp -implicitDefEqProofs only [rng1_def, callB_def, consG_def, nilG_def, varW_def, List.getElem?_cons_succ, List.getElem?_cons_zero, bind_ok, lenF_tuple, lift_some, List.length_map, if_pos hr', evS_ok, Int.toNat_natCast]
      exact hin
end NP
end

section
set_option linter.all false
set_option autoImplicit false
namespace NP
open PySem hiding run
open DS NW
theorem last_row {q : List Rat} (hq : q ≠ []) : L2.atI (q.map R) (-1) = some (R (lead q)) := by
  have lq := List.length_pos_iff.mpr hq
  have h := getLast_row (q := q) (n := q.length - 1) (by omega)
  rw [show q.length - 1 + 1 = q.length by omega, List.take_length] at h
  exact h
theorem R_num0 {q : Rat} (h : q ≠ 0) : (q.num == 0) = false := by rw [num_zero, decide_eq_false h]
section
variable {D M E N K kc kq : Nat} {p q : List Rat}
/-- sizes of a division -/
structure Dz (D M E N K kc kq B n : Nat) : Prop where
  a1 : D * N ^ n < 2 ^ K
  a2 : M * (2 * N) ^ n < 2 ^ K
  a3 : D * N ^ n < 2 ^ kc
  a4 : M * (2 * N) ^ n * E < 2 ^ kc
  a5 : E < 2 ^ kq
  a6 : N < 2 ^ kq
  a7 : K + (kc + kq) ≤ B
  a8 : 1 ≤ K
  a9 : 1 ≤ kq
theorem m_divided_eq (hp : Pb D M p) (hq : Pb E N q) (tq : Tr q) (hqn : q ≠ []) (hz : Dz D M E N K kc kq 8999 (p.length + 1 - q.length)) (hpl : p.length ≤ 1000) (hql : q.length ≤ 1000) (s : LS) :
    m_divided [.sh (PL p), .sh (PL q)] s = .ok (.tuple [PL (quoQ p q), PL (restQ p q)]) s := by
  have lq := List.length_pos_iff.mpr hqn
  have hl0 := lead_ne tq hqn
  obtain ⟨L, hl, hL, hN⟩ := lead_num hq hl0
  generalize hn : p.length + 1 - q.length = n at hz
  have hpw : L.natAbs ^ n ≤ N ^ n := Nat.pow_le_pow_left hN n
  have hD : D * L.natAbs ^ n ≤ D * N ^ n := Nat.mul_le_mul_left _ hpw
  have zq : Szs kq q := hq.szs hz.a5 hz.a6
  have zl : Sz kq (lead q) := zq.get hz.a9 _
  have b2 : ((q.length : Int) == 0) = false := by rw [beq_eq_false_iff_ne]; omega
  have hlast := last_row hqn
  have hw : ∃ e e', forD (.nm 4) (drow (callG m_over (consG (asSh (op2 ixD (varW 2) (op2 subD (op2 addD (varW 4) (callB lenF (consG (varW 1) nilG))) (cD (.int 1))))) (consG (asSh (op2 ixD (varW 1) (op1 negI (cD (.int 1))))) nilG))) m_minus m_times) (downL ((p.length : Int) - (q.length : Int)) ((p.length : Int) - (q.length : Int) - -1).toNat) [.sh (PL p), .sh (PL q), .ow (p.map R), .ow ((List.replicate n 0).map R), .un, .un] s
      = .nx [.sh (PL p), .sh (PL q), .ow ((dgo q n (List.replicate n 0) p).2.map R), .ow ((dgo q n (List.replicate n 0) p).1.map R), e, e'] s := by
    have ht : ((p.length : Int) - (q.length : Int) - -1).toNat = n := by omega
    rw [ht]
    by_cases hle : q.length ≤ p.length + 1
    · have e0 : (p.length : Int) - (q.length : Int) = (n : Int) - 1 := by omega
      rw [e0]
      exact dgo_walk (e0 := .sh (PL p)) (g1 := callG m_over (consG (asSh (op2 ixD (varW 2) (op2 subD (op2 addD (varW 4) (callB lenF (consG (varW 1) nilG))) (cD (.int 1))))) (consG (asSh (op2 ixD (varW 1) (op1 negI (cD (.int 1))))) nilG))) su_minus mu_times hq hl hl0 hL hN zq hz.a9 hz.a8 hqn hql hz.a7 s (fun r f k e5 hk zr => by
            have i1 := atI_row (q := r) (n := k + q.length - 1) (by omega)
            have ec : (k : Int) + (q.length : Int) - 1 = ((k + q.length - 1 : Nat) : Int) := by omega
            have e := m_over_eq (zr.get hz.a8 (k + q.length - 1)) zl hl0 (by have := hz.a7; omega) s
            simp -implicitDefEqProofs only [callG_def, consG_def, asSh_def, op2_def, op1_def, varW_def, cD_def, callB_def, nilG_def, List.getElem?_cons_zero, List.getElem?_cons_succ, bind_ok, lenF_tuple, lift_some, List.length_map, addD_int, subD_int, ec, ixD_list, ixD_tuple, i1, negI_int, hlast, List.all_cons, List.all_nil, solid_sh, Bool.and_self, if_true, e])
          n D M (List.replicate n 0) p .un .un (by rw [List.length_replicate]; exact Nat.le_refl _) (by omega) hp (Nat.lt_of_le_of_lt hD hz.a1) hz.a2 (Nat.lt_of_le_of_lt hD hz.a3) hz.a4
    · have e0 : n = 0 := by omega
      subst e0
      exact ⟨.un, .un, rfl⟩
  obtain ⟨e, e', hw⟩ := hw
  have hr : rngB ((p.length : Int) - (q.length : Int)) := rngB_small (by omega) (by omega)
  have hr1 : rngB (-1) := rngB_small (by decide) (by decide)
  have hmx : maxF [.int 0, .int ((p.length : Int) - (q.length : Int) + 1)] = some (.int (max 0 ((p.length : Int) - (q.length : Int) + 1))) := rfl
  have hn2 : (max 0 ((p.length : Int) - (q.length : Int) + 1)).toNat = n := by omega
  have hrep : repL [R 0] (.int (max 0 ((p.length : Int) - (q.length : Int) + 1))) = some ((List.replicate n (0 : Rat)).map R) := by
    show (if max 0 ((p.length : Int) - (q.length : Int) + 1) < 2 ^ 62 ∧ -(2 ^ 62) < max 0 ((p.length : Int) - (q.length : Int) + 1) ∧ 1 * (max 0 ((p.length : Int) - (q.length : Int) + 1)).toNat ≤ sizeLine then some (List.replicate (max 0 ((p.length : Int) - (q.length : Int) + 1)).toNat [R 0]).flatten else none) = _
    rw [hn2, rep_zero, if_pos ⟨by omega, by omega, small_line (by omega)⟩]
  have t1 := m_trimmed_eq (dgo q n (List.replicate n 0) p).1 s (d := LL (dgo q n (List.replicate n 0) p).1) (.inr rfl)
  have t2 := m_trimmed_eq (dgo q n (List.replicate n 0) p).2 s (d := LL (dgo q n (List.replicate n 0) p).2) (.inr rfl)
  have q1 : trimQ (dgo q n (List.replicate n 0) p).1 = quoQ p q := by rw [quoQ, hn]
  have q2 : trimQ (dgo q n (List.replicate n 0) p).2 = restQ p q := by rw [restQ, hn]
  rw [q1] at t1
  rw [q2] at t2
  have f1 := flat_PL (quoQ p q)
  have f2 := flat_PL (restQ p q)
  unfold m_divided g_divided
  refine run_rt ?_
  show seqD _ _ [.sh (PL p), .sh (PL q), .un, .un, .un, .un] s = _
  rw [seqD_nx (e := [.sh (PL p), .sh (PL q), .un, .un, .un, .un]) (s1 := s) (by simp -implicitDefEqProofs [b2])]
  rw [seqD_nx (e := [.sh (PL p), .sh (PL q), .ow (p.map R), .ow ((List.replicate n (0 : Rat)).map R), .un, .un]) (s1 := s) (by
    simp -implicitDefEqProofs only [par2_def, asOw_def, listG_def, repG_def, lstG_def, tupG_def, consG_def, nilG_def, cD_def, bind_ok, List.length_cons, List.length_nil, Nat.reduceAdd, if_pos line2, if_pos line1, op2_def, callB_def, varW_def, List.getElem?_cons_zero, List.getElem?_cons_succ, listF_tuple, lenF_tuple, lift_some, List.length_map, addD_int, subD_int, hmx, ← R_zero, hrep, evS_ok, List.set_cons_succ, List.set_cons_zero])]
  rw [seqD_nx (e := [.sh (PL p), .sh (PL q), .ow ((dgo q n (List.replicate n 0) p).2.map R), .ow ((dgo q n (List.replicate n 0) p).1.map R), e, e']) (s1 := s) (by
    rw [forG_def]
    simp -implicitDefEqProofs only [rngD_def, op2_def, op1_def, callB_def, consG_def, nilG_def, varW_def, cD_def, List.getElem?_cons_zero, List.getElem?_cons_succ, bind_ok, lenF_tuple, lift_some, List.length_map, subD_int, negI_int, hr, hr1, and_self, if_true, evS_ok]
    exact hw)]
  simp -implicitDefEqProofs only [retD_def, tupG_def, callL_def, consG_def, nilG_def, varX_def, List.getElem?_cons_succ, List.getElem?_cons_zero, bind_ok, List.map_cons, List.map_nil, lent_ow, List.all_cons, List.all_nil, solid_sh, Bool.and_self, if_true, t1, t2, evS_ok, flatOut, f1, f2, List.length_cons, List.length_nil, Nat.reduceAdd, if_pos line2]
end
end NP
end

section
set_option linter.all false
set_option autoImplicit false
namespace NP
open PySem hiding run
open DS NW
theorem inv_fr (q : Rat) : Rat.divInt q.den q.num = q⁻¹ := by rw [← Rat.inv_divInt, Rat.num_divInt_den]
theorem Sz_inv {k : Nat} {q : Rat} (h : Sz k q) (hq : q ≠ 0) : Sz k q⁻¹ := by
  rw [← inv_fr]
  exact Sz.divInt (num_ne hq) (by simpa using h.2) h.1
theorem m__law_flip_eq {k : Nat} {q : Rat} (h : Sz k q) (hq : q ≠ 0) (hk : k ≤ 1990) (s : LS) : m__law_flip [.sh (R q)] s = .ok (R q⁻¹) s := by
  have e := m__law_fr_eq q.den q.num s (num_ne hq) (Nat.lt_of_lt_of_le h.1 (Nat.pow_le_pow_right (by decide) hk))
  rw [inv_fr] at e
  unfold m__law_flip g__law_flip
  refine run_rt ?_
  rw [R_def q]
  simp -implicitDefEqProofs [e]
theorem dgo_len1 (q : List Rat) : ∀ (k : Nat) (f r : List Rat), (dgo q k f r).1.length = f.length
  | 0, _, _ => rfl
  | k + 1, f, r => by rw [dgo, dgo_len1 q k, List.length_set]
theorem dgo_len2 (q : List Rat) : ∀ (k : Nat) (f r : List Rat), (dgo q k f r).2.length = r.length
  | 0, _, _ => rfl
  | k + 1, f, r => by rw [dgo, dgo_len2 q k, subAt_len]
theorem range_rev : ∀ n : Nat, (rangeL 0 n).reverse = downL ((n : Int) - 1) n
  | 0 => rfl
  | n + 1 => by
    have ih := range_rev n
    have e : rangeL 0 (n + 1) = rangeL 0 n ++ [.int (n : Int)] := by
      rw [rangeL_map, rangeL_map, List.range_succ, List.map_append]
      rfl
    rw [e, List.reverse_append, List.reverse_singleton, ih, show ((n + 1 : Nat) : Int) - 1 = (n : Int) by omega, downL_succ]
    rfl
theorem callL_ltrim (l : List Rat) (s : LS) (hl : l.length ≤ 1000) {env : Ev} {i : Nat} (h : env[i]? = some (.ow (l.map R))) : callL m__law_trim (consG (varX i) nilG) env s = .ok (PL (trimQ l)) s := by
  have t := m__law_trim_eq l s hl (d := LL l) (.inr rfl)
  have f := flat_PL (trimQ l)
  simp -implicitDefEqProofs only [callL_def, consG_def, varX_def, h, nilG_def, bind_ok, List.map_cons, List.map_nil, lent_ow, List.all_cons, List.all_nil, solid_sh, Bool.and_self, if_true, t, flatOut, f]
section
variable {D M E N K kc kq : Nat} {p q : List Rat}
theorem m__law_rest_eq (hp : Pb D M p) (hq : Pb E N q) (tq : Tr q) (hqn : q ≠ []) (hz : Dz D M E N K kc kq 1990 (p.length + 1 - q.length)) (hpl : p.length ≤ 1000) (hql : q.length ≤ 1000) (s : LS) :
    m__law_rest [.sh (PL p), .sh (PL q)] s = .ok (.tuple [PL (quoQ p q), PL (restQ p q)]) s := by
  have lq := List.length_pos_iff.mpr hqn
  have hl0 := lead_ne tq hqn
  obtain ⟨L, hl, hL, hN⟩ := lead_num hq hl0
  generalize hn : p.length + 1 - q.length = n at hz
  have hpw : L.natAbs ^ n ≤ N ^ n := Nat.pow_le_pow_left hN n
  have hD : D * L.natAbs ^ n ≤ D * N ^ n := Nat.mul_le_mul_left _ hpw
  have zq : Szs kq q := hq.szs hz.a5 hz.a6
  have zl : Sz kq (lead q) := zq.get hz.a9 _
  have b2 : ((q.length : Int) == 0) = false := by rw [beq_eq_false_iff_ne]; omega
  have hlast := last_row hqn
  have hw : ∃ e e', forD (.nm 4) (drow (callG m__law_mul (consG (asSh (op2 ixD (varW 2) (op2 subD (op2 addD (varW 4) (callB lenF (consG (varW 1) nilG))) (cD (.int 1))))) (consG (asSh (callG m__law_flip (consG (asSh (op2 ixD (varW 1) (op1 negI (cD (.int 1))))) nilG))) nilG))) m__law_sub m__law_mul) (downL ((p.length : Int) - (q.length : Int)) ((p.length : Int) - (q.length : Int) - -1).toNat) [.sh (PL p), .sh (PL q), .ow (p.map R), .ow ((List.replicate n 0).map R), .un, .un] s
      = .nx [.sh (PL p), .sh (PL q), .ow ((dgo q n (List.replicate n 0) p).2.map R), .ow ((dgo q n (List.replicate n 0) p).1.map R), e, e'] s := by
    have ht : ((p.length : Int) - (q.length : Int) - -1).toNat = n := by omega
    rw [ht]
    by_cases hle : q.length ≤ p.length + 1
    · have e0 : (p.length : Int) - (q.length : Int) = (n : Int) - 1 := by omega
      rw [e0]
      exact dgo_walk (e0 := .sh (PL p)) (g1 := callG m__law_mul (consG (asSh (op2 ixD (varW 2) (op2 subD (op2 addD (varW 4) (callB lenF (consG (varW 1) nilG))) (cD (.int 1))))) (consG (asSh (callG m__law_flip (consG (asSh (op2 ixD (varW 1) (op1 negI (cD (.int 1))))) nilG))) nilG))) su_law mu_law hq hl hl0 hL hN zq hz.a9 hz.a8 hqn hql hz.a7 s (fun r f k e5 hk zr => by
            have i1 := atI_row (q := r) (n := k + q.length - 1) (by omega)
            have ec : (k : Int) + (q.length : Int) - 1 = ((k + q.length - 1 : Nat) : Int) := by omega
            have efl := m__law_flip_eq zl hl0 (by have := hz.a7; omega) s
            have e := m__law_mul_eq (zr.get hz.a8 (k + q.length - 1)) (Sz_inv zl hl0) (by have := hz.a7; omega) s
            rw [← Rat.div_def] at e
            simp -implicitDefEqProofs only [callG_def, consG_def, asSh_def, op2_def, op1_def, varW_def, cD_def, callB_def, nilG_def, List.getElem?_cons_zero, List.getElem?_cons_succ, bind_ok, lenF_tuple, lift_some, List.length_map, addD_int, subD_int, ec, ixD_list, ixD_tuple, i1, negI_int, hlast, List.all_cons, List.all_nil, solid_sh, Bool.and_self, if_true, efl, e])
          n D M (List.replicate n 0) p .un .un (by rw [List.length_replicate]; exact Nat.le_refl _) (by omega) hp (Nat.lt_of_le_of_lt hD hz.a1) hz.a2 (Nat.lt_of_le_of_lt hD hz.a3) hz.a4
    · have e0 : n = 0 := by omega
      subst e0
      exact ⟨.un, .un, rfl⟩
  obtain ⟨e, e', hw⟩ := hw
  have hlen1 : (dgo q n (List.replicate n 0) p).1.length ≤ 1000 := by rw [dgo_len1, List.length_replicate]; omega
  have hlen2 : (dgo q n (List.replicate n 0) p).2.length ≤ 1000 := by rw [dgo_len2]; omega
  have hr : rngB ((p.length : Int) - (q.length : Int)) := rngB_small (by omega) (by omega)
  have hr1 : rngB (-1) := rngB_small (by decide) (by decide)
  have hmx : maxF [.int 0, .int ((p.length : Int) - (q.length : Int) + 1)] = some (.int (max 0 ((p.length : Int) - (q.length : Int) + 1))) := rfl
  have hn2 : (max 0 ((p.length : Int) - (q.length : Int) + 1)).toNat = n := by omega
  have hrep : repL [R 0] (.int (max 0 ((p.length : Int) - (q.length : Int) + 1))) = some ((List.replicate n (0 : Rat)).map R) := by
    show (if max 0 ((p.length : Int) - (q.length : Int) + 1) < 2 ^ 62 ∧ -(2 ^ 62) < max 0 ((p.length : Int) - (q.length : Int) + 1) ∧ 1 * (max 0 ((p.length : Int) - (q.length : Int) + 1)).toNat ≤ sizeLine then some (List.replicate (max 0 ((p.length : Int) - (q.length : Int) + 1)).toNat [R 0]).flatten else none) = _
    rw [hn2, rep_zero, if_pos ⟨by omega, by omega, small_line (by omega)⟩]
  have t1 := m__law_trim_eq (dgo q n (List.replicate n 0) p).1 s hlen1 (d := LL (dgo q n (List.replicate n 0) p).1) (.inr rfl)
  have t2 := m__law_trim_eq (dgo q n (List.replicate n 0) p).2 s hlen2 (d := LL (dgo q n (List.replicate n 0) p).2) (.inr rfl)
  have q1 : trimQ (dgo q n (List.replicate n 0) p).1 = quoQ p q := by rw [quoQ, hn]
  have q2 : trimQ (dgo q n (List.replicate n 0) p).2 = restQ p q := by rw [restQ, hn]
  rw [q1] at t1
  rw [q2] at t2
  have f1 := flat_PL (quoQ p q)
  have f2 := flat_PL (restQ p q)
  unfold m__law_rest g__law_rest
  refine run_rt ?_
  show seqD _ _ [.sh (PL p), .sh (PL q), .un, .un, .un, .un] s = _
  rw [seqD_nx (e := [.sh (PL p), .sh (PL q), .ow (p.map R), .ow ((List.replicate n (0 : Rat)).map R), .un, .un]) (s1 := s) (by
    simp -implicitDefEqProofs only [par2_def, asOw_def, listG_def, repG_def, lstG_def, tupG_def, consG_def, nilG_def, cD_def, bind_ok, List.length_cons, List.length_nil, Nat.reduceAdd, if_pos line2, if_pos line1, op2_def, callB_def, varW_def, List.getElem?_cons_zero, List.getElem?_cons_succ, listF_tuple, lenF_tuple, lift_some, List.length_map, addD_int, subD_int, hmx, ← R_zero, hrep, evS_ok, List.set_cons_succ, List.set_cons_zero])]
  rw [seqD_nx (e := [.sh (PL p), .sh (PL q), .ow ((dgo q n (List.replicate n 0) p).2.map R), .ow ((dgo q n (List.replicate n 0) p).1.map R), e, e']) (s1 := s) (by
    rw [forG_def]
    have hb : -(2 ^ 62) ≤ (p.length : Int) - (q.length : Int) + 1 ∧ (p.length : Int) - (q.length : Int) + 1 ≤ 2 ^ 24 := by omega
    have hrv : revD (.list (rangeL 0 ((p.length : Int) - (q.length : Int) + 1).toNat)) = some (.list (downL ((p.length : Int) - (q.length : Int)) ((p.length : Int) - (q.length : Int) - -1).toNat)) := by
      show some (PyData.list (rangeL 0 _).reverse) = _
      have eT : downL ((((p.length : Int) - (q.length : Int) + 1).toNat : Int) - 1) ((p.length : Int) - (q.length : Int) + 1).toNat = downL ((p.length : Int) - (q.length : Int)) ((p.length : Int) - (q.length : Int) - -1).toNat := by
        have e3 : ((p.length : Int) - (q.length : Int) + 1).toNat = ((p.length : Int) - (q.length : Int) - -1).toNat := by omega
        by_cases w : q.length ≤ p.length + 1
        · have e2 : ((((p.length : Int) - (q.length : Int) + 1).toNat : Nat) : Int) - 1 = (p.length : Int) - (q.length : Int) := by omega
          rw [e2, e3]
        · have e2 : ((p.length : Int) - (q.length : Int) - -1).toNat = 0 := by omega
          rw [e3, e2]
          rfl
      rw [range_rev, eT]
    have hrg : rngF1 (op2 addD (op2 subD (callB lenF (consG (varW 0) nilG)) (callB lenF (consG (varW 1) nilG))) (cD (.int 1))) [.sh (PL p), .sh (PL q), .ow (p.map R), .ow ((List.replicate n (0 : Rat)).map R), .un, .un] s = .ok (rangeL 0 ((p.length : Int) - (q.length : Int) + 1).toNat) s := by
      have h1 : op2 addD (op2 subD (callB lenF (consG (varW 0) nilG)) (callB lenF (consG (varW 1) nilG))) (cD (.int 1)) [.sh (PL p), .sh (PL q), .ow (p.map R), .ow ((List.replicate n (0 : Rat)).map R), .un, .un] s = .ok (.int ((p.length : Int) - (q.length : Int) + 1)) s := by
        simp -implicitDefEqProofs
      unfold rngF1
      rw [h1, bind_ok]
      exact if_pos hb
    rw [itemG_def, op1_def, asLst_def, hrg, bind_ok, bind_ok, hrv, lift_some, bind_ok, listF_list, lift_some, evS_ok]
    exact hw)]
  have c1 := callL_ltrim (dgo q n (List.replicate n 0) p).1 s hlen1 (env := [.sh (PL p), .sh (PL q), .ow ((dgo q n (List.replicate n 0) p).2.map R), .ow ((dgo q n (List.replicate n 0) p).1.map R), e, e']) (i := 3) rfl
  have c2 := callL_ltrim (dgo q n (List.replicate n 0) p).2 s hlen2 (env := [.sh (PL p), .sh (PL q), .ow ((dgo q n (List.replicate n 0) p).2.map R), .ow ((dgo q n (List.replicate n 0) p).1.map R), e, e']) (i := 2) rfl
  rw [q1] at c1
  rw [q2] at c2
  rw [retD_def, tupG_def, consG_def, c1, bind_ok, consG_def, c2, bind_ok, nilG_def, bind_ok, bind_ok, bind_ok, if_pos (by simp), evS_ok]
end
end NP
end

section
set_option linter.all false
set_option autoImplicit false
namespace NP
open PySem hiding run
open DS NW
section
variable {k b : Nat} {p : List Rat} {x : Rat}
theorem m__law_slope_eq (hp : Szs k p) (hk1 : 1 ≤ k) (hz : k + 10 ≤ 1990) (hl : p.length ≤ 1000) (s : LS) : m__law_slope [.sh (PL p)] s = .ok (PL (drvQ p)) s := by
  have hr : rngB (p.length : Int) := rngB_small (by omega) (by omega)
  have hr1 : rngB 1 := rngB_small (by decide) (by decide)
  have ht1 : ((p.length : Int) - 1).toNat = p.length - 1 := by omega
  have hline : p.length - 1 ≤ sizeLine := small_line (by omega)
  have h1 := lc_range1 (i := 1) (ge := callG m__law_mul (consG (asSh (op2 ixD (varW 0) (varD 1))) (consG (asSh (tupG (consG (varD 1) (consG (cD (.int 1)) nilG)))) nilG))) (fun j => p.getD (j + 1) 0 * (((j + 1 : Nat) : Int) : Rat)) (p.length - 1) [.sh (PL p), .un] s fun j hj => by
    have i1 := atI_row (q := p) (n := j + 1) (by omega)
    have ec : 1 + (j : Int) = ((j + 1 : Nat) : Int) := by omega
    have e := m__law_mul_eq (hp.get hk1 (j + 1)) (Sz_int (n := ((j + 1 : Nat) : Int)) (k := 10) (by omega) (by decide)) hz s
    rw [R_int] at e
    rw [ec]
    simp -implicitDefEqProofs [-List.getD_eq_getElem?_getD, -Int.natCast_add, i1, e]
  have ht := m__law_trim_eq (drvR p) s (by unfold drvR; rw [List.length_map, List.length_range]; omega) (d := LL (drvR p)) (.inr rfl)
  unfold drvR at ht
  unfold m__law_slope g__law_slope
  refine run_rt ?_
  simp -implicitDefEqProofs only [List.replicate, List.length_cons, List.length_nil, List.cons_append, List.nil_append, retD_def, callG_def, consG_def, asSh_def, asLst_def, lcG_def, rng2_def, cD_def, callB_def, varW_def, nilG_def, List.getElem?_cons_zero, List.getElem?_cons_succ, bind_ok, lenF_tuple, lift_some, List.length_map, hr, hr1, and_self, if_true, ht1, rangeL_length, if_pos hline, wipeE_cons, wipeE_nil, List.set_cons_succ, List.set_cons_zero, h1, List.all_cons, List.all_nil, solid_sh, Bool.and_self, ht, evS_ok, drvQ, drvR]
theorem m_line_eq (hx : Sz b x) (hb : 1 + b ≤ 8999) (s : LS) : m_line [.sh (R x)] s = .ok (PL [-x, 1]) s := by
  have hm1 : Sz 1 (-1 : Rat) := ⟨by decide, by decide⟩
  have e := m_times_eq hm1 hx hb s
  rw [R_neg1, show (-1 : Rat) * x = -x by grind] at e
  unfold m_line g_line
  refine run_rt ?_
  simp -implicitDefEqProofs [e, R_one]
end
end NP
end

section
set_option linter.all false
set_option autoImplicit false
namespace NP
open PySem hiding run
open DS NW
/-! ## the older laws' draws -/
theorem part_ok {s : LS} (h : WFS s) {top low : Int} (ht : 0 ≤ top) (ht2 : top ≤ 1000) (hl : 1 ≤ low) (hl2 : low ≤ 1000) :
    ∃ (a b : Int) (s' : LS), m__law_part [.st, .sh (.int top), .sh (.int low)] s = .ok (R (Rat.divInt a b)) s' ∧ WFS s' ∧ a.natAbs ≤ top.natAbs ∧ 1 ≤ b ∧ b ≤ low := by
  obtain ⟨r1, s1, e1, w1, r10, r11⟩ := take_ok h (most := 2 * top + 1) (by omega) (by omega)
  obtain ⟨r2, s2, e2, w2, r20, r21⟩ := take_ok w1 (most := low) hl (by omega)
  have hm : mulD (.int 2) (.int top) = some (.int (2 * top)) := mulD_int (.inl ⟨by decide, by decide⟩)
  have hb : (1 + r2).natAbs < 2 ^ 1990 := Nat.lt_of_lt_of_le (show (1 + r2).natAbs < 2 ^ 11 by omega) (Nat.pow_le_pow_right (by decide) (by decide))
  have e3 := m__law_fr_eq (r1 - top) (1 + r2) s2 (by omega) hb
  refine ⟨r1 - top, 1 + r2, s2, ?_, w2, by omega, by omega, by omega⟩
  unfold m__law_part g__law_part
  refine run_rt ?_
  simp -implicitDefEqProofs [hm, e1, e2, e3]
/-- denominators 1, 2, 3: over 6 -/
theorem dn6 {a b : Int} {t : Nat} (ha : a.natAbs ≤ t) (h1 : 1 ≤ b) (h2 : b ≤ 3) : Dn 6 (6 * t) (Rat.divInt a b) := by
  have key : ∀ c : Int, b * c = 6 → 1 ≤ c → c ≤ 6 → Dn 6 (6 * t) (Rat.divInt a b) := fun c hc c1 c6 => by
    refine ⟨a * c, ?_, ?_⟩
    · rw [Rat.divInt_eq_div, Rat.intCast_mul]
      have hb : ((b : Int) : Rat) ≠ 0 := by exact_mod_cast (show b ≠ 0 by omega)
      have e6 : ((6 : Nat) : Rat) = (b : Rat) * (c : Rat) := by rw [← Rat.intCast_mul, hc]; rfl
      rw [e6, Rat.div_def]
      have e := Rat.inv_mul_cancel (b : Rat) hb
      have e2 : (a : Rat) * (b : Rat)⁻¹ * ((b : Rat) * (c : Rat)) = ((b : Rat)⁻¹ * (b : Rat)) * ((a : Rat) * (c : Rat)) := by grind
      rw [e2, e]
      grind
    · rw [Int.natAbs_mul, Nat.mul_comm]
      exact Nat.mul_le_mul (by omega) ha
  have : b = 1 ∨ b = 2 ∨ b = 3 := by omega
  rcases this with rfl | rfl | rfl
  · exact key 6 (by decide) (by decide) (by decide)
  · exact key 3 (by decide) (by decide) (by decide)
  · exact key 2 (by decide) (by decide) (by decide)
theorem m__law_poly_ok {s : LS} (h : WFS s) {many top : Int} (hm : 0 ≤ many) (hm2 : many ≤ 100) (ht : 0 ≤ top) (ht2 : top ≤ 1000) :
    ∃ (p : List Rat) (s' : LS), m__law_poly [.st, .sh (.int many), .sh (.int top)] s = .ok (PL p) s' ∧ WFS s' ∧ Tr p ∧ Pb 6 (6 * top.natAbs) p ∧ p.length ≤ many.toNat := by
  obtain ⟨rs, s1, e1, w1, l1, hp⟩ := lcD_draw (i := 3) (ge := callG m__law_part (consG (varX 0) (consG (varX 2) (consG (asSh (cD (.int 3))) nilG)))) WFS (fun y => ∃ q, y = R q ∧ Dn 6 (6 * top.natAbs) q) (rangeL 0 many.toNat) [.st, .sh (.int many), .sh (.int top), .un] s h (fun d _ s hs => by
    obtain ⟨a, b, s', e1, e2, e3, e4, e5⟩ := part_ok hs ht ht2 (low := 3) (by decide) (by decide)
    exact ⟨_, s', by simp -implicitDefEqProofs [e1], e2, _, rfl, dn6 e3 e4 e5⟩)
  have hrow : ∃ qs : List Rat, rs = qs.map R ∧ ∀ q ∈ qs, Dn 6 (6 * top.natAbs) q := by
    clear e1 l1
    induction rs with
    | nil => exact ⟨[], rfl, fun q h => by cases h⟩
    | cons y rs ih =>
      obtain ⟨qs, e, hq⟩ := ih fun z hz => hp z (List.mem_cons_of_mem _ hz)
      obtain ⟨q, e1, h1⟩ := hp y List.mem_cons_self
      exact ⟨q :: qs, by rw [e, e1]; rfl, fun q' hq' => by
        cases hq' with
        | head => exact h1
        | tail _ hq' => exact hq q' hq'⟩
  obtain ⟨qs, rfl, hq⟩ := hrow
  rw [List.length_map, rangeL_length] at l1
  have hr : rngB many := rngB_small (by omega) (by omega)
  have hline : many.toNat ≤ sizeLine := small_line (by omega)
  have ht := m__law_trim_eq qs s1 (by omega) (d := LL qs) (.inr rfl)
  refine ⟨trimQ qs, s1, ?_, w1, Tr.trim _, Pb.trim ⟨by decide, hq⟩, by have := trim_len qs; omega⟩
  unfold m__law_poly g__law_poly
  refine run_rt ?_
  simp -implicitDefEqProofs only [List.replicate, List.length_cons, List.length_nil, List.cons_append, List.nil_append, retD_def, callG_def, consG_def, asSh_def, asLst_def, lcG_def, rng1_def, varD_def, nilG_def, List.getElem?_cons_zero, List.getElem?_cons_succ, bind_ok, if_pos hr, rangeL_length, if_pos hline, wipeE_cons, wipeE_nil, List.set_cons_succ, List.set_cons_zero]
  rw [e1]
  simp -implicitDefEqProofs only [bind_ok, List.all_cons, List.all_nil, solid_sh, Bool.and_self, if_true, ht, evS_ok]
end NP
end

section
set_option linter.all false
set_option autoImplicit false
namespace NP
open PySem hiding run
open DS NW
def monQ (p : List Rat) : List Rat := sclQ (1 / lead p) p
theorem m_monic_eq {k : Nat} {p : List Rat} (hp : Szs k p) (hk1 : 1 ≤ k) (hk : k + k + 1 ≤ 8999) (tp : Tr p) (hl : p.length ≤ 1000) (s : LS) : m_monic [.sh (PL p)] s = .ok (PL (monQ p)) s := by
  unfold m_monic g_monic
  refine run_rt ?_
  by_cases h : p = []
  · subst h
    simp -implicitDefEqProofs [monQ, sclQ, sclR, trimQ]
  · have lp := List.length_pos_iff.mpr h
    have h0 : (0 : Int) < (p.length : Int) := by omega
    have hl0 := lead_ne tp h
    have zl := hp.get hk1 (p.length - 1)
    have e1 := m_over_eq Sz_one (show Sz k (lead p) from zl) hl0 (by omega) s
    have zi : Sz k (1 / lead p) := by
      rw [Rat.div_def, Rat.one_mul]
      exact Sz_inv zl hl0
    have e2 := m_scaled_eq hp zi (by omega) hl s
    have hla := last_row h
    rw [R_one] at e1
    simp -implicitDefEqProofs [h0, lp, hla, e1, e2, monQ]
end NP
end

section
set_option linter.all false
set_option autoImplicit false
namespace NP
open PySem hiding run
open DS NW
/-! ## rows with sizes in bits -/
/-- a row of parts, all over one denominator, of less than a bits -/
def Bt (a : Nat) (p : List Rat) : Prop := ∃ d m, Pb d m p ∧ d < 2 ^ a ∧ m < 2 ^ a
section
variable {a b c : Nat} {p q : List Rat}
theorem Bt.mono (h : Bt a p) (hb : a ≤ b) : Bt b p := by
  obtain ⟨d, m, h1, h2, h3⟩ := h
  have := Nat.pow_le_pow_right (n := 2) (by decide) hb
  exact ⟨d, m, h1, by omega, by omega⟩
theorem Bt.szs (h : Bt a p) : Szs a p := by
  obtain ⟨d, m, h1, h2, h3⟩ := h
  exact h1.szs h2 h3
theorem Bt.trim (h : Bt a p) : Bt a (trimQ p) := by
  obtain ⟨d, m, h1, h2, h3⟩ := h
  exact ⟨d, m, h1.trim, h2, h3⟩
theorem Bt.pos (h : Bt a p) : 1 ≤ a := by
  obtain ⟨d, m, h1, h2, h3⟩ := h
  have := h1.nz
  rcases Nat.eq_zero_or_pos a with rfl | h
  · simp at h2; omega
  · exact h
theorem Bt.nil : Bt 1 [] := ⟨1, 0, ⟨by decide, fun c h => by cases h⟩, by decide, by decide⟩
theorem Dn.one : Dn 1 1 1 := ⟨1, by simp, by decide⟩
theorem Bt.one : Bt 1 [1] := ⟨1, 1, ⟨by decide, fun c h => by rw [List.mem_singleton.mp h]; exact Dn.one⟩, by decide, by decide⟩
theorem lt_mul2 {x y : Nat} (h : x < 2 ^ a) (h' : y < 2 ^ b) : x * y < 2 ^ (a + b) := by
  rw [Nat.pow_add]
  exact Nat.mul_lt_mul'' h h'
theorem le_mul2 {x y : Nat} (h : x < 2 ^ a) (h' : y ≤ 2 ^ b) : x * y < 2 ^ (a + b) := by
  rw [Nat.pow_add]
  exact Nat.lt_of_le_of_lt (Nat.mul_le_mul_left _ h') (Nat.mul_lt_mul_of_pos_right h (Nat.pow_pos (by decide)))
theorem Bt.mul (hp : Bt a p) (hq : Bt b q) (hl : p.length ≤ 2 ^ c) : Bt (a + b + c) (mulQ p q) := by
  obtain ⟨d, m, h1, h2, h3⟩ := hp
  obtain ⟨d', m', h1', h2', h3'⟩ := hq
  have e1 := lt_mul2 h2 h2'
  have e2 := lt_mul2 h3 h3'
  have e3 := le_mul2 e2 hl
  have := Nat.pow_le_pow_right (n := 2) (by decide) (show a + b ≤ a + b + c by omega)
  exact ⟨d * d', p.length * (m * m'), h1.mulQ h1', by omega, by rw [Nat.mul_comm]; exact e3⟩
theorem Bt.add (hp : Bt a p) (hq : Bt b q) : Bt (a + b + 1) (addQ p q) := by
  obtain ⟨d, m, h1, h2, h3⟩ := hp
  obtain ⟨d', m', h1', h2', h3'⟩ := hq
  have e1 := lt_mul2 h2 h2'
  have e2 := lt_mul2 h3 h2'
  have e3 := lt_mul2 h3' h2
  have e4 := Nat.add_comm b a
  rw [e4] at e3
  refine ⟨d * d', m * d' + m' * d, Pb.trim ⟨Nat.mul_ne_zero h1.nz h1'.nz, Dn.addR (fun c hc => (h1.dn c hc).scale d') fun c hc => ?_⟩, ?_, ?_⟩
  · have := (h1'.dn c hc).scale d
    rwa [Nat.mul_comm d' d] at this
  · rw [Nat.pow_succ]; omega
  · rw [Nat.pow_succ]; omega
theorem Dn_self (q : Rat) : Dn q.den q.num.natAbs q := by
  refine ⟨q.num, ?_, Nat.le_refl _⟩
  have h0 : ((q.den : Nat) : Rat) ≠ 0 := by exact_mod_cast q.den_nz
  have e := Rat.num_divInt_den q
  rw [Rat.divInt_eq_div] at e
  have : (q.num : Rat) / ((q.den : Int) : Rat) * (q.den : Rat) = q.num := by
    rw [Rat.div_def, Rat.mul_assoc]
    have e1 : ((q.den : Int) : Rat) = ((q.den : Nat) : Rat) := by norm_cast
    rw [e1, Rat.inv_mul_cancel _ h0, Rat.mul_one]
  rw [e] at this
  exact this
theorem Bt.scl {z : Rat} (hp : Bt a p) (hc : Sz b z) : Bt (a + b) (sclQ z p) := by
  obtain ⟨d, m, h1, h2, h3⟩ := hp
  refine ⟨d * z.den, m * z.num.natAbs, Pb.trim ⟨Nat.mul_ne_zero h1.nz z.den_nz, fun c hc => ?_⟩, lt_mul2 h2 hc.2, lt_mul2 h3 hc.1⟩
  obtain ⟨y, hy, rfl⟩ := List.mem_map.mp hc
  exact (h1.dn y hy).mul (Dn_self z)
theorem Sz_neg1 : Sz 1 (-1 : Rat) := ⟨by decide, by decide⟩
theorem Bt.sub (hp : Bt a p) (hq : Bt b q) : Bt (a + b + 2) (subP p q) := (hp.add (hq.scl Sz_neg1)).mono (by omega)
/-! ### divisions -/
theorem pow_bits {N : Nat} (h : N < 2 ^ b) (n : Nat) : N ^ n ≤ 2 ^ (n * b) := by
  rw [Nat.mul_comm, Nat.pow_mul]
  exact Nat.pow_le_pow_left (by omega) n
section
variable {D M E N : Nat} {L : Int}
theorem dgo_pb (hq : Pb E N q) (hl : lead q * (E : Rat) = (L : Rat)) (hl0 : lead q ≠ 0) (hL : L ≠ 0) (hN : L.natAbs ≤ N) : ∀ (k D M : Nat) (f r : List Rat), Pb D M r →
    (∀ c ∈ f, Dn (D * L.natAbs ^ k) (M * (2 * N) ^ k * E) c) → Pb (D * L.natAbs ^ k) (M * (2 * N) ^ k) (dgo q k f r).2 ∧ ∀ c ∈ (dgo q k f r).1, Dn (D * L.natAbs ^ k) (M * (2 * N) ^ k * E) c
  | 0, D, M, f, r, hr, hf => ⟨by rw [Nat.pow_zero, Nat.pow_zero, Nat.mul_one, Nat.mul_one]; exact hr, hf⟩
  | k + 1, D, M, f, r, hr, hf => by
    have eD : D * L.natAbs ^ (k + 1) = D * L.natAbs * L.natAbs ^ k := by rw [Nat.pow_succ, Nat.mul_comm (L.natAbs ^ k), ← Nat.mul_assoc]
    have eM : M * (2 * N) ^ (k + 1) = 2 * (M * N) * (2 * N) ^ k := by
      rw [Nat.pow_succ, Nat.mul_comm ((2 * N) ^ k), ← Nat.mul_assoc, ← Nat.mul_assoc M 2 N, Nat.mul_comm M 2, Nat.mul_assoc 2 M N]
    rw [eD, eM] at hf ⊢
    have ha := hr.get (k + q.length - 1)
    refine dgo_pb hq hl hl0 hL hN k (D * L.natAbs) (2 * (M * N)) _ _ (Pb.subAt hr ha hq hl hl0 hL hN k _) fun c hc => ?_
    rcases mem_set' hc with hc | rfl
    · exact hf c hc
    · have h1 := (ha.coef (N := N) hl hl0 hL).scale (L.natAbs ^ k)
      refine h1.mono ?_
      have h2 : L.natAbs ^ k ≤ (2 * N) ^ k := Nat.pow_le_pow_left (by omega) k
      have h3 : M * E * L.natAbs ^ k ≤ M * E * (2 * N) ^ k := Nat.mul_le_mul_left _ h2
      have hNp : 1 ≤ N := by have := Int.natAbs_ne_zero.mpr hL; omega
      have h4 : M ≤ 2 * (M * N) := by
        have := Nat.le_mul_of_pos_right M hNp
        omega
      have h5 : M * E * (2 * N) ^ k = M * (2 * N) ^ k * E := by rw [Nat.mul_assoc, Nat.mul_comm E, ← Nat.mul_assoc]
      have h6 : M * (2 * N) ^ k * E ≤ 2 * (M * N) * (2 * N) ^ k * E := Nat.mul_le_mul_right _ (Nat.mul_le_mul_right _ h4)
      omega
end
theorem Bt.div (hp : Bt a p) (hq : Bt b q) (tq : Tr q) (hqn : q ≠ []) : Bt (a + (p.length + 1 - q.length) * (b + 1)) (restQ p q) ∧ Bt (a + (p.length + 1 - q.length) * (b + 1) + b) (quoQ p q) := by
  obtain ⟨D, M, h1, h2, h3⟩ := hp
  obtain ⟨E, N, h1', h2', h3'⟩ := hq
  have hl0 := lead_ne tq hqn
  obtain ⟨L, hl, hL, hN⟩ := lead_num h1' hl0
  unfold restQ quoQ
  generalize p.length + 1 - q.length = n
  obtain ⟨k1, k2⟩ := dgo_pb h1' hl hl0 hL hN n D M (List.replicate n 0) p h1 fun c hc => by rw [List.eq_of_mem_replicate hc]; exact Dn.zero _ _
  have b1 : D * L.natAbs ^ n < 2 ^ (a + n * (b + 1)) := le_mul2 h2 (pow_bits (Nat.lt_of_le_of_lt hN (by rw [Nat.pow_succ]; omega)) n)
  have b2 : M * (2 * N) ^ n < 2 ^ (a + n * (b + 1)) := le_mul2 h3 (pow_bits (by rw [Nat.pow_succ]; omega) n)
  have b3 := lt_mul2 b2 h2'
  have b4 := Nat.pow_le_pow_right (n := 2) (by decide) (show a + n * (b + 1) ≤ a + n * (b + 1) + b by omega)
  exact ⟨⟨_, _, k1.trim, b1, b2⟩, _, _, Pb.trim ⟨k1.nz, k2⟩, by omega, b3⟩
theorem Dz_bits {D M E N n B : Nat} (h2 : D < 2 ^ a) (h3 : M < 2 ^ a) (h2' : E < 2 ^ b) (h3' : N < 2 ^ b) (a1 : 1 ≤ a) (b1 : 1 ≤ b) (hB : 2 * (a + n * (b + 1) + b) ≤ B) : Dz D M E N (a + n * (b + 1)) (a + n * (b + 1) + b) b B n := by
  have b1' : D * N ^ n < 2 ^ (a + n * (b + 1)) := le_mul2 h2 (pow_bits (by rw [Nat.pow_succ]; omega) n)
  have b2 : M * (2 * N) ^ n < 2 ^ (a + n * (b + 1)) := le_mul2 h3 (pow_bits (by rw [Nat.pow_succ]; omega) n)
  have b3 := lt_mul2 b2 h2'
  have b4 := Nat.pow_le_pow_right (n := 2) (by decide) (show a + n * (b + 1) ≤ a + n * (b + 1) + b by omega)
  exact ⟨b1', b2, by omega, b3, h2', h3', by omega, by omega, b1⟩
theorem div_ok (hp : Bt a p) (hq : Bt b q) (tq : Tr q) (hqn : q ≠ []) (hz : 2 * (a + (p.length + 1 - q.length) * (b + 1) + b) ≤ 8999) (hpl : p.length ≤ 1000) (hql : q.length ≤ 1000) (s : LS) :
    m_divided [.sh (PL p), .sh (PL q)] s = .ok (.tuple [PL (quoQ p q), PL (restQ p q)]) s := by
  have p1 := hp.pos
  have q1 := hq.pos
  obtain ⟨D, M, h1, h2, h3⟩ := hp
  obtain ⟨E, N, h1', h2', h3'⟩ := hq
  exact m_divided_eq h1 h1' tq hqn (Dz_bits h2 h3 h2' h3' p1 q1 hz) hpl hql s
theorem lrest_ok (hp : Bt a p) (hq : Bt b q) (tq : Tr q) (hqn : q ≠ []) (hz : 2 * (a + (p.length + 1 - q.length) * (b + 1) + b) ≤ 1990) (hpl : p.length ≤ 1000) (hql : q.length ≤ 1000) (s : LS) :
    m__law_rest [.sh (PL p), .sh (PL q)] s = .ok (.tuple [PL (quoQ p q), PL (restQ p q)]) s := by
  have p1 := hp.pos
  have q1 := hq.pos
  obtain ⟨D, M, h1, h2, h3⟩ := hp
  obtain ⟨E, N, h1', h2', h3'⟩ := hq
  exact m__law_rest_eq h1 h1' tq hqn (Dz_bits h2 h3 h2' h3' p1 q1 hz) hpl hql s
theorem prod_ok (hp : Bt a p) (hq : Bt b q) (hl : p.length * q.length ≤ 2 ^ c) (hz : 2 * (a + b) + c ≤ 8999) (hp0 : p.length ≤ 1000) (hq0 : q.length ≤ 1000) (s : LS) :
    m_product [.sh (PL p), .sh (PL q)] s = .ok (PL (mulQ p q)) s := by
  obtain ⟨d, m, h1, h2, h3⟩ := hp
  obtain ⟨d', m', h1', h2', h3'⟩ := hq
  have e1 := lt_mul2 h2 h2'
  have e2 := le_mul2 (lt_mul2 h3 h3') hl
  have := Nat.pow_le_pow_right (n := 2) (by decide) (show a + b ≤ a + b + c by omega)
  exact m_product_eq h1 h1' ⟨h2, h3⟩ ⟨h2', h3'⟩ (K := a + b + c) (by omega) (by omega) (by rw [Nat.mul_comm]; exact e2) hp0 hq0 s
theorem ltimes_ok (hp : Bt a p) (hq : Bt b q) (hl : p.length * q.length ≤ 2 ^ c) (hz : 2 * (a + b) + c ≤ 1990) (hp0 : p.length ≤ 400) (hq0 : q.length ≤ 400) (s : LS) :
    m__law_times [.sh (PL p), .sh (PL q)] s = .ok (PL (mulQ p q)) s := by
  obtain ⟨d, m, h1, h2, h3⟩ := hp
  obtain ⟨d', m', h1', h2', h3'⟩ := hq
  have e1 := lt_mul2 h2 h2'
  have e2 := le_mul2 (lt_mul2 h3 h3') hl
  have := Nat.pow_le_pow_right (n := 2) (by decide) (show a + b ≤ a + b + c by omega)
  exact m__law_times_eq h1 h1' ⟨h2, h3⟩ ⟨h2', h3'⟩ (K := a + b + c) (by omega) (by omega) (by rw [Nat.mul_comm]; exact e2) hp0 hq0 s
theorem add_ok (hp : Bt a p) (hq : Bt b q) (hz : a + b ≤ 8999) (hpl : p.length ≤ 1000) (hql : q.length ≤ 1000) (s : LS) : m_added [.sh (PL p), .sh (PL q)] s = .ok (PL (addQ p q)) s :=
  m_added_eq hp.szs hq.szs hp.pos hq.pos hz hpl hql s
theorem less_ok (hp : Bt a p) (hq : Bt b q) (hz : a + b + 1 ≤ 8999) (hpl : p.length ≤ 1000) (hql : q.length ≤ 1000) (s : LS) : m_less [.sh (PL p), .sh (PL q)] s = .ok (PL (subP p q)) s :=
  m_less_eq hp.szs hq.szs hp.pos hq.pos (by omega) hpl hql s
/-! ### lengths -/
theorem addR_len : ∀ x y : List Rat, (addR x y).length = max x.length y.length
  | [], y => by rw [addR]; simp
  | c :: x, [] => by rw [addR_nil]; simp
  | c :: x, d :: y => by
    have := addR_len x y
    rw [addR, List.length_cons, this, List.length_cons, List.length_cons]; omega
theorem addR_get : ∀ (x y : List Rat) (i : Nat), (addR x y).getD i 0 = x.getD i 0 + y.getD i 0
  | [], y, i => by
    show y.getD i 0 = 0 + y.getD i 0
    grind
  | c :: x, [], i => by
    rw [addR_nil]
    show _ = _ + 0
    grind
  | c :: x, d :: y, 0 => rfl
  | c :: x, d :: y, i + 1 => addR_get x y i
theorem sclR_get (z : Rat) : ∀ (x : List Rat) (i : Nat), (sclR z x).getD i 0 = x.getD i 0 * z
  | [], i => by
    show 0 = 0 * z
    grind
  | c :: x, 0 => rfl
  | c :: x, i + 1 => sclR_get z x i
theorem mulR_len (hq : q ≠ []) : ∀ p : List Rat, p ≠ [] → (mulR p q).length = p.length + q.length - 1
  | [], h => absurd rfl h
  | [a], _ => by
    have := List.length_pos_iff.mpr hq
    rw [mulR, addR_len, sclR, List.length_map]
    show max q.length 1 = 1 + q.length - 1
    omega
  | a :: b :: p, _ => by
    have := List.length_pos_iff.mpr hq
    have ih := mulR_len hq (b :: p) (by simp)
    rw [mulR, addR_len, sclR, List.length_map, List.length_cons, ih]
    simp only [List.length_cons]
    omega
theorem get_none {l : List Rat} {i : Nat} (h : l.length ≤ i) : l.getD i 0 = 0 := by
  rw [List.getD_eq_getElem?_getD, List.getElem?_eq_none_iff.mpr h]; rfl
theorem mulR_lead (hq : q ≠ []) : ∀ p : List Rat, p ≠ [] → (mulR p q).getD (p.length + q.length - 2) 0 = lead p * lead q
  | [], h => absurd rfl h
  | [a], _ => by
    have := List.length_pos_iff.mpr hq
    rw [mulR, addR_get, sclR_get]
    have e : [a].length + q.length - 2 = q.length - 1 := by simp; omega
    have e2 : (0 :: mulR [] q).getD (q.length - 1) 0 = 0 := by
      show [(0 : Rat)].getD (q.length - 1) 0 = 0
      rcases Nat.eq_zero_or_pos (q.length - 1) with h | h
      · rw [h]; rfl
      · exact get_none (by simp; omega)
    rw [e, e2]
    show lead q * a + 0 = a * lead q
    grind
  | a :: b :: p, _ => by
    have := List.length_pos_iff.mpr hq
    have ih := mulR_lead hq (b :: p) (by simp)
    have e : (a :: b :: p).length + q.length - 2 = (b :: p).length + q.length - 2 + 1 := by simp only [List.length_cons]; omega
    have e3 : lead (a :: b :: p) = lead (b :: p) := rfl
    rw [mulR, addR_get, sclR_get, e, get_none (l := q) (by simp only [List.length_cons]; omega), e3, ← ih]
    show 0 * a + (mulR (b :: p) q).getD ((b :: p).length + q.length - 2) 0 = _
    grind
theorem mulQ_len (tp : Tr p) (tq : Tr q) (hp : p ≠ []) (hq : q ≠ []) : (mulQ p q).length = p.length + q.length - 1 := by
  have l1 := List.length_pos_iff.mpr hp
  have l2 := List.length_pos_iff.mpr hq
  have hl := mulR_len hq p hp
  have hd := mulR_lead hq p hp
  have h0 : lead p * lead q ≠ 0 := fun z => by
    rcases Rat.mul_eq_zero.mp z with h | h
    · exact lead_ne tp hp h
    · exact lead_ne tq hq h
  have ht : Tr (mulR p q) := Tr.iff.mpr fun hne => by
    rw [List.getLast_eq_getElem]
    rw [← hd, List.getD_eq_getElem?_getD, List.getElem?_eq_getElem (by omega)] at h0
    have e : (mulR p q).length - 1 = p.length + q.length - 2 := by omega
    simpa [e] using h0
  have e : mulQ p q = mulR p q := ht
  rw [e, hl]
theorem mulQ_nil_left (q : List Rat) : mulQ [] q = [] := rfl
theorem mulQ_nil_right (p : List Rat) : mulQ p [] = [] := Tr.eq (Tr.mulQ _ _) Tr.nil fun x => by rw [ev_mulQ, ev_nil]; grind
theorem mulQ_len_le (p q : List Rat) : (mulQ p q).length ≤ p.length + q.length - 1 := by
  by_cases hp : p = []
  · subst hp; rw [mulQ_nil_left]; simp
  · by_cases hq : q = []
    · subst hq; rw [mulQ_nil_right]; simp
    · rw [← mulR_len hq p hp]; exact trim_len _
theorem addQ_len_le (p q : List Rat) : (addQ p q).length ≤ max p.length q.length := by
  rw [← addR_len]; exact trim_len _
theorem subP_len_le (p q : List Rat) : (subP p q).length ≤ max p.length q.length := by
  have h1 := addQ_len_le p (sclQ (-1) q)
  have h2 := sclQ_len (-1) q
  unfold subP
  omega
theorem quoQ_len (p q : List Rat) : (quoQ p q).length ≤ p.length + 1 - q.length := by
  have := trim_len (dgo q (p.length + 1 - q.length) (List.replicate (p.length + 1 - q.length) 0) p).1
  rw [dgo_len1, List.length_replicate] at this
  exact this
theorem Tr.rest (p q : List Rat) : Tr (restQ p q) := Tr.trim _
theorem Tr.quo (p q : List Rat) : Tr (quoQ p q) := Tr.trim _
theorem Tr.subP (p q : List Rat) : Tr (subP p q) := Tr.trim _
theorem Tr.one : Tr [1] := by rw [Tr, trim_cons, trim_nil]; simp
theorem Tr.scl {z : Rat} (hz : z ≠ 0) (hp : Tr p) : Tr (sclR z p) := Tr.iff.mpr fun h => by
  have hp0 : p ≠ [] := fun e => h (by rw [e]; rfl)
  have := Tr.iff.mp hp hp0
  have el : (sclR z p).getLast h = p.getLast hp0 * z := List.getLast_map (f := fun a => a * z) (by simpa using hp0)
  rw [el]
  intro e
  rcases Rat.mul_eq_zero.mp e with e | e
  · exact this e
  · exact hz e
theorem sclQ_eq {z : Rat} (hz : z ≠ 0) (hp : Tr p) : sclQ z p = sclR z p := Tr.scl hz hp
/-! ### divisors -/
def Dv (t p : List Rat) : Prop := ∃ u : List Rat, ∀ x, ev p x = ev t x * ev u x
theorem Dv.len {t : List Rat} (h : Dv t p) (tt : Tr t) (tp : Tr p) (hp : p ≠ []) : t.length ≤ p.length := by
  obtain ⟨u, hu⟩ := h
  have e : mulQ t (trimQ u) = p := Tr.eq (Tr.mulQ _ _) tp fun x => by rw [ev_mulQ, ev_trim, hu]
  by_cases h1 : t = []
  · subst h1; simp
  · by_cases h2 : trimQ u = []
    · rw [h2, mulQ_nil_right] at e
      exact absurd e.symm hp
    · have l2 := List.length_pos_iff.mpr h2
      have := mulQ_len tt (Tr.trim u) h1 h2
      rw [e] at this
      omega
theorem Dv.rest {t : List Rat} (h : Dv t p) (h' : Dv t q) (tq : Tr q) (hq : q ≠ []) : Dv t (restQ p q) := by
  obtain ⟨u, hu⟩ := h
  obtain ⟨v, hv⟩ := h'
  obtain ⟨h1, -⟩ := div_spec (p := p) hq tq
  refine ⟨subP u (mulQ (quoQ p q) v), fun x => ?_⟩
  have := h1 x
  rw [ev_subP, ev_mulQ]
  have e1 := hu x
  have e2 := hv x
  grind
theorem Dv.one (p : List Rat) : Dv [1] p := ⟨p, fun x => by rw [ev_cons, ev_nil]; grind⟩
end
end NP
end

section
set_option linter.all false
set_option autoImplicit false
namespace NP
open PySem hiding run
open DS NW
/-! ## Euclid's chain -/
def gcdQ : Nat → List Rat → List Rat → List Rat
  | 0, p, _ => p
  | n + 1, p, q => if q = [] then p else gcdQ n q (restQ p q)
/-- the sizes of a chain -/
def Ch (B A : Nat) : Nat → List Rat → List Rat → Prop
  | 0, p, q => q = [] ∧ Bt A p
  | n + 1, p, q => (q = [] ∧ Bt A p) ∨ (q ≠ [] ∧ p.length ≤ 100 ∧ q.length ≤ 100 ∧ (∃ a b, Bt a p ∧ Bt b q ∧ 2 * (a + (p.length + 1 - q.length) * (b + 1) + b) ≤ B) ∧ Ch B A n q (restQ p q))
def okC (B A t : Nat) : Nat → Nat → Nat → Nat → Nat → Bool
  | 0, _, lq, a, _ => lq == 0 && decide (a ≤ A)
  | f + 1, lp, lq, a, b => (lq == 0 && decide (a ≤ A)) || (lq != 0 && decide (lp ≤ 100) && decide (lq ≤ 100) && decide (2 * (a + (lp + 1 - lq) * (b + 1) + b) ≤ B) && (List.range lq).all fun lr => (lr != 0 && decide (lr < t)) || okC B A t f lq lr b (a + (lp + 1 - lq) * (b + 1)))
theorem okC_succ (B A t f lp lq a b : Nat) : okC B A t (f + 1) lp lq a b = ((lq == 0 && decide (a ≤ A)) || (lq != 0 && decide (lp ≤ 100) && decide (lq ≤ 100) && decide (2 * (a + (lp + 1 - lq) * (b + 1) + b) ≤ B) && (List.range lq).all fun lr => (lr != 0 && decide (lr < t)) || okC B A t f lq lr b (a + (lp + 1 - lq) * (b + 1)))) := rfl
theorem okC_ch {B A : Nat} {t : List Rat} (tt : Tr t) : ∀ (n a b : Nat) (p q : List Rat), Tr q → Bt a p → Bt b q → Dv t p → Dv t q → okC B A t.length n p.length q.length a b = true → Ch B A n p q
  | 0, a, b, p, q, tq, hp, hq, dp, dq, h => by
    unfold okC at h
    rw [Bool.and_eq_true, beq_iff_eq, decide_eq_true_iff] at h
    exact ⟨List.eq_nil_of_length_eq_zero h.1, hp.mono h.2⟩
  | n + 1, a, b, p, q, tq, hp, hq, dp, dq, h => by
    rw [okC_succ, Bool.or_eq_true] at h
    rcases h with h | h
    · rw [Bool.and_eq_true, beq_iff_eq, decide_eq_true_iff] at h
      exact .inl ⟨List.eq_nil_of_length_eq_zero h.1, hp.mono h.2⟩
    · simp only [Bool.and_eq_true, decide_eq_true_iff, bne_iff_ne] at h
      obtain ⟨⟨⟨⟨h1, h2⟩, h3⟩, h4⟩, h5⟩ := h
      have hqn : q ≠ [] := fun e => h1 (by rw [e]; rfl)
      obtain ⟨-, hlt⟩ := div_spec (p := p) hqn tq
      refine .inr ⟨hqn, h2, h3, ⟨a, b, hp, hq, h4⟩, ?_⟩
      have h6 := List.all_eq_true.mp h5 _ (List.mem_range.mpr hlt)
      have dr := Dv.rest dp dq tq hqn
      have hr := (hp.div hq tq hqn).1
      rw [Bool.or_eq_true] at h6
      rcases h6 with h6 | h6
      · simp only [Bool.and_eq_true, decide_eq_true_iff, bne_iff_ne] at h6
        have hrn : restQ p q ≠ [] := fun e => h6.1 (by rw [e]; rfl)
        have := dr.len tt (Tr.rest p q) hrn
        omega
      · exact okC_ch tt n b _ q (restQ p q) (Tr.rest p q) hq hr dq dr h6
theorem Ch.mono {B B' A A' : Nat} (hB : B ≤ B') (hA : A ≤ A') : ∀ {n : Nat} {p q : List Rat}, Ch B A n p q → Ch B' A' n p q
  | 0, p, q, h => ⟨h.1, h.2.mono hA⟩
  | n + 1, p, q, h => by
    rcases h with h | ⟨h1, h2, h3, ⟨a, b, h4, h5, h6⟩, h7⟩
    · exact .inl ⟨h.1, h.2.mono hA⟩
    · exact .inr ⟨h1, h2, h3, ⟨a, b, h4, h5, Nat.le_trans h6 hB⟩, Ch.mono hB hA h7⟩
theorem Ch.gcd {B A : Nat} : ∀ {n : Nat} {p q : List Rat}, Ch B A n p q → Bt A (gcdQ n p q)
  | 0, p, q, h => h.2
  | n + 1, p, q, h => by
    rcases h with h | h
    · rw [gcdQ, if_pos h.1]; exact h.2
    · rw [gcdQ, if_neg h.1]; exact h.2.2.2.2.gcd
theorem gcd_Tr : ∀ (n : Nat) (p q : List Rat), Tr p → Tr q → Tr (gcdQ n p q)
  | 0, p, q, hp, _ => hp
  | n + 1, p, q, hp, hq => by
    rw [gcdQ]
    split
    · exact hp
    · exact gcd_Tr n q _ hq (Tr.rest p q)
theorem gcd_ne : ∀ (n : Nat) (p q : List Rat), p ≠ [] ∨ q ≠ [] → q.length ≤ n → Tr q → gcdQ n p q ≠ []
  | 0, p, q, h, hl, _ => by
    have : q = [] := List.eq_nil_of_length_eq_zero (by omega)
    exact h.resolve_right fun z => z this
  | n + 1, p, q, h, hl, tq => by
    rw [gcdQ]
    split
    · rename_i hq
      exact h.resolve_right fun z => z hq
    · rename_i hq
      have := (div_spec (p := p) hq tq).2
      exact gcd_ne n q _ (.inl hq) (by omega) (Tr.rest p q)
/-- it divides both -/
theorem gcd_dv : ∀ (n : Nat) (p q : List Rat), q.length ≤ n → Tr q → Dv (gcdQ n p q) p ∧ Dv (gcdQ n p q) q
  | 0, p, q, hl, _ => by
    have : q = [] := List.eq_nil_of_length_eq_zero (by omega)
    subst this
    exact ⟨⟨[1], fun x => by rw [gcdQ, ev_cons, ev_nil]; grind⟩, ⟨[], fun x => by rw [ev_nil]; grind⟩⟩
  | n + 1, p, q, hl, tq => by
    rw [gcdQ]
    split
    · rename_i hq
      subst hq
      exact ⟨⟨[1], fun x => by rw [ev_cons, ev_nil]; grind⟩, ⟨[], fun x => by rw [ev_nil]; grind⟩⟩
    · rename_i hq
      obtain ⟨h1, h2⟩ := div_spec (p := p) hq tq
      obtain ⟨⟨u, hu⟩, ⟨v, hv⟩⟩ := gcd_dv n q (restQ p q) (by omega) (Tr.rest p q)
      refine ⟨⟨addQ (mulQ (quoQ p q) u) v, fun x => ?_⟩, ⟨u, hu⟩⟩
      have e1 := h1 x
      have e2 := hu x
      have e3 := hv x
      rw [ev_addQ, ev_mulQ]
      grind
/-- at a common root it is 0 -/
theorem gcd_root : ∀ (n : Nat) (p q : List Rat) (r : Rat), Tr q → ev p r = 0 → ev q r = 0 → ev (gcdQ n p q) r = 0
  | 0, p, q, r, _, h, _ => h
  | n + 1, p, q, r, tq, h, h' => by
    rw [gcdQ]
    split
    · exact h
    · rename_i hq
      refine gcd_root n q _ r (Tr.rest p q) h' ?_
      have := (div_spec (p := p) hq tq).1 r
      rw [h, h'] at this
      grind
/-! ### the program's chain -/
abbrev cc : Ev → LS → Out Bool := tst2 gtD (callB lenF (consG (varW 1) nilG)) (cD (.int 0))
noncomputable abbrev cb : Ev → LS → SOut := par2 0 1 (asSh (varD 1)) (asSh (op2 ixD (callG m_divided (consG (varX 0) (consG (varX 1) nilG))) (cD (.int 1))))
theorem ix1 (a b : D) : ixD (.tuple [a, b]) (.int 1) = some b := rfl
theorem ix0 (a b : D) : ixD (.tuple [a, b]) (.int 0) = some a := rfl
theorem len_pos {q : List Rat} (h : q ≠ []) : gtD (.int (q.length : Int)) (.int 0) = some (.bool true) := by
  have := List.length_pos_iff.mpr h
  have h0 : (0 : Int) < (q.length : Int) := by omega
  simp only [gtD_int, h0, decide_true]
theorem common_while {A : Nat} (s : LS) : ∀ (n : Nat) (p q : List Rat), Ch 8999 A n p q → Tr p → Tr q → ∀ m, q.length < m → whileD cc cb m [.sh (PL p), .sh (PL q)] s = .nx [.sh (PL (gcdQ n p q)), .sh (PL [])] s := by
  have stop : ∀ (p : List Rat) m, whileD cc cb (m + 1) [.sh (PL p), .sh (PL [])] s = .nx [.sh (PL p), .sh (PL [])] s := fun p m => by
    rw [whileD_succ]
    simp -implicitDefEqProofs
  intro n
  induction n with
  | zero =>
    intro p q h tp tq m hm
    obtain ⟨rfl, -⟩ := h
    match m, hm with
    | m + 1, _ => exact stop p m
  | succ n ih =>
    intro p q h tp tq m hm
    match m, hm with
    | m + 1, hm =>
      rcases h with ⟨rfl, -⟩ | ⟨h1, h2, h3, ⟨a, b, h4, h5, h6⟩, h7⟩
      · rw [gcdQ, if_pos rfl]
        exact stop p m
      · have hlt := (div_spec (p := p) h1 tq).2
        have e := div_ok h4 h5 tq h1 h6 (by omega) (by omega) s
        have hl := len_pos h1
        rw [whileD_succ, gcdQ, if_neg h1]
        have c1 : cc [.sh (PL p), .sh (PL q)] s = .ok true s := by
          simp -implicitDefEqProofs only [cc, tst2_def, op2_def, callB_def, consG_def, nilG_def, varW_def, cD_def, List.getElem?_cons_zero, List.getElem?_cons_succ, bind_ok, lenF_tuple, lift_some, List.length_map, hl, asB_bool]
        have c2 : cb [.sh (PL p), .sh (PL q)] s = .nx [.sh (PL q), .sh (PL (restQ p q))] s := by
          simp -implicitDefEqProofs only [cb, par2_def, asSh_def, varD_def, List.getElem?_cons_zero, List.getElem?_cons_succ, bind_ok, evS_ok, op2_def, callG_def, consG_def, varX_def, nilG_def, cD_def, List.all_cons, List.all_nil, solid_sh, Bool.and_self, if_true, e, ix1, lift_some, List.set_cons_zero, List.set_cons_succ]
        rw [c1, evS_ok, if_pos rfl, c2]
        exact ih q (restQ p q) h7 tq (Tr.rest p q) m (by omega)
theorem m_common_eq {A n : Nat} {p q : List Rat} (h : Ch 8999 A n p q) (tp : Tr p) (tq : Tr q) (hA : A + A + 1 ≤ 8999) (hl : (gcdQ n p q).length ≤ 1000) (s : LS) : m_common [.sh (PL p), .sh (PL q)] s = .ok (PL (monQ (gcdQ n p q))) s := by
  have hw := common_while s n p q h tp tq (q.length + 1) (Nat.lt_succ_self _)
  have e := m_monic_eq h.gcd.szs h.gcd.pos hA (gcd_Tr n p q tp tq) hl s
  have hf : fu_common_1 [.sh (PL p), .sh (PL q)] s = q.length + 1 := by
    show (q.map R).length + 1 = _
    rw [List.length_map]
  unfold m_common g_common
  refine run_rt ?_
  show seqD _ _ [.sh (PL p), .sh (PL q)] s = _
  rw [seqD_nx (e := [.sh (PL (gcdQ n p q)), .sh (PL [])]) (s1 := s) (by rw [whileG_def, hf]; exact hw)]
  simp -implicitDefEqProofs only [retD_def, callG_def, consG_def, varX_def, nilG_def, List.getElem?_cons_zero, bind_ok, List.all_cons, List.all_nil, solid_sh, Bool.and_self, if_true, e, evS_ok]
end NP
end

section
set_option linter.all false
set_option autoImplicit false
namespace NP
open PySem hiding run
open DS NW
/-! ## slopes at places -/
def dv : List Rat → Rat → Rat
  | [], _ => 0
  | _ :: p, x => ev p x + x * dv p x
theorem ev_drvR (x : Rat) : ∀ p : List Rat, ev (drvR p) x = dv p x
  | [] => rfl
  | [c] => by
    show (0 : Rat) = ev [] x + x * 0
    rw [ev_nil]; grind
  | c :: d :: p => by
    have ih := ev_drvR x (d :: p)
    have e1 : drvR (c :: d :: p) = (List.range (d :: p).length).map fun j => (d :: p).getD j 0 + (d :: p).getD j 0 * ((j : Int) : Rat) := by
      unfold drvR
      refine List.map_congr_left fun j _ => ?_
      have : (c :: d :: p).getD (j + 1) 0 = (d :: p).getD j 0 := rfl
      rw [this]
      have : (((j + 1 : Nat) : Int) : Rat) = ((j : Int) : Rat) + 1 := by
        rw [show ((j + 1 : Nat) : Int) = (j : Int) + 1 by omega, Rat.intCast_add]
        rfl
      rw [this]
      grind
    have e2 : ((List.range (d :: p).length).map fun (j : Nat) => (d :: p).getD j 0 * ((j : Int) : Rat)) = 0 :: drvR (d :: p) := by
      rw [List.length_cons, List.range_succ_eq_map, List.map_cons, List.map_map]
      have : (d :: p).getD 0 0 * (((0 : Nat) : Int) : Rat) = 0 := by
        show d * 0 = 0
        grind
      rw [this]
      rfl
    rw [e1, ev_range_add, range_getD, e2, ev_cons 0, ih]
    show _ = ev (d :: p) x + x * dv (d :: p) x
    grind
theorem dv_addR (x : Rat) : ∀ p q : List Rat, dv (addR p q) x = dv p x + dv q x
  | [], q => by
    show dv q x = 0 + dv q x
    grind
  | c :: p, [] => by
    rw [addR_nil]
    show _ = _ + 0
    grind
  | c :: p, d :: q => by
    have ih := dv_addR x p q
    rw [addR]
    show ev (addR p q) x + x * dv (addR p q) x = (ev p x + x * dv p x) + (ev q x + x * dv q x)
    rw [ih, ev_addR]
    grind
theorem dv_sclR (x z : Rat) : ∀ p : List Rat, dv (sclR z p) x = dv p x * z
  | [] => by
    show 0 = 0 * z
    grind
  | c :: p => by
    have ih := dv_sclR x z p
    show ev (sclR z p) x + x * dv (sclR z p) x = (ev p x + x * dv p x) * z
    rw [ih, ev_sclR]
    grind
theorem dv_trim (x : Rat) : ∀ p : List Rat, dv (trimQ p) x = dv p x
  | [] => rfl
  | c :: p => by
    have ih := dv_trim x p
    have e := ev_trim x p
    show _ = ev p x + x * dv p x
    rw [trim_cons]
    by_cases h : trimQ p = []
    · rw [h] at ih e
      rw [if_pos h, ← ih, ← e]
      split
      · show (0 : Rat) = 0 + x * 0
        grind
      · rfl
    · rw [if_neg h]
      show ev (trimQ p) x + x * dv (trimQ p) x = _
      rw [ih, e]
theorem dv_of_ev {p q : List Rat} (h : ∀ x, ev p x = ev q x) (x : Rat) : dv p x = dv q x := by
  rw [← dv_trim x p, ← dv_trim x q, eq_of_ev h]
theorem dv_line (p : List Rat) (r x : Rat) : dv (mulQ p [-r, 1]) x = dv p x * (x - r) + ev p x := by
  have h : ∀ y, ev (mulQ p [-r, 1]) y = ev (addR (0 :: p) (sclR (-r) p)) y := fun y => by
    rw [ev_mulQ, ev_addR, ev_sclR, ev_cons, ev_cons, ev_cons, ev_nil]
    grind
  rw [dv_of_ev h, dv_addR, dv_sclR]
  show ev p x + x * dv p x + dv p x * -r = _
  grind
@[simp] theorem ev_drvQ (x : Rat) (p : List Rat) : ev (drvQ p) x = dv p x := by rw [drvQ, ev_trim, ev_drvR]
theorem Tr.drv (p : List Rat) : Tr (drvQ p) := Tr.trim _
theorem drvQ_len (p : List Rat) : (drvQ p).length ≤ p.length - 1 := by
  have := trim_len (drvR p)
  unfold drvR at this
  rw [List.length_map, List.length_range] at this
  exact this
theorem Bt.drv {a c : Nat} {p : List Rat} (h : Bt a p) (hl : p.length ≤ 2 ^ c) : Bt (a + c) (drvQ p) := by
  obtain ⟨d, m, h1, h2, h3⟩ := h
  have := Nat.pow_le_pow_right (n := 2) (by decide) (show a ≤ a + c by omega)
  refine ⟨d, m * p.length, Pb.trim ⟨h1.nz, fun z hz => ?_⟩, by omega, le_mul2 h3 hl⟩
  obtain ⟨j, hj, rfl⟩ := List.mem_map.mp hz
  have hj := List.mem_range.mp hj
  have e := (h1.get (j + 1)).mul (d' := 1) (m' := p.length) (c' := (((j + 1 : Nat) : Int) : Rat)) ⟨((j + 1 : Nat) : Int), by grind, by omega⟩
  rwa [Nat.mul_one] at e
/-! ## products of lines -/
def linesQ (P : List Rat) (rs : List Rat) : List Rat := rs.foldl (fun P r => mulQ P [-r, 1]) P
def Fv : List Rat → Rat → Rat
  | [], _ => 1
  | r :: rs, x => (x - r) * Fv rs x
def Gv : List Rat → Rat → Rat
  | [], _ => 0
  | r :: rs, x => Fv rs x + (x - r) * Gv rs x
theorem lines_ev (x : Rat) : ∀ (rs P : List Rat), ev (linesQ P rs) x = ev P x * Fv rs x ∧ dv (linesQ P rs) x = dv P x * Fv rs x + ev P x * Gv rs x
  | [], P => by
    refine ⟨?_, ?_⟩
    · show ev P x = ev P x * 1
      grind
    · show dv P x = dv P x * 1 + ev P x * 0
      grind
  | r :: rs, P => by
    obtain ⟨h1, h2⟩ := lines_ev x rs (mulQ P [-r, 1])
    have e : ev (mulQ P [-r, 1]) x = ev P x * (x - r) := by
      rw [ev_mulQ, ev_cons, ev_cons, ev_nil]; grind
    rw [e] at h1 h2
    rw [dv_line] at h2
    refine ⟨?_, ?_⟩
    · show ev (linesQ (mulQ P [-r, 1]) rs) x = ev P x * ((x - r) * Fv rs x)
      rw [h1]; grind
    · show dv (linesQ (mulQ P [-r, 1]) rs) x = dv P x * ((x - r) * Fv rs x) + ev P x * (Fv rs x + (x - r) * Gv rs x)
      rw [h2]; grind
theorem Tr.line (r : Rat) : Tr [-r, 1] := Tr.iff.mpr fun _ => by simp
theorem lines_Tr : ∀ (rs P : List Rat), Tr P → Tr (linesQ P rs)
  | [], P, h => h
  | r :: rs, P, _ => lines_Tr rs _ (Tr.mulQ _ _)
theorem lines_len : ∀ (rs P : List Rat), Tr P → P ≠ [] → (linesQ P rs).length = P.length + rs.length
  | [], P, _, _ => rfl
  | r :: rs, P, h, hn => by
    have l1 := List.length_pos_iff.mpr hn
    have e := mulQ_len h (Tr.line r) hn (by simp)
    have := lines_len rs (mulQ P [-r, 1]) (Tr.mulQ _ _) (by
      intro z
      rw [z] at e
      simp at e)
    show (linesQ (mulQ P [-r, 1]) rs).length = _
    rw [this, e]
    simp only [List.length_cons, List.length_nil]
    omega
theorem Fv_zero (x : Rat) : ∀ rs : List Rat, Fv rs x = 0 ↔ x ∈ rs
  | [] => by
    show (1 : Rat) = 0 ↔ _
    simp
  | r :: rs => by
    show (x - r) * Fv rs x = 0 ↔ _
    rw [Rat.mul_eq_zero, Fv_zero x rs, List.mem_cons]
    constructor
    · rintro (h | h)
      · exact .inl (by grind)
      · exact .inr h
    · rintro (h | h)
      · exact .inl (by grind)
      · exact .inr h
theorem Gv_ne {x : Rat} : ∀ {rs : List Rat}, rs.Nodup → x ∈ rs → Gv rs x ≠ 0
  | [], _, h => by cases h
  | r :: rs, hn, h => by
    obtain ⟨h1, h2⟩ := List.nodup_cons.mp hn
    show Fv rs x + (x - r) * Gv rs x ≠ 0
    rcases List.mem_cons.mp h with rfl | h
    · intro z
      have : Fv rs x = 0 := by grind
      exact h1 ((Fv_zero x rs).mp this)
    · have e := (Fv_zero x rs).mpr h
      rw [e]
      have hne : x ≠ r := fun z => h1 (z ▸ h)
      have ih := Gv_ne h2 h
      intro z
      have z' : (x - r) * Gv rs x = 0 := by grind
      rcases Rat.mul_eq_zero.mp z' with z | z
      · exact hne (by grind)
      · exact ih z
theorem double_root : ∀ {rs : List Rat}, ¬ rs.Nodup → ∃ r, Fv rs r = 0 ∧ Gv rs r = 0
  | [], h => absurd List.nodup_nil h
  | r :: rs, h => by
    rw [List.nodup_cons] at h
    by_cases hm : r ∈ rs
    · have e := (Fv_zero r rs).mpr hm
      refine ⟨r, ?_, ?_⟩
      · show (r - r) * Fv rs r = 0
        grind
      · show Fv rs r + (r - r) * Gv rs r = 0
        grind
    · obtain ⟨x, h1, h2⟩ := double_root (rs := rs) fun z => h ⟨hm, z⟩
      refine ⟨x, ?_, ?_⟩
      · show (x - r) * Fv rs x = 0
        grind
      · show Fv rs x + (x - r) * Gv rs x = 0
        grind
/-- the product of lines is simple exactly if no root is double -/
theorem simple_iff {rs : List Rat} {n : Nat} (hn : (drvQ (linesQ [1] rs)).length ≤ n) : (gcdQ n (linesQ [1] rs) (drvQ (linesQ [1] rs))).length ≤ 1 ↔ rs.Nodup := by
  have hlen := lines_len rs [1] Tr.one (by simp)
  have hP : linesQ [1] rs ≠ [] := fun z => by
    rw [z] at hlen
    simp at hlen
    omega
  have hT := lines_Tr rs [1] Tr.one
  have hev : ∀ x, ev (linesQ [1] rs) x = Fv rs x := fun x => by
    rw [(lines_ev x rs [1]).1, ev_cons, ev_nil]; grind
  have hdv : ∀ x, ev (drvQ (linesQ [1] rs)) x = Gv rs x := fun x => by
    rw [ev_drvQ, (lines_ev x rs [1]).2, ev_cons, ev_nil]
    show (ev [] x + x * 0) * Fv rs x + _ = _
    rw [ev_nil]
    grind
  have tq := Tr.drv (linesQ [1] rs)
  have hg := gcd_ne n _ _ (.inl hP) hn tq
  have tg := gcd_Tr n _ _ hT tq
  obtain ⟨⟨u, hu⟩, ⟨v, hv⟩⟩ := gcd_dv n (linesQ [1] rs) _ hn tq
  have hroot := gcd_root n (linesQ [1] rs) (drvQ (linesQ [1] rs))
  generalize gcdQ n (linesQ [1] rs) (drvQ (linesQ [1] rs)) = g at hg tg hu hv hroot
  have lg := List.length_pos_iff.mpr hg
  constructor
  · intro h1
    by_cases hd : rs.Nodup
    · exact hd
    · obtain ⟨r, f0, g0⟩ := double_root hd
      have e := hroot r tq (by rw [hev]; exact f0) (by rw [hdv]; exact g0)
      match g, hg, lg, h1, tg, e with
      | [c], _, _, _, tg, e =>
        have hc := Tr.iff.mp tg (by simp)
        rw [ev_cons, ev_nil] at e
        simp at hc
        exact absurd (by grind) hc
  · intro hd
    by_cases h1 : g.length ≤ 1
    · exact h1
    · exfalso
      by_cases hex : ∃ r ∈ rs, ev g r = 0
      · obtain ⟨r, hr, e0⟩ := hex
        have := hv r
        rw [hdv, e0] at this
        exact Gv_ne hd hr (by grind)
      · have hu0 : ∀ r ∈ rs, ev (trimQ u) r = 0 := fun r hr => by
          have h2 := hu r
          rw [hev, (Fv_zero r rs).mpr hr] at h2
          rw [ev_trim]
          rcases Rat.mul_eq_zero.mp h2.symm with h | h
          · exact absurd ⟨r, hr, h⟩ hex
          · exact h
        have e : mulQ g (trimQ u) = linesQ [1] rs := Tr.eq (Tr.mulQ _ _) hT fun x => by rw [ev_mulQ, ev_trim, hu]
        by_cases hun : trimQ u = []
        · rw [hun, mulQ_nil_right] at e
          exact hP e.symm
        · have el := mulQ_len tg (Tr.trim u) hg hun
          rw [e, hlen] at el
          simp only [List.length_cons, List.length_nil] at el
          have hz := zero_of_roots rs (trimQ u) hd hu0 (by omega)
          have := trim_zero hz
          rw [trim_trim] at this
          exact hun this
end NP
end

section
set_option linter.all false
set_option autoImplicit false
namespace NP
open PySem hiding run
open DS NW
/-! ## what is a part, what a polynomial -/
def SmD (d : D) : Prop := ∀ ds, d = .tuple ds → ds.length ≤ 1000
def FitD (d : D) : Prop := ∀ i j : Int, d = .tuple [.int i, .int j] → j.natAbs < 2 ^ 1990
theorem shaped_two (i j : Int) : SeqAt.shaped (.tuple [.int i, .int j]) = true := by
  have h1 : (PyData.tuple [.int i, .int j]).canLay0 = true := by simp [PyData.canLay0, PyData.canLayAll0]
  have h2 : (PyData.tuple [.int i, .int j]).depth ≤ 64 := by simp [PyData.depth, PyData.depthAll]
  unfold SeqAt.shaped
  rw [h1, decide_eq_true h2]
  rfl
theorem eqv_two (a b i j : Int) : PyData.eqv (.tuple [.int a, .int b]) (.tuple [.int i, .int j]) = (a == i && b == j) := by
  simp [PyData.eqv, PyData.eqvAll]
theorem fr_eq {i j : Int} (hj : 1 ≤ j) : eqD (R (Rat.divInt i j)) (.tuple [.int i, .int j]) = some (.bool (i.gcd j == 1)) := by
  obtain ⟨n, rfl⟩ : ∃ n : Nat, j = n := ⟨j.toNat, by omega⟩
  have hn : n ≠ 0 := by omega
  have e : eqD (R (Rat.divInt i n)) (.tuple [.int i, .int n]) = some (.bool (PyData.eqv (R (Rat.divInt i n)) (.tuple [.int i, .int n]))) := by
    unfold eqD
    rw [if_pos ⟨shaped_R _, shaped_two _ _⟩]
  rw [e, R_divInt_pos hn, eqv_two]
  congr 2
  by_cases hg : i.gcd n = 1
  · rw [hg]
    simp
  · have h1 : (n : Int) / ((i.gcd n : Nat) : Int) ≠ (n : Int) := fun z => by
      have hd : i.gcd n ∣ n := by
        have := Int.gcd_dvd_right (a := i) (b := (n : Int))
        exact_mod_cast this
      have hz : n / i.gcd n = n := by exact_mod_cast z
      have h3 := Nat.div_mul_cancel hd
      rw [hz] at h3
      have : i.gcd n = 1 := by
        have hp : 0 < n := by omega
        exact Nat.eq_of_mul_eq_mul_left hp (by omega)
      exact hg this
    rw [beq_eq_false_iff_ne.mpr h1, beq_eq_false_iff_ne.mpr hg, Bool.and_false]
theorem m__law_is_fr_eq (d : D) (hd : SmD d) (hf : FitD d) (s : LS) : m__law_is_fr [.sh d] s = .ok (.bool (isPartD d)) s := by
  unfold m__law_is_fr g__law_is_fr
  refine run_rt ?_
  have hno : ∀ d, isTup d = false → isPartD d = false := fun d h => by cases d <;> simp [isTup] at h <;> rfl
  cases hT : isTup d with
  | false => rw [seqD_rt (d := .bool false) (s1 := s) (by simp -implicitDefEqProofs [hT]), hno d hT]
  | true =>
    cases d with
    | tuple ds =>
      have hlen := hd ds rfl
      by_cases h2 : ds.length = 2
      · match ds, h2 with
        | [x, y], _ =>
          have hl : lcD (.nm 1) (orB (notB (tst (isiG isInt (varW 1)))) (tst (isiG isBool (varW 1)))) (varD 1) [x, y] [.sh (.tuple [x, y]), .un] s = .ok (([x, y].filter fun d => !plainInt d).map id) s := by
            refine lcD_filter _ _ _ _ _ (fun d _ => ?_) fun d _ _ => ?_
            · cases h : isInt d <;> cases h' : isBool d <;> simp -implicitDefEqProofs [plainInt, h, h']
            · simp -implicitDefEqProofs
          cases hp : (plainInt x && plainInt y) with
          | false =>
            rw [seqD_rt (d := .bool false) (s1 := s) (by
              simp -implicitDefEqProofs [hl, isTup]
              simp only [Bool.and_eq_false_iff] at hp
              cases hx : plainInt x <;> cases hy : plainInt y <;> simp [hx, hy] at hp ⊢)]
            have : isPartD (.tuple [x, y]) = false := by
              cases x <;> cases y <;> first | rfl | (simp [plainInt, isInt, isBool] at hp)
            rw [this]
          | true =>
            have hp' := Bool.and_eq_true_iff.mp hp
            obtain ⟨i, rfl⟩ := plain_cases hp'.1
            obtain ⟨j, rfl⟩ := plain_cases hp'.2
            rw [seqD_nx (e := [.sh (.tuple [.int i, .int j]), .un]) (s1 := s) (by
              simp -implicitDefEqProofs [hl, isTup, hp'.1, hp'.2])]
            by_cases hj : 1 ≤ j
            · have e := m__law_fr_eq i j s (by omega) (hf i j rfl)
              have e2 := fr_eq (i := i) hj
              simp -implicitDefEqProofs [e, e2, hj, isPartD]
            · simp -implicitDefEqProofs [hj, isPartD]
      · have h2' : ((ds.length : Int) != 2) = true := by
          simp
          omega
        rw [seqD_rt (d := .bool false) (s1 := s) (by simp -implicitDefEqProofs [isTup, h2'])]
        have : isPartD (.tuple ds) = false := by
          match ds, h2 with
          | [], _ => rfl
          | [_], _ => cases ‹D› <;> rfl
          | _ :: _ :: _ :: _, _ => unfold isPartD; split <;> first | rfl | (rename_i h; cases h)
          | [_, _], h => exact absurd rfl h
        rw [this]
    | _ => cases hT
theorem filter_none (ds : List D) : (((ds.filter fun d => !isPartD d).length : Int) == 0) = ds.all isPartD := by
  induction ds with
  | nil => rfl
  | cons d ds ih =>
    cases h : isPartD d with
    | true =>
      rw [List.filter_cons_of_neg (by simp [h]), ih, List.all_cons, h, Bool.true_and]
    | false =>
      rw [List.filter_cons_of_pos (by simp [h]), List.all_cons, h, Bool.false_and, beq_eq_false_iff_ne, List.length_cons]
      omega
def arePartsD (d : D) (m : Int) : Bool := match d with
  | .tuple ds => decide ((ds.length : Int) = m) && ds.all isPartD
  | _ => false
def GoodD (d : D) : Prop := ∀ ds, d = .tuple ds → ds.length ≤ 1000 ∧ ∀ c ∈ ds, SmD c ∧ FitD c
theorem m__law_are_frs_eq (d : D) (m : Int) (hd : GoodD d) (s : LS) : m__law_are_frs [.sh d, .sh (.int m)] s = .ok (.bool (arePartsD d m)) s := by
  unfold m__law_are_frs g__law_are_frs
  refine run_rt ?_
  show retD _ [.sh d, .sh (.int m), .un] s = _
  have hno : ∀ d, isTup d = false → arePartsD d m = false := fun d h => by cases d <;> simp [isTup] at h <;> rfl
  cases hT : isTup d with
  | false => simp -implicitDefEqProofs [hT, hno d hT]
  | true =>
    cases d with
    | tuple ds =>
      obtain ⟨h1, h2⟩ := hd ds rfl
      have hz : ds.length ≤ sizeLine := small_line (by omega)
      have hl : lcD (.nm 2) (notB (tst (callG m__law_is_fr (consG (varX 2) nilG)))) (varD 2) ds [.sh (.tuple ds), .sh (.int m), .un] s = .ok ((ds.filter fun d => !isPartD d).map id) s := by
        refine lcD_filter _ _ _ _ _ (fun d hd' => ?_) fun d hd' _ => ?_
        · obtain ⟨g1, g2⟩ := h2 d hd'
          simp -implicitDefEqProofs [m__law_is_fr_eq d g1 g2]
        · simp -implicitDefEqProofs
      by_cases hm : (ds.length : Int) = m
      · have e4 := filter_none ds
        simp -implicitDefEqProofs [isTup, hm, hz, hl, e4, arePartsD]
      · have hm' : ((ds.length : Int) == m) = false := by simpa using hm
        simp -implicitDefEqProofs [isTup, hm, hm', arePartsD]
    | _ => cases hT
/-- the last coefficient is none of 0 -/
def lastNz (ds : List D) : Bool := match ds.getLast? with
  | some (.tuple (.int a :: _)) => a != 0
  | _ => true
def isPolyD (d : D) : Bool := match d with
  | .tuple ds => decide (ds.length ≤ 31) && ds.all isPartD && lastNz ds
  | _ => false
theorem part_form {d : D} (h : isPartD d = true) : ∃ a b : Int, d = .tuple [.int a, .int b] := by
  unfold isPartD at h
  split at h
  · exact ⟨_, _, rfl⟩
  · cases h
theorem at_last (ds : List D) (d : D) : L2.atI (ds ++ [d]) (-1) = some d := by
  unfold L2.atI
  rw [List.length_append, List.length_singleton, ixN_last, Option.bind_some, List.getElem?_append_right (Nat.le_refl _), Nat.sub_self]
  rfl
/-- both last rows -/
theorem last_test (ds : List D) (i : Nat) (env : Ev) (s : LS) (hi : env[i]? = some (.sh (.tuple ds))) (h : ds.all isPartD = true) :
    orD (op2 eqD (callB lenF (consG (varW i) nilG)) (cD (.int 0))) (op2 neD (op2 ixD (op2 ixD (varW i) (op1 negI (cD (.int 1)))) (cD (.int 0))) (cD (.int 0))) env s = .ok (.bool (lastNz ds)) s := by
  rcases List.eq_nil_or_concat ds with rfl | ⟨xs, x, rfl⟩
  · simp -implicitDefEqProofs [hi, lastNz]
  · rw [List.concat_eq_append] at *
    have hx : isPartD x = true := List.all_eq_true.mp h x (by simp)
    obtain ⟨a, b, rfl⟩ := part_form hx
    have h0 : (((xs ++ [PyData.tuple [.int a, .int b]]).length : Int) == 0) = false := by
      rw [beq_eq_false_iff_ne, List.length_append]; simp; omega
    have e := at_last xs (.tuple [.int a, .int b])
    have hl : lastNz (xs ++ [.tuple [.int a, .int b]]) = (a != 0) := by
      unfold lastNz
      rw [List.getLast?_append]
      rfl
    rw [hl]
    simp -implicitDefEqProofs only [orD_def, op2_def, op1_def, callB_def, consG_def, nilG_def, varW_def, hi, bind_ok, lenF_tuple, lift_some, cD_def, eqD_int, h0, asB_bool, Bool.false_eq_true, if_false, negI_int, ixD_tuple, e]
    simp -implicitDefEqProofs
theorem m_is_poly_eq (d : D) (hd : GoodD d) (s : LS) : m_is_poly [.sh d] s = .ok (.bool (isPolyD d)) s := by
  unfold m_is_poly g_is_poly
  refine run_rt ?_
  show seqD _ _ [.sh d, .un] s = _
  have hno : ∀ d, isTup d = false → isPolyD d = false := fun d h => by cases d <;> simp [isTup] at h <;> rfl
  cases hT : isTup d with
  | false => rw [seqD_rt (d := .bool false) (s1 := s) (by simp -implicitDefEqProofs [hT]), hno d hT]
  | true =>
    cases d with
    | tuple ds =>
      obtain ⟨h1, h2⟩ := hd ds rfl
      have hz : ds.length ≤ sizeLine := small_line (by omega)
      have hl : lcD (.nm 1) yesB (callG m_is_part (consG (varX 1) nilG)) ds [.sh (.tuple ds), .un] s = .ok (ds.map fun d => .bool (isPartD d)) s := by
        refine lcD_map _ _ _ _ fun d hd' => ?_
        obtain ⟨g1, -⟩ := h2 d hd'
        simp -implicitDefEqProofs [m_is_part_eq d g1]
      have hb := bools_map isPartD ds
      have ha : ((ds.map isPartD).all id) = ds.all isPartD := by rw [List.all_map]; rfl
      by_cases h3 : ds.length ≤ 31
      · have h3' : ¬ ((31 : Int) < (ds.length : Int)) := by omega
        cases hp : ds.all isPartD with
        | true =>
          rw [hp] at ha
          rw [seqD_nx (e := [.sh (.tuple ds), .un]) (s1 := s) (by simp -implicitDefEqProofs [isTup, hz, hl, hb, ha, h3'])]
          have := last_test ds 0 [.sh (.tuple ds), .un] s rfl hp
          rw [retD_def, this, evS_ok]
          simp [isPolyD, h3, hp]
        | false =>
          rw [hp] at ha
          rw [seqD_rt (d := .bool false) (s1 := s) (by simp -implicitDefEqProofs [isTup, hz, hl, hb, ha, h3'])]
          simp [isPolyD, hp]
      · have h3' : (31 : Int) < (ds.length : Int) := by omega
        rw [seqD_rt (d := .bool false) (s1 := s) (by simp -implicitDefEqProofs [isTup, h3'])]
        simp [isPolyD, h3]
    | _ => cases hT
end NP
end

section
set_option linter.all false
set_option autoImplicit false
namespace NP
open PySem hiding run
open DS NW
/-! ## rows compared -/
theorem canLay_R (q : Rat) : (R q).canLay0 = true := by simp [R, PyData.canLay0, PyData.canLayAll0]
theorem depth_R (q : Rat) : (R q).depth ≤ 1 := by simp [R, PyData.depth, PyData.depthAll]
theorem canLay_rows : ∀ q : List Rat, PyData.canLayAll0 (q.map R) = true
  | [] => by simp [PyData.canLayAll0]
  | c :: q => by simp [PyData.canLayAll0, canLay_R, canLay_rows q]
theorem depth_rows : ∀ q : List Rat, PyData.depthAll (q.map R) ≤ 1
  | [] => by simp [PyData.depthAll]
  | c :: q => by
    have := depth_rows q
    have := depth_R c
    simp only [List.map_cons, PyData.depthAll]
    omega
theorem canLay_PL (q : List Rat) : (PL q).canLay0 = true := by simp only [PyData.canLay0]; exact canLay_rows q
theorem canLay_LL (q : List Rat) : (LL q).canLay0 = true := by simp only [PyData.canLay0]; exact canLay_rows q
theorem depth_PL (q : List Rat) : (PL q).depth ≤ 2 := by
  have := depth_rows q
  simp only [PyData.depth]; omega
theorem depth_LL (q : List Rat) : (LL q).depth ≤ 2 := by
  have := depth_rows q
  simp only [PyData.depth]; omega
theorem shaped_of {d : D} (h1 : d.canLay0 = true) (h2 : d.depth ≤ 64) : SeqAt.shaped d = true := by
  unfold SeqAt.shaped
  rw [h1, decide_eq_true h2]
  rfl
theorem shaped_PL (q : List Rat) : SeqAt.shaped (PL q) = true := shaped_of (canLay_PL q) (by have := depth_PL q; omega)
theorem shaped_LL (q : List Rat) : SeqAt.shaped (LL q) = true := shaped_of (canLay_LL q) (by have := depth_LL q; omega)
theorem eqvAll_rows : ∀ p q : List Rat, PyData.eqvAll (p.map R) (q.map R) = decide (p = q)
  | [], [] => by simp [PyData.eqvAll]
  | [], c :: q => by simp [PyData.eqvAll]
  | c :: p, [] => by simp [PyData.eqvAll]
  | c :: p, d :: q => by
    have ih := eqvAll_rows p q
    simp only [List.map_cons, PyData.eqvAll, ih, eqv_R]
    by_cases h : c = d <;> by_cases h' : p = q <;> simp [h, h']
theorem eqv_PL (p q : List Rat) : PyData.eqv (PL p) (PL q) = decide (p = q) := by simp only [PyData.eqv]; exact eqvAll_rows p q
theorem eqv_LL (p q : List Rat) : PyData.eqv (LL p) (LL q) = decide (p = q) := by simp only [PyData.eqv]; exact eqvAll_rows p q
theorem neD_PL (p q : List Rat) : neD (PL p) (PL q) = some (.bool (!decide (p = q))) := by
  unfold neD
  rw [if_pos ⟨shaped_PL p, shaped_PL q⟩, eqv_PL]
theorem eqD_PL (p q : List Rat) : eqD (PL p) (PL q) = some (.bool (decide (p = q))) := by
  unfold eqD
  rw [if_pos ⟨shaped_PL p, shaped_PL q⟩, eqv_PL]
theorem neD_PL_self (p : List Rat) : neD (PL p) (PL p) = some (.bool false) := by rw [neD_PL]; simp
theorem eqD_PL_self (p : List Rat) : eqD (PL p) (PL p) = some (.bool true) := by rw [eqD_PL]; simp
theorem neD_two_self (p q : List Rat) : neD (.tuple [PL p, PL q]) (.tuple [PL p, PL q]) = some (.bool false) := by
  have h : SeqAt.shaped (.tuple [PL p, PL q]) = true := shaped_of (by simp [PyData.canLay0, PyData.canLayAll0, canLay_rows]) (by
    have := depth_PL p
    have := depth_PL q
    have e : PyData.depth (.tuple [PL p, PL q]) = max (PL p).depth (max (PL q).depth 0) + 1 := by simp only [PyData.depth, PyData.depthAll]
    rw [e]; omega)
  have e : PyData.eqv (.tuple [PL p, PL q]) (.tuple [PL p, PL q]) = true := by
    have e1 := eqv_PL p p
    have e2 := eqv_PL q q
    have : PyData.eqv (.tuple [PL p, PL q]) (.tuple [PL p, PL q]) = (PyData.eqv (PL p) (PL p) && (PyData.eqv (PL q) (PL q) && true)) := by simp only [PyData.eqv, PyData.eqvAll]
    rw [this, e1, e2]; simp
  unfold neD
  rw [if_pos ⟨h, h⟩, e]
  rfl
/-! ## a part in a row -/
theorem any_rows (x : Rat) : ∀ q : List Rat, ((q.map R).any fun z => PyData.eqv z (R x)) = decide (x ∈ q)
  | [] => rfl
  | c :: q => by
    rw [List.map_cons, List.any_cons, any_rows x q, eqv_R]
    by_cases h : c = x
    · subst h; simp
    · have : ¬ x = c := fun e => h e.symm
      simp [h, this]
theorem inD_rows (x : Rat) (q : List Rat) : inD (R x) (LL q) = some (.bool (decide (x ∈ q))) := by
  show (if SeqAt.shaped (R x) = true ∧ SeqAt.shaped (LL q) = true then some (PyData.bool ((q.map R).any fun z => PyData.eqv z (R x))) else none) = _
  rw [if_pos ⟨shaped_R x, shaped_LL q⟩, any_rows]
theorem notInD_rows (x : Rat) (q : List Rat) : notInD (R x) (LL q) = some (.bool (!decide (x ∈ q))) := by
  show (if SeqAt.shaped (R x) = true ∧ SeqAt.shaped (LL q) = true then some (PyData.bool (!(q.map R).any fun z => PyData.eqv z (R x))) else none) = _
  rw [if_pos ⟨shaped_R x, shaped_LL q⟩, any_rows]
/-- a later one is an earlier one -/
def dups (rs : List Rat) : List Nat := (List.range rs.length).filter fun k => decide (rs.getD k 0 ∈ rs.take k)
theorem take_all {α : Type} (l : List α) : l.take l.length = l := List.take_length
theorem dups_nil (rs : List Rat) : dups rs = [] ↔ rs.Nodup := by
  have key : ∀ n, n ≤ rs.length → ((∀ k, k < n → rs.getD k 0 ∉ rs.take k) ↔ (rs.take n).Nodup) := by
    intro n
    induction n with
    | zero => intro _; simp
    | succ n ih =>
      intro hn
      have e := take_last (q := rs) (n := n) (by omega)
      rw [e, List.nodup_append]
      constructor
      · intro h
        refine ⟨(ih (by omega)).mp fun k hk => h k (by omega), by simp, fun a ha b hb => ?_⟩
        rw [List.mem_singleton.mp hb]
        intro z
        exact h n (by omega) (z ▸ ha)
      · rintro ⟨h1, -, h2⟩ k hk
        rcases Nat.lt_succ_iff_lt_or_eq.mp hk with hk | rfl
        · exact (ih (by omega)).mpr h1 k hk
        · intro z
          exact h2 _ z _ (List.mem_singleton_self _) rfl
  have k1 := key rs.length (Nat.le_refl _)
  rw [take_all] at k1
  rw [← k1, dups, List.filter_eq_nil_iff]
  constructor
  · intro h k hk
    have := h k (List.mem_range.mpr hk)
    simpa using this
  · intro h k hk
    have := h k (List.mem_range.mp hk)
    simpa using this
end NP
end

section
set_option linter.all false
set_option autoImplicit false
namespace DS
open PySem
section
variable {ga gb : Ev → LS → Out Bool} {env : Ev} {s : LS} {m : List EV → LS → Out D} {i j k : Nat} {x y z : D}
theorem orB_f (h1 : ga env s = .ok false s) (h2 : gb env s = .ok false s) : orB ga gb env s = .ok false s := by rw [orB_def, h1, bind_ok, if_neg (by simp), h2]
theorem orB_fs {s' : LS} (h1 : ga env s = .ok false s) (h2 : gb env s = .ok false s') : orB ga gb env s = .ok false s' := by rw [orB_def, h1, bind_ok, if_neg (by simp), h2]
theorem andB_f (h1 : ga env s = .ok false s) : andB ga gb env s = .ok false s := by rw [andB_def, h1, bind_ok, if_neg (by simp)]
theorem andB_t (h1 : ga env s = .ok true s) {b : Bool} (h2 : gb env s = .ok b s) : andB ga gb env s = .ok b s := by rw [andB_def, h1, bind_ok, if_pos rfl, h2]
theorem if_f {g1 : Ev → LS → SOut} {s' : LS} (h : ga env s = .ok false s') : ifD ga g1 nopD env s = .nx env s' := by rw [ifD_def, h, evS_ok, if_neg (by simp)]; rfl
theorem if_t {g1 g2 : Ev → LS → SOut} {s' : LS} (h : ga env s = .ok true s') : ifD ga g1 g2 env s = g1 env s' := by rw [ifD_def, h, evS_ok, if_pos rfl]
theorem cX1 (hi : env[i]? = some (.sh x)) : callG m (consG (varX i) nilG) env s = m [.sh x] s := by
  simp only [callG_def, consG_def, varX_def, nilG_def, hi, bind_ok, List.all_cons, List.all_nil, solid_sh, Bool.and_self, if_true]
theorem cX2 (hi : env[i]? = some (.sh x)) (hj : env[j]? = some (.sh y)) : callG m (consG (varX i) (consG (varX j) nilG)) env s = m [.sh x, .sh y] s := by
  simp only [callG_def, consG_def, varX_def, nilG_def, hi, hj, bind_ok, List.all_cons, List.all_nil, solid_sh, Bool.and_self, if_true]
theorem cX3 (hi : env[i]? = some (.sh x)) (hj : env[j]? = some (.sh y)) (hk : env[k]? = some (.sh z)) : callG m (consG (varX i) (consG (varX j) (consG (varX k) nilG))) env s = m [.sh x, .sh y, .sh z] s := by
  simp only [callG_def, consG_def, varX_def, nilG_def, hi, hj, hk, bind_ok, List.all_cons, List.all_nil, solid_sh, Bool.and_self, if_true]
theorem cXG {g : Ev → LS → Out D} (hi : env[i]? = some (.sh x)) (hg : g env s = .ok y s) : callG m (consG (varX i) (consG (asSh g) nilG)) env s = m [.sh x, .sh y] s := by
  simp only [callG_def, consG_def, varX_def, asSh_def, nilG_def, hi, hg, bind_ok, List.all_cons, List.all_nil, solid_sh, Bool.and_self, if_true]
theorem cXXG {g : Ev → LS → Out D} (hi : env[i]? = some (.sh x)) (hj : env[j]? = some (.sh y)) (hg : g env s = .ok z s) : callG m (consG (varX i) (consG (varX j) (consG (asSh g) nilG))) env s = m [.sh x, .sh y, .sh z] s := by
  simp only [callG_def, consG_def, varX_def, asSh_def, nilG_def, hi, hj, hg, bind_ok, List.all_cons, List.all_nil, solid_sh, Bool.and_self, if_true]
theorem cG1 {g : Ev → LS → Out D} (hg : g env s = .ok y s) : callG m (consG (asSh g) nilG) env s = m [.sh y] s := by
  simp only [callG_def, consG_def, asSh_def, nilG_def, hg, bind_ok, List.all_cons, List.all_nil, solid_sh, Bool.and_self, if_true]
theorem cG2 {g h : Ev → LS → Out D} (hg : g env s = .ok y s) (hh : h env s = .ok z s) : callG m (consG (asSh g) (consG (asSh h) nilG)) env s = m [.sh y, .sh z] s := by
  simp only [callG_def, consG_def, asSh_def, nilG_def, hg, hh, bind_ok, List.all_cons, List.all_nil, solid_sh, Bool.and_self, if_true]
theorem cGXX {g : Ev → LS → Out D} (hg : g env s = .ok x s) (hi : env[i]? = some (.sh y)) (hj : env[j]? = some (.sh z)) : callG m (consG (asSh g) (consG (varX i) (consG (varX j) nilG))) env s = m [.sh x, .sh y, .sh z] s := by
  simp only [callG_def, consG_def, varX_def, asSh_def, nilG_def, hi, hj, hg, bind_ok, List.all_cons, List.all_nil, solid_sh, Bool.and_self, if_true]
theorem cG3 {g h f : Ev → LS → Out D} (hg : g env s = .ok x s) (hh : h env s = .ok y s) (hf : f env s = .ok z s) : callG m (consG (asSh g) (consG (asSh h) (consG (asSh f) nilG))) env s = m [.sh x, .sh y, .sh z] s := by
  simp only [callG_def, consG_def, asSh_def, nilG_def, hg, hh, hf, bind_ok, List.all_cons, List.all_nil, solid_sh, Bool.and_self, if_true]
theorem ne_f {g h : Ev → LS → Out D} {d : D} (h1 : g env s = .ok d s) (h2 : h env s = .ok d s) (hd : neD d d = some (.bool false)) : tst2 neD g h env s = .ok false s := by
  simp only [tst2_def, op2_def, h1, h2, bind_ok, hd, lift_some, asB_bool]
theorem vW (hi : env[i]? = some (.sh x)) : varW i env s = .ok x s := by simp only [varW_def, hi]
theorem vD (hi : env[i]? = some (.sh x)) : varD i env s = .ok x s := by simp only [varD_def, hi]
theorem set_nx {g : Ev → LS → Out D} {s' : LS} (h : g env s = .ok x s') : setD i (asSh g) env s = .nx (env.set i (.sh x)) s' := by
  simp only [setD_def, asSh_def, h, bind_ok, evS_ok]
end
end DS
namespace NP
open PySem hiding run
open DS NW
/-- sizes of values -/
theorem hv_sz {k b : Nat} {x : Rat} (hx : Sz b x) : ∀ (r : List Rat) (a : Rat) (j : Nat), Szs k r → Sz j a → Sz (j + r.length * (b + k + 1)) (hv x a r)
  | [], a, j, _, h => by rw [List.length_nil, Nat.zero_mul]; exact h
  | c :: r, a, j, hr, h => by
    have := hv_sz hx r (a * x + c) (j + b + k + 1) (fun z hz => hr z (List.mem_cons_of_mem _ hz)) ((h.mul hx).add (hr c List.mem_cons_self))
    rw [List.length_cons, Nat.add_mul, Nat.one_mul]
    exact this.mono (by omega)
theorem ev_sz {k b : Nat} {p : List Rat} {x : Rat} (hp : Szs k p) (hx : Sz b x) : Sz (1 + p.length * (b + k + 1)) (ev p x) := by
  have := hv_sz hx p.reverse 0 1 (fun c hc => hp c (List.mem_reverse.mp hc)) Sz_zero
  rwa [hv_ev, List.length_reverse] at this
theorem sclQ_one {q : List Rat} (tq : Tr q) : sclQ 1 q = q := Tr.eq (Tr.sclQ _ _) tq fun x => by rw [ev_sclQ]; grind
end NP
end

section
set_option linter.all false
set_option autoImplicit false
namespace NP
open PySem hiding run
open DS NW
/-! ## polynomials through points -/
theorem Dn.evk {D M e t : Nat} {x : Rat} (hx : Dn e t x) : ∀ (p : List Rat) (k : Nat), p.length ≤ k → (∀ c ∈ p, Dn D M c) → Dn (D * e ^ k) (M * (e + t) ^ k) (ev p x)
  | [], k, _, _ => Dn.zero _ _
  | c :: p, 0, h, _ => by simp at h
  | c :: p, k + 1, h, hd => by
    have ih := Dn.evk hx p k (by simpa using h) fun z hz => hd z (List.mem_cons_of_mem _ hz)
    have h1 := (hd c List.mem_cons_self).scale (e ^ (k + 1))
    have h2 := hx.mul ih
    have e1 : e * (D * e ^ k) = D * e ^ (k + 1) := by rw [Nat.pow_succ, Nat.mul_left_comm, Nat.mul_comm e]
    rw [e1] at h2
    refine (h1.add h2).mono ?_
    have h3 : e ^ k ≤ (e + t) ^ k := Nat.pow_le_pow_left (by omega) k
    have h4 : M * e ^ (k + 1) ≤ M * (e + t) ^ k * e := by
      rw [Nat.pow_succ, ← Nat.mul_assoc]
      exact Nat.mul_le_mul_right _ (Nat.mul_le_mul_left _ h3)
    have h5 : M * (e + t) ^ (k + 1) = M * (e + t) ^ k * e + t * (M * (e + t) ^ k) := by
      rw [Nat.pow_succ, ← Nat.mul_assoc, Nat.mul_add, Nat.mul_comm t]
    omega
def nwP : List Rat → List Rat → List (Rat × Rat) → List Rat
  | P, _, [] => P
  | P, W, z :: r => nwP (addQ P (sclQ ((z.2 - ev P z.1) / ev W z.1) W)) (mulQ W [-z.1, 1]) r
theorem nwP_ok : ∀ (r dn : List (Rat × Rat)) (P W : List Rat), (∀ z ∈ dn, ev P z.1 = z.2 ∧ ev W z.1 = 0) → (∀ x, x ∉ dn.map (·.1) → ev W x ≠ 0) → ((dn ++ r).map (·.1)).Nodup → ∀ z ∈ dn ++ r, ev (nwP P W r) z.1 = z.2
  | [], dn, P, W, h1, _, _, z, hz => by
    rw [List.append_nil] at hz
    exact (h1 z hz).1
  | (x, y) :: r, dn, P, W, h1, h2, h3, z, hz => by
    have hxn : x ∉ dn.map (·.1) := fun hm => by
      rw [List.map_append, List.nodup_append] at h3
      exact h3.2.2 x hm x (by simp) rfl
    have hw := h2 x hxn
    have he : ∀ q, ev (addQ P (sclQ ((y - ev P x) / ev W x) W)) q = ev P q + ev W q * ((y - ev P x) / ev W x) := fun q => by rw [ev_addQ, ev_sclQ]
    have hl : ∀ q, ev (mulQ W [-x, 1]) q = ev W q * (q - x) := fun q => by rw [ev_mulQ, ev_cons, ev_cons, ev_nil]; grind
    refine nwP_ok r (dn ++ [(x, y)]) _ _ (fun a ha => ?_) (fun q hq => ?_) (by rw [List.append_assoc]; exact h3) z (by rw [List.append_assoc]; exact hz)
    · show ev (addQ P (sclQ ((y - ev P x) / ev W x) W)) a.1 = a.2 ∧ ev (mulQ W [-x, 1]) a.1 = 0
      rw [he, hl]
      rcases List.mem_append.mp ha with ha | ha
      · obtain ⟨e1, e2⟩ := h1 a ha
        rw [e1, e2]
        exact ⟨by grind, by grind⟩
      · rw [List.mem_singleton.mp ha]
        refine ⟨?_, by grind⟩
        show ev P x + ev W x * ((y - ev P x) / ev W x) = y
        rw [Rat.div_def]
        have := Rat.mul_inv_cancel _ hw
        have e : ev P x + ev W x * ((y - ev P x) * (ev W x)⁻¹) = ev P x + (ev W x * (ev W x)⁻¹) * (y - ev P x) := by grind
        rw [e, this]
        grind
    · show ev (mulQ W [-x, 1]) q ≠ 0
      rw [hl]
      rw [List.map_append, List.mem_append] at hq
      intro z
      rcases Rat.mul_eq_zero.mp z with z | z
      · exact h2 q (fun w => hq (.inl w)) z
      · exact hq (.inr (by simp; grind))
/-- the sizes after k points -/
structure Nz (β k : Nat) (P W : List Rat) : Prop where
  p : ∃ D N, Pb (6 * D) N P ∧ D < 2 ^ β ∧ N < 2 ^ β
  w : ∃ M, Pb (6 ^ k) M W ∧ M < 2 ^ (9 * k + 1)
  lp : P.length ≤ k
  lw : W.length = k + 1
  tw : Tr W
theorem Nz.start : Nz 1 0 [] [1] := ⟨⟨1, 0, ⟨by decide, fun c h => by cases h⟩, by decide, by decide⟩, ⟨1, ⟨by decide, fun c h => by rw [List.mem_singleton.mp h]; exact Dn.one⟩, by decide⟩, by simp, rfl, Tr.one⟩
theorem pow6 (k : Nat) : 6 ^ k ≤ 2 ^ (k * 3) := pow_bits (by decide) k
theorem pow42 (k : Nat) : 42 ^ k ≤ 2 ^ (k * 6) := pow_bits (by decide) k
theorem Nz.val {β k : Nat} {P W : List Rat} (h : Nz β k P W) {x : Rat} (hx : Dn 6 36 x) : Sz (β + 6 * k + 3) (ev P x) ∧ Sz (15 * k + 10) (ev W x) := by
  obtain ⟨D, N, h1, h2, h3⟩ := h.p
  obtain ⟨M, h4, h5⟩ := h.w
  have e1 := Dn.evk hx P k h.lp h1.dn
  have e2 := Dn.evk hx W (k + 1) (by rw [h.lw]; exact Nat.le_refl _) h4.dn
  have n1 : 6 * D * 6 ^ k ≠ 0 := Nat.mul_ne_zero h1.nz (Nat.ne_of_gt (Nat.pow_pos (by decide)))
  have n2 : 6 ^ k * 6 ^ (k + 1) ≠ 0 := Nat.mul_ne_zero h4.nz (Nat.ne_of_gt (Nat.pow_pos (by decide)))
  have p6 := pow6 k
  have b0 : 6 * D < 2 ^ (β + 3) := by rw [Nat.pow_add]; omega
  have b1 : 6 * D * 6 ^ k < 2 ^ (β + 3 + k * 3) := le_mul2 b0 p6
  have b2 : N * (6 + 36) ^ k < 2 ^ (β + k * 6) := le_mul2 h3 (pow42 k)
  have b3 : 6 ^ k * 6 ^ (k + 1) ≤ 2 ^ (k * 3 + (k + 1) * 3) := by rw [Nat.pow_add 2 (k * 3) ((k + 1) * 3)]; exact Nat.mul_le_mul p6 (pow6 (k + 1))
  have b4 : M * (6 + 36) ^ (k + 1) < 2 ^ (9 * k + 1 + (k + 1) * 6) := le_mul2 h5 (pow42 (k + 1))
  have q1 := Nat.pow_le_pow_right (n := 2) (by decide) (show β + 3 + k * 3 ≤ β + 6 * k + 3 by omega)
  have q2 := Nat.pow_le_pow_right (n := 2) (by decide) (show β + k * 6 ≤ β + 6 * k + 3 by omega)
  have q3 := Nat.pow_lt_pow_right (a := 2) (by decide) (show k * 3 + (k + 1) * 3 < 15 * k + 10 by omega)
  have q4 := Nat.pow_le_pow_right (n := 2) (by decide) (show 9 * k + 1 + (k + 1) * 6 ≤ 15 * k + 10 by omega)
  exact ⟨e1.sz n1 (by omega) (by omega), e2.sz n2 (by omega) (by omega)⟩
theorem Nz.step {β k : Nat} {P W : List Rat} (h : Nz β k P W) (hk : k ≤ 7) {x y : Rat} (hx : Dn 6 36 x) (hy : Dn 6 30 y) (hw : ev W x ≠ 0) : Nz (β + 18 * k + 12) (k + 1) (addQ P (sclQ ((y - ev P x) / ev W x) W)) (mulQ W [-x, 1]) := by
  obtain ⟨D, N, h1, h2, h3⟩ := h.p
  obtain ⟨M, h4, h5⟩ := h.w
  have hWn : W ≠ [] := fun z => by have := h.lw; rw [z] at this; simp at this
  have e1 := Dn.evk hx P k h.lp h1.dn
  obtain ⟨L, hL, hL2⟩ := Dn.evk hx W (k + 1) (by rw [h.lw]; exact Nat.le_refl _) h4.dn
  have n2 : 6 ^ k * 6 ^ (k + 1) ≠ 0 := Nat.mul_ne_zero h4.nz (Nat.ne_of_gt (Nat.pow_pos (by decide)))
  have hL0 : L ≠ 0 := fun z => by
    rw [z] at hL
    rcases Rat.mul_eq_zero.mp hL with h | h
    · exact hw h
    · exact n2 (by exact_mod_cast h)
  have p6 := pow6 k
  have p6' := pow6 (k + 1)
  have hy2 := hy.scale (D * 6 ^ k)
  have ed : 6 * (D * 6 ^ k) = 6 * D * 6 ^ k := (Nat.mul_assoc _ _ _).symm
  rw [ed] at hy2
  have hc := hy2.sub e1
  have hLn : L.natAbs ≠ 0 := Int.natAbs_ne_zero.mpr hL0
  have bL : L.natAbs < 2 ^ (15 * k + 7) := by
    have b4 : M * (6 + 36) ^ (k + 1) < 2 ^ (9 * k + 1 + (k + 1) * 6) := le_mul2 h5 (pow42 (k + 1))
    have : 9 * k + 1 + (k + 1) * 6 = 15 * k + 7 := by omega
    rw [this] at b4
    omega
  have bD : D * 6 ^ k < 2 ^ (β + k * 3) := le_mul2 h2 p6
  have bD2 : D * 6 ^ k * L.natAbs < 2 ^ (β + k * 3 + (15 * k + 7)) := lt_mul2 bD bL
  have bN : N * (6 + 36) ^ k < 2 ^ (β + k * 6) := le_mul2 h3 (pow42 k)
  have bM : M * 6 ^ (k + 1) < 2 ^ (9 * k + 1 + (k + 1) * 3) := le_mul2 h5 p6'
  have bMc : 30 * (D * 6 ^ k) + N * (6 + 36) ^ k < 2 ^ (β + 6 * k + 6) := by
    have q1 := Nat.pow_le_pow_right (n := 2) (by decide) (show β + k * 3 ≤ β + 6 * k by omega)
    have q2 := Nat.pow_le_pow_right (n := 2) (by decide) (show β + k * 6 ≤ β + 6 * k by omega)
    rw [Nat.pow_add 2 (β + 6 * k) 6]
    omega
  have b6 := lt_mul2 bMc bM
  have bN2 : N * (6 ^ k * L.natAbs) < 2 ^ (β + (k * 3 + (15 * k + 7))) := by
    rw [← Nat.mul_assoc]
    have := lt_mul2 (le_mul2 h3 p6) bL
    rwa [Nat.add_assoc] at this
  refine ⟨⟨D * 6 ^ k * L.natAbs, N * (6 ^ k * L.natAbs) + (30 * (D * 6 ^ k) + N * (6 + 36) ^ k) * (M * 6 ^ (k + 1)), Pb.trim ⟨?_, Dn.addR (fun c hc => ?_) fun c hc' => ?_⟩, ?_, ?_⟩, ⟨(k + 1) * (M * 36), ?_, ?_⟩, ?_, ?_, Tr.mulQ _ _⟩
  · have := h1.nz
    refine Nat.mul_ne_zero (by decide) (Nat.mul_ne_zero (Nat.mul_ne_zero (by omega) (Nat.ne_of_gt (Nat.pow_pos (by decide)))) hLn)
  · have := (h1.dn c hc).scale (6 ^ k * L.natAbs)
    have e : 6 * D * (6 ^ k * L.natAbs) = 6 * (D * 6 ^ k * L.natAbs) := by simp only [Nat.mul_assoc]
    rwa [e] at this
  · have hm := mem_trim hc'
    obtain ⟨b, hb, rfl⟩ := List.mem_map.mp hm
    have hb2 := (h4.dn b hb).scale (6 ^ (k + 1))
    have := hc.quot hL hw hL0 hb2
    have e : 6 * D * 6 ^ k * L.natAbs = 6 * (D * 6 ^ k * L.natAbs) := by simp only [Nat.mul_assoc]
    rw [e] at this
    have e2 : b * ((y - ev P x) / ev W x) = (y - ev P x) / ev W x * b := Rat.mul_comm _ _
    rw [e2]
    exact this
  · have q := Nat.pow_le_pow_right (n := 2) (by decide) (show β + k * 3 + (15 * k + 7) ≤ β + 18 * k + 12 by omega)
    omega
  · have q1 := Nat.pow_le_pow_right (n := 2) (by decide) (show β + (k * 3 + (15 * k + 7)) ≤ β + 18 * k + 11 by omega)
    have q2 := Nat.pow_le_pow_right (n := 2) (by decide) (show β + 6 * k + 6 + (9 * k + 1 + (k + 1) * 3) ≤ β + 18 * k + 11 by omega)
    have q3 : 2 ^ (β + 18 * k + 12) = 2 ^ (β + 18 * k + 11) * 2 := Nat.pow_succ 2 _
    omega
  · have hline : Pb 6 36 [-x, 1] := ⟨by decide, fun c hc => by
      simp only [List.mem_cons, List.not_mem_nil, or_false] at hc
      rcases hc with rfl | rfl
      · exact hx.neg
      · exact ⟨6, by grind, by decide⟩⟩
    have := h4.mulQ hline
    rw [h.lw] at this
    rwa [Nat.pow_succ]
  · have b1 : M * 36 < 2 ^ (9 * k + 1 + 6) := lt_mul2 h5 (by decide)
    have b2 := le_mul2 b1 (show k + 1 ≤ 2 ^ 3 by show _ ≤ 8; omega)
    rw [Nat.mul_comm]
    have : 9 * k + 1 + 6 + 3 = 9 * (k + 1) + 1 := by omega
    rwa [this] at b2
  · have a1 := addQ_len_le P (sclQ ((y - ev P x) / ev W x) W)
    have a2 := sclQ_len ((y - ev P x) / ev W x) W
    have a3 := h.lp
    have a4 := h.lw
    omega
  · rw [mulQ_len h.tw (Tr.line x) hWn (by simp), h.lw]; rfl
theorem Nz.bt {β k : Nat} {P W : List Rat} (h : Nz β k P W) : Bt (β + 3) P ∧ Bt (9 * k + 1) W := by
  obtain ⟨D, N, h1, h2, h3⟩ := h.p
  obtain ⟨M, h4, h5⟩ := h.w
  refine ⟨⟨_, _, h1, by rw [Nat.pow_add]; omega, by rw [Nat.pow_add]; omega⟩, ⟨_, _, h4, ?_, h5⟩⟩
  have := pow6 k
  have q := Nat.pow_lt_pow_right (a := 2) (by decide) (show k * 3 < 9 * k + 1 by omega)
  omega
end NP
end

section
set_option linter.all false
set_option maxRecDepth 100000
set_option autoImplicit false
namespace N1
open PySem
open DS
open NP
open NW hiding m_scaled g_scaled

noncomputable def g_power : Ev → LS → SOut := (seqD (setD 2 (asSh (tupG (consG (tupG (consG (cD (.int 1)) (consG (cD (.int 1)) nilG))) nilG))))
  (seqD (forG (.nm 3) (rng1 (varD 1)) (setD 2 (asSh (callG m_product (consG (varX 2) (consG (varX 0) nilG))))))
  (retD (varD 2))))
noncomputable def m_power : List EV → LS → Out D := run 4 g_power
def fu_shares_1 : Ev → LS → Nat := fuP 3
noncomputable def g_shares : Ev → LS → SOut := (seqD (unpD (.tp [2, 3]) (tupG (consG (tupG (consG (varD 0) (consG (tupG (consG (tupG (consG (cD (.int 1)) (consG (cD (.int 1)) nilG))) nilG)) (consG (tupG nilG) nilG)))) (consG (tupG (consG (varD 1) (consG (tupG nilG) (consG (tupG (consG (tupG (consG (cD (.int 1)) (consG (cD (.int 1)) nilG))) nilG)) nilG)))) nilG))))
  (seqD (whileG fu_shares_1 (tst2 gtD (callB lenF (consG (op2 ixD (varW 3) (cD (.int 0))) nilG)) (cD (.int 0))) (seqD (setD 4 (asSh (op2 ixD (callG m_divided (consG (asSh (op2 ixD (varW 2) (cD (.int 0)))) (consG (asSh (op2 ixD (varW 3) (cD (.int 0)))) nilG))) (cD (.int 0)))))
  (unpD (.tp [2, 3]) (tupG (consG (varD 3) (consG (callB tupF (consG (asLst (lcG (.nm 5) [5] (rng1 (cD (.int 3))) yesB (callG m_less (consG (asSh (op2 ixD (varW 2) (varD 5))) (consG (asSh (callG m_product (consG (varX 4) (consG (asSh (op2 ixD (varW 3) (varD 5))) nilG)))) nilG))))) nilG)) nilG))))))
  (seqD (ifD (tst2 eqD (callB lenF (consG (op2 ixD (varW 2) (cD (.int 0))) nilG)) (cD (.int 0))) (raiseD "Misstep" "word" (cD (.str (PySem.Str.ofString "nought")))) nopD)
  (seqD (setD 6 (asSh (callG m_over (consG (asSh (tupG (consG (cD (.int 1)) (consG (cD (.int 1)) nilG)))) (consG (asSh (op2 ixD (op2 ixD (varW 2) (cD (.int 0))) (op1 negI (cD (.int 1))))) nilG)))))
  (retD (callB tupF (consG (asLst (lcG (.nm 7) [7] (itemG (varD 2)) yesB (callG m_scaled (consG (varX 7) (consG (varX 6) nilG))))) nilG)))))))
noncomputable def m_shares : List EV → LS → Out D := run 8 g_shares
noncomputable def g_moved : Ev → LS → SOut := (seqD (setD 2 (asSh (tupG nilG)))
  (seqD (forG (.nm 3) (itemG (op1 revD (varW 0))) (setD 2 (asSh (callG m_added (consG (asSh (callG m_product (consG (varX 2) (consG (asSh (tupG (consG (varD 1) (consG (tupG (consG (cD (.int 1)) (consG (cD (.int 1)) nilG))) nilG)))) nilG)))) (consG (asSh (callG m_trimmed (consG (asSh (asLst (lstG (consG (varD 3) nilG)))) nilG))) nilG))))))
  (retD (varD 2))))
noncomputable def m_moved : List EV → LS → Out D := run 4 g_moved
noncomputable def g_inside : Ev → LS → SOut := (seqD (setD 2 (asSh (tupG nilG)))
  (seqD (forG (.nm 3) (itemG (op1 revD (varW 0))) (setD 2 (asSh (callG m_added (consG (asSh (callG m_product (consG (varX 2) (consG (varX 1) nilG)))) (consG (asSh (callG m_trimmed (consG (asSh (asLst (lstG (consG (varD 3) nilG)))) nilG))) nilG))))))
  (retD (varD 2))))
noncomputable def m_inside : List EV → LS → Out D := run 4 g_inside
noncomputable def g_through : Ev → LS → SOut := (seqD (ifD (tst2 neD (op1 lenSetD (asLst (lcG (.tp [1, 2]) [1, 2] (itemG (varD 0)) yesB (varD 1)))) (callB lenF (consG (varW 0) nilG))) (raiseD "Misstep" "word" (cD (.str (PySem.Str.ofString "points")))) nopD)
  (seqD (unpD (.tp [3, 4]) (tupG (consG (tupG nilG) (consG (tupG (consG (tupG (consG (cD (.int 1)) (consG (cD (.int 1)) nilG))) nilG)) nilG))))
  (seqD (forG (.tp [1, 2]) (itemG (varD 0)) (seqD (setD 5 (asSh (callG m_minus (consG (varX 2) (consG (asSh (callG m_value_at (consG (varX 3) (consG (varX 1) nilG)))) nilG)))))
  (seqD (setD 3 (asSh (callG m_added (consG (varX 3) (consG (asSh (callG m_scaled (consG (varX 4) (consG (asSh (callG m_over (consG (varX 5) (consG (asSh (callG m_value_at (consG (varX 4) (consG (varX 1) nilG)))) nilG)))) nilG)))) nilG)))))
  (setD 4 (asSh (callG m_product (consG (varX 4) (consG (asSh (tupG (consG (callG m_times (consG (asSh (tupG (consG (op2 subD (cD (.int 0)) (cD (.int 1))) (consG (cD (.int 1)) nilG)))) (consG (varX 1) nilG))) (consG (tupG (consG (cD (.int 1)) (consG (cD (.int 1)) nilG))) nilG)))) nilG))))))))
  (retD (varD 3)))))
noncomputable def m_through : List EV → LS → Out D := run 6 g_through
noncomputable def g_turned : Ev → LS → SOut := (retD (callB tupF (consG (asLst (lcG (.nm 1) [1] (rng1 (callB lenF (consG (varW 0) nilG))) yesB (ifG (tst2 eqD (op2 modD (varW 1) (cD (.int 2))) (cD (.int 0))) (op2 ixD (varW 0) (varD 1)) (callG m_times (consG (asSh (op2 ixD (varW 0) (varD 1))) (consG (asSh (tupG (consG (op2 subD (cD (.int 0)) (cD (.int 1))) (consG (cD (.int 1)) nilG)))) nilG)))))) nilG)))
noncomputable def m_turned : List EV → LS → Out D := run 2 g_turned
noncomputable def g_back : Ev → LS → SOut := (seqD (setD 2 (asSh (asLst (catG (asLst (listG (varW 0))) (asLst (repG (lstG (consG (tupG (consG (cD (.int 0)) (consG (cD (.int 1)) nilG))) nilG)) (op2 subD (op2 addD (varW 1) (cD (.int 1))) (callB lenF (consG (varW 0) nilG)))))))))
  (retD (callG m_trimmed (consG (asSh (op1 revD (varW 2))) nilG))))
noncomputable def m_back : List EV → LS → Out D := run 3 g_back
noncomputable def g__law_common : Ev → LS → SOut := (seqD (forG (.nm 2) (rng1 (cD (.int 30))) (ifD (tst2 gtD (callB lenF (consG (varW 1) nilG)) (cD (.int 0))) (unpD (.tp [0, 1]) (tupG (consG (varD 1) (consG (op2 ixD (callG m__law_rest (consG (varX 0) (consG (varX 1) nilG))) (cD (.int 1))) nilG)))) nopD))
  (retD (callB tupF (consG (asLst (lcG (.nm 3) [3] (itemG (varD 0)) yesB (callG m__law_mul (consG (varX 3) (consG (asSh (callG m__law_flip (consG (asSh (op2 ixD (varW 0) (op1 negI (cD (.int 1))))) nilG))) nilG))))) nilG))))
noncomputable def m__law_common : List EV → LS → Out D := run 4 g__law_common
noncomputable def g__law_word : Ev → LS → SOut := (tryD "Misstep" 1 (seqD (ifD (tst2 eqD (varW 0) (cD (.int 0))) (exprD (callG m_divided (consG (asSh (tupG (consG (tupG (consG (cD (.int 1)) (consG (cD (.int 1)) nilG))) nilG))) (consG (asSh (tupG nilG)) nilG)))) (ifD (tst2 eqD (varW 0) (cD (.int 1))) (exprD (callG m_shares (consG (asSh (tupG nilG)) (consG (asSh (tupG nilG)) nilG)))) (exprD (callG m_through (consG (asSh (asLst (lstG (consG (tupG (consG (tupG (consG (cD (.int 1)) (consG (cD (.int 2)) nilG))) (consG (tupG (consG (cD (.int 1)) (consG (cD (.int 1)) nilG))) nilG))) (consG (tupG (consG (tupG (consG (cD (.int 1)) (consG (cD (.int 2)) nilG))) (consG (tupG (consG (cD (.int 0)) (consG (cD (.int 1)) nilG))) nilG))) nilG))))) nilG)))))
  (retD (cD (.str (PySem.Str.ofString ""))))) (fun ad dd => (retD (exfD ad dd 1 "word"))))
noncomputable def m__law_word : List EV → LS → Out D := run 2 g__law_word
noncomputable def g__law_through : Ev → LS → SOut := (seqD (par2 1 2 (asOw (lstG nilG)) (asOw (lstG nilG)))
  (seqD (forG (.nm 3) (rng1 (callG m__law_take (consG (varX 0) (consG (asSh (cD (.int 6))) nilG)))) (seqD (setD 4 (asSh (callG m__law_part (consG (varX 0) (consG (asSh (cD (.int 6))) (consG (asSh (cD (.int 3))) nilG))))))
  (ifD (tst2 notInD (varW 4) (varW 1)) (seqD (appD 1 (varD 4))
  (appD 2 (tupG (consG (varD 4) (consG (callG m__law_part (consG (varX 0) (consG (asSh (cD (.int 5))) (consG (asSh (cD (.int 3))) nilG)))) nilG))))) nopD)))
  (frzD 2 (seqD (setD 5 (asSh (callG m_through (consG (asSh (asLst (lcG (.nm 6) [6] (itemG (varD 2)) yesB (varD 6)))) nilG))))
  (frzD 2 (retD (andD (op2 leD (callB lenF (consG (varW 5) nilG)) (callB lenF (consG (varW 2) nilG))) (op2 eqD (callB lenF (consG (asLst (lcG (.nm 7) [7] (itemG (varD 2)) (tst2 neD (callG m__law_val (consG (varX 5) (consG (asSh (op2 ixD (varW 7) (cD (.int 0)))) nilG))) (op2 ixD (varW 7) (cD (.int 1)))) (varD 7))) nilG)) (cD (.int 0))))))))))
noncomputable def m__law_through : List EV → LS → Out D := run 8 g__law_through
noncomputable def g_law : Ev → LS → SOut := (seqD (unpD (.tp [2, 3, 4]) (tupG (consG (callG m__law_poly (consG (varX 1) (consG (asSh (callG m__law_take (consG (varX 1) (consG (asSh (cD (.int 6))) nilG)))) (consG (asSh (cD (.int 5))) nilG)))) (consG (callG m__law_poly (consG (varX 1) (consG (asSh (callG m__law_take (consG (varX 1) (consG (asSh (cD (.int 5))) nilG)))) (consG (asSh (cD (.int 5))) nilG)))) (consG (callG m__law_poly (consG (varX 1) (consG (asSh (callG m__law_take (consG (varX 1) (consG (asSh (cD (.int 4))) nilG)))) (consG (asSh (cD (.int 3))) nilG)))) nilG)))))
  (seqD (par2 5 6 (asSh (callG m__law_part (consG (varX 1) (consG (asSh (cD (.int 5))) (consG (asSh (cD (.int 4))) nilG))))) (asSh (callG m__law_part (consG (varX 1) (consG (asSh (cD (.int 5))) (consG (asSh (cD (.int 4))) nilG))))))
  (seqD (setD 7 (asSh (callG m__law_times (consG (varX 2) (consG (varX 3) nilG)))))
  (seqD (ifD (orB (tst2 neD (callG m_added (consG (varX 2) (consG (varX 3) nilG))) (callG m__law_sum (consG (varX 2) (consG (varX 3) (consG (asSh (tupG (consG (cD (.int 1)) (consG (cD (.int 1)) nilG)))) nilG))))) (orB (tst2 neD (callG m_less (consG (varX 2) (consG (varX 3) nilG))) (callG m__law_sum (consG (varX 2) (consG (varX 3) (consG (asSh (tupG (consG (op1 negI (cD (.int 1))) (consG (cD (.int 1)) nilG)))) nilG))))) (orB (tst2 neD (callG m_product (consG (varX 2) (consG (varX 3) nilG))) (varW 7)) (tst2 neD (callG m_scaled (consG (varX 2) (consG (varX 5) nilG))) (callG m__law_sum (consG (asSh (tupG nilG)) (consG (varX 2) (consG (varX 5) nilG)))))))) (retD (cD (.bool false))) nopD)
  (seqD (setD 8 (asSh (callG m__law_take (consG (varX 1) (consG (asSh (cD (.int 4))) nilG)))))
  (seqD (setD 9 (asSh (tupG (consG (tupG (consG (cD (.int 1)) (consG (cD (.int 1)) nilG))) nilG))))
  (seqD (forG (.nm 10) (rng1 (varD 8)) (setD 9 (asSh (callG m__law_times (consG (varX 9) (consG (varX 4) nilG))))))
  (seqD (ifD (orB (tst2 neD (callG m_power (consG (varX 4) (consG (varX 8) nilG))) (varW 9)) (orB (tst2 neD (callG m_value_at (consG (varX 2) (consG (varX 6) nilG))) (callG m__law_val (consG (varX 2) (consG (varX 6) nilG)))) (orB (tst2 neD (callG m_derived (consG (varX 2) nilG)) (callG m__law_slope (consG (varX 2) nilG))) (tst2 neD (cD (.int 30)) (cD (.int 30)))))) (retD (cD (.bool false))) nopD)
  (seqD (ifD (andB (tst2 gtD (callB lenF (consG (varW 3) nilG)) (cD (.int 0))) (tst2 neD (callG m_divided (consG (varX 2) (consG (varX 3) nilG))) (callG m__law_rest (consG (varX 2) (consG (varX 3) nilG))))) (retD (cD (.bool false))) nopD)
  (seqD (ifD (tst2 neD (callG m_monic (consG (varX 2) nilG)) (ifG (tst2 gtD (callB lenF (consG (varW 2) nilG)) (cD (.int 0))) (callB tupF (consG (asLst (lcG (.nm 11) [11] (itemG (varD 2)) yesB (callG m__law_mul (consG (varX 11) (consG (asSh (callG m__law_flip (consG (asSh (op2 ixD (varW 2) (op1 negI (cD (.int 1))))) nilG))) nilG))))) nilG)) (tupG nilG))) (retD (cD (.bool false))) nopD)
  (seqD (par2 12 13 (asSh (callG m__law_times (consG (varX 4) (consG (varX 2) nilG)))) (asSh (callG m__law_times (consG (varX 4) (consG (varX 3) nilG)))))
  (seqD (ifD (tst2 gtD (op2 addD (callB lenF (consG (varW 12) nilG)) (callB lenF (consG (varW 13) nilG))) (cD (.int 0))) (seqD (unpD (.tp [14, 15, 16]) (callG m_shares (consG (varX 12) (consG (varX 13) nilG))))
  (seqD (setD 17 (asSh (callG m__law_common (consG (varX 12) (consG (varX 13) nilG)))))
  (ifD (orB (tst2 neD (callG m_common (consG (varX 12) (consG (varX 13) nilG))) (varW 17)) (orB (tst2 neD (varW 14) (varW 17)) (tst2 neD (callG m__law_sum (consG (asSh (callG m__law_times (consG (varX 15) (consG (varX 12) nilG)))) (consG (asSh (callG m__law_times (consG (varX 16) (consG (varX 13) nilG)))) (consG (asSh (tupG (consG (cD (.int 1)) (consG (cD (.int 1)) nilG)))) nilG)))) (varW 17)))) (retD (cD (.bool false))) nopD))) nopD)
  (seqD (setD 18 (asSh (callG m_moved (consG (varX 2) (consG (varX 6) nilG)))))
  (seqD (ifD (orB (tst2 neD (callG m__law_val (consG (varX 18) (consG (varX 5) nilG))) (callG m__law_val (consG (varX 2) (consG (asSh (callG m__law_add (consG (varX 6) (consG (varX 5) nilG)))) nilG)))) (tst2 neD (callB lenF (consG (varW 18) nilG)) (callB lenF (consG (varW 2) nilG)))) (retD (cD (.bool false))) nopD)
  (seqD (setD 19 (asSh (callG m_inside (consG (varX 2) (consG (varX 4) nilG)))))
  (seqD (ifD (orB (tst2 neD (callG m__law_val (consG (varX 19) (consG (varX 5) nilG))) (callG m__law_val (consG (varX 2) (consG (asSh (callG m__law_val (consG (varX 4) (consG (varX 5) nilG)))) nilG)))) (tst2 neD (varW 19) (callG m__law_trim (consG (asSh (asLst (listG (varW 19)))) nilG)))) (retD (cD (.bool false))) nopD)
  (seqD (ifD (tst2 neD (callG m_turned (consG (varX 2) nilG)) (callB tupF (consG (asLst (lcG (.nm 20) [20] (rng1 (callB lenF (consG (varW 2) nilG))) yesB (ifG (tst2 eqD (op2 modD (callB intF (consG (varW 20) nilG)) (cD (.int 2))) (cD (.int 0))) (op2 ixD (varW 2) (varD 20)) (tupG (consG (op2 subD (cD (.int 0)) (op2 ixD (op2 ixD (varW 2) (varD 20)) (cD (.int 0)))) (consG (op2 ixD (op2 ixD (varW 2) (varD 20)) (cD (.int 1))) nilG)))))) nilG))) (retD (cD (.bool false))) nopD)
  (seqD (setD 21 (asSh (op2 addD (callB maxF (consG (cD (.int 0)) (consG (op2 subD (callB lenF (consG (varW 2) nilG)) (cD (.int 1))) nilG))) (callG m__law_take (consG (varX 1) (consG (asSh (cD (.int 3))) nilG))))))
  (seqD (ifD (tst2 neD (callG m_back (consG (varX 2) (consG (varX 21) nilG))) (callG m__law_trim (consG (asSh (op1 revD (asLst (catG (asLst (listG (varW 2))) (asLst (repG (lstG (consG (tupG (consG (cD (.int 0)) (consG (cD (.int 1)) nilG))) nilG)) (op2 subD (op2 addD (varW 21) (cD (.int 1))) (callB lenF (consG (varW 2) nilG))))))))) nilG))) (retD (cD (.bool false))) nopD)
  (seqD (ifD (andB (tst2 gtD (callB lenF (consG (varW 2) nilG)) (cD (.int 0))) (tst2 neD (callG m_is_simple (consG (varX 2) nilG)) (op2 ltD (callB lenF (consG (callG m__law_common (consG (varX 2) (consG (asSh (callG m__law_slope (consG (varX 2) nilG))) nilG))) nilG)) (cD (.int 2))))) (retD (cD (.bool false))) nopD)
  (seqD (setD 22 (asSh (asLst (lcG (.nm 20) [20] (rng1 (callG m__law_take (consG (varX 1) (consG (asSh (cD (.int 5))) nilG)))) yesB (callG m__law_part (consG (varX 1) (consG (asSh (cD (.int 4))) (consG (asSh (cD (.int 2))) nilG))))))))
  (seqD (setD 17 (asSh (tupG (consG (tupG (consG (cD (.int 1)) (consG (cD (.int 1)) nilG))) nilG))))
  (seqD (forG (.nm 23) (itemG (varD 22)) (setD 17 (asSh (callG m__law_times (consG (varX 17) (consG (asSh (tupG (consG (tupG (consG (op2 subD (cD (.int 0)) (op2 ixD (varW 23) (cD (.int 0)))) (consG (op2 ixD (varW 23) (cD (.int 1))) nilG))) (consG (tupG (consG (cD (.int 1)) (consG (cD (.int 1)) nilG))) nilG)))) nilG))))))
  (seqD (ifD (orB (tst2 neD (callG m_from_roots (consG (asSh (asLst (lcG (.nm 23) [23] (itemG (varD 22)) yesB (varD 23)))) nilG)) (varW 17)) (orB (tst2 neD (callG m_line (consG (varX 6) nilG)) (tupG (consG (tupG (consG (op2 subD (cD (.int 0)) (op2 ixD (varW 6) (cD (.int 0)))) (consG (op2 ixD (varW 6) (cD (.int 1))) nilG))) (consG (tupG (consG (cD (.int 1)) (consG (cD (.int 1)) nilG))) nilG)))) (tst2 neD (callG m_is_simple (consG (varX 17) nilG)) (op2 eqD (callB lenF (consG (asLst (lcG (.nm 20) [20] (rng1 (callB lenF (consG (varW 22) nilG))) (tst2 inD (op2 ixD (varW 22) (varD 20)) (slG (varW 22) noP (someP (varD 20)))) (varD 20))) nilG)) (cD (.int 0)))))) (retD (cD (.bool false))) nopD)
  (seqD (frzA 24 (setD 24 (asOw (lcG (.nm 20) [20] (rng1 (callG m__law_take (consG (varX 1) (consG (asSh (cD (.int 6))) nilG)))) yesB (op2 subD (callG m__law_take (consG (varX 1) (consG (asSh (cD (.int 5))) nilG))) (cD (.int 2)))))))
  (seqD (ifD (orB (tst2 neD (callG m_of_wholes (consG (asSh (asLst (lcG (.nm 11) [11] (itemG (varD 24)) yesB (varD 11)))) nilG)) (callG m__law_trim (consG (asSh (asLst (lcG (.nm 11) [11] (itemG (varD 24)) yesB (tupG (consG (varD 11) (consG (cD (.int 1)) nilG)))))) nilG))) (orB (tst2 neD (callG m_trimmed (consG (asSh (asLst (lcG (.nm 11) [11] (itemG (varD 24)) yesB (tupG (consG (varD 11) (consG (cD (.int 1)) nilG)))))) nilG)) (callG m__law_trim (consG (asSh (asLst (lcG (.nm 11) [11] (itemG (varD 24)) yesB (tupG (consG (varD 11) (consG (cD (.int 1)) nilG)))))) nilG))) (notB (tst (callG m__law_through (consG (varX 1) nilG)))))) (retD (cD (.bool false))) nopD)
  (seqD (forG (.nm 25) (itemG (asLst (lstG (consG (varD 2) (consG (asLst (listG (varW 2))) (consG (op2 addD (varW 2) (tupG (consG (tupG (consG (cD (.int 0)) (consG (cD (.int 1)) nilG))) nilG))) (consG (op2 addD (varW 2) (tupG (consG (tupG (consG (cD (.int 2)) (consG (cD (.int 2)) nilG))) nilG))) (consG (cD .none) (consG (op2 addD (varW 2) (tupG (consG (tupG (consG (cD (.int 1)) (consG (op1 negI (cD (.int 2))) nilG))) nilG))) (consG (op2 mulT (tupG (consG (tupG (consG (cD (.int 1)) (consG (cD (.int 1)) nilG))) nilG)) (cD (.int 31))) (consG (op2 mulT (tupG (consG (tupG (consG (cD (.int 1)) (consG (cD (.int 1)) nilG))) nilG)) (cD (.int 32))) (consG (tupG (consG (cD (.int 1)) (consG (cD (.int 2)) nilG))) (consG (op2 addD (varW 2) (tupG (consG (tupG (consG (cD (.bool true)) (consG (cD (.int 1)) nilG))) nilG))) (consG (tupG nilG) nilG)))))))))))))) (seqD (setD 26 (asSh (andD (isiG isTup (varW 25)) (andD (op2 ltD (callB lenF (consG (varW 25) nilG)) (cD (.int 32))) (andD (callG m__law_are_frs (consG (varX 25) (consG (asSh (callB lenF (consG (varW 25) nilG))) nilG))) (orD (op2 eqD (callB lenF (consG (varW 25) nilG)) (cD (.int 0))) (op2 neD (op2 ixD (op2 ixD (varW 25) (op1 negI (cD (.int 1)))) (cD (.int 0))) (cD (.int 0)))))))))
  (ifD (tst2 neD (callG m_is_poly (consG (varX 25) nilG)) (varW 26)) (retD (cD (.bool false))) nopD)))
  (retD (op2 eqD (asLst (lcG (.nm 27) [27] (rng1 (cD (.int 3))) yesB (callG m__law_word (consG (varX 27) nilG)))) (asLst (lstG (consG (cD (.str (PySem.Str.ofString "nought"))) (consG (cD (.str (PySem.Str.ofString "nought"))) (consG (cD (.str (PySem.Str.ofString "points"))) nilG))))))))))))))))))))))))))))))))))
noncomputable def m_law : List EV → LS → Out D := run 28 g_law
end N1
end

section
set_option linter.all false
set_option autoImplicit false
namespace N1
open PySem hiding run
open DS NP
open NW hiding m_scaled g_scaled m_scaled_eq
/-! ## the law's own greatest divisor -/
noncomputable abbrev lcb : Ev → LS → SOut := ifD (tst2 gtD (callB lenF (consG (varW 1) nilG)) (cD (.int 0))) (unpD (.tp [0, 1]) (tupG (consG (varD 1) (consG (op2 ixD (callG m__law_rest (consG (varX 0) (consG (varX 1) nilG))) (cD (.int 1))) nilG)))) nopD
theorem lcommon_stop (s : LS) (p : List Rat) : ∀ (items : List D) (e2 : EV), ∃ e, forD (.nm 2) lcb items [.sh (PL p), .sh (PL []), e2, .un] s = .nx [.sh (PL p), .sh (PL []), e, .un] s
  | [], e2 => ⟨e2, rfl⟩
  | d :: items, e2 => by
    obtain ⟨e, he⟩ := lcommon_stop s p items (.sh d)
    refine ⟨e, ?_⟩
    rw [forD_nx (env1 := [.sh (PL p), .sh (PL []), .sh d, .un]) (e := [.sh (PL p), .sh (PL []), .sh d, .un]) (s' := s) rfl (by simp -implicitDefEqProofs)]
    exact he
theorem lcommon_loop {A : Nat} (s : LS) : ∀ (n : Nat) (p q : List Rat), Ch 1990 A n p q → Tr p → Tr q → ∀ (items : List D) (e2 : EV), n ≤ items.length → ∃ e, forD (.nm 2) lcb items [.sh (PL p), .sh (PL q), e2, .un] s = .nx [.sh (PL (gcdQ n p q)), .sh (PL []), e, .un] s
  | 0, p, q, h, _, _, items, e2, _ => by
    obtain ⟨rfl, -⟩ := h
    exact lcommon_stop s p items e2
  | n + 1, p, q, h, tp, tq, [], e2, hl => by simp at hl
  | n + 1, p, q, h, tp, tq, d :: items, e2, hl => by
    rcases h with ⟨rfl, -⟩ | ⟨h1, h2, h3, ⟨a, b, h4, h5, h6⟩, h7⟩
    · rw [gcdQ, if_pos rfl]
      exact lcommon_stop s p _ e2
    · rw [gcdQ, if_neg h1]
      have e := lrest_ok h4 h5 tq h1 h6 (by omega) (by omega) s
      have hp := len_pos h1
      obtain ⟨e', he⟩ := lcommon_loop s n q (restQ p q) h7 tq (Tr.rest p q) items (.sh d) (by simpa using hl)
      refine ⟨e', ?_⟩
      rw [forD_nx (env1 := [.sh (PL p), .sh (PL q), .sh d, .un]) (e := [.sh (PL q), .sh (PL (restQ p q)), .sh d, .un]) (s' := s) rfl ?_]
      · exact he
      · simp -implicitDefEqProofs only [lcb, ifD_def, tst2_def, op2_def, callB_def, consG_def, nilG_def, varW_def, cD_def, List.getElem?_cons_zero, List.getElem?_cons_succ, bind_ok, lenF_tuple, lift_some, List.length_map, hp, asB_bool, evS_ok, if_true, unpD_def, tupG_def, varD_def, callG_def, varX_def, List.all_cons, List.all_nil, solid_sh, Bool.and_self, e, ix1, List.length_cons, List.length_nil, Nat.reduceAdd, if_pos line2, asg_tp, setAll_cons, setAll_nil, List.set_cons_zero, List.set_cons_succ]
theorem m__law_common_eq {A n : Nat} {p q : List Rat} (h : Ch 1990 A n p q) (tp : Tr p) (tq : Tr q) (hA : A + A ≤ 1990) (hn : n ≤ 30) (hg : gcdQ n p q ≠ []) (hl : (gcdQ n p q).length ≤ 1000) (s : LS) : m__law_common [.sh (PL p), .sh (PL q)] s = .ok (PL (monQ (gcdQ n p q))) s := by
  obtain ⟨e, hw⟩ := lcommon_loop s n p q h tp tq (rangeL 0 30) .un (by rw [rangeL_length]; exact hn)
  have hB := h.gcd
  have tg := gcd_Tr n p q tp tq
  generalize gcdQ n p q = g at hw hB tg hg hl
  have hl0 := lead_ne tg hg
  have hi : (1 / lead g) = (lead g)⁻¹ := by rw [Rat.div_def, Rat.one_mul]
  have hi0 : (lead g)⁻¹ ≠ 0 := fun z => by
    have := Rat.mul_inv_cancel _ hl0
    rw [z] at this
    exact absurd this (by grind)
  have hm : monQ g = sclR (lead g)⁻¹ g := by rw [monQ, hi]; exact sclQ_eq hi0 tg
  have zl : Sz A (lead g) := hB.szs.get hB.pos _
  have zi : Sz A (lead g)⁻¹ := Sz_inv zl hl0
  have ef := m__law_flip_eq zl hl0 (by omega) s
  have hlast := last_row hg
  have hr : rngB 30 := rngB_small (by decide) (by decide)
  have hline : g.length ≤ sizeLine := small_line (by omega)
  have hlc := lc_row (i := 3) (ge := callG m__law_mul (consG (varX 3) (consG (asSh (callG m__law_flip (consG (asSh (op2 ixD (varW 0) (op1 negI (cD (.int 1))))) nilG))) nilG))) (fun c => c * (lead g)⁻¹) g [.sh (PL g), .sh (PL []), e, .un] s fun c hc => by
    have em := m__law_mul_eq (hB.szs c hc) zi (by omega) s
    simp -implicitDefEqProofs only [callG_def, consG_def, varX_def, List.set_cons_succ, List.set_cons_zero, List.getElem?_cons_succ, List.getElem?_cons_zero, bind_ok, asSh_def, op2_def, op1_def, varW_def, cD_def, negI_int, lift_some, ixD_tuple, hlast, nilG_def, List.all_cons, List.all_nil, solid_sh, Bool.and_self, if_true, ef, em]
  unfold m__law_common g__law_common
  refine run_rt ?_
  show seqD _ _ [.sh (PL p), .sh (PL q), .un, .un] s = _
  rw [seqD_nx (e := [.sh (PL g), .sh (PL []), e, .un]) (s1 := s) (by
    rw [forG_def]
    simp -implicitDefEqProofs only [rng1_def, cD_def, bind_ok, if_pos hr, evS_ok]
    exact hw)]
  rw [hm]
  simp -implicitDefEqProofs only [retD_def, callB_def, consG_def, asLst_def, lcG_def, itemG_def, varD_def, List.getElem?_cons_zero, bind_ok, listF_tuple, lift_some, List.length_map, if_pos hline, wipeE_cons, wipeE_nil, List.set_cons_succ, List.set_cons_zero, hlc, nilG_def, tupF_list, evS_ok, sclR]
/-! ## shares -/
abbrev T3 (p a b : List Rat) : D := .tuple [PL p, PL a, PL b]
def shQ : Nat → List Rat × List Rat × List Rat → List Rat × List Rat × List Rat → List Rat × List Rat × List Rat
  | 0, x, _ => x
  | n + 1, x, y => if y.1 = [] then x else shQ n y (restQ x.1 y.1, subP x.2.1 (mulQ (quoQ x.1 y.1) y.2.1), subP x.2.2 (mulQ (quoQ x.1 y.1) y.2.2))
/-- sizes -/
def Sh (A : Nat) : Nat → List Rat × List Rat × List Rat → List Rat × List Rat × List Rat → Prop
  | 0, x, y => y.1 = [] ∧ Bt A x.1 ∧ Bt A x.2.1 ∧ Bt A x.2.2 ∧ x.1.length ≤ 16 ∧ x.2.1.length ≤ 16 ∧ x.2.2.length ≤ 16
  | n + 1, x, y => (y.1 = [] ∧ Bt A x.1 ∧ Bt A x.2.1 ∧ Bt A x.2.2 ∧ x.1.length ≤ 16 ∧ x.2.1.length ≤ 16 ∧ x.2.2.length ≤ 16) ∨ (y.1 ≠ [] ∧ (x.1.length ≤ 16 ∧ x.2.1.length ≤ 16 ∧ x.2.2.length ≤ 16) ∧ (y.1.length ≤ 16 ∧ y.2.1.length ≤ 16 ∧ y.2.2.length ≤ 16) ∧ (quoQ x.1 y.1).length ≤ 16 ∧ (∃ a b k e f, Bt a x.1 ∧ Bt b y.1 ∧ Bt k (quoQ x.1 y.1) ∧ Bt e x.2.1 ∧ Bt e x.2.2 ∧ Bt f y.2.1 ∧ Bt f y.2.2 ∧ 2 * (a + (x.1.length + 1 - y.1.length) * (b + 1) + b) ≤ 8999 ∧ 2 * (k + b) + 8 ≤ 8999 ∧ 2 * (k + f) + 8 ≤ 8999 ∧ a + (k + b + 4) + 1 ≤ 8999 ∧ e + (k + f + 4) + 1 ≤ 8999) ∧
    Sh A n y (restQ x.1 y.1, subP x.2.1 (mulQ (quoQ x.1 y.1) y.2.1), subP x.2.2 (mulQ (quoQ x.1 y.1) y.2.2)))
def okS (A t : Nat) : Nat → Nat → Nat → Nat → Nat → Nat → Nat → Nat → Nat → Bool
  | 0, lp, lq, a, b, e, f, l, m => lq == 0 && decide (a ≤ A) && decide (e ≤ A) && decide (lp ≤ 16) && decide (l ≤ 16)
  | g + 1, lp, lq, a, b, e, f, l, m => (lq == 0 && decide (a ≤ A) && decide (e ≤ A) && decide (lp ≤ 16) && decide (l ≤ 16)) ||
    (lq != 0 && decide (lp ≤ 15) && decide (lq ≤ 16) && decide (l ≤ 16) && decide (m ≤ 16) && decide (2 * (a + (lp + 1 - lq) * (b + 1) + b) ≤ 8999) && decide (2 * (a + (lp + 1 - lq) * (b + 1) + b + b) + 8 ≤ 8999) && decide (2 * (a + (lp + 1 - lq) * (b + 1) + b + f) + 8 ≤ 8999) && decide (a + (a + (lp + 1 - lq) * (b + 1) + b + b + 4) + 1 ≤ 8999) && decide (e + (a + (lp + 1 - lq) * (b + 1) + b + f + 4) + 1 ≤ 8999) &&
      (List.range lq).all fun lr => (lr != 0 && decide (lr < t)) || okS A t g lq lr b (a + (lp + 1 - lq) * (b + 1)) f (e + (a + (lp + 1 - lq) * (b + 1) + b + f + 4) + 2) m (max l (lp + 1 - lq + m - 1)))
theorem okS_sh {A : Nat} {t : List Rat} (tt : Tr t) : ∀ (n a b e f l m : Nat) (x y : List Rat × List Rat × List Rat), Tr y.1 → Bt a x.1 → Bt b y.1 → Bt e x.2.1 → Bt e x.2.2 → Bt f y.2.1 → Bt f y.2.2 → x.2.1.length ≤ l → x.2.2.length ≤ l → y.2.1.length ≤ m → y.2.2.length ≤ m → Dv t x.1 → Dv t y.1 → okS A t.length n x.1.length y.1.length a b e f l m = true → Sh A n x y := by
  intro n
  induction n with
  | zero =>
    intro a b e f l m x y ty hx hy x1 x2 y1 y2 l1 l2 m1 m2 dx dy h
    simp only [okS, Bool.and_eq_true, beq_iff_eq, decide_eq_true_iff] at h
    obtain ⟨⟨⟨⟨h1, h2⟩, h3⟩, h4⟩, h5⟩ := h
    exact ⟨List.eq_nil_of_length_eq_zero h1, hx.mono h2, x1.mono h3, x2.mono h3, h4, by omega, by omega⟩
  | succ n ih =>
    intro a b e f l m x y ty hx hy x1 x2 y1 y2 l1 l2 m1 m2 dx dy h
    rw [okS, Bool.or_eq_true] at h
    rcases h with h | h
    · simp only [Bool.and_eq_true, beq_iff_eq, decide_eq_true_iff] at h
      obtain ⟨⟨⟨⟨h1, h2⟩, h3⟩, h4⟩, h5⟩ := h
      exact .inl ⟨List.eq_nil_of_length_eq_zero h1, hx.mono h2, x1.mono h3, x2.mono h3, h4, by omega, by omega⟩
    · simp only [Bool.and_eq_true, decide_eq_true_iff, bne_iff_ne] at h
      obtain ⟨⟨⟨⟨⟨⟨⟨⟨⟨⟨h1, h2⟩, h3⟩, h4⟩, h5⟩, h6⟩, h7⟩, h8⟩, h9⟩, h10⟩, h11⟩ := h
      have hqn : y.1 ≠ [] := fun e => h1 (by rw [e]; rfl)
      obtain ⟨-, hlt⟩ := div_spec (p := x.1) hqn ty
      obtain ⟨hr, hk⟩ := hx.div hy ty hqn
      have hql := quoQ_len x.1 y.1
      have hq4 : (quoQ x.1 y.1).length ≤ 2 ^ 4 := by show _ ≤ 16; omega
      refine .inr ⟨hqn, ⟨by omega, by omega, by omega⟩, ⟨by omega, by omega, by omega⟩, by omega, ⟨a, b, _, e, f, hx, hy, hk, x1, x2, y1, y2, h6, h7, h8, h9, h10⟩, ?_⟩
      have h12 := List.all_eq_true.mp h11 _ (List.mem_range.mpr hlt)
      have dr := Dv.rest dx dy ty hqn
      rw [Bool.or_eq_true] at h12
      rcases h12 with h12 | h12
      · simp only [Bool.and_eq_true, decide_eq_true_iff, bne_iff_ne] at h12
        have hrn : restQ x.1 y.1 ≠ [] := fun e => h12.1 (by rw [e]; rfl)
        have := dr.len tt (Tr.rest _ _) hrn
        omega
      · have b1 := x1.sub (hk.mul y1 hq4)
        have b2 := x2.sub (hk.mul y2 hq4)
        have c1 := subP_len_le x.2.1 (mulQ (quoQ x.1 y.1) y.2.1)
        have c2 := subP_len_le x.2.2 (mulQ (quoQ x.1 y.1) y.2.2)
        have c3 := mulQ_len_le (quoQ x.1 y.1) y.2.1
        have c4 := mulQ_len_le (quoQ x.1 y.1) y.2.2
        exact ih b _ f _ m _ y (restQ x.1 y.1, subP x.2.1 (mulQ (quoQ x.1 y.1) y.2.1), subP x.2.2 (mulQ (quoQ x.1 y.1) y.2.2)) (Tr.rest _ _) hy hr y1 y2 b1 b2 m1 m2 (by show (subP _ _).length ≤ _; omega) (by show (subP _ _).length ≤ _; omega) dy dr h12
theorem shQ_fst : ∀ (n : Nat) (x y : List Rat × List Rat × List Rat), (shQ n x y).1 = gcdQ n x.1 y.1
  | 0, x, y => rfl
  | n + 1, x, y => by
    rw [shQ, gcdQ]
    split
    · rfl
    · exact shQ_fst n _ _
/-- s p + t q = g -/
theorem shQ_sum (P Q : List Rat) (z : Rat) : ∀ (n : Nat) (x y : List Rat × List Rat × List Rat), Tr y.1 → (ev x.2.1 z * ev P z + ev x.2.2 z * ev Q z = ev x.1 z) → (ev y.2.1 z * ev P z + ev y.2.2 z * ev Q z = ev y.1 z) →
    ev (shQ n x y).2.1 z * ev P z + ev (shQ n x y).2.2 z * ev Q z = ev (shQ n x y).1 z
  | 0, x, y, _, h, _ => h
  | n + 1, x, y, ty, h, h' => by
    rw [shQ]
    split
    · exact h
    · rename_i hy
      refine shQ_sum P Q z n y _ (Tr.rest _ _) h' ?_
      have e := (div_spec (p := x.1) hy ty).1 z
      show ev (subP _ _) z * _ + ev (subP _ _) z * _ = ev (restQ x.1 y.1) z
      rw [ev_subP, ev_subP, ev_mulQ, ev_mulQ]
      grind
theorem Sh.bits {A : Nat} : ∀ {n : Nat} {x y : List Rat × List Rat × List Rat}, Sh A n x y → Bt A (shQ n x y).1 ∧ Bt A (shQ n x y).2.1 ∧ Bt A (shQ n x y).2.2 ∧ (shQ n x y).1.length ≤ 16 ∧ (shQ n x y).2.1.length ≤ 16 ∧ (shQ n x y).2.2.length ≤ 16
  | 0, x, y, h => h.2
  | n + 1, x, y, h => by
    rw [shQ]
    rcases h with h | h
    · rw [if_pos h.1]; exact h.2
    · rw [if_neg h.1]; exact h.2.2.2.2.2.bits
abbrev shc : Ev → LS → Out Bool := tst2 gtD (callB lenF (consG (op2 ixD (varW 3) (cD (.int 0))) nilG)) (cD (.int 0))
noncomputable abbrev she : Ev → LS → Out D := callG m_less (consG (asSh (op2 ixD (varW 2) (varD 5))) (consG (asSh (callG m_product (consG (varX 4) (consG (asSh (op2 ixD (varW 3) (varD 5))) nilG)))) nilG))
noncomputable abbrev shb : Ev → LS → SOut := seqD (setD 4 (asSh (op2 ixD (callG m_divided (consG (asSh (op2 ixD (varW 2) (cD (.int 0)))) (consG (asSh (op2 ixD (varW 3) (cD (.int 0)))) nilG))) (cD (.int 0)))))
  (unpD (.tp [2, 3]) (tupG (consG (varD 3) (consG (callB tupF (consG (asLst (lcG (.nm 5) [5] (rng1 (cD (.int 3))) yesB she)) nilG)) nilG))))
theorem t30 (a b c : D) : ixD (.tuple [a, b, c]) (.int 0) = some a := rfl
theorem t31 (a b c : D) : ixD (.tuple [a, b, c]) (.int 1) = some b := rfl
theorem t32 (a b c : D) : ixD (.tuple [a, b, c]) (.int 2) = some c := rfl
theorem she_eq {a k b : Nat} {x y q : List Rat} {X Y : D} {j : Int} (e0 e1 : EV) (r : List EV) (s : LS) (hX : ixD X (.int j) = some (PL x)) (hY : ixD Y (.int j) = some (PL y)) (hx : Bt a x) (hq : Bt k q) (hy : Bt b y) (h1 : 2 * (k + b) + 8 ≤ 8999) (h2 : a + (k + b + 4) + 1 ≤ 8999) (lx : x.length ≤ 16) (ly : y.length ≤ 16) (lq : q.length ≤ 16) :
    she (e0 :: e1 :: .sh X :: .sh Y :: .sh (PL q) :: .sh (.int j) :: r) s = .ok (PL (subP x (mulQ q y))) s := by
  have hl : q.length * y.length ≤ 2 ^ 8 := by
    have := Nat.mul_le_mul lq ly
    omega
  have e1 := prod_ok hq hy hl h1 (by omega) (by omega) s
  have e2 := less_ok hx (hq.mul hy (c := 4) (by show _ ≤ 16; omega)) h2 (by omega) (by have := mulQ_len_le q y; omega) s
  simp -implicitDefEqProofs only [she, callG_def, consG_def, asSh_def, op2_def, varW_def, varD_def, varX_def, nilG_def, List.getElem?_cons_succ, List.getElem?_cons_zero, bind_ok, hX, hY, lift_some, List.all_cons, List.all_nil, solid_sh, Bool.and_self, if_true, e1, e2]
theorem rest_sub (p q : List Rat) (hq : q ≠ []) (tq : Tr q) : subP p (mulQ (quoQ p q) q) = restQ p q := Tr.eq (Tr.subP _ _) (Tr.rest _ _) fun x => by
  have := (div_spec (p := p) hq tq).1 x
  rw [ev_subP, ev_mulQ, this]
  grind
theorem lc3 {g : Ev → LS → Out D} {env : Ev} {s : LS} {i : Nat} {a b c : D} (h0 : g (env.set i (.sh (.int 0))) s = .ok a s) (h1 : g (env.set i (.sh (.int 1))) s = .ok b s) (h2 : g (env.set i (.sh (.int 2))) s = .ok c s) : lcD (.nm i) yesB g (rangeL 0 3) env s = .ok [a, b, c] s := by
  have e : rangeL 0 3 = [.int 0, .int 1, .int 2] := rfl
  rw [e]
  simp only [lcD, asg_nm, yesB_def, noErr_ok, bind_ok, if_true, h0, h1, h2]
theorem sh_while {A : Nat} (e0 e1 : EV) (s : LS) : ∀ (n : Nat) (x y : List Rat × List Rat × List Rat), Sh A n x y → Tr x.1 → Tr y.1 → ∀ (e4 : EV) m, y.1.length < m → ∃ e a b, whileD shc shb m [e0, e1, .sh (T3 x.1 x.2.1 x.2.2), .sh (T3 y.1 y.2.1 y.2.2), e4, .un, .un, .un] s = .nx [e0, e1, .sh (T3 (shQ n x y).1 (shQ n x y).2.1 (shQ n x y).2.2), .sh (T3 [] a b), e, .un, .un, .un] s := by
  have stop : ∀ (x y : List Rat × List Rat × List Rat) (e4 : EV) m, y.1 = [] → ∃ e a b, whileD shc shb (m + 1) [e0, e1, .sh (T3 x.1 x.2.1 x.2.2), .sh (T3 y.1 y.2.1 y.2.2), e4, .un, .un, .un] s = .nx [e0, e1, .sh (T3 x.1 x.2.1 x.2.2), .sh (T3 [] a b), e, .un, .un, .un] s := fun x y e4 m h => by
    refine ⟨e4, y.2.1, y.2.2, ?_⟩
    rw [whileD_succ, h]
    simp -implicitDefEqProofs
  intro n
  induction n with
  | zero =>
    intro x y h tx ty e4 m hm
    match m, hm with
    | m + 1, _ => exact stop x y e4 m h.1
  | succ n ih =>
    intro x y h tx ty e4 m hm
    match m, hm with
    | m + 1, hm =>
      rw [shQ]
      rcases h with h | ⟨h1, ⟨l1, l2, l3⟩, ⟨m1, m2, m3⟩, lq, ⟨a, b, k, e, f, hx, hy, hk, x1, x2, y1, y2, z1, z2, z3, z4, z5⟩, h7⟩
      · rw [if_pos h.1]
        exact stop x y e4 m h.1
      · rw [if_neg h1]
        have hlt := (div_spec (p := x.1) h1 ty).2
        obtain ⟨ee, a', b', hi⟩ := ih y _ h7 ty (Tr.rest x.1 y.1) (.sh (PL (quoQ x.1 y.1))) m (by show (restQ x.1 y.1).length < m; omega)
        refine ⟨ee, a', b', ?_⟩
        have hl := len_pos h1
        have ed := div_ok hx hy ty h1 z1 (by omega) (by omega) s
        have hr : rngB 3 := rngB_small (by decide) (by decide)
        have q0 := she_eq (j := 0) e0 e1 [.un, .un] s (t30 (PL x.1) (PL x.2.1) (PL x.2.2)) (t30 (PL y.1) (PL y.2.1) (PL y.2.2)) hx hk hy z2 z4 l1 m1 lq
        have q1 := she_eq (j := 1) e0 e1 [.un, .un] s (t31 (PL x.1) (PL x.2.1) (PL x.2.2)) (t31 (PL y.1) (PL y.2.1) (PL y.2.2)) x1 hk y1 z3 z5 l2 m2 lq
        have q2 := she_eq (j := 2) e0 e1 [.un, .un] s (t32 (PL x.1) (PL x.2.1) (PL x.2.2)) (t32 (PL y.1) (PL y.2.1) (PL y.2.2)) x2 hk y2 z3 z5 l3 m3 lq
        rw [rest_sub x.1 y.1 h1 ty] at q0
        have hlc := lc3 (g := she) (i := 5) (env := [e0, e1, .sh (T3 x.1 x.2.1 x.2.2), .sh (T3 y.1 y.2.1 y.2.2), .sh (PL (quoQ x.1 y.1)), .un, .un, .un]) q0 q1 q2
        rw [whileD_succ]
        have c1 : shc [e0, e1, .sh (T3 x.1 x.2.1 x.2.2), .sh (T3 y.1 y.2.1 y.2.2), e4, .un, .un, .un] s = .ok true s := by
          simp -implicitDefEqProofs only [shc, tst2_def, op2_def, callB_def, consG_def, nilG_def, varW_def, cD_def, List.getElem?_cons_zero, List.getElem?_cons_succ, bind_ok, t30, lenF_tuple, lift_some, List.length_map, hl, asB_bool]
        have c2 : shb [e0, e1, .sh (T3 x.1 x.2.1 x.2.2), .sh (T3 y.1 y.2.1 y.2.2), e4, .un, .un, .un] s = .nx [e0, e1, .sh (T3 y.1 y.2.1 y.2.2), .sh (T3 (restQ x.1 y.1) (subP x.2.1 (mulQ (quoQ x.1 y.1) y.2.1)) (subP x.2.2 (mulQ (quoQ x.1 y.1) y.2.2))), .sh (PL (quoQ x.1 y.1)), .un, .un, .un] s := by
          show seqD _ _ _ s = _
          rw [seqD_nx (e := [e0, e1, .sh (T3 x.1 x.2.1 x.2.2), .sh (T3 y.1 y.2.1 y.2.2), .sh (PL (quoQ x.1 y.1)), .un, .un, .un]) (s1 := s) (by
            simp -implicitDefEqProofs only [setD_def, asSh_def, op2_def, callG_def, consG_def, varW_def, cD_def, List.getElem?_cons_zero, List.getElem?_cons_succ, bind_ok, t30, lift_some, nilG_def, List.all_cons, List.all_nil, solid_sh, Bool.and_self, if_true, ed, ix0, evS_ok, List.set_cons_zero, List.set_cons_succ])]
          simp -implicitDefEqProofs only [unpD_def, tupG_def, consG_def, varD_def, List.getElem?_cons_zero, List.getElem?_cons_succ, bind_ok, callB_def, asLst_def, lcG_def, rng1_def, cD_def, if_pos hr, rangeL_length, if_pos line3, wipeE_cons, wipeE_nil, List.set_cons_succ, List.set_cons_zero, show (3 : Int).toNat = 3 from rfl, hlc, nilG_def, tupF_list, lift_some, List.length_cons, List.length_nil, Nat.reduceAdd, if_pos line2, evS_ok, asg_tp, setAll_cons, setAll_nil]
        rw [c1, evS_ok, if_pos rfl, c2]
        exact hi
end N1
end

section
set_option linter.all false
set_option autoImplicit false
namespace N1
open PySem hiding run
open DS NP
open NW hiding m_scaled g_scaled m_scaled_eq
theorem lcI3 {g : Ev → LS → Out D} {env : Ev} {s : LS} {i : Nat} {x y z a b c : D} (h0 : g (env.set i (.sh x)) s = .ok a s) (h1 : g (env.set i (.sh y)) s = .ok b s) (h2 : g (env.set i (.sh z)) s = .ok c s) : lcD (.nm i) yesB g [x, y, z] env s = .ok [a, b, c] s := by
  simp only [lcD, asg_nm, yesB_def, noErr_ok, bind_ok, if_true, h0, h1, h2]
theorem scaled_ok {a b : Nat} {p : List Rat} {c : Rat} (hp : Bt a p) (hc : Sz b c) (hk : a + b ≤ 8999) (hl : p.length ≤ 1000) (s : LS) : m_scaled [.sh (PL p), .sh (R c)] s = .ok (PL (sclQ c p)) s := NP.m_scaled_eq hp.szs hc hk hl s
theorem m_shares_eq {A n : Nat} {p q : List Rat} (h : Sh A n (p, [1], []) (q, [], [1])) (tp : Tr p) (tq : Tr q) (hA : A + A + 1 ≤ 8999) (hg : (shQ n (p, [1], []) (q, [], [1])).1 ≠ []) (s : LS) :
    m_shares [.sh (PL p), .sh (PL q)] s = .ok (T3 (sclQ (1 / lead (shQ n (p, [1], []) (q, [], [1])).1) (shQ n (p, [1], []) (q, [], [1])).1) (sclQ (1 / lead (shQ n (p, [1], []) (q, [], [1])).1) (shQ n (p, [1], []) (q, [], [1])).2.1) (sclQ (1 / lead (shQ n (p, [1], []) (q, [], [1])).1) (shQ n (p, [1], []) (q, [], [1])).2.2)) s := by
  obtain ⟨e, a, b, hw⟩ := sh_while (.sh (PL p)) (.sh (PL q)) s n (p, [1], []) (q, [], [1]) h tp tq .un (q.length + 1) (Nat.lt_succ_self _)
  obtain ⟨b1, b2, b3, l1, l2, l3⟩ := h.bits
  have tg : Tr (shQ n (p, [1], []) (q, [], [1])).1 := by rw [shQ_fst]; exact gcd_Tr n p q tp tq
  generalize shQ n (p, [1], []) (q, [], [1]) = x at hw b1 b2 b3 l1 l2 l3 tg hg
  obtain ⟨g, u, v⟩ := x
  dsimp only at hw b1 b2 b3 l1 l2 l3 tg hg ⊢
  have hl0 := lead_ne tg hg
  have zl : Sz A (lead g) := b1.szs.get b1.pos _
  have zi : Sz A (1 / lead g) := by
    rw [Rat.div_def, Rat.one_mul]
    exact Sz_inv zl hl0
  have eo := m_over_eq Sz_one zl hl0 (by omega) s
  rw [R_one] at eo
  have hlast := last_row hg
  have q1 := scaled_ok b1 zi (by omega) (by omega) s
  have q2 := scaled_ok b2 zi (by omega) (by omega) s
  have q3 := scaled_ok b3 zi (by omega) (by omega) s
  have lg := List.length_pos_iff.mpr hg
  have hgl : ((g.length : Int) == 0) = false := by rw [beq_eq_false_iff_ne]; omega
  have hf : fu_shares_1 [.sh (PL p), .sh (PL q), .sh (T3 p [1] []), .sh (T3 q [] [1]), .un, .un, .un, .un] s = q.length + 1 := by
    show (q.map R).length + 1 = _
    rw [List.length_map]
  have hlc := lcI3 (g := callG m_scaled (consG (varX 7) (consG (varX 6) nilG))) (i := 7) (env := [.sh (PL p), .sh (PL q), .sh (T3 g u v), .sh (T3 [] a b), e, .un, .sh (R (1 / lead g)), .un]) (s := s) (x := PL g) (y := PL u) (z := PL v) (a := PL (sclQ (1 / lead g) g)) (b := PL (sclQ (1 / lead g) u)) (c := PL (sclQ (1 / lead g) v))
    (by simp -implicitDefEqProofs only [callG_def, consG_def, varX_def, nilG_def, List.set_cons_succ, List.set_cons_zero, List.getElem?_cons_zero, List.getElem?_cons_succ, bind_ok, List.all_cons, List.all_nil, solid_sh, Bool.and_self, if_true, q1])
    (by simp -implicitDefEqProofs only [callG_def, consG_def, varX_def, nilG_def, List.set_cons_succ, List.set_cons_zero, List.getElem?_cons_zero, List.getElem?_cons_succ, bind_ok, List.all_cons, List.all_nil, solid_sh, Bool.and_self, if_true, q2])
    (by simp -implicitDefEqProofs only [callG_def, consG_def, varX_def, nilG_def, List.set_cons_succ, List.set_cons_zero, List.getElem?_cons_zero, List.getElem?_cons_succ, bind_ok, List.all_cons, List.all_nil, solid_sh, Bool.and_self, if_true, q3])
  unfold m_shares g_shares
  refine run_rt ?_
  show seqD _ _ [.sh (PL p), .sh (PL q), .un, .un, .un, .un, .un, .un] s = _
  rw [seqD_nx (e := [.sh (PL p), .sh (PL q), .sh (T3 p [1] []), .sh (T3 q [] [1]), .un, .un, .un, .un]) (s1 := s) (by simp -implicitDefEqProofs [R_one])]
  rw [seqD_nx (e := [.sh (PL p), .sh (PL q), .sh (T3 g u v), .sh (T3 [] a b), e, .un, .un, .un]) (s1 := s) (by rw [whileG_def, hf]; exact hw)]
  rw [seqD_nx (e := [.sh (PL p), .sh (PL q), .sh (T3 g u v), .sh (T3 [] a b), e, .un, .un, .un]) (s1 := s) (by
    simp -implicitDefEqProofs only [ifD_def, tst2_def, op2_def, callB_def, consG_def, nilG_def, varW_def, cD_def, List.getElem?_cons_zero, List.getElem?_cons_succ, bind_ok, t30, lenF_tuple, lift_some, List.length_map, eqD_int, hgl, asB_bool, evS_ok, Bool.false_eq_true, if_false, nopD_def])]
  rw [seqD_nx (e := [.sh (PL p), .sh (PL q), .sh (T3 g u v), .sh (T3 [] a b), e, .un, .sh (R (1 / lead g)), .un]) (s1 := s) (by
    simp -implicitDefEqProofs only [setD_def, asSh_def, op2_def, op1_def, callG_def, consG_def, tupG_def, varW_def, cD_def, List.getElem?_cons_zero, List.getElem?_cons_succ, bind_ok, t30, lift_some, negI_int, ixD_tuple, atI_zero, hlast, nilG_def, List.length_cons, List.length_nil, Nat.reduceAdd, if_pos line2, List.all_cons, List.all_nil, solid_sh, Bool.and_self, if_true, eo, evS_ok, List.set_cons_zero, List.set_cons_succ])]
  simp -implicitDefEqProofs only [retD_def, callB_def, consG_def, asLst_def, lcG_def, itemG_def, varD_def, List.getElem?_cons_zero, List.getElem?_cons_succ, bind_ok, listF_tuple, lift_some, List.length_cons, List.length_nil, Nat.reduceAdd, if_pos line3, wipeE_cons, wipeE_nil, List.set_cons_succ, List.set_cons_zero, hlc, nilG_def, tupF_list, evS_ok]
/-! ## powers -/
def powQ (p : List Rat) : Nat → List Rat
  | 0 => [1]
  | n + 1 => mulQ (powQ p n) p
theorem Tr.pow (p : List Rat) : ∀ n, Tr (powQ p n)
  | 0 => Tr.one
  | n + 1 => Tr.mulQ _ _
theorem pow_len (p : List Rat) {l : Nat} (hp : p.length ≤ l + 1) : ∀ n, (powQ p n).length ≤ 1 + n * l
  | 0 => by show 1 ≤ _; omega
  | n + 1 => by
    have h1 := mulQ_len_le (powQ p n) p
    have h2 := pow_len p hp n
    have : (n + 1) * l = n * l + l := Nat.succ_mul n l
    show (mulQ (powQ p n) p).length ≤ _
    omega
theorem Bt.pow {a c l : Nat} {p : List Rat} (hp : Bt a p) (hl : p.length ≤ l + 1) {N : Nat} (hN : 1 + N * l ≤ 2 ^ c) : ∀ n, n ≤ N → Bt (1 + n * (a + c)) (powQ p n)
  | 0, _ => Bt.one.mono (by omega)
  | n + 1, h => by
    have h1 := Bt.pow hp hl hN n (by omega)
    have h2 := pow_len p hl n
    have h3 : n * l ≤ N * l := Nat.mul_le_mul_right _ (by omega)
    have := h1.mul hp (c := c) (by omega)
    refine this.mono ?_
    rw [Nat.succ_mul]; omega
theorem rangeL_succ (n : Nat) : rangeL 0 (n + 1) = rangeL 0 n ++ [.int (n : Int)] := by
  rw [rangeL_map, rangeL_map, List.range_succ, List.map_append]
  rfl
end N1
end

section
set_option linter.all false
set_option autoImplicit false
namespace N1
open PySem hiding run
open DS NP
open NW hiding m_scaled g_scaled m_scaled_eq
theorem rangeL_item {n k : Nat} {d : D} (h : (rangeL 0 n)[k]? = some d) : k < n ∧ d = .int (k : Int) := rangeL_get h
theorem m_power_eq {a c l n : Nat} {p : List Rat} (hp : Bt a p) (hl : p.length ≤ l + 1) (hl2 : l ≤ 30) (hn : n ≤ 1000) (hN : 1 + n * l ≤ 2 ^ c) (hN2 : 1 + n * l ≤ 31) (hz : 2 * (1 + n * (a + c) + a) + 10 ≤ 8999) (s : LS) : m_power [.sh (PL p), .sh (.int (n : Int))] s = .ok (PL (powQ p n)) s := by
  have key := forD_inv (t := .nm 3) (gb := setD 2 (asSh (callG m_product (consG (varX 2) (consG (varX 0) nilG))))) (fun k env s' => ∃ e, env = [.sh (PL p), .sh (.int (n : Int)), .sh (PL (powQ p k)), e] ∧ s' = s) (rangeL 0 n) [.sh (PL p), .sh (.int (n : Int)), .sh (PL [1]), .un] s ⟨.un, rfl, rfl⟩ (fun k d env s1 hk hP => by
    obtain ⟨e, rfl, rfl⟩ := hP
    obtain ⟨hk1, rfl⟩ := rangeL_get hk
    have hb := Bt.pow hp hl hN k (by omega)
    have hlen := pow_len p hl k
    have hm : k * l ≤ n * l := Nat.mul_le_mul_right _ (by omega)
    have hm2 : k * (a + c) ≤ n * (a + c) := Nat.mul_le_mul_right _ (by omega)
    have hc : (powQ p k).length * p.length ≤ 2 ^ 10 := by
      have := Nat.mul_le_mul (show (powQ p k).length ≤ 31 by omega) (show p.length ≤ 31 by omega)
      omega
    have e1 := prod_ok hb hp hc (by omega) (by omega) (by omega) s1
    exact ⟨[.sh (PL p), .sh (.int (n : Int)), .sh (PL (powQ p k)), .sh (.int (k : Int))], rfl, [.sh (PL p), .sh (.int (n : Int)), .sh (PL (powQ p (k + 1))), .sh (.int (k : Int))], s1, .inl (by simp -implicitDefEqProofs [e1, powQ]), .sh (.int (k : Int)), rfl, rfl⟩)
  obtain ⟨e', s', h1, e, rfl, rfl⟩ := key
  rw [rangeL_length] at h1
  have hr : rngB (n : Int) := rngB_small (by omega) (by omega)
  unfold m_power g_power
  refine run_rt ?_
  show seqD _ _ [.sh (PL p), .sh (.int (n : Int)), .un, .un] s' = _
  rw [seqD_nx (e := [.sh (PL p), .sh (.int (n : Int)), .sh (PL [1]), .un]) (s1 := s') (by simp -implicitDefEqProofs [R_one])]
  rw [seqD_nx (e := [.sh (PL p), .sh (.int (n : Int)), .sh (PL (powQ p n)), e]) (s1 := s') (by
    rw [forG_def]
    simp -implicitDefEqProofs only [rng1_def, varD_def, List.getElem?_cons_zero, List.getElem?_cons_succ, bind_ok, if_pos hr, evS_ok, Int.toNat_natCast]
    exact h1)]
  simp -implicitDefEqProofs
/-! ## moved, inside -/
def insQ (w : List Rat) : List Rat → List Rat → List Rat
  | r, [] => r
  | r, c :: cs => insQ w (addQ (mulQ r w) (trimQ [c])) cs
theorem ev_ins (w : List Rat) (x : Rat) : ∀ (cs r : List Rat), ev (insQ w r cs) x = hv (ev w x) (ev r x) cs
  | [], r => rfl
  | c :: cs, r => by
    rw [insQ, ev_ins w x cs, ev_addQ, ev_mulQ, ev_trim, hv, ev_cons, ev_nil]
    congr 1
    grind
theorem Tr.ins (w : List Rat) : ∀ (cs r : List Rat), Tr r → Tr (insQ w r cs)
  | [], r, h => h
  | c :: cs, r, _ => Tr.ins w cs _ (Tr.addQ _ _)
theorem addQ_len {x y : List Rat} (tx : Tr x) (h : y.length < x.length) : (addQ x y).length = x.length := by
  have hl := addR_len x y
  have hx : x ≠ [] := fun z => by rw [z] at h; simp at h
  have ht : Tr (addR x y) := Tr.iff.mpr fun hne => by
    have h0 := lead_ne tx hx
    rw [List.getLast_eq_getElem]
    have e := addR_get x y (x.length - 1)
    rw [get_none (l := y) (by omega), show x.getD (x.length - 1) 0 = lead x from rfl] at e
    rw [List.getD_eq_getElem?_getD, List.getElem?_eq_getElem (by omega)] at e
    have el : (addR x y).length - 1 = x.length - 1 := by omega
    intro z
    simp only [el] at z
    simp only [Option.getD_some] at e
    rw [e] at z
    exact h0 (by grind)
  have : addQ x y = addR x y := ht
  rw [this, hl]; omega
theorem trim1_len (c : Rat) : (trimQ [c]).length ≤ 1 := trim_len [c]
theorem ins_len {w : List Rat} (tw : Tr w) (hw : w.length = 2) : ∀ (cs r : List Rat), Tr r → r ≠ [] → (insQ w r cs).length = r.length + cs.length
  | [], r, _, _ => rfl
  | c :: cs, r, tr, hr => by
    have lr := List.length_pos_iff.mpr hr
    have h1 := mulQ_len tr tw hr (fun z => by rw [z] at hw; cases hw)
    have h2 := addQ_len (x := mulQ r w) (y := trimQ [c]) (Tr.mulQ _ _) (by have := trim1_len c; omega)
    rw [insQ, ins_len tw hw cs _ (Tr.addQ _ _) (fun z => by rw [z] at h2; simp at h2; omega), h2, h1, List.length_cons]
    omega
theorem ins_len0 {w : List Rat} (tw : Tr w) (hw : w.length = 2) {p : List Rat} (tp : Tr p) : (insQ w [] p.reverse).length = p.length := by
  by_cases hp : p = []
  · subst hp; rfl
  · have h0 := Tr.iff.mp tp hp
    have e : p.reverse = p.getLast hp :: p.dropLast.reverse := by
      have := List.dropLast_concat_getLast hp
      rw [← List.reverse_concat, this]
    have e2 : trimQ [p.getLast hp] = [p.getLast hp] := by rw [trim_cons, trim_nil, if_pos rfl, if_neg h0]
    have e3 : addQ (mulQ [] w) [p.getLast hp] = [p.getLast hp] := by
      show trimQ (addR [] [p.getLast hp]) = _
      exact e2
    have lp := List.length_pos_iff.mpr hp
    rw [e, insQ, e2, e3, ins_len tw hw _ _ e2 (by simp)]
    rw [List.length_reverse, List.length_dropLast, List.length_singleton]; omega
theorem Bt.mem {a : Nat} {p : List Rat} {c : Rat} (h : Bt a p) (hc : c ∈ p) : Bt a [c] := by
  obtain ⟨d, m, h1, h2, h3⟩ := h
  exact ⟨d, m, ⟨h1.nz, fun z hz => by rw [List.mem_singleton.mp hz]; exact h1.dn c hc⟩, h2, h3⟩
noncomputable abbrev ibody (gw : Ev → LS → Out EV) : Ev → LS → SOut := setD 2 (asSh (callG m_added (consG (asSh (callG m_product (consG (varX 2) (consG gw nilG)))) (consG (asSh (callG m_trimmed (consG (asSh (asLst (lstG (consG (varD 3) nilG)))) nilG))) nilG))))
theorem ins_loop {a b W : Nat} {w : List Rat} {gw : Ev → LS → Out EV} {e0 e1 : EV} (s : LS) (hg : ∀ e2 e3, gw [e0, e1, e2, e3] s = .ok (.sh (PL w)) s) (hw : Bt b w) (lw : 1 ≤ W) (lw2 : w.length ≤ W) : ∀ (cs r : List Rat) (j : Nat) (e3 : EV), (∀ c ∈ cs, Bt a [c]) → Bt j r → r.length + cs.length * W ≤ 16 → 2 * (j + cs.length * (a + b + 5)) + 2 * b + 10 ≤ 8999 →
    ∃ e, forD (.nm 3) (ibody gw) (cs.map R) [e0, e1, .sh (PL r), e3] s = .nx [e0, e1, .sh (PL (insQ w r cs)), e] s ∧ Bt (j + cs.length * (a + b + 5)) (insQ w r cs) ∧ (insQ w r cs).length ≤ r.length + cs.length * W
  | [], r, j, e3, _, h0, hl, _ => ⟨e3, rfl, by rw [List.length_nil, Nat.zero_mul]; exact h0, by rw [List.length_nil, Nat.zero_mul]; exact Nat.le_refl _⟩
  | c :: cs, r, j, e3, hc, h0, hl, hz => by
    rw [List.length_cons, Nat.add_mul, Nat.one_mul] at hl hz
    have b1 := hc c List.mem_cons_self
    have lr : r.length * w.length ≤ 2 ^ 8 := by
      have := Nat.mul_le_mul (show r.length ≤ 16 by omega) (show w.length ≤ 16 by omega)
      omega
    have l1 := mulQ_len_le r w
    have l2 := addQ_len_le (mulQ r w) (trimQ [c])
    have l3 := trim1_len c
    have bm := h0.mul hw (c := 4) (by show _ ≤ 16; omega)
    have q1 := prod_ok h0 hw lr (by omega) (by omega) (by omega) s
    have e2 := m_trimmed_eq [c] s (d := LL [c]) (.inr rfl)
    have e3' := add_ok bm b1.trim (by omega) (by omega) (by omega) s
    obtain ⟨e, h1, h2, h3⟩ := ins_loop s hg hw lw lw2 cs (addQ (mulQ r w) (trimQ [c])) (j + b + 4 + a + 1) (.sh (R c)) (fun z hz => hc z (List.mem_cons_of_mem _ hz)) (bm.add b1.trim) (by omega) (by omega)
    rw [List.length_cons, Nat.add_mul, Nat.one_mul]
    refine ⟨e, ?_, h2.mono (by omega), by
      rw [insQ, Nat.add_mul, Nat.one_mul]; omega⟩
    rw [List.map_cons, forD_nx (env1 := [e0, e1, .sh (PL r), .sh (R c)]) (e := [e0, e1, .sh (PL (addQ (mulQ r w) (trimQ [c]))), .sh (R c)]) (s' := s) rfl ?_]
    · exact h1
    · have e2' : m_trimmed [.sh (.list [R c])] s = .ok (PL (trimQ [c])) s := e2
      simp -implicitDefEqProofs only [ibody, setD_def, asSh_def, callG_def, consG_def, varX_def, varD_def, asLst_def, lstG_def, nilG_def, List.getElem?_cons_zero, List.getElem?_cons_succ, bind_ok, hg, List.all_cons, List.all_nil, solid_sh, Bool.and_self, if_true, q1, List.length_cons, List.length_nil, Nat.reduceAdd, if_pos line1, e2', e3', evS_ok, List.set_cons_zero, List.set_cons_succ]
theorem m_inside_eq {a b W : Nat} {p w : List Rat} (hp : Bt a p) (hw : Bt b w) (lw : 1 ≤ W) (lw2 : w.length ≤ W) (hl : p.length * W ≤ 16) (hz : 2 * (1 + p.length * (a + b + 5)) + 2 * b + 10 ≤ 8999) (s : LS) : m_inside [.sh (PL p), .sh (PL w)] s = .ok (PL (insQ w [] p.reverse)) s ∧ Bt (1 + p.length * (a + b + 5)) (insQ w [] p.reverse) ∧ (insQ w [] p.reverse).length ≤ p.length * W := by
  obtain ⟨e, h1, h2, h3⟩ := ins_loop (gw := varX 1) (e0 := .sh (PL p)) (e1 := .sh (PL w)) s (fun e2 e3 => rfl) hw lw lw2 p.reverse [] 1 .un (fun c hc => Bt.mem hp (List.mem_reverse.mp hc)) Bt.nil (by rw [List.length_reverse]; simpa using hl) (by rw [List.length_reverse]; exact hz)
  rw [List.length_reverse] at h2 h3
  refine ⟨?_, h2, by simpa using h3⟩
  have hrev := revD_PL p
  unfold m_inside g_inside
  refine run_rt ?_
  show seqD _ _ [.sh (PL p), .sh (PL w), .un, .un] s = _
  rw [seqD_nx (e := [.sh (PL p), .sh (PL w), .sh (PL []), .un]) (s1 := s) (by simp -implicitDefEqProofs)]
  rw [seqD_nx (e := [.sh (PL p), .sh (PL w), .sh (PL (insQ w [] p.reverse)), e]) (s1 := s) (by rw [forG_def]; simp -implicitDefEqProofs only [itemG_def, op1_def, varW_def, List.getElem?_cons_zero, bind_ok, hrev, lift_some, listF_tuple, evS_ok]; exact h1)]
  simp -implicitDefEqProofs
theorem Bt.line {b : Nat} {x : Rat} (h : Sz b x) : Bt b [x, 1] := by
  refine ⟨x.den, max x.num.natAbs x.den, ⟨x.den_nz, fun c hc => ?_⟩, h.2, by have := h.1; have := h.2; omega⟩
  simp only [List.mem_cons, List.not_mem_nil, or_false] at hc
  rcases hc with rfl | rfl
  · exact (Dn_self c).mono (Nat.le_max_left _ _)
  · exact ⟨x.den, by rw [Rat.one_mul, Rat.intCast_natCast], by omega⟩
theorem m_moved_eq {a b : Nat} {p : List Rat} {x : Rat} (hp : Bt a p) (hx : Sz b x) (hl : p.length ≤ 8) (hz : 2 * (1 + p.length * (a + b + 5)) + 2 * b + 10 ≤ 8999) (s : LS) : m_moved [.sh (PL p), .sh (R x)] s = .ok (PL (insQ [x, 1] [] p.reverse)) s ∧ Bt (1 + p.length * (a + b + 5)) (insQ [x, 1] [] p.reverse) := by
  obtain ⟨e, h1, h2, h3⟩ := ins_loop (gw := asSh (tupG (consG (varD 1) (consG (tupG (consG (cD (.int 1)) (consG (cD (.int 1)) nilG))) nilG)))) (e0 := .sh (PL p)) (e1 := .sh (R x)) (w := [x, 1]) s (fun e2 e3 => by simp -implicitDefEqProofs [R_one]) (Bt.line hx) (W := 2) (by decide) (by simp) p.reverse [] 1 .un (fun c hc => Bt.mem hp (List.mem_reverse.mp hc)) Bt.nil (by rw [List.length_reverse]; simp; omega) (by rw [List.length_reverse]; exact hz)
  rw [List.length_reverse] at h2
  refine ⟨?_, h2⟩
  have hrev := revD_PL p
  unfold m_moved g_moved
  refine run_rt ?_
  show seqD _ _ [.sh (PL p), .sh (R x), .un, .un] s = _
  rw [seqD_nx (e := [.sh (PL p), .sh (R x), .sh (PL []), .un]) (s1 := s) (by simp -implicitDefEqProofs)]
  rw [seqD_nx (e := [.sh (PL p), .sh (R x), .sh (PL (insQ [x, 1] [] p.reverse)), e]) (s1 := s) (by rw [forG_def]; simp -implicitDefEqProofs only [itemG_def, op1_def, varW_def, List.getElem?_cons_zero, bind_ok, hrev, lift_some, listF_tuple, evS_ok]; exact h1)]
  simp -implicitDefEqProofs
/-! ## turned, back, wholes -/
def trnF (p : List Rat) (k : Nat) : Rat := if ((k : Int).fmod 2 == 0) = true then p.getD k 0 else -p.getD k 0
def trnQ (p : List Rat) : List Rat := (List.range p.length).map (trnF p)
theorem m_turned_eq {a : Nat} {p : List Rat} (hp : Bt a p) (hz : a + 1 ≤ 8999) (hl : p.length ≤ 1000) (s : LS) : m_turned [.sh (PL p)] s = .ok (PL (trnQ p)) s := by
  have hr : rngB (p.length : Int) := rngB_small (by omega) (by omega)
  have hline : p.length ≤ sizeLine := small_line (by omega)
  have h2 : ∀ i : Int, modD (.int i) (.int 2) = some (.int (i.fmod 2)) := fun i => modD_int (by decide)
  have h1 := lc_range (i := 1) (ge := ifG (tst2 eqD (op2 modD (varW 1) (cD (.int 2))) (cD (.int 0))) (op2 ixD (varW 0) (varD 1)) (callG m_times (consG (asSh (op2 ixD (varW 0) (varD 1))) (consG (asSh (tupG (consG (op2 subD (cD (.int 0)) (cD (.int 1))) (consG (cD (.int 1)) nilG)))) nilG)))) (trnF p) p.length [.sh (PL p), .un] s fun k hk => by
    have i1 := atI_row hk
    have e := m_times_eq (hp.szs.get hp.pos k) Sz_neg1 hz s
    rw [R_neg1, show p.getD k 0 * -1 = -p.getD k 0 by grind] at e
    unfold trnF
    cases hm : ((k : Int).fmod 2 == 0) with
    | true => simp -implicitDefEqProofs [-List.getD_eq_getElem?_getD, h2, hm, i1]
    | false => simp -implicitDefEqProofs [-List.getD_eq_getElem?_getD, h2, hm, i1, e]
  unfold m_turned g_turned
  refine run_rt ?_
  simp -implicitDefEqProofs only [List.replicate, List.length_cons, List.length_nil, List.cons_append, List.nil_append, retD_def, asLst_def, lcG_def, rng1_def, callB_def, consG_def, varW_def, nilG_def, List.getElem?_cons_zero, bind_ok, lenF_tuple, lift_some, List.length_map, if_pos hr, Int.toNat_natCast, rangeL_length, if_pos hline, wipeE_cons, wipeE_nil, List.set_cons_succ, List.set_cons_zero, h1, tupF_list, evS_ok, trnQ]
/-- the coefficients turned round, after noughts -/
def bckR (p : List Rat) (n : Nat) : List Rat := (p ++ List.replicate (n + 1 - p.length) 0).reverse
theorem bck_val (p : List Rat) (n : Nat) (hn : n ≤ 1000) (hl : p.length ≤ 1000) (i j : Nat) (env : Ev) (s : LS) (hi : env[i]? = some (.sh (PL p))) (hj : env[j]? = some (.sh (.int (n : Int)))) :
    asLst (catG (asLst (listG (varW i))) (asLst (repG (lstG (consG (tupG (consG (cD (.int 0)) (consG (cD (.int 1)) nilG))) nilG)) (op2 subD (op2 addD (varW j) (cD (.int 1))) (callB lenF (consG (varW i) nilG)))))) env s = .ok (LL (p ++ List.replicate (n + 1 - p.length) 0)) s := by
  have hrep : repL [R 0] (.int ((n : Int) + 1 - (p.length : Int))) = some ((List.replicate (n + 1 - p.length) (0 : Rat)).map R) := by
    show (if (n : Int) + 1 - (p.length : Int) < 2 ^ 62 ∧ -(2 ^ 62) < (n : Int) + 1 - (p.length : Int) ∧ 1 * ((n : Int) + 1 - (p.length : Int)).toNat ≤ sizeLine then some (List.replicate ((n : Int) + 1 - (p.length : Int)).toNat [R 0]).flatten else none) = _
    have : ((n : Int) + 1 - (p.length : Int)).toNat = n + 1 - p.length := by omega
    rw [this, rep_zero, if_pos ⟨by omega, by omega, small_line (by omega)⟩]
  have hs : p.length + (n + 1 - p.length) ≤ sizeLine := small_line (by omega)
  simp -implicitDefEqProofs only [asLst_def, catG_def, listG_def, varW_def, hi, hj, bind_ok, listF_tuple, lift_some, repG_def, lstG_def, tupG_def, consG_def, nilG_def, cD_def, List.length_cons, List.length_nil, Nat.reduceAdd, if_pos line2, if_pos line1, op2_def, addD_int, callB_def, lenF_tuple, List.length_map, subD_int, ← R_zero, hrep, List.length_replicate, if_pos hs, ← List.map_append]
theorem m_back_eq (p : List Rat) (n : Nat) (hn : n ≤ 1000) (hl : p.length ≤ 1000) (s : LS) : m_back [.sh (PL p), .sh (.int (n : Int))] s = .ok (PL (trimQ (bckR p n))) s := by
  have h1 := bck_val p n hn hl 0 1 [.sh (PL p), .sh (.int (n : Int)), .un] s rfl rfl
  have h2 : revD (LL (p ++ List.replicate (n + 1 - p.length) 0)) = some (LL (bckR p n)) := by
    show some (PyData.list (List.map R _).reverse) = _
    rw [← List.map_reverse]; rfl
  have h3 := m_trimmed_eq (bckR p n) s (d := LL (bckR p n)) (.inr rfl)
  unfold m_back g_back
  refine run_rt ?_
  show seqD _ _ [.sh (PL p), .sh (.int (n : Int)), .un] s = _
  rw [seqD_nx (e := [.sh (PL p), .sh (.int (n : Int)), .sh (LL (p ++ List.replicate (n + 1 - p.length) 0))]) (s1 := s) (by rw [setD_def, asSh_def, h1]; rfl)]
  simp -implicitDefEqProofs only [retD_def, callG_def, consG_def, asSh_def, op1_def, varW_def, nilG_def, List.getElem?_cons_zero, List.getElem?_cons_succ, bind_ok, h2, lift_some, List.all_cons, List.all_nil, solid_sh, Bool.and_self, if_true, h3, evS_ok]
end N1
end

section
set_option linter.all false
set_option autoImplicit false
namespace N1
open PySem hiding run
open DS NP
open NW hiding m_scaled g_scaled m_scaled_eq
/-! ## lines' products -/
theorem Bt.neg1 {b : Nat} {r : Rat} (h : Sz b r) : Bt b [-r, 1] := Bt.line ⟨by show (-r.num).natAbs < _; rw [Int.natAbs_neg]; exact h.1, h.2⟩
theorem lines_bt {b : Nat} : ∀ (rs P : List Rat) (j : Nat), (∀ r ∈ rs, Sz b r) → Bt j P → P.length + rs.length ≤ 16 → Tr P → P ≠ [] → Bt (j + rs.length * (b + 4)) (linesQ P rs)
  | [], P, j, _, h, _, _, _ => by rw [List.length_nil, Nat.zero_mul]; exact h
  | r :: rs, P, j, hr, h, hl, tP, hP => by
    rw [List.length_cons] at hl
    have lP := List.length_pos_iff.mpr hP
    have e := mulQ_len tP (Tr.line r) hP (by simp)
    have e' : (mulQ P [-r, 1]).length = P.length + 1 := by rw [e]; rfl
    have h1 := h.mul (Bt.neg1 (hr r List.mem_cons_self)) (c := 4) (by show _ ≤ 16; omega)
    have := lines_bt rs (mulQ P [-r, 1]) _ (fun z hz => hr z (List.mem_cons_of_mem _ hz)) h1 (by omega) (Tr.mulQ _ _) (fun z => by rw [z] at e'; simp at e')
    rw [List.length_cons, Nat.add_mul, Nat.one_mul]
    exact this.mono (by omega)
theorem linesQ_snoc (P rs : List Rat) (r : Rat) : linesQ P (rs ++ [r]) = mulQ (linesQ P rs) [-r, 1] := by
  unfold linesQ
  rw [List.foldl_append]
  rfl
theorem rows_item {q : List Rat} {k : Nat} {d : D} (h : (q.map R)[k]? = some d) : k < q.length ∧ d = R (q.getD k 0) := by
  rw [List.getElem?_map] at h
  by_cases w : k < q.length
  · rw [List.getElem?_eq_getElem w] at h
    cases h
    exact ⟨w, by rw [List.getD_eq_getElem?_getD, List.getElem?_eq_getElem w]; rfl⟩
  · rw [List.getElem?_eq_none_iff.mpr (by omega)] at h
    cases h
theorem getD_mem {q : List Rat} {k : Nat} (h : k < q.length) : q.getD k 0 ∈ q := Pb.get.getD_mem' h
theorem lines_take {b : Nat} {rs : List Rat} (hr : ∀ r ∈ rs, Sz b r) (hl : rs.length ≤ 15) {k : Nat} (hk : k < rs.length) : Bt (1 + rs.length * (b + 4)) (linesQ [1] (rs.take k)) ∧ (linesQ [1] (rs.take k)).length ≤ 16 := by
  have hlt : (rs.take k).length = k := by rw [List.length_take]; omega
  have h1 := lines_bt (rs.take k) [1] 1 (fun r h => hr r (List.mem_of_mem_take h)) Bt.one (by simp; omega) Tr.one (by simp)
  have h2 := lines_len (rs.take k) [1] Tr.one (by simp)
  have hm : k * (b + 4) ≤ rs.length * (b + 4) := Nat.mul_le_mul_right _ (by omega)
  rw [hlt] at h1 h2
  exact ⟨h1.mono (by omega), by rw [h2]; simp; omega⟩
theorem m_from_roots_eq {b : Nat} {rs : List Rat} (hr : ∀ r ∈ rs, Sz b r) (hl : rs.length ≤ 15) (hz : 2 * (1 + rs.length * (b + 4) + b) + 8 ≤ 8999) (s : LS) : m_from_roots [.sh (LL rs)] s = .ok (PL (linesQ [1] rs)) s := by
  have key := forD_inv (t := .nm 2) (gb := setD 1 (asSh (callG m_product (consG (varX 1) (consG (asSh (callG m_line (consG (varX 2) nilG))) nilG))))) (fun k env s' => ∃ e, env = [.sh (LL rs), .sh (PL (linesQ [1] (rs.take k))), e] ∧ s' = s) (rs.map R) [.sh (LL rs), .sh (PL [1]), .un] s ⟨.un, by rw [List.take_zero]; rfl, rfl⟩ (fun k d env s1 hk hP => by
    obtain ⟨e, rfl, rfl⟩ := hP
    obtain ⟨hk1, rfl⟩ := rows_item hk
    have hx := hr _ (getD_mem hk1)
    obtain ⟨b1, l1⟩ := lines_take hr hl hk1
    have e1 := m_line_eq hx (by omega) s1
    have e2 := prod_ok b1 (Bt.neg1 hx) (c := 8) (by have := Nat.mul_le_mul_right 2 l1; show _ * 2 ≤ 256; omega) (by omega) (by omega) (by simp) s1
    refine ⟨[.sh (LL rs), .sh (PL (linesQ [1] (rs.take k))), .sh (R (rs.getD k 0))], rfl, [.sh (LL rs), .sh (PL (linesQ [1] (rs.take (k + 1)))), .sh (R (rs.getD k 0))], s1, .inl ?_, _, rfl, rfl⟩
    rw [take_last hk1, linesQ_snoc]
    simp -implicitDefEqProofs only [setD_def, asSh_def, callG_def, consG_def, varX_def, nilG_def, List.getElem?_cons_zero, List.getElem?_cons_succ, bind_ok, List.all_cons, List.all_nil, solid_sh, Bool.and_self, if_true, e1, e2, evS_ok, List.set_cons_zero, List.set_cons_succ])
  obtain ⟨e', s', h1, e, rfl, rfl⟩ := key
  rw [List.length_map, take_all] at h1
  unfold m_from_roots g_from_roots
  refine run_rt ?_
  show seqD _ _ [.sh (LL rs), .un, .un] s' = _
  rw [seqD_nx (e := [.sh (LL rs), .sh (PL [1]), .un]) (s1 := s') (by simp -implicitDefEqProofs [R_one])]
  rw [seqD_nx (e := [.sh (LL rs), .sh (PL (linesQ [1] rs)), e]) (s1 := s') (by
    rw [forG_def]
    simp -implicitDefEqProofs only [itemG_def, varD_def, List.getElem?_cons_zero, bind_ok, listF_list, lift_some, evS_ok]
    exact h1)]
  simp -implicitDefEqProofs
/-! ## simple ones -/
theorem monQ_len {g : List Rat} (tg : Tr g) (hg : g ≠ []) : (monQ g).length = g.length := by
  have hl0 := lead_ne tg hg
  have hi0 : 1 / lead g ≠ 0 := fun z => by
    rw [Rat.div_def, Rat.one_mul] at z
    have := Rat.mul_inv_cancel _ hl0
    rw [z] at this
    exact absurd this (by grind)
  rw [monQ, sclQ_eq hi0 tg, sclR, List.length_map]
theorem m_is_simple_eq {A n k : Nat} {p : List Rat} (h : Ch 8999 A n p (drvQ p)) (hp : Szs k p) (hk1 : 1 ≤ k) (hkz : k + 10 ≤ 8999) (hpl : p.length ≤ 1000) (tp : Tr p) (hpn : p ≠ []) (hA : A + A + 1 ≤ 8999) (hn : (drvQ p).length ≤ n) (hl : (gcdQ n p (drvQ p)).length ≤ 1000) (s : LS) : m_is_simple [.sh (PL p)] s = .ok (.bool (decide ((gcdQ n p (drvQ p)).length ≤ 1))) s := by
  have e1 := m_derived_eq hp hk1 hkz hpl s
  have e2 := m_common_eq h tp (Tr.drv p) hA hl s
  have e3 := monQ_len (gcd_Tr n p (drvQ p) tp (Tr.drv p)) (gcd_ne n p (drvQ p) (.inl hpn) hn (Tr.drv p))
  have e4 : decide (((gcdQ n p (drvQ p)).length : Int) ≤ 1) = decide ((gcdQ n p (drvQ p)).length ≤ 1) := by
    by_cases h : (gcdQ n p (drvQ p)).length ≤ 1
    · rw [decide_eq_true h, decide_eq_true (by omega)]
    · rw [decide_eq_false h, decide_eq_false (by omega)]
  unfold m_is_simple g_is_simple
  refine run_rt ?_
  simp -implicitDefEqProofs only [List.replicate, List.length_cons, List.length_nil, List.cons_append, List.nil_append, retD_def, op2_def, callB_def, callG_def, consG_def, asSh_def, varX_def, nilG_def, cD_def, List.getElem?_cons_zero, bind_ok, List.all_cons, List.all_nil, solid_sh, Bool.and_self, if_true, e1, e2, lenF_tuple, lift_some, List.length_map, leD_int, e3, e4, evS_ok]
theorem gcd_len {n : Nat} : ∀ (n : Nat) (p q : List Rat) (L : Nat), Tr q → p.length ≤ L → q.length ≤ L → (gcdQ n p q).length ≤ L
  | 0, p, q, L, _, h, _ => h
  | n + 1, p, q, L, tq, h, h' => by
    rw [gcdQ]
    split
    · exact h
    · rename_i hq
      have := (div_spec (p := p) hq tq).2
      exact gcd_len (n := n) n q _ L (Tr.rest _ _) h' (by omega)
/-- wholes -/
theorem m_of_wholes_eq (ns : List Int) (hl : ns.length ≤ 1000) (s : LS) : m_of_wholes [.sh (.list (ns.map .int))] s = .ok (PL (trimQ (ns.map fun (n : Int) => (n : Rat)))) s := by
  have hlc := lcD_map (i := 1) (ge := tupG (consG (varD 1) (consG (cD (.int 1)) nilG))) (fun d => .tuple [d, .int 1]) (ns.map .int) [.sh (.list (ns.map .int)), .un] s (fun d hd => by simp -implicitDefEqProofs)
  have hline : ns.length ≤ sizeLine := small_line (by omega)
  have e : (ns.map PyData.int).map (fun d => PyData.tuple [d, .int 1]) = (ns.map fun (n : Int) => (n : Rat)).map R := by
    rw [List.map_map, List.map_map]
    refine List.map_congr_left fun n _ => ?_
    show _ = R (n : Rat)
    rw [R_int]
    rfl
  rw [e] at hlc
  have ht := m_trimmed_eq (ns.map fun (n : Int) => (n : Rat)) s (d := LL _) (.inr rfl)
  unfold m_of_wholes g_of_wholes
  refine run_rt ?_
  simp -implicitDefEqProofs only [List.replicate, List.length_cons, List.length_nil, List.cons_append, List.nil_append, retD_def, callG_def, consG_def, asSh_def, asLst_def, lcG_def, itemG_def, varD_def, List.getElem?_cons_zero, bind_ok, listF_list, lift_some, List.length_map, if_pos hline, wipeE_cons, wipeE_nil, List.set_cons_succ, List.set_cons_zero, hlc, nilG_def, List.all_cons, List.all_nil, solid_sh, Bool.and_self, if_true, ht, evS_ok]
end N1
end

section
set_option linter.all false
set_option autoImplicit false
namespace N1
open PySem hiding run
open DS NP
open NW hiding m_scaled g_scaled m_scaled_eq
/-! ## through points -/
abbrev Zd (z : Rat × Rat) : D := .tuple [R z.1, R z.2]
abbrev ZL (r : List (Rat × Rat)) : D := .list (r.map Zd)
theorem lcD_tp {t : Tg} {ge : Ev → LS → Out D} (f : D → D) : ∀ (ds : List D) (env : Ev) (s : LS), (∀ d ∈ ds, ∃ env1, t.asg d env = some env1 ∧ ge env1 s = .ok (f d) s) → lcD t yesB ge ds env s = .ok (ds.map f) s
  | [], _, _, _ => rfl
  | d :: ds, env, s, h => by
    have ih := lcD_tp f ds env s fun d' hd => h d' (List.mem_cons_of_mem _ hd)
    obtain ⟨env1, h1, h2⟩ := h d List.mem_cons_self
    simp only [lcD, h1, yesB_def, noErr_ok, bind_ok, if_true, h2, ih, List.map_cons]
theorem diff_nodup {α : Type} [DecidableEq α] : ∀ {l : List α}, l.Nodup → diff l = l
  | [], _ => rfl
  | x :: l, h => by
    obtain ⟨h1, h2⟩ := List.nodup_cons.mp h
    have ih := diff_nodup h2
    unfold diff
    rw [ih, if_neg h1]
def keyI (q : Rat) : List Int := [q.num, (q.den : Int)]
theorem tupsI_rows : ∀ q : List Rat, tupsI (q.map R) = some (q.map keyI)
  | [] => rfl
  | c :: q => by
    have ih := tupsI_rows q
    show (match tupI (R c), tupsI (q.map R) with
      | some k, some r => some (k :: r)
      | _, _ => none) = _
    rw [ih]
    rfl
theorem keys_nodup {q : List Rat} (h : q.Nodup) : (q.map keyI).Nodup := by
  induction q with
  | nil => exact List.nodup_nil
  | cons c q ih =>
    obtain ⟨h1, h2⟩ := List.nodup_cons.mp h
    refine List.nodup_cons.mpr ⟨fun hm => ?_, ih h2⟩
    obtain ⟨d, hd, he⟩ := List.mem_map.mp hm
    simp only [keyI, List.cons.injEq, and_true] at he
    have : d = c := Rat.ext he.1 (by omega)
    exact h1 (this ▸ hd)
theorem lenSet_rows {q : List Rat} (h : q.Nodup) (hl : q.length < 64) : lenSetD (LL q) = some (.int (q.length : Int)) := by
  show (if (q.map R).length < 64 then (tupsI (q.map R)).map fun ks => PyData.int (diff ks).length else none) = _
  rw [List.length_map, if_pos hl, tupsI_rows]
  show some (PyData.int ((diff (q.map keyI)).length : Int)) = _
  rw [diff_nodup (keys_nodup h), List.length_map]
def bet : Nat → Nat
  | 0 => 1
  | k + 1 => bet k + 18 * k + 12
theorem bet_le {k : Nat} (h : k ≤ 4) : bet k ≤ 157 := by
  have : k = 0 ∨ k = 1 ∨ k = 2 ∨ k = 3 ∨ k = 4 := by omega
  rcases this with rfl | rfl | rfl | rfl | rfl <;> decide
theorem bet_le5 {k : Nat} (h : k ≤ 5) : bet k ≤ 241 := by
  have : k = 0 ∨ k = 1 ∨ k = 2 ∨ k = 3 ∨ k = 4 ∨ k = 5 := by omega
  rcases this with rfl | rfl | rfl | rfl | rfl | rfl <;> decide
noncomputable abbrev thb : Ev → LS → SOut := (seqD (setD 5 (asSh (callG m_minus (consG (varX 2) (consG (asSh (callG m_value_at (consG (varX 3) (consG (varX 1) nilG)))) nilG)))))
  (seqD (setD 3 (asSh (callG m_added (consG (varX 3) (consG (asSh (callG m_scaled (consG (varX 4) (consG (asSh (callG m_over (consG (varX 5) (consG (asSh (callG m_value_at (consG (varX 4) (consG (varX 1) nilG)))) nilG)))) nilG)))) nilG)))))
  (setD 4 (asSh (callG m_product (consG (varX 4) (consG (asSh (tupG (consG (callG m_times (consG (asSh (tupG (consG (op2 subD (cD (.int 0)) (cD (.int 1))) (consG (cD (.int 1)) nilG)))) (consG (varX 1) nilG))) (consG (tupG (consG (cD (.int 1)) (consG (cD (.int 1)) nilG))) nilG)))) nilG)))))))
theorem th_step {k : Nat} {P W : List Rat} (h : Nz (bet k) k P W) (hk : k ≤ 4) {x y : Rat} (hx : Dn 6 36 x) (hy : Dn 6 30 y) (hw : ev W x ≠ 0) (e0 e5 : EV) (s : LS) :
    thb [e0, .sh (R x), .sh (R y), .sh (PL P), .sh (PL W), e5] s = .nx [e0, .sh (R x), .sh (R y), .sh (PL (addQ P (sclQ ((y - ev P x) / ev W x) W))), .sh (PL (mulQ W [-x, 1])), .sh (R (y - ev P x))] s := by
  have hb := bet_le hk
  obtain ⟨v1, v2⟩ := h.val hx
  obtain ⟨b1, b2⟩ := h.bt
  have lp := h.lp
  have lw := h.lw
  have zx : Sz 6 x := hx.sz (by decide) (by decide) (by decide)
  have zy : Sz 6 y := hy.sz (by decide) (by decide) (by decide)
  have c1 : P.length * (6 + (bet k + 3) + 1) ≤ 4 * 167 := Nat.mul_le_mul (by omega) (by omega)
  have c2 : W.length * (6 + (9 * k + 1) + 1) ≤ 5 * 44 := Nat.mul_le_mul (by omega) (by omega)
  have q1 := m_value_at_eq b1.szs zx (by omega) s
  have q2 := m_value_at_eq b2.szs zx (by omega) s
  have q3 := m_minus_eq zy v1 (by omega) s
  have zc := zy.sub v1
  have q4 := m_over_eq zc v2 hw (by omega) s
  have zq : Sz (6 + (bet k + 6 * k + 3) + 1 + (15 * k + 10)) ((y - ev P x) / ev W x) := by
    rw [Rat.div_def]
    exact zc.mul (Sz_inv v2 hw)
  have q5 := scaled_ok b2 zq (by omega) (by omega) s
  have q6 := add_ok b1 (b2.scl zq) (by omega) (by omega) (by have := sclQ_len ((y - ev P x) / ev W x) W; omega) s
  have q7 := m_times_eq (show Sz 1 (-1 : Rat) from Sz_neg1) zx (by omega) s
  rw [R_neg1, show (-1 : Rat) * x = -x by grind] at q7
  have q8 := prod_ok b2 (Bt.neg1 zx) (c := 8) (by rw [lw]; show (k + 1) * 2 ≤ 256; omega) (by omega) (by omega) (by simp) s
  show seqD _ _ _ s = _
  rw [seqD_nx (e := [e0, .sh (R x), .sh (R y), .sh (PL P), .sh (PL W), .sh (R (y - ev P x))]) (s1 := s) (by
    simp -implicitDefEqProofs only [setD_def, asSh_def, callG_def, consG_def, varX_def, nilG_def, List.getElem?_cons_zero, List.getElem?_cons_succ, bind_ok, List.all_cons, List.all_nil, solid_sh, Bool.and_self, if_true, q1, q3, evS_ok, List.set_cons_zero, List.set_cons_succ])]
  rw [seqD_nx (e := [e0, .sh (R x), .sh (R y), .sh (PL (addQ P (sclQ ((y - ev P x) / ev W x) W))), .sh (PL W), .sh (R (y - ev P x))]) (s1 := s) (by
    simp -implicitDefEqProofs only [setD_def, asSh_def, callG_def, consG_def, varX_def, nilG_def, List.getElem?_cons_zero, List.getElem?_cons_succ, bind_ok, List.all_cons, List.all_nil, solid_sh, Bool.and_self, if_true, q2, q4, q5, q6, evS_ok, List.set_cons_zero, List.set_cons_succ])]
  have hp : PL [-x, 1] = .tuple [R (-x), .tuple [.int 1, .int 1]] := rfl
  rw [hp] at q8
  simp -implicitDefEqProofs only [setD_def, asSh_def, callG_def, consG_def, tupG_def, op2_def, cD_def, varX_def, nilG_def, subD_int, lift_some, show (0 : Int) - 1 = -1 from rfl, List.getElem?_cons_zero, List.getElem?_cons_succ, bind_ok, List.length_cons, List.length_nil, Nat.reduceAdd, if_pos line2, List.all_cons, List.all_nil, solid_sh, Bool.and_self, if_true, q7, q8, evS_ok, List.set_cons_zero, List.set_cons_succ]
theorem th_loop (e0 : EV) (s : LS) : ∀ (r : List (Rat × Rat)) (k : Nat) (P W : List Rat) (e1 e2 e5 : EV), Nz (bet k) k P W → k + r.length ≤ 5 → (∀ z ∈ r, Dn 6 36 z.1 ∧ Dn 6 30 z.2) → (∀ z ∈ r, ev W z.1 ≠ 0) → (r.map (·.1)).Nodup →
    ∃ a b c W', forD (.tp [1, 2]) thb (r.map Zd) [e0, e1, e2, .sh (PL P), .sh (PL W), e5] s = .nx [e0, a, b, .sh (PL (nwP P W r)), .sh (PL W'), c] s ∧ Nz (bet (k + r.length)) (k + r.length) (nwP P W r) W'
  | [], k, P, W, e1, e2, e5, h, _, _, _, _ => ⟨e1, e2, e5, W, rfl, h⟩
  | (x, y) :: r, k, P, W, e1, e2, e5, h, hl, hz, hw, hn => by
    rw [List.length_cons] at hl
    obtain ⟨hx, hy⟩ := hz (x, y) List.mem_cons_self
    have hwx := hw (x, y) List.mem_cons_self
    rw [List.map_cons] at hn
    obtain ⟨n1, n2⟩ := List.nodup_cons.mp hn
    have st := th_step h (by omega) hx hy hwx e0 e5 s
    have h' := h.step (by omega) hx hy hwx
    obtain ⟨a, b, c, W', i1, i2⟩ := th_loop e0 s r (k + 1) _ _ (.sh (R x)) (.sh (R y)) (.sh (R (y - ev P x))) h' (by omega) (fun z hz' => hz z (List.mem_cons_of_mem _ hz')) (fun z hz' => by
      rw [ev_mulQ, ev_cons, ev_cons, ev_nil]
      intro w
      rcases Rat.mul_eq_zero.mp w with w | w
      · exact hw z (List.mem_cons_of_mem _ hz') w
      · have e : z.1 = x := by grind
        exact n1 (e ▸ List.mem_map_of_mem (f := (·.1)) hz')) n2
    have ek : k + 1 + r.length = k + (r.length + 1) := by omega
    rw [ek] at i2
    refine ⟨a, b, c, W', ?_, i2⟩
    rw [List.map_cons, forD_nx (env1 := [e0, .sh (R x), .sh (R y), .sh (PL P), .sh (PL W), e5]) (s' := s) rfl st]
    exact i1
theorem m_through_eq {r : List (Rat × Rat)} (hl : r.length ≤ 5) (hz : ∀ z ∈ r, Dn 6 36 z.1 ∧ Dn 6 30 z.2) (hn : (r.map (·.1)).Nodup) (s : LS) :
    ∃ P, m_through [.sh (ZL r)] s = .ok (PL P) s ∧ P.length ≤ r.length ∧ Bt 244 P ∧ ∀ z ∈ r, ev P z.1 = z.2 := by
  obtain ⟨a, b, c, W', h1, h2⟩ := th_loop (.sh (ZL r)) s r 0 [] [1] .un .un .un Nz.start (by omega) hz (fun z _ => by rw [ev_cons, ev_nil]; grind) hn
  have hval := nwP_ok r [] [] [1] (fun z hz => by cases hz) (fun x _ => by rw [ev_cons, ev_nil]; grind) (by simpa using hn)
  rw [Nat.zero_add] at h2
  refine ⟨nwP [] [1] r, ?_, h2.lp, h2.bt.1.mono (by have := bet_le5 hl; omega), fun z hz => hval z (by simpa using hz)⟩
  have hline : r.length ≤ sizeLine := small_line (by omega)
  have hlc := lcD_tp (t := .tp [1, 2]) (ge := varD 1) (fun d => match d with
    | .tuple (x :: _) => x
    | d => d) (r.map Zd) [.sh (ZL r), .un, .un, .un, .un, .un] s (fun d hd => by
      obtain ⟨z, _, rfl⟩ := List.mem_map.mp hd
      exact ⟨[.sh (ZL r), .sh (R z.1), .sh (R z.2), .un, .un, .un], rfl, rfl⟩)
  have em : (r.map Zd).map (fun d => match d with
    | .tuple (x :: _) => x
    | d => d) = (r.map (·.1)).map R := by
    rw [List.map_map, List.map_map]
    rfl
  rw [em] at hlc
  have hset := lenSet_rows hn (by rw [List.length_map]; omega)
  have hset' : lenSetD (.list ((r.map (·.1)).map R)) = some (.int (r.length : Int)) := by rw [← List.length_map (f := fun z : Rat × Rat => z.1)]; exact hset
  have hne : ((r.length : Int) != (r.length : Int)) = false := by simp
  unfold m_through g_through
  refine run_rt ?_
  show seqD _ _ [.sh (ZL r), .un, .un, .un, .un, .un] s = _
  rw [seqD_nx (e := [.sh (ZL r), .un, .un, .un, .un, .un]) (s1 := s) (by
    simp -implicitDefEqProofs only [ifD_def, tst2_def, op2_def, op1_def, asLst_def, lcG_def, itemG_def, varD_def, List.getElem?_cons_zero, bind_ok, listF_list, lift_some, List.length_map, if_pos hline, wipeE_cons, wipeE_nil, List.set_cons_succ, List.set_cons_zero, hlc, hset', callB_def, consG_def, nilG_def, varW_def, lenF_list, neD_int, hne, asB_bool, evS_ok, Bool.false_eq_true, if_false, nopD_def])]
  rw [seqD_nx (e := [.sh (ZL r), .un, .un, .sh (PL []), .sh (PL [1]), .un]) (s1 := s) (by simp -implicitDefEqProofs [R_one])]
  rw [seqD_nx (e := [.sh (ZL r), a, b, .sh (PL (nwP [] [1] r)), .sh (PL W'), c]) (s1 := s) (by
    rw [forG_def]
    simp -implicitDefEqProofs only [itemG_def, varD_def, List.getElem?_cons_zero, bind_ok, listF_list, lift_some, evS_ok]
    exact h1)]
  simp -implicitDefEqProofs
end N1
end

section
set_option linter.all false
set_option autoImplicit false
namespace N1
open PySem hiding run
open DS NP
open NW hiding m_scaled g_scaled m_scaled_eq
/-! ## words -/
def exW (w : String) : Exn := ⟨"Misstep", [("word", .str (PySem.Str.ofString w))]⟩
theorem raise_eq (w : String) (h : (PySem.Str.ofString w).length ≤ 1000) (env : Ev) (s : LS) : raiseD "Misstep" "word" (cD (.str (PySem.Str.ofString w))) env s = .err (exW w) env s := by
  unfold raiseD
  rw [cD_def, evS_ok]
  exact if_pos h
theorem w1 : (PySem.Str.ofString "nought").length ≤ 1000 := by decide
theorem w2 : (PySem.Str.ofString "points").length ≤ 1000 := by decide
theorem divided_nil (s : LS) : m_divided [.sh (PL [1]), .sh (PL [])] s = .err (exW "nought") s := by
  unfold m_divided g_divided
  refine run_err (e := [.sh (PL [1]), .sh (PL []), .un, .un, .un, .un]) ?_
  show seqD _ _ [.sh (PL [1]), .sh (PL []), .un, .un, .un, .un] s = _
  rw [seqD_err]
  rw [ifD_def]
  have : (tst2 eqD (callB lenF (consG (varW 1) nilG)) (cD (.int 0))) [.sh (PL [1]), .sh (PL []), .un, .un, .un, .un] s = .ok true s := by simp -implicitDefEqProofs
  rw [this, evS_ok, if_pos rfl, raise_eq _ w1]
theorem shares_nil (s : LS) : m_shares [.sh (PL []), .sh (PL [])] s = .err (exW "nought") s := by
  unfold m_shares g_shares
  refine run_err (e := [.sh (PL []), .sh (PL []), .sh (T3 [] [1] []), .sh (T3 [] [] [1]), .un, .un, .un, .un]) ?_
  show seqD _ _ [.sh (PL []), .sh (PL []), .un, .un, .un, .un, .un, .un] s = _
  rw [seqD_nx (e := [.sh (PL []), .sh (PL []), .sh (T3 [] [1] []), .sh (T3 [] [] [1]), .un, .un, .un, .un]) (s1 := s) (by simp -implicitDefEqProofs [R_one])]
  have hf : fu_shares_1 [.sh (PL []), .sh (PL []), .sh (T3 [] [1] []), .sh (T3 [] [] [1]), .un, .un, .un, .un] s = 0 + 1 := rfl
  have c1 : (tst2 gtD (callB lenF (consG (op2 ixD (varW 3) (cD (.int 0))) nilG)) (cD (.int 0))) [.sh (PL []), .sh (PL []), .sh (T3 [] [1] []), .sh (T3 [] [] [1]), .un, .un, .un, .un] s = .ok false s := by simp -implicitDefEqProofs
  rw [seqD_nx (e := [.sh (PL []), .sh (PL []), .sh (T3 [] [1] []), .sh (T3 [] [] [1]), .un, .un, .un, .un]) (s1 := s) (by
    rw [whileG_def, hf, whileD_succ, c1, evS_ok, if_neg (by decide)])]
  rw [seqD_err]
  rw [ifD_def]
  have : (tst2 eqD (callB lenF (consG (op2 ixD (varW 2) (cD (.int 0))) nilG)) (cD (.int 0))) [.sh (PL []), .sh (PL []), .sh (T3 [] [1] []), .sh (T3 [] [] [1]), .un, .un, .un, .un] s = .ok true s := by simp -implicitDefEqProofs
  rw [this, evS_ok, if_pos rfl, raise_eq _ w1]
theorem through_two (s : LS) : m_through [.sh (.list [.tuple [.tuple [.int 1, .int 2], .tuple [.int 1, .int 1]], .tuple [.tuple [.int 1, .int 2], .tuple [.int 0, .int 1]]])] s = .err (exW "points") s := by
  unfold m_through g_through
  refine run_err (e := [.sh (.list [.tuple [.tuple [.int 1, .int 2], .tuple [.int 1, .int 1]], .tuple [.tuple [.int 1, .int 2], .tuple [.int 0, .int 1]]]), .un, .un, .un, .un, .un]) ?_
  show seqD _ _ [.sh (.list [.tuple [.tuple [.int 1, .int 2], .tuple [.int 1, .int 1]], .tuple [.tuple [.int 1, .int 2], .tuple [.int 0, .int 1]]]), .un, .un, .un, .un, .un] s = _
  rw [seqD_err]
  rw [ifD_def]
  have hset : lenSetD (.list [.tuple [.int 1, .int 2], .tuple [.int 1, .int 2]]) = some (.int 1) := rfl
  have : (tst2 neD (op1 lenSetD (asLst (lcG (.tp [1, 2]) [1, 2] (itemG (varD 0)) yesB (varD 1)))) (callB lenF (consG (varW 0) nilG))) [.sh (.list [.tuple [.tuple [.int 1, .int 2], .tuple [.int 1, .int 1]], .tuple [.tuple [.int 1, .int 2], .tuple [.int 0, .int 1]]]), .un, .un, .un, .un, .un] s = .ok true s := by
    simp -implicitDefEqProofs [lcD, hset]
  rw [this, evS_ok, if_pos rfl, raise_eq _ w2]
def wordOf (k : Int) : String := if k = 0 then "nought" else if k = 1 then "nought" else "points"
theorem try_word {gb : Ev → LS → SOut} {w : String} {s : LS} {k : Int} (h : gb [.sh (.int k), .un] s = .err (exW w) [.sh (.int k), .un] s) : tryD "Misstep" 1 gb (fun ad dd => (retD (exfD ad dd 1 "word"))) [.sh (.int k), .un] s = .rt (.str (PySem.Str.ofString w)) s := by
  unfold tryD
  rw [h]
  have key : ∀ a dd, clr 1 (retD (exfD a dd 1 "word") ((show Ev from [.sh (.int k), .un]).set 1 (.ex a dd (exW w).fs)) s) = .rt (.str (PySem.Str.ofString w)) s := fun a dd => by
    have : exfD a dd 1 "word" ((show Ev from [.sh (.int k), .un]).set 1 (.ex a dd (exW w).fs)) s = .ok (.str (PySem.Str.ofString w)) s := by
      unfold exfD
      show (if a = a ∧ dd = dd then lift ((exW w).fs.lookup (PySem.Str.ofString "word")) s else .bad) = _
      rw [if_pos ⟨rfl, rfl⟩]
      rfl
    rw [retD_def, this]
    rfl
  dsimp only
  rw [if_pos ⟨rfl, fun a dd => (key a dd).trans (key 0 0).symm⟩]
  exact key 0 0
theorem m__law_word_eq (k : Int) (s : LS) : m__law_word [.sh (.int k)] s = .ok (.str (PySem.Str.ofString (wordOf k))) s := by
  unfold m__law_word g__law_word
  refine run_rt ?_
  show tryD _ _ _ _ [.sh (.int k), .un] s = _
  refine try_word ?_
  rw [seqD_err]
  by_cases h0 : k = 0
  · subst h0
    have := divided_nil s
    rw [show PL [1] = .tuple [.tuple [.int 1, .int 1]] from rfl, show PL [] = .tuple [] from rfl] at this
    simp -implicitDefEqProofs [this, wordOf]
  · by_cases h1 : k = 1
    · subst h1
      have := shares_nil s
      rw [show PL [] = .tuple [] from rfl] at this
      simp -implicitDefEqProofs [this, wordOf]
    · have e0 : (k == 0) = false := by simpa using h0
      have e1 : (k == 1) = false := by simpa using h1
      have := through_two s
      simp -implicitDefEqProofs [this, wordOf, e0, e1, h0, h1]
end N1
end

section
set_option linter.all false
set_option autoImplicit false
namespace N1
open PySem hiding run
open DS NP
open NW hiding m_scaled g_scaled m_scaled_eq
/-! ## the law's own points -/
noncomputable abbrev ltb : Ev → LS → SOut := (seqD (setD 4 (asSh (callG m__law_part (consG (varX 0) (consG (asSh (cD (.int 6))) (consG (asSh (cD (.int 3))) nilG))))))
  (ifD (tst2 notInD (varW 4) (varW 1)) (seqD (appD 1 (varD 4))
  (appD 2 (tupG (consG (varD 4) (consG (callG m__law_part (consG (varX 0) (consG (asSh (cD (.int 5))) (consG (asSh (cD (.int 3))) nilG)))) nilG))))) nopD))
def PrOk (r : List (Rat × Rat)) : Prop := (∀ z ∈ r, Dn 6 36 z.1 ∧ Dn 6 30 z.2) ∧ (r.map (·.1)).Nodup
theorem ltb_ok {r : List (Rat × Rat)} (hr : PrOk r) (hl : r.length ≤ 100) (e3 e4 : EV) (t : Ev) {s : LS} (hs : WFS s) : ∃ r' e4' s', ltb (.st :: .ow ((r.map (·.1)).map R) :: .ow (r.map Zd) :: e3 :: e4 :: t) s = .nx (.st :: .ow ((r'.map (·.1)).map R) :: .ow (r'.map Zd) :: e3 :: e4' :: t) s' ∧ WFS s' ∧ PrOk r' ∧ r'.length ≤ r.length + 1 := by
  obtain ⟨a, b, s1, p1, w1, a1, b1, b2⟩ := part_ok hs (top := 6) (low := 3) (by decide) (by decide) (by decide) (by decide)
  obtain ⟨c, d, s2, p2, w2, c1, d1, d2⟩ := part_ok w1 (top := 5) (low := 3) (by decide) (by decide) (by decide) (by decide)
  have hx : Dn 6 36 (Rat.divInt a b) := dn6 (t := 6) a1 b1 b2
  have hy : Dn 6 30 (Rat.divInt c d) := dn6 (t := 5) c1 d1 d2
  generalize Rat.divInt a b = x at p1 hx
  generalize Rat.divInt c d = y at p2 hy
  have hin := notInD_rows x (r.map (·.1))
  have hl1 : (r.map (·.1)).length < sizeLine := small_line' (by rw [List.length_map]; omega)
  have hl2 : r.length < sizeLine := small_line' (by omega)
  by_cases hm : x ∈ r.map (·.1)
  · refine ⟨r, .sh (R x), s1, ?_, w1, hr, by omega⟩
    rw [decide_eq_true hm] at hin
    show seqD _ _ _ s = _
    rw [seqD_nx (e := (.st :: .ow ((r.map (·.1)).map R) :: .ow (r.map Zd) :: e3 :: .sh (R x) :: t)) (s1 := s1) (by
      simp -implicitDefEqProofs only [setD_def, asSh_def, callG_def, consG_def, varX_def, cD_def, nilG_def, List.getElem?_cons_zero, bind_ok, List.all_cons, List.all_nil, solid_sh, solid_st, Bool.and_self, if_true, p1, evS_ok, List.set_cons_zero, List.set_cons_succ])]
    simp -implicitDefEqProofs only [ifD_def, tst2_def, op2_def, varW_def, List.getElem?_cons_zero, List.getElem?_cons_succ, bind_ok, hin, lift_some, Bool.not_true, asB_bool, evS_ok, Bool.false_eq_true, if_false, nopD_def]
  · rw [decide_eq_false hm] at hin
    refine ⟨r ++ [(x, y)], .sh (R x), s2, ?_, w2, ⟨fun z hz => ?_, ?_⟩, by rw [List.length_append]; exact Nat.le_refl _⟩
    · show seqD _ _ _ s = _
      rw [seqD_nx (e := (.st :: .ow ((r.map (·.1)).map R) :: .ow (r.map Zd) :: e3 :: .sh (R x) :: t)) (s1 := s1) (by
        simp -implicitDefEqProofs only [setD_def, asSh_def, callG_def, consG_def, varX_def, cD_def, nilG_def, List.getElem?_cons_zero, bind_ok, List.all_cons, List.all_nil, solid_sh, solid_st, Bool.and_self, if_true, p1, evS_ok, List.set_cons_zero, List.set_cons_succ])]
      have hl1' : ((r.map (·.1)).map R).length < sizeLine := by rw [List.length_map]; exact hl1
      have hl2' : (r.map Zd).length < sizeLine := by rw [List.length_map]; exact hl2
      simp -implicitDefEqProofs only [ifD_def, tst2_def, op2_def, varW_def, varD_def, varX_def, List.getElem?_cons_zero, List.getElem?_cons_succ, bind_ok, hin, lift_some, Bool.not_false, asB_bool, evS_ok, if_true, seqD_def, appD_def, hl1', hl2', List.set_cons_zero, List.set_cons_succ, tupG_def, callG_def, consG_def, asSh_def, cD_def, nilG_def, List.all_cons, List.all_nil, solid_sh, solid_st, Bool.and_self, p2, List.length_cons, List.length_nil, Nat.reduceAdd, if_pos line2, List.map_append, List.map_cons, List.map_nil]
    · rcases List.mem_append.mp hz with hz | hz
      · exact hr.1 z hz
      · rw [List.mem_singleton.mp hz]; exact ⟨hx, hy⟩
    · rw [List.map_append, List.nodup_append]
      refine ⟨hr.2, by simp, fun p hp q hq => ?_⟩
      simp only [List.map_cons, List.map_nil, List.mem_singleton] at hq
      rw [hq]
      exact fun z => hm (z ▸ hp)
theorem m__law_through_ok {s : LS} (hs : WFS s) : ∃ s', m__law_through [.st] s = .ok (.bool true) s' ∧ WFS s' := by
  obtain ⟨n, s1, t1, w1, n0, n6⟩ := take_ok hs (most := 6) (by decide) (by decide)
  have hr : rngB n := rngB_small (by omega) (by omega)
  have key := forD_inv (t := .nm 3) (gb := ltb) (fun k env s' => ∃ r e3 e4, env = [.st, .ow ((r.map (·.1)).map R), .ow (r.map Zd), e3, e4, .un, .un, .un] ∧ WFS s' ∧ PrOk r ∧ r.length ≤ k ∧ k ≤ n.toNat) (rangeL 0 n.toNat) [.st, .ow [], .ow [], .un, .un, .un, .un, .un] s1 ⟨[], .un, .un, rfl, w1, ⟨fun z hz => (by cases hz), List.nodup_nil⟩, Nat.le_refl _, Nat.zero_le _⟩ (fun k d env s' hk hP => by
    obtain ⟨r, e3, e4, rfl, ws, hp, hl, hkn⟩ := hP
    obtain ⟨hk1, rfl⟩ := rangeL_get hk
    obtain ⟨r', e4', s2, g1, g2, g3, g4⟩ := ltb_ok hp (by omega) (.sh (.int (k : Int))) e4 [.un, .un, .un] ws
    exact ⟨_, rfl, _, s2, .inl g1, r', _, e4', rfl, g2, g3, by omega, by omega⟩)
  obtain ⟨e', s2, h1, r, e3, e4, rfl, w2, hp, hl, -⟩ := key
  rw [rangeL_length] at hl
  have hl5 : r.length ≤ 5 := by omega
  obtain ⟨P, q1, q2, q3, q4⟩ := m_through_eq hl5 hp.1 hp.2 s2
  have hline : r.length ≤ sizeLine := small_line (by omega)
  refine ⟨s2, ?_, w2⟩
  have hid := lcD_map (i := 6) (ge := varD 6) id (r.map Zd) [.st, .ow ((r.map (·.1)).map R), .sh (ZL r), e3, e4, .un, .un, .un] s2 (fun d hd => rfl)
  rw [List.map_id] at hid
  have hfl := lcD_filter (i := 7) (gc := tst2 neD (callG m__law_val (consG (varX 5) (consG (asSh (op2 ixD (varW 7) (cD (.int 0)))) nilG))) (op2 ixD (varW 7) (cD (.int 1)))) (ge := varD 7) (fun _ => false) id (r.map Zd) [.st, .ow ((r.map (·.1)).map R), .sh (ZL r), e3, e4, .sh (PL P), .un, .un] s2 (fun d hd => by
    obtain ⟨z, hz, rfl⟩ := List.mem_map.mp hd
    have zx : Sz 6 z.1 := (hp.1 z hz).1.sz (by decide) (by decide) (by decide)
    have c1 : P.length * (6 + 244 + 1) ≤ 5 * 251 := Nat.mul_le_mul (by omega) (by omega)
    have e := m__law_val_eq q3.szs zx (by omega) s2
    rw [q4 z hz] at e
    have i0 : ixD (Zd z) (.int 0) = some (R z.1) := rfl
    have i1 : ixD (Zd z) (.int 1) = some (R z.2) := rfl
    simp -implicitDefEqProofs only [tst2_def, op2_def, callG_def, consG_def, asSh_def, varX_def, varW_def, cD_def, nilG_def, List.set_cons_zero, List.set_cons_succ, List.getElem?_cons_zero, List.getElem?_cons_succ, bind_ok, i0, i1, lift_some, List.all_cons, List.all_nil, solid_sh, Bool.and_self, if_true, e, neD_R_self, asB_bool]) (fun d _ h => by cases h)
  have hf0 : (r.map Zd).filter (fun _ => false) = [] := by simp
  rw [hf0] at hfl
  have hle : decide (((P.length : Nat) : Int) ≤ ((r.length : Nat) : Int)) = true := decide_eq_true (by omega)
  unfold m__law_through g__law_through
  refine run_rt ?_
  show seqD _ _ [.st, .un, .un, .un, .un, .un, .un, .un] s = _
  rw [seqD_nx (e := [.st, .ow [], .ow [], .un, .un, .un, .un, .un]) (s1 := s) (by simp -implicitDefEqProofs)]
  rw [seqD_nx (e := [.st, .ow ((r.map (·.1)).map R), .ow (r.map Zd), e3, e4, .un, .un, .un]) (s1 := s2) (by
    rw [forG_def]
    simp -implicitDefEqProofs only [rng1_def, callG_def, consG_def, asSh_def, varX_def, cD_def, nilG_def, List.getElem?_cons_zero, bind_ok, List.all_cons, List.all_nil, solid_sh, solid_st, Bool.and_self, if_true, t1, if_pos hr, evS_ok]
    exact h1)]
  rw [frzD_def]
  show seqD _ _ [.st, .ow ((r.map (·.1)).map R), .sh (ZL r), e3, e4, .un, .un, .un] s2 = _
  rw [seqD_nx (e := [.st, .ow ((r.map (·.1)).map R), .sh (ZL r), e3, e4, .sh (PL P), .un, .un]) (s1 := s2) (by
    simp -implicitDefEqProofs only [setD_def, asSh_def, callG_def, consG_def, asLst_def, lcG_def, itemG_def, varD_def, List.getElem?_cons_zero, List.getElem?_cons_succ, bind_ok, listF_list, lift_some, List.length_map, if_pos hline, wipeE_cons, wipeE_nil, List.set_cons_succ, List.set_cons_zero, hid, nilG_def, List.all_cons, List.all_nil, solid_sh, Bool.and_self, if_true, q1, evS_ok])]
  rw [frzD_def]
  show retD _ [.st, .ow ((r.map (·.1)).map R), .sh (ZL r), e3, e4, .sh (PL P), .un, .un] s2 = _
  simp -implicitDefEqProofs only [retD_def, andD_def, op2_def, callB_def, consG_def, nilG_def, varW_def, varD_def, cD_def, List.getElem?_cons_zero, List.getElem?_cons_succ, bind_ok, lenF_tuple, lenF_list, lift_some, List.length_map, leD_int, hle, asB_bool, if_true, asLst_def, lcG_def, itemG_def, listF_list, if_pos hline, wipeE_cons, wipeE_nil, List.set_cons_succ, List.set_cons_zero, hfl, List.map_nil, List.length_nil, eqD_int, evS_ok]
  rfl
end N1
end

section
set_option linter.all false
set_option autoImplicit false
namespace N1
open PySem hiding run
open DS NP
open NW hiding m_scaled g_scaled m_scaled_eq

/-- what is drawn -/
structure Fx (p q t : List Rat) (a b : Rat) : Prop where
  tp : Tr p
  bp : Bt 5 p
  lp : p.length ≤ 5
  tq : Tr q
  bq : Bt 5 q
  lq : q.length ≤ 4
  tt : Tr t
  bt : Bt 5 t
  lt : t.length ≤ 3
  za : Sz 3 a
  zb : Sz 3 b
section
variable {p q t : List Rat} {a b : Rat} {env : Ev} {s : LS}
theorem c3 (h : Fx p q t a b) (h2 : env[2]? = some (.sh (PL p))) (h3 : env[3]? = some (.sh (PL q))) (h5 : env[5]? = some (.sh (R a))) (h7 : env[7]? = some (.sh (PL (mulQ p q)))) : (orB (tst2 neD (callG m_added (consG (varX 2) (consG (varX 3) nilG))) (callG m__law_sum (consG (varX 2) (consG (varX 3) (consG (asSh (tupG (consG (cD (.int 1)) (consG (cD (.int 1)) nilG)))) nilG))))) (orB (tst2 neD (callG m_less (consG (varX 2) (consG (varX 3) nilG))) (callG m__law_sum (consG (varX 2) (consG (varX 3) (consG (asSh (tupG (consG (op1 negI (cD (.int 1))) (consG (cD (.int 1)) nilG)))) nilG))))) (orB (tst2 neD (callG m_product (consG (varX 2) (consG (varX 3) nilG))) (varW 7)) (tst2 neD (callG m_scaled (consG (varX 2) (consG (varX 5) nilG))) (callG m__law_sum (consG (asSh (tupG nilG)) (consG (varX 2) (consG (varX 5) nilG)))))))) env s = .ok false s := by
  have lp := h.lp
  have lq := h.lq
  have one : (tupG (consG (cD (.int 1)) (consG (cD (.int 1)) nilG))) env s = .ok (R 1) s := by simp -implicitDefEqProofs [R_one]
  have neg : (tupG (consG (op1 negI (cD (.int 1))) (consG (cD (.int 1)) nilG))) env s = .ok (R (-1)) s := by simp -implicitDefEqProofs [R_neg1]
  have e1 := add_ok h.bp h.bq (by omega) (by omega) (by omega) s
  have e2 := m__law_sum_eq h.bp.szs h.bq.szs Sz_one h.bp.pos h.bq.pos (by omega) (by omega) (by omega) s
  rw [sclQ_one h.tq] at e2
  have e3 := less_ok h.bp h.bq (by omega) (by omega) (by omega) s
  have e4 := m__law_sum_eq h.bp.szs h.bq.szs Sz_neg1 h.bp.pos h.bq.pos (by omega) (by omega) (by omega) s
  have hl : p.length * q.length ≤ 2 ^ 8 := by
    have := Nat.mul_le_mul lp lq
    omega
  have e5 := prod_ok h.bp h.bq hl (by omega) (by omega) (by omega) s
  have e6 := scaled_ok h.bp h.za (by omega) (by omega) s
  have e7 := m__law_sum_eq (p := []) Bt.nil.szs h.bp.szs h.za Bt.nil.pos h.bp.pos (by omega) (by simp) (by omega) s
  have e8 : addQ [] (sclQ a p) = sclQ a p := Tr.eq (Tr.addQ _ _) (Tr.sclQ _ _) fun x => by rw [ev_addQ, ev_nil]; grind
  rw [e8] at e7
  refine orB_f (ne_f (d := PL (addQ p q)) ((cX2 h2 h3).trans e1) ((cXXG h2 h3 one).trans e2) (neD_PL_self _)) (orB_f (ne_f (d := PL (subP p q)) ((cX2 h2 h3).trans e3) ((cXXG h2 h3 neg).trans e4) (neD_PL_self _)) (orB_f (ne_f (d := PL (mulQ p q)) ((cX2 h2 h3).trans e5) (vW h7) (neD_PL_self _)) (ne_f (d := PL (sclQ a p)) ((cX2 h2 h5).trans e6) ?_ (neD_PL_self _))))
  have nl : (tupG (nilG : Ev → LS → Out (List D))) env s = .ok (PL []) s := by simp -implicitDefEqProofs
  exact (cGXX nl h2 h5).trans e7
theorem st6 {n : Nat} (h : Fx p q t a b) (hn : n ≤ 3) {e0 e1 e2 e3 e5 e6 e7 : EV} {r : Ev} : ∃ e, (forG (.nm 10) (rng1 (varD 8)) (setD 9 (asSh (callG m__law_times (consG (varX 9) (consG (varX 4) nilG)))))) (e0 :: e1 :: e2 :: e3 :: .sh (PL t) :: e5 :: e6 :: e7 :: .sh (.int (n : Int)) :: .sh (PL [1]) :: .un :: r) s = .nx (e0 :: e1 :: e2 :: e3 :: .sh (PL t) :: e5 :: e6 :: e7 :: .sh (.int (n : Int)) :: .sh (PL (powQ t n)) :: e :: r) s := by
  have lt := h.lt
  have key := forD_inv (t := .nm 10) (gb := setD 9 (asSh (callG m__law_times (consG (varX 9) (consG (varX 4) nilG))))) (fun k env s' => ∃ e, env = (e0 :: e1 :: e2 :: e3 :: .sh (PL t) :: e5 :: e6 :: e7 :: .sh (.int (n : Int)) :: .sh (PL (powQ t k)) :: e :: r) ∧ s' = s) (rangeL 0 n) (e0 :: e1 :: e2 :: e3 :: .sh (PL t) :: e5 :: e6 :: e7 :: .sh (.int (n : Int)) :: .sh (PL [1]) :: .un :: r) s ⟨.un, rfl, rfl⟩ (fun k d env s1 hk hP => by
    obtain ⟨e, rfl, rfl⟩ := hP
    obtain ⟨hk1, rfl⟩ := rangeL_get hk
    have hb := Bt.pow (l := 2) (c := 3) (N := 3) h.bt (by omega) (by decide) k (by omega)
    have hlen := pow_len t (l := 2) (by omega) k
    have hc : (powQ t k).length * t.length ≤ 2 ^ 6 := by
      have := Nat.mul_le_mul (show (powQ t k).length ≤ 7 by omega) (show t.length ≤ 3 by omega)
      omega
    have q1 := ltimes_ok hb h.bt hc (by omega) (by omega) (by omega) s1
    exact ⟨(e0 :: e1 :: e2 :: e3 :: .sh (PL t) :: e5 :: e6 :: e7 :: .sh (.int (n : Int)) :: .sh (PL (powQ t k)) :: .sh (.int (k : Int)) :: r), rfl, (e0 :: e1 :: e2 :: e3 :: .sh (PL t) :: e5 :: e6 :: e7 :: .sh (.int (n : Int)) :: .sh (PL (powQ t (k + 1))) :: .sh (.int (k : Int)) :: r), s1, .inl (by simp -implicitDefEqProofs only [setD_def, asSh_def, callG_def, consG_def, varX_def, nilG_def, List.getElem?_cons_zero, List.getElem?_cons_succ, bind_ok, List.all_cons, List.all_nil, solid_sh, Bool.and_self, if_true, q1, evS_ok, List.set_cons_zero, List.set_cons_succ, powQ]), .sh (.int (k : Int)), rfl, rfl⟩)
  obtain ⟨e', s', h1, e, rfl, rfl⟩ := key
  rw [rangeL_length] at h1
  have hr : rngB (n : Int) := rngB_small (by omega) (by omega)
  refine ⟨e, ?_⟩
  rw [forG_def]
  simp -implicitDefEqProofs only [rng1_def, varD_def, List.getElem?_cons_zero, List.getElem?_cons_succ, bind_ok, if_pos hr, evS_ok, Int.toNat_natCast]
  exact h1
theorem c7 {n : Nat} (h : Fx p q t a b) (hn : n ≤ 3) (h2 : env[2]? = some (.sh (PL p))) (h4 : env[4]? = some (.sh (PL t))) (h6 : env[6]? = some (.sh (R b))) (h8 : env[8]? = some (.sh (.int (n : Int)))) (h9 : env[9]? = some (.sh (PL (powQ t n)))) : (orB (tst2 neD (callG m_power (consG (varX 4) (consG (varX 8) nilG))) (varW 9)) (orB (tst2 neD (callG m_value_at (consG (varX 2) (consG (varX 6) nilG))) (callG m__law_val (consG (varX 2) (consG (varX 6) nilG)))) (orB (tst2 neD (callG m_derived (consG (varX 2) nilG)) (callG m__law_slope (consG (varX 2) nilG))) (tst2 neD (cD (.int 30)) (cD (.int 30)))))) env s = .ok false s := by
  have lp := h.lp
  have lt := h.lt
  have e1 := m_power_eq (c := 3) (l := 2) (n := n) h.bt (by omega) (by omega) (by omega) (by omega) (by omega) (by omega) s
  have c1 : p.length * (3 + 5 + 1) ≤ 5 * 9 := Nat.mul_le_mul lp (Nat.le_refl _)
  have e2 := m_value_at_eq h.bp.szs h.zb (by omega) s
  have e3 := m__law_val_eq h.bp.szs h.zb (by omega) s
  have e4 := m_derived_eq h.bp.szs h.bp.pos (by omega) (by omega) s
  have e5 := m__law_slope_eq h.bp.szs h.bp.pos (by omega) (by omega) s
  refine orB_f (ne_f ((cX2 h4 h8).trans e1) (vW h9) (neD_PL_self _)) (orB_f (ne_f ((cX2 h2 h6).trans e2) ((cX2 h2 h6).trans e3) (neD_R_self _)) (orB_f (ne_f ((cX1 h2).trans e4) ((cX1 h2).trans e5) (neD_PL_self _)) (by simp -implicitDefEqProofs)))
theorem len_t {l : List Rat} {i : Nat} (hi : env[i]? = some (.sh (PL l))) : (tst2 gtD (callB lenF (consG (varW i) nilG)) (cD (.int 0))) env s = .ok (decide (l ≠ [])) s := by
  have e : decide ((0 : Int) < (l.length : Int)) = decide (l ≠ []) := by
    by_cases h : l = []
    · subst h; rfl
    · have := List.length_pos_iff.mpr h
      rw [decide_eq_true h, decide_eq_true (by omega)]
  simp -implicitDefEqProofs only [tst2_def, op2_def, callB_def, consG_def, nilG_def, varW_def, hi, cD_def, bind_ok, lenF_tuple, lift_some, List.length_map, gtD_int, e, asB_bool]
theorem c8 (h : Fx p q t a b) (h2 : env[2]? = some (.sh (PL p))) (h3 : env[3]? = some (.sh (PL q))) : (andB (tst2 gtD (callB lenF (consG (varW 3) nilG)) (cD (.int 0))) (tst2 neD (callG m_divided (consG (varX 2) (consG (varX 3) nilG))) (callG m__law_rest (consG (varX 2) (consG (varX 3) nilG))))) env s = .ok false s := by
  have lp := h.lp
  have lq := h.lq
  by_cases hq : q = []
  · refine andB_f ((len_t h3).trans ?_)
    rw [decide_eq_false (fun z => z hq)]
  · refine andB_t ((len_t h3).trans (by rw [decide_eq_true hq])) ?_
    have c1 : (p.length + 1 - q.length) * (5 + 1) ≤ 6 * 6 := Nat.mul_le_mul (by omega) (Nat.le_refl _)
    have e1 := div_ok h.bp h.bq h.tq hq (by omega) (by omega) (by omega) s
    have e2 := lrest_ok h.bp h.bq h.tq hq (by omega) (by omega) (by omega) s
    exact ne_f ((cX2 h2 h3).trans e1) ((cX2 h2 h3).trans e2) (neD_two_self _ _)
theorem inv_lead (tp : Tr p) (hp : p ≠ []) : 1 / lead p = (lead p)⁻¹ ∧ (lead p)⁻¹ ≠ 0 := by
  have hl0 := lead_ne tp hp
  refine ⟨by rw [Rat.div_def, Rat.one_mul], fun z => ?_⟩
  have := Rat.mul_inv_cancel _ hl0
  rw [z] at this
  exact absurd this (by grind)
theorem monQ_eq (tp : Tr p) (hp : p ≠ []) : monQ p = sclR (lead p)⁻¹ p := by
  obtain ⟨h1, h2⟩ := inv_lead tp hp
  rw [monQ, h1, sclQ_eq h2 tp]
theorem c9 (h : Fx p q t a b) (h2 : env[2]? = some (.sh (PL p))) (h1 : 11 < env.length) : (tst2 neD (callG m_monic (consG (varX 2) nilG)) (ifG (tst2 gtD (callB lenF (consG (varW 2) nilG)) (cD (.int 0))) (callB tupF (consG (asLst (lcG (.nm 11) [11] (itemG (varD 2)) yesB (callG m__law_mul (consG (varX 11) (consG (asSh (callG m__law_flip (consG (asSh (op2 ixD (varW 2) (op1 negI (cD (.int 1))))) nilG))) nilG))))) nilG)) (tupG nilG))) env s = .ok false s := by
  have lp := h.lp
  have e1 := m_monic_eq h.bp.szs h.bp.pos (by omega) h.tp (by omega) s
  refine ne_f ((cX1 h2).trans e1) ?_ (neD_PL_self _)
  rw [ifG_def, len_t h2, bind_ok]
  by_cases hp : p = []
  · subst hp
    rw [if_neg (by simp)]
    simp -implicitDefEqProofs [monQ, sclQ, sclR, trimQ]
  · rw [if_pos (by simpa using hp)]
    have hl0 := lead_ne h.tp hp
    have zl : Sz 5 (lead p) := h.bp.szs.get h.bp.pos _
    have ef := m__law_flip_eq zl hl0 (by omega) s
    have hlast := last_row hp
    have hline : p.length ≤ sizeLine := small_line (by omega)
    have h2' : ∀ x : EV, ((env.set 11 .un).set 11 x)[2]? = some (.sh (PL p)) := fun x => by
      rw [List.getElem?_set_ne (by decide), List.getElem?_set_ne (by decide), h2]
    have h11 : ∀ x : EV, ((env.set 11 .un).set 11 x)[11]? = some x := fun x => by
      rw [List.getElem?_set_self (by rw [List.length_set]; exact h1)]
    have hlc := lc_row (i := 11) (ge := callG m__law_mul (consG (varX 11) (consG (asSh (callG m__law_flip (consG (asSh (op2 ixD (varW 2) (op1 negI (cD (.int 1))))) nilG))) nilG))) (fun c => c * (lead p)⁻¹) p (env.set 11 .un) s fun c hc => by
      have em := m__law_mul_eq (h.bp.szs c hc) (Sz_inv zl hl0) (by omega) s
      simp -implicitDefEqProofs only [callG_def, consG_def, varX_def, h11, h2', bind_ok, asSh_def, op2_def, op1_def, varW_def, cD_def, negI_int, lift_some, ixD_tuple, hlast, nilG_def, List.all_cons, List.all_nil, solid_sh, Bool.and_self, if_true, ef, em]
    rw [monQ_eq h.tp hp]
    simp -implicitDefEqProofs only [callB_def, consG_def, asLst_def, lcG_def, itemG_def, varD_def, h2, bind_ok, listF_tuple, lift_some, List.length_map, if_pos hline, wipeE_cons, wipeE_nil, hlc, nilG_def, tupF_list, sclR]
end

end N1
end

section
set_option linter.all false
set_option autoImplicit false
namespace N1
open PySem hiding run
open DS NP
open NW hiding m_scaled g_scaled m_scaled_eq

section
variable {p q t : List Rat} {a b : Rat} {env : Ev} {s : LS}
theorem wset {i v : Nat} {x y : EV} (h : env[i]? = some y) (hn : v ≠ i) : ((env.set v .un).set v x)[i]? = some y := by
  rw [List.getElem?_set_ne hn, List.getElem?_set_ne hn, h]
theorem wself {v : Nat} {x : EV} (h : v < env.length) : ((env.set v .un).set v x)[v]? = some x := by
  rw [List.getElem?_set_self (by rw [List.length_set]; exact h)]
theorem par_nx {i j : Nat} {g h : Ev → LS → Out D} {x y : D} {s1 s2 : LS} (h1 : g env s = .ok x s1) (h2 : h env s1 = .ok y s2) : par2 i j (asSh g) (asSh h) env s = .nx ((env.set i (.sh x)).set j (.sh y)) s2 := by
  simp only [par2_def, asSh_def, h1, h2, bind_ok, evS_ok]
/-! ### shares -/
theorem okall : ((List.range 4).all fun lt => (List.range 6).all fun lp => (List.range 5).all fun lq => lt == 0 || (okC 1990 220 lt 7 (if lp = 0 then 0 else lt + lp - 1) (if lq = 0 then 0 else lt + lq - 1) 12 12 && okS 567 lt 7 (if lp = 0 then 0 else lt + lp - 1) (if lq = 0 then 0 else lt + lq - 1) 12 12 1 1 1 1)) = true := by decide +kernel
theorem mul_len_if (tp : Tr p) (tq : Tr q) (hp : p ≠ []) : (mulQ p q).length = if q.length = 0 then 0 else p.length + q.length - 1 := by
  by_cases hq : q = []
  · subst hq; rw [mulQ_nil_right]; rfl
  · rw [mulQ_len tp tq hp hq, if_neg (fun z => hq (List.eq_nil_of_length_eq_zero z))]
theorem bt_tp (h : Fx p q t a b) : Bt 12 (mulQ t p) ∧ Bt 12 (mulQ t q) := by
  have lt := h.lt
  exact ⟨h.bt.mul h.bp (c := 2) (by omega), h.bt.mul h.bq (c := 2) (by omega)⟩
theorem dv_mul (p q : List Rat) : Dv p (mulQ p q) := ⟨q, fun x => ev_mulQ x p q⟩
theorem chain_tp (h : Fx p q t a b) (ht : t ≠ []) : Ch 1990 220 7 (mulQ t p) (mulQ t q) ∧ Sh 567 7 (mulQ t p, [1], []) (mulQ t q, [], [1]) := by
  have lt := h.lt
  have lp := h.lp
  have lq := h.lq
  have l0 := List.length_pos_iff.mpr ht
  obtain ⟨b1, b2⟩ := bt_tp h
  have o := List.all_eq_true.mp (List.all_eq_true.mp (List.all_eq_true.mp okall t.length (List.mem_range.mpr (by omega))) p.length (List.mem_range.mpr (by omega))) q.length (List.mem_range.mpr (by omega))
  have hz : (t.length == 0) = false := by rw [beq_eq_false_iff_ne]; omega
  rw [hz, Bool.false_or, Bool.and_eq_true] at o
  obtain ⟨o1, o2⟩ := o
  rw [← mul_len_if h.tt h.tp ht, ← mul_len_if h.tt h.tq ht] at o1 o2
  exact ⟨okC_ch h.tt 7 12 12 _ _ (Tr.mulQ _ _) b1 b2 (dv_mul t p) (dv_mul t q) o1, okS_sh h.tt 7 12 12 1 1 1 1 (mulQ t p, [1], []) (mulQ t q, [], [1]) (Tr.mulQ _ _) b1 b2 Bt.one Bt.nil Bt.nil Bt.one (by simp) (by simp) (by simp) (by simp) (dv_mul t p) (dv_mul t q) o2⟩
theorem st11 (h : Fx p q t a b) {y0 y1 y2 y3 y4 y5 y6 y7 y8 y9 y10 y11 y14 y15 y16 y17 y18 y19 y20 y21 y22 y23 y24 y25 y26 y27 : EV} : ∃ x14 x15 x16 x17, (ifD (tst2 gtD (op2 addD (callB lenF (consG (varW 12) nilG)) (callB lenF (consG (varW 13) nilG))) (cD (.int 0))) (seqD (unpD (.tp [14, 15, 16]) (callG m_shares (consG (varX 12) (consG (varX 13) nilG)))) (seqD (setD 17 (asSh (callG m__law_common (consG (varX 12) (consG (varX 13) nilG))))) (ifD (orB (tst2 neD (callG m_common (consG (varX 12) (consG (varX 13) nilG))) (varW 17)) (orB (tst2 neD (varW 14) (varW 17)) (tst2 neD (callG m__law_sum (consG (asSh (callG m__law_times (consG (varX 15) (consG (varX 12) nilG)))) (consG (asSh (callG m__law_times (consG (varX 16) (consG (varX 13) nilG)))) (consG (asSh (tupG (consG (cD (.int 1)) (consG (cD (.int 1)) nilG)))) nilG)))) (varW 17)))) (retD (cD (.bool false))) nopD))) nopD) [y0, y1, y2, y3, y4, y5, y6, y7, y8, y9, y10, y11, .sh (PL (mulQ t p)), .sh (PL (mulQ t q)), y14, y15, y16, y17, y18, y19, y20, y21, y22, y23, y24, y25, y26, y27] s = .nx [y0, y1, y2, y3, y4, y5, y6, y7, y8, y9, y10, y11, .sh (PL (mulQ t p)), .sh (PL (mulQ t q)), x14, x15, x16, x17, y18, y19, y20, y21, y22, y23, y24, y25, y26, y27] s := by
  have lt := h.lt
  have lp := h.lp
  have lq := h.lq
  have cond : (tst2 gtD (op2 addD (callB lenF (consG (varW 12) nilG)) (callB lenF (consG (varW 13) nilG))) (cD (.int 0))) [y0, y1, y2, y3, y4, y5, y6, y7, y8, y9, y10, y11, .sh (PL (mulQ t p)), .sh (PL (mulQ t q)), y14, y15, y16, y17, y18, y19, y20, y21, y22, y23, y24, y25, y26, y27] s = .ok (decide ((0 : Int) < ((mulQ t p).length : Int) + ((mulQ t q).length : Int))) s := by
    simp -implicitDefEqProofs only [tst2_def, op2_def, callB_def, consG_def, nilG_def, varW_def, List.getElem?_cons_zero, List.getElem?_cons_succ, cD_def, bind_ok, lenF_tuple, lift_some, List.length_map, addD_int, gtD_int, asB_bool]
  by_cases h0 : mulQ t p = [] ∧ mulQ t q = []
  · refine ⟨y14, y15, y16, y17, if_f (cond.trans ?_)⟩
    rw [h0.1, h0.2]; rfl
  · have hpos : (0 : Int) < ((mulQ t p).length : Int) + ((mulQ t q).length : Int) := by
      by_cases h1 : mulQ t p = []
      · have := List.length_pos_iff.mpr (fun z => h0 ⟨h1, z⟩ : mulQ t q ≠ [])
        omega
      · have := List.length_pos_iff.mpr h1
        omega
    rw [decide_eq_true hpos] at cond
    have ht : t ≠ [] := fun z => by
      subst z
      exact h0 ⟨rfl, rfl⟩
    obtain ⟨hc, hs⟩ := chain_tp h ht
    obtain ⟨b1, b2⟩ := bt_tp h
    have tP := Tr.mulQ t p
    have tQ := Tr.mulQ t q
    have lP := mulQ_len_le t p
    have lQ := mulQ_len_le t q
    generalize mulQ t p = P at *
    generalize mulQ t q = Q at *
    have hne : P ≠ [] ∨ Q ≠ [] := by
      by_cases h1 : P = []
      · exact .inr fun z => h0 ⟨h1, z⟩
      · exact .inl h1
    have hg := gcd_ne 7 P Q hne (by omega) tQ
    have tg := gcd_Tr 7 P Q tP tQ
    have hgl := gcd_len (n := 7) 7 P Q 16 tQ (by omega) (by omega)
    have hf := shQ_fst 7 (P, [1], []) (Q, [], [1])
    have hsum := fun z => shQ_sum P Q z 7 (P, [1], []) (Q, [], [1]) tQ (by show ev [1] z * ev P z + ev [] z * ev Q z = ev P z; rw [ev_cons, ev_nil]; grind) (by show ev [] z * ev P z + ev [1] z * ev Q z = ev Q z; rw [ev_cons, ev_nil]; grind)
    have hb := hs.bits
    have es := m_shares_eq hs tP tQ (by omega) (by rw [hf]; exact hg) s
    have ec := m__law_common_eq hc tP tQ (by omega) (by omega) hg (by omega) s
    have em := m_common_eq (Ch.mono (by decide) (Nat.le_refl _) hc) tP tQ (by omega) (by omega) s
    have bg := hc.gcd
    have zl : Sz 220 (1 / lead (gcdQ 7 P Q)) := by
      rw [Rat.div_def, Rat.one_mul]
      exact Sz_inv (bg.szs.get bg.pos _) (lead_ne tg hg)
    rw [hf] at es
    generalize gcdQ 7 P Q = g at *
    generalize shQ 7 (P, [1], []) (Q, [], [1]) = X at *
    obtain ⟨g', u, v⟩ := X
    dsimp only at *
    subst hf
    obtain ⟨-, bu, bv, -, lu, lv⟩ := hb
    have su := bu.scl zl
    have sv := bv.scl zl
    have lsu := sclQ_len (1 / lead g') u
    have lsv := sclQ_len (1 / lead g') v
    have n1 : (sclQ (1 / lead g') u).length * P.length ≤ 2 ^ 8 := by
      have := Nat.mul_le_mul (show (sclQ (1 / lead g') u).length ≤ 16 by omega) (show P.length ≤ 16 by omega)
      omega
    have n2 : (sclQ (1 / lead g') v).length * Q.length ≤ 2 ^ 8 := by
      have := Nat.mul_le_mul (show (sclQ (1 / lead g') v).length ≤ 16 by omega) (show Q.length ≤ 16 by omega)
      omega
    have e1 := ltimes_ok su b1 n1 (by omega) (by omega) (by omega) s
    have e2 := ltimes_ok sv b2 n2 (by omega) (by omega) (by omega) s
    have m1 := su.mul b1 (c := 4) (by show _ ≤ 16; omega)
    have m2 := sv.mul b2 (c := 4) (by show _ ≤ 16; omega)
    have e3 := m__law_sum_eq m1.szs m2.szs Sz_one m1.pos m2.pos (by omega) (by have := mulQ_len_le (sclQ (1 / lead g') u) P; omega) (by have := mulQ_len_le (sclQ (1 / lead g') v) Q; omega) s
    have eq : addQ (mulQ (sclQ (1 / lead g') u) P) (sclQ 1 (mulQ (sclQ (1 / lead g') v) Q)) = monQ g' := Tr.eq (Tr.addQ _ _) (Tr.sclQ _ _) fun z => by
      have := hsum z
      rw [ev_addQ, ev_sclQ, ev_mulQ, ev_mulQ, ev_sclQ, ev_sclQ, monQ, ev_sclQ]
      grind
    rw [eq] at e3
    refine ⟨.sh (PL (monQ g')), .sh (PL (sclQ (1 / lead g') u)), .sh (PL (sclQ (1 / lead g') v)), .sh (PL (monQ g')), (if_t cond).trans ?_⟩
    rw [seqD_nx (e := [y0, y1, y2, y3, y4, y5, y6, y7, y8, y9, y10, y11, .sh (PL P), .sh (PL Q), .sh (PL (monQ g')), .sh (PL (sclQ (1 / lead g') u)), .sh (PL (sclQ (1 / lead g') v)), y17, y18, y19, y20, y21, y22, y23, y24, y25, y26, y27]) (s1 := s) (by
      rw [unpD_def, cX2 (x := PL P) (y := PL Q) rfl rfl, es]
      rfl)]
    rw [seqD_nx (e := [y0, y1, y2, y3, y4, y5, y6, y7, y8, y9, y10, y11, .sh (PL P), .sh (PL Q), .sh (PL (monQ g')), .sh (PL (sclQ (1 / lead g') u)), .sh (PL (sclQ (1 / lead g') v)), .sh (PL (monQ g')), y18, y19, y20, y21, y22, y23, y24, y25, y26, y27]) (s1 := s) (by
      rw [set_nx ((cX2 (x := PL P) (y := PL Q) rfl rfl).trans ec)]
      rfl)]
    have one : ∀ env : Ev, (tupG (consG (cD (.int 1)) (consG (cD (.int 1)) nilG))) env s = .ok (R 1) s := fun env => by simp -implicitDefEqProofs [R_one]
    have g1 : ∀ env : Ev, env[12]? = some (.sh (PL P)) → env[15]? = some (.sh (PL (sclQ (1 / lead g') u))) → callG m__law_times (consG (varX 15) (consG (varX 12) nilG)) env s = .ok (PL (mulQ (sclQ (1 / lead g') u) P)) s := fun env h1 h2 => (cX2 h2 h1).trans e1
    have g2 : ∀ env : Ev, env[13]? = some (.sh (PL Q)) → env[16]? = some (.sh (PL (sclQ (1 / lead g') v))) → callG m__law_times (consG (varX 16) (consG (varX 13) nilG)) env s = .ok (PL (mulQ (sclQ (1 / lead g') v) Q)) s := fun env h1 h2 => (cX2 h2 h1).trans e2
    exact if_f (orB_f (ne_f ((cX2 (x := PL P) (y := PL Q) rfl rfl).trans em) (vW (x := PL (monQ g')) rfl) (neD_PL_self _)) (orB_f (ne_f (vW (x := PL (monQ g')) rfl) (vW (x := PL (monQ g')) rfl) (neD_PL_self _)) (ne_f ((cG3 (g1 _ rfl rfl) (g2 _ rfl rfl) (one _)).trans e3) (vW (x := PL (monQ g')) rfl) (neD_PL_self _))))
end

end N1
end

section
set_option linter.all false
set_option autoImplicit false
namespace N1
open PySem hiding run
open DS NP
open NW hiding m_scaled g_scaled m_scaled_eq

section
variable {p q t : List Rat} {a b : Rat} {env : Ev} {s : LS}
theorem moved_eq (h : Fx p q t a b) (s : LS) : m_moved [.sh (PL p), .sh (R b)] s = .ok (PL (insQ [b, 1] [] p.reverse)) s ∧ Bt 66 (insQ [b, 1] [] p.reverse) := by
  have lp := h.lp
  obtain ⟨h1, h2⟩ := m_moved_eq h.bp h.zb (by omega) (by omega) s
  exact ⟨h1, h2.mono (by omega)⟩
theorem ev_moved (p : List Rat) (a b : Rat) : ev (insQ [b, 1] [] p.reverse) a = ev p (b + a) := by
  rw [ev_ins, ev_nil, hv_ev, ev_cons, ev_cons, ev_nil]
  congr 1
  grind
theorem c13 (h : Fx p q t a b) (h2 : env[2]? = some (.sh (PL p))) (h5 : env[5]? = some (.sh (R a))) (h6 : env[6]? = some (.sh (R b))) (h18 : env[18]? = some (.sh (PL (insQ [b, 1] [] p.reverse)))) : (orB (tst2 neD (callG m__law_val (consG (varX 18) (consG (varX 5) nilG))) (callG m__law_val (consG (varX 2) (consG (asSh (callG m__law_add (consG (varX 6) (consG (varX 5) nilG)))) nilG)))) (tst2 neD (callB lenF (consG (varW 18) nilG)) (callB lenF (consG (varW 2) nilG)))) env s = .ok false s := by
  have lp := h.lp
  have hb := (moved_eq h s).2
  have hl := ins_len0 (w := [b, 1]) (Tr.iff.mpr fun _ => by simp) rfl h.tp
  have n1 : (insQ [b, 1] [] p.reverse).length * (3 + 66 + 1) ≤ 5 * 70 := Nat.mul_le_mul (by omega) (Nat.le_refl _)
  have e1 := m__law_val_eq hb.szs h.za (by omega) s
  rw [ev_moved] at e1
  have e2 := m__law_add_eq h.zb h.za (by omega) s
  have n2 : p.length * (3 + 3 + 1 + 5 + 1) ≤ 5 * 13 := Nat.mul_le_mul lp (Nat.le_refl _)
  have e3 := m__law_val_eq h.bp.szs (h.zb.add h.za) (by omega) s
  have hne : (((insQ [b, 1] [] p.reverse).length : Int) != (p.length : Int)) = false := by rw [hl]; simp
  refine orB_f (ne_f ((cX2 h18 h5).trans e1) ((cXG h2 ((cX2 h6 h5).trans e2)).trans e3) (neD_R_self _)) ?_
  simp -implicitDefEqProofs only [tst2_def, op2_def, callB_def, consG_def, nilG_def, varW_def, h2, h18, bind_ok, lenF_tuple, lift_some, List.length_map, neD_int, hne, asB_bool]
theorem inside_eq (h : Fx p q t a b) (s : LS) : m_inside [.sh (PL p), .sh (PL t)] s = .ok (PL (insQ t [] p.reverse)) s ∧ Bt 76 (insQ t [] p.reverse) ∧ (insQ t [] p.reverse).length ≤ 15 := by
  have lp := h.lp
  have lt := h.lt
  obtain ⟨h1, h2, h3⟩ := m_inside_eq (W := 3) h.bp h.bt (by decide) lt (by omega) (by omega) s
  exact ⟨h1, h2.mono (by omega), by omega⟩
theorem ev_inside (p t : List Rat) (a : Rat) : ev (insQ t [] p.reverse) a = ev p (ev t a) := by
  rw [ev_ins, ev_nil, hv_ev]
theorem sz_ev (h : Fx p q t a b) : Sz 28 (ev t a) := by
  have lt := h.lt
  have := ev_sz h.bt.szs h.za
  exact this.mono (by have : t.length * (3 + 5 + 1) ≤ 3 * 9 := Nat.mul_le_mul lt (Nat.le_refl _)
                      omega)
/-- a row trimmed by the law -/
theorem ltrim_same {l : List Rat} (tl : Tr l) (hl : l.length ≤ 1000) {i : Nat} (hi : env[i]? = some (.sh (PL l))) : callG m__law_trim (consG (asSh (asLst (listG (varW i)))) nilG) env s = .ok (PL l) s := by
  have e := m__law_trim_eq l s hl (d := LL l) (.inr rfl)
  rw [show trimQ l = l from tl] at e
  have hg : asLst (listG (varW i)) env s = .ok (LL l) s := by
    simp -implicitDefEqProofs only [asLst_def, listG_def, varW_def, hi, bind_ok, listF_tuple, lift_some]
  exact (cG1 hg).trans e
theorem c15 (h : Fx p q t a b) {I : List Rat} (tI : Tr I) (bI : Bt 76 I) (lI : I.length ≤ 15) (eI : ev I a = ev p (ev t a)) (h2 : env[2]? = some (.sh (PL p))) (h4 : env[4]? = some (.sh (PL t))) (h5 : env[5]? = some (.sh (R a))) (h19 : env[19]? = some (.sh (PL I))) : (orB (tst2 neD (callG m__law_val (consG (varX 19) (consG (varX 5) nilG))) (callG m__law_val (consG (varX 2) (consG (asSh (callG m__law_val (consG (varX 4) (consG (varX 5) nilG)))) nilG)))) (tst2 neD (varW 19) (callG m__law_trim (consG (asSh (asLst (listG (varW 19)))) nilG)))) env s = .ok false s := by
  have lp := h.lp
  have lt := h.lt
  have n1 : I.length * (3 + 76 + 1) ≤ 15 * 80 := Nat.mul_le_mul lI (Nat.le_refl _)
  have e1 := m__law_val_eq bI.szs h.za (by omega) s
  rw [eI] at e1
  have n3 : t.length * (3 + 5 + 1) ≤ 3 * 9 := Nat.mul_le_mul lt (Nat.le_refl _)
  have e2 := m__law_val_eq h.bt.szs h.za (by omega) s
  have n2 : p.length * (28 + 5 + 1) ≤ 5 * 34 := Nat.mul_le_mul lp (Nat.le_refl _)
  have e3 := m__law_val_eq h.bp.szs (sz_ev h) (by omega) s
  exact orB_f (ne_f ((cX2 h19 h5).trans e1) ((cXG h2 ((cX2 h4 h5).trans e2)).trans e3) (neD_R_self _)) (ne_f (vW h19) (ltrim_same tI (by omega) h19) (neD_PL_self _))
theorem R_neg (x : Rat) : R (-x) = .tuple [.int (0 - x.num), .int x.den] := by
  rw [R_def, Rat.neg_num, Rat.neg_den, Int.zero_sub]
theorem c16 (h : Fx p q t a b) (h2 : env[2]? = some (.sh (PL p))) (h1 : 20 < env.length) : (tst2 neD (callG m_turned (consG (varX 2) nilG)) (callB tupF (consG (asLst (lcG (.nm 20) [20] (rng1 (callB lenF (consG (varW 2) nilG))) yesB (ifG (tst2 eqD (op2 modD (callB intF (consG (varW 20) nilG)) (cD (.int 2))) (cD (.int 0))) (op2 ixD (varW 2) (varD 20)) (tupG (consG (op2 subD (cD (.int 0)) (op2 ixD (op2 ixD (varW 2) (varD 20)) (cD (.int 0)))) (consG (op2 ixD (op2 ixD (varW 2) (varD 20)) (cD (.int 1))) nilG)))))) nilG))) env s = .ok false s := by
  have lp := h.lp
  have e1 := m_turned_eq h.bp (by omega) (by omega) s
  refine ne_f ((cX1 h2).trans e1) ?_ (neD_PL_self _)
  have hr : rngB (p.length : Int) := rngB_small (by omega) (by omega)
  have hline : p.length ≤ sizeLine := small_line (by omega)
  have hm : ∀ i : Int, modD (.int i) (.int 2) = some (.int (i.fmod 2)) := fun i => modD_int (by decide)
  have h2' : ∀ x : EV, ((env.set 20 .un).set 20 x)[2]? = some (.sh (PL p)) := fun x => wset h2 (by decide)
  have h20 : ∀ x : EV, ((env.set 20 .un).set 20 x)[20]? = some x := fun x => wself h1
  have hlc := lc_range (i := 20) (ge := (ifG (tst2 eqD (op2 modD (callB intF (consG (varW 20) nilG)) (cD (.int 2))) (cD (.int 0))) (op2 ixD (varW 2) (varD 20)) (tupG (consG (op2 subD (cD (.int 0)) (op2 ixD (op2 ixD (varW 2) (varD 20)) (cD (.int 0)))) (consG (op2 ixD (op2 ixD (varW 2) (varD 20)) (cD (.int 1))) nilG))))) (trnF p) p.length (env.set 20 .un) s fun k hk => by
    have i1 := atI_row hk
    have i0 : ixD (R (p.getD k 0)) (.int 0) = some (.int (p.getD k 0).num) := rfl
    have i2 : ixD (R (p.getD k 0)) (.int 1) = some (.int (p.getD k 0).den) := rfl
    unfold trnF
    cases hm' : ((k : Int).fmod 2 == 0) with
    | true => simp -implicitDefEqProofs only [ifG_def, tst2_def, op2_def, callB_def, consG_def, nilG_def, varW_def, varD_def, cD_def, h20, h2', bind_ok, intF_int, hm, lift_some, eqD_int, hm', asB_bool, if_true, ixD_tuple, i1]
    | false => simp -implicitDefEqProofs only [ifG_def, tst2_def, op2_def, callB_def, consG_def, nilG_def, varW_def, varD_def, cD_def, h20, h2', bind_ok, intF_int, hm, lift_some, eqD_int, hm', asB_bool, Bool.false_eq_true, if_false, ixD_tuple, i1, i0, i2, tupG_def, subD_int, List.length_cons, List.length_nil, Nat.reduceAdd, if_pos line2, R_neg]
  simp -implicitDefEqProofs only [callB_def, consG_def, asLst_def, lcG_def, rng1_def, varW_def, h2, bind_ok, nilG_def, lenF_tuple, lift_some, List.length_map, if_pos hr, Int.toNat_natCast, rangeL_length, if_pos hline, wipeE_cons, wipeE_nil, hlc, tupF_list, trnQ]
theorem c18 (h : Fx p q t a b) {n : Nat} (hn : n ≤ 900) (h2 : env[2]? = some (.sh (PL p))) (h21 : env[21]? = some (.sh (.int (n : Int)))) : (tst2 neD (callG m_back (consG (varX 2) (consG (varX 21) nilG))) (callG m__law_trim (consG (asSh (op1 revD (asLst (catG (asLst (listG (varW 2))) (asLst (repG (lstG (consG (tupG (consG (cD (.int 0)) (consG (cD (.int 1)) nilG))) nilG)) (op2 subD (op2 addD (varW 21) (cD (.int 1))) (callB lenF (consG (varW 2) nilG))))))))) nilG))) env s = .ok false s := by
  have lp := h.lp
  have e1 := m_back_eq p n (by omega) (by omega) s
  have e2 := bck_val p n (by omega) (by omega) 2 21 env s h2 h21
  have e3 : revD (LL (p ++ List.replicate (n + 1 - p.length) 0)) = some (LL (bckR p n)) := by
    show some (PyData.list (List.map R _).reverse) = _
    rw [← List.map_reverse]; rfl
  have e4 := m__law_trim_eq (bckR p n) s (by unfold bckR; rw [List.length_reverse, List.length_append, List.length_replicate]; omega) (d := LL (bckR p n)) (.inr rfl)
  refine ne_f ((cX2 h2 h21).trans e1) ((cG1 (y := LL (bckR p n)) ?_).trans e4) (neD_PL_self _)
  rw [op1_def, e2, bind_ok, e3, lift_some]
theorem oks : ((List.range 6).all fun lp => (List.range lp).all fun lq => okC 1990 150 1 7 lp lq 5 8) = true := by decide +kernel
theorem c19 (h : Fx p q t a b) (h2 : env[2]? = some (.sh (PL p))) : (andB (tst2 gtD (callB lenF (consG (varW 2) nilG)) (cD (.int 0))) (tst2 neD (callG m_is_simple (consG (varX 2) nilG)) (op2 ltD (callB lenF (consG (callG m__law_common (consG (varX 2) (consG (asSh (callG m__law_slope (consG (varX 2) nilG))) nilG))) nilG)) (cD (.int 2))))) env s = .ok false s := by
  have lp := h.lp
  by_cases hp : p = []
  · refine andB_f ((len_t h2).trans ?_)
    rw [decide_eq_false (fun z => z hp)]
  · refine andB_t ((len_t h2).trans (by rw [decide_eq_true hp])) ?_
    have ld := drvQ_len p
    have lp0 := List.length_pos_iff.mpr hp
    have bd : Bt 8 (drvQ p) := h.bp.drv (c := 3) (by show _ ≤ 8; omega)
    have o := List.all_eq_true.mp (List.all_eq_true.mp oks p.length (List.mem_range.mpr (by omega))) (drvQ p).length (List.mem_range.mpr (by omega))
    have hc := okC_ch Tr.one 7 5 8 p (drvQ p) (Tr.drv p) h.bp bd (Dv.one p) (Dv.one _) o
    have hg := gcd_ne 7 p (drvQ p) (.inl hp) (by omega) (Tr.drv p)
    have tg := gcd_Tr 7 p (drvQ p) h.tp (Tr.drv p)
    have hgl := gcd_len (n := 7) 7 p (drvQ p) 5 (Tr.drv p) (by omega) (by omega)
    have e1 := m_is_simple_eq (Ch.mono (by decide) (Nat.le_refl _) hc) h.bp.szs h.bp.pos (by omega) (by omega) h.tp hp (by omega) (by omega) (by omega) s
    have e2 := m__law_slope_eq h.bp.szs h.bp.pos (by omega) (by omega) s
    have e3 := m__law_common_eq hc h.tp (Tr.drv p) (by omega) (by omega) hg (by omega) s
    have e4 := monQ_len tg hg
    have e5 : decide (((gcdQ 7 p (drvQ p)).length : Int) < 2) = decide ((gcdQ 7 p (drvQ p)).length ≤ 1) := by
      by_cases h : (gcdQ 7 p (drvQ p)).length ≤ 1
      · rw [decide_eq_true h, decide_eq_true (by omega)]
      · rw [decide_eq_false h, decide_eq_false (by omega)]
    have g3 := (cXG (m := m__law_common) h2 ((cX1 h2).trans e2)).trans e3
    refine ne_f ((cX1 h2).trans e1) ?_ (by rw [neD_bool]; simp)
    rw [op2_def, callB_def, consG_def, g3]
    simp -implicitDefEqProofs only [bind_ok, nilG_def, lenF_tuple, lift_some, List.length_map, cD_def, ltD_int, e4, e5]
end

end N1
end

section
set_option linter.all false
set_option autoImplicit false
namespace N1
open PySem hiding run
open DS NP
open NW hiding m_scaled g_scaled m_scaled_eq

section
variable {p q t : List Rat} {a b : Rat} {env : Ev} {s : LS}
/-! ### draws -/
theorem draw_part {i : Nat} {top low : Int} (hi : env[i]? = some .st) (hs : WFS s) (h1 : 0 ≤ top) (h2 : top ≤ 6) (h3 : 1 ≤ low) (h4 : low ≤ 7) :
    ∃ x s', callG m__law_part (consG (varX i) (consG (asSh (cD (.int top))) (consG (asSh (cD (.int low))) nilG))) env s = .ok (R x) s' ∧ WFS s' ∧ Sz 3 x := by
  obtain ⟨u, v, s', e, w, hu, hv, hv2⟩ := part_ok hs h1 (by omega) h3 (by omega)
  refine ⟨_, s', ?_, w, Sz.divInt (by omega) (show u.natAbs < 2 ^ 3 by omega) (show v.natAbs < 2 ^ 3 by omega)⟩
  simp -implicitDefEqProofs only [callG_def, consG_def, varX_def, hi, asSh_def, cD_def, nilG_def, bind_ok, List.all_cons, List.all_nil, solid_sh, solid_st, Bool.and_self, if_true, e]
theorem draw_poly {i : Nat} {many top : Int} (hi : env[i]? = some .st) (hs : WFS s) (h1 : 1 ≤ many) (h2 : many ≤ 10) (h3 : 0 ≤ top) (h4 : top ≤ 5) :
    ∃ P s', callG m__law_poly (consG (varX i) (consG (asSh (callG m__law_take (consG (varX i) (consG (asSh (cD (.int many))) nilG)))) (consG (asSh (cD (.int top))) nilG))) env s = .ok (PL P) s' ∧ WFS s' ∧ Tr P ∧ Bt 5 P ∧ (P.length : Int) ≤ many - 1 := by
  obtain ⟨n, s1, t1, w1, n0, n6⟩ := take_ok hs (most := many) h1 (by omega)
  obtain ⟨P, s2, e, w2, tP, bP, lP⟩ := m__law_poly_ok w1 (many := n) (top := top) n0 (by omega) h3 (by omega)
  refine ⟨P, s2, ?_, w2, tP, ⟨_, _, bP, by decide, by omega⟩, by omega⟩
  simp -implicitDefEqProofs only [callG_def, consG_def, varX_def, hi, asSh_def, cD_def, nilG_def, bind_ok, List.all_cons, List.all_nil, solid_sh, solid_st, Bool.and_self, if_true, t1, e]
theorem draw_take {i : Nat} {many : Int} (hi : env[i]? = some .st) (hs : WFS s) (h1 : 1 ≤ many) (h2 : many ≤ 10) :
    ∃ n s', callG m__law_take (consG (varX i) (consG (asSh (cD (.int many))) nilG)) env s = .ok (.int n) s' ∧ WFS s' ∧ 0 ≤ n ∧ n < many := by
  obtain ⟨n, s1, t1, w1, n0, n6⟩ := take_ok hs (most := many) h1 (by omega)
  refine ⟨n, s1, ?_, w1, n0, n6⟩
  simp -implicitDefEqProofs only [callG_def, consG_def, varX_def, hi, asSh_def, cD_def, nilG_def, bind_ok, List.all_cons, List.all_nil, solid_sh, solid_st, Bool.and_self, if_true, t1]
theorem rows_of {P : Rat → Prop} {rs : List D} (h : ∀ y ∈ rs, ∃ x, y = R x ∧ P x) : ∃ qs : List Rat, rs = qs.map R ∧ ∀ x ∈ qs, P x := by
  induction rs with
  | nil => exact ⟨[], rfl, fun x h => by cases h⟩
  | cons y rs ih =>
    obtain ⟨qs, e, hq⟩ := ih fun z hz => h z (List.mem_cons_of_mem _ hz)
    obtain ⟨x, e1, h1⟩ := h y List.mem_cons_self
    exact ⟨x :: qs, by rw [e, e1]; rfl, fun z hz => by
      rcases List.mem_cons.mp hz with rfl | hz
      · exact h1
      · exact hq z hz⟩
theorem ints_of {rs : List D} (h : ∀ y ∈ rs, ∃ n : Int, y = .int n) : ∃ ns : List Int, rs = ns.map .int := by
  induction rs with
  | nil => exact ⟨[], rfl⟩
  | cons y rs ih =>
    obtain ⟨ns, e⟩ := ih fun z hz => h z (List.mem_cons_of_mem _ hz)
    obtain ⟨n, e1⟩ := h y List.mem_cons_self
    exact ⟨n :: ns, by rw [e, e1]; rfl⟩
theorem st20 (h1 : env[1]? = some .st) (hs : WFS s) : ∃ rs s', (setD 22 (asSh (asLst (lcG (.nm 20) [20] (rng1 (callG m__law_take (consG (varX 1) (consG (asSh (cD (.int 5))) nilG)))) yesB (callG m__law_part (consG (varX 1) (consG (asSh (cD (.int 4))) (consG (asSh (cD (.int 2))) nilG)))))))) env s = .nx (env.set 22 (.sh (LL rs))) s' ∧ WFS s' ∧ rs.length ≤ 4 ∧ ∀ r ∈ rs, Sz 3 r := by
  obtain ⟨n, s1, t1, w1, n0, n5⟩ := draw_take h1 hs (many := 5) (by decide) (by decide)
  obtain ⟨ds, s2, e2, w2, l2, hd⟩ := lcD_draw (i := 20) (ge := callG m__law_part (consG (varX 1) (consG (asSh (cD (.int 4))) (consG (asSh (cD (.int 2))) nilG)))) WFS (fun y => ∃ x, y = R x ∧ Sz 3 x) (rangeL 0 n.toNat) (env.set 20 .un) s1 w1 (fun d _ s hs => by
    obtain ⟨x, s', e, w, z⟩ := draw_part (env := (env.set 20 .un).set 20 (.sh d)) (wset h1 (by decide)) hs (top := 4) (low := 2) (by decide) (by decide) (by decide) (by decide)
    exact ⟨_, s', e, w, x, rfl, z⟩)
  obtain ⟨rs, rfl, hz⟩ := rows_of hd
  rw [List.length_map, rangeL_length] at l2
  have hr : rngB n := rngB_small (by omega) (by omega)
  have hline : n.toNat ≤ sizeLine := small_line (by omega)
  refine ⟨rs, s2, ?_, w2, by omega, hz⟩
  refine set_nx ?_
  rw [asLst_def, lcG_def, rng1_def, t1, bind_ok]
  simp -implicitDefEqProofs only [if_pos hr, bind_ok, rangeL_length, if_pos hline, wipeE_cons, wipeE_nil, e2]
theorem st22 {rs : List Rat} (hl : rs.length ≤ 4) (hz : ∀ r ∈ rs, Sz 3 r) {y0 y1 y2 y3 y4 y5 y6 y7 y8 y9 y10 y11 y12 y13 y14 y15 y16 y18 y19 y20 y21 y24 y25 y26 y27 : EV} : ∃ e, (forG (.nm 23) (itemG (varD 22)) (setD 17 (asSh (callG m__law_times (consG (varX 17) (consG (asSh (tupG (consG (tupG (consG (op2 subD (cD (.int 0)) (op2 ixD (varW 23) (cD (.int 0)))) (consG (op2 ixD (varW 23) (cD (.int 1))) nilG))) (consG (tupG (consG (cD (.int 1)) (consG (cD (.int 1)) nilG))) nilG)))) nilG)))))) [y0, y1, y2, y3, y4, y5, y6, y7, y8, y9, y10, y11, y12, y13, y14, y15, y16, .sh (PL [1]), y18, y19, y20, y21, .sh (LL rs), .un, y24, y25, y26, y27] s = .nx [y0, y1, y2, y3, y4, y5, y6, y7, y8, y9, y10, y11, y12, y13, y14, y15, y16, .sh (PL (linesQ [1] rs)), y18, y19, y20, y21, .sh (LL rs), e, y24, y25, y26, y27] s := by
  have key := forD_inv (t := .nm 23) (gb := (setD 17 (asSh (callG m__law_times (consG (varX 17) (consG (asSh (tupG (consG (tupG (consG (op2 subD (cD (.int 0)) (op2 ixD (varW 23) (cD (.int 0)))) (consG (op2 ixD (varW 23) (cD (.int 1))) nilG))) (consG (tupG (consG (cD (.int 1)) (consG (cD (.int 1)) nilG))) nilG)))) nilG)))))) (fun k env s' => ∃ e, env = [y0, y1, y2, y3, y4, y5, y6, y7, y8, y9, y10, y11, y12, y13, y14, y15, y16, .sh (PL (linesQ [1] (rs.take k))), y18, y19, y20, y21, .sh (LL rs), e, y24, y25, y26, y27] ∧ s' = s) (rs.map R) [y0, y1, y2, y3, y4, y5, y6, y7, y8, y9, y10, y11, y12, y13, y14, y15, y16, .sh (PL [1]), y18, y19, y20, y21, .sh (LL rs), .un, y24, y25, y26, y27] s ⟨.un, by rw [List.take_zero]; rfl, rfl⟩ (fun k d env s1 hk hP => by
    obtain ⟨e, rfl, rfl⟩ := hP
    obtain ⟨hk1, rfl⟩ := rows_item hk
    have hx := hz _ (getD_mem hk1)
    obtain ⟨b1, l1⟩ := lines_take hz (by omega) hk1
    have hlt : (rs.take k).length = k := by rw [List.length_take]; omega
    have m4 : rs.length * (3 + 4) ≤ 4 * 7 := Nat.mul_le_mul hl (Nat.le_refl _)
    have e2 := ltimes_ok b1 (Bt.neg1 hx) (c := 8) (by have := Nat.mul_le_mul_right 2 l1; show _ * 2 ≤ 256; omega) (by omega) (by omega) (by simp) s1
    have i0 : ixD (R (rs.getD k 0)) (.int 0) = some (.int (rs.getD k 0).num) := rfl
    have i1 : ixD (R (rs.getD k 0)) (.int 1) = some (.int (rs.getD k 0).den) := rfl
    have hp : PL [-(rs.getD k 0), 1] = .tuple [R (-(rs.getD k 0)), .tuple [.int 1, .int 1]] := rfl
    rw [hp, R_neg] at e2
    refine ⟨[y0, y1, y2, y3, y4, y5, y6, y7, y8, y9, y10, y11, y12, y13, y14, y15, y16, .sh (PL (linesQ [1] (rs.take k))), y18, y19, y20, y21, .sh (LL rs), .sh (R (rs.getD k 0)), y24, y25, y26, y27], rfl, [y0, y1, y2, y3, y4, y5, y6, y7, y8, y9, y10, y11, y12, y13, y14, y15, y16, .sh (PL (linesQ [1] (rs.take (k + 1)))), y18, y19, y20, y21, .sh (LL rs), .sh (R (rs.getD k 0)), y24, y25, y26, y27], s1, .inl ?_, _, rfl, rfl⟩
    rw [take_last hk1, linesQ_snoc]
    simp -implicitDefEqProofs only [setD_def, asSh_def, callG_def, consG_def, varX_def, varW_def, nilG_def, tupG_def, op2_def, cD_def, List.getElem?_cons_zero, List.getElem?_cons_succ, bind_ok, i0, i1, lift_some, subD_int, List.length_cons, List.length_nil, Nat.reduceAdd, if_pos line2, List.all_cons, List.all_nil, solid_sh, Bool.and_self, if_true, e2, evS_ok, List.set_cons_zero, List.set_cons_succ])
  obtain ⟨e', s', h1, e, rfl, rfl⟩ := key
  rw [List.length_map, take_all] at h1
  refine ⟨e, ?_⟩
  rw [forG_def]
  simp -implicitDefEqProofs only [itemG_def, varD_def, List.getElem?_cons_zero, List.getElem?_cons_succ, bind_ok, listF_list, lift_some, evS_ok]
  exact h1
/-- an identity comprehension -/
theorem lc_same {i v : Nat} {ds : List D} (hi : env[i]? = some (.sh (.list ds))) (hv : v < env.length) (hl : ds.length ≤ 1000) : asLst (lcG (.nm v) [v] (itemG (varD i)) yesB (varD v)) env s = .ok (.list ds) s := by
  have h := lcD_map (i := v) (ge := varD v) id ds (env.set v .un) s (fun d _ => by
    rw [varD_def, wself hv]
    rfl)
  have hline : ds.length ≤ sizeLine := small_line (by omega)
  simp -implicitDefEqProofs only [asLst_def, lcG_def, itemG_def, varD_def, hi, bind_ok, listF_list, lift_some, if_pos hline, wipeE_cons, wipeE_nil]
  have h' : lcD (.nm v) yesB (varD v) ds (env.set v .un) s = .ok (ds.map id) s := h
  rw [List.map_id] at h'
  rw [h']
  rfl
theorem oksl : ((List.range 6).all fun lp => (List.range lp).all fun lq => okC 8999 1500 1 7 lp lq 29 32) = true := by decide +kernel
theorem simple_lines {rs : List Rat} (hl : rs.length ≤ 4) (hz : ∀ r ∈ rs, Sz 3 r) (s : LS) : m_is_simple [.sh (PL (linesQ [1] rs))] s = .ok (.bool (decide rs.Nodup)) s := by
  have hlen := lines_len rs [1] Tr.one (by simp)
  have h1 : (linesQ [1] rs).length = 1 + rs.length := hlen
  have hP : linesQ [1] rs ≠ [] := fun z => by rw [z] at h1; simp only [List.length_nil] at h1; omega
  have tP := lines_Tr rs [1] Tr.one
  have m4 : rs.length * (3 + 4) ≤ 4 * 7 := Nat.mul_le_mul hl (Nat.le_refl _)
  have bP : Bt 29 (linesQ [1] rs) := (lines_bt rs [1] 1 hz Bt.one (by simp; omega) Tr.one (by simp)).mono (by omega)
  have hs := simple_iff (rs := rs) (n := 7) (by have := drvQ_len (linesQ [1] rs); omega)
  generalize linesQ [1] rs = P at *
  have ld := drvQ_len P
  have lp0 := List.length_pos_iff.mpr hP
  have bd : Bt 32 (drvQ P) := bP.drv (c := 3) (by show _ ≤ 8; omega)
  have o := List.all_eq_true.mp (List.all_eq_true.mp oksl P.length (List.mem_range.mpr (by omega))) (drvQ P).length (List.mem_range.mpr (by omega))
  have hc := okC_ch Tr.one 7 29 32 P (drvQ P) (Tr.drv P) bP bd (Dv.one P) (Dv.one _) o
  have hgl := gcd_len (n := 7) 7 P (drvQ P) 5 (Tr.drv P) (by omega) (by omega)
  have e := m_is_simple_eq hc bP.szs bP.pos (by omega) (by omega) tP hP (by omega) (by omega) (by omega) s
  have hd : decide ((gcdQ 7 P (drvQ P)).length ≤ 1) = decide rs.Nodup := decide_eq_decide.mpr hs
  rw [e, hd]
theorem c23 {rs : List Rat} (h : Fx p q t a b) (hl : rs.length ≤ 4) (hz : ∀ r ∈ rs, Sz 3 r) (h6 : env[6]? = some (.sh (R b))) (h17 : env[17]? = some (.sh (PL (linesQ [1] rs)))) (h22 : env[22]? = some (.sh (LL rs))) (hv : 23 < env.length) : (orB (tst2 neD (callG m_from_roots (consG (asSh (asLst (lcG (.nm 23) [23] (itemG (varD 22)) yesB (varD 23)))) nilG)) (varW 17)) (orB (tst2 neD (callG m_line (consG (varX 6) nilG)) (tupG (consG (tupG (consG (op2 subD (cD (.int 0)) (op2 ixD (varW 6) (cD (.int 0)))) (consG (op2 ixD (varW 6) (cD (.int 1))) nilG))) (consG (tupG (consG (cD (.int 1)) (consG (cD (.int 1)) nilG))) nilG)))) (tst2 neD (callG m_is_simple (consG (varX 17) nilG)) (op2 eqD (callB lenF (consG (asLst (lcG (.nm 20) [20] (rng1 (callB lenF (consG (varW 22) nilG))) (tst2 inD (op2 ixD (varW 22) (varD 20)) (slG (varW 22) noP (someP (varD 20)))) (varD 20))) nilG)) (cD (.int 0)))))) env s = .ok false s := by
  have m4 : rs.length * (3 + 4) ≤ 4 * 7 := Nat.mul_le_mul hl (Nat.le_refl _)
  have e1 := m_from_roots_eq hz (by omega) (by omega) s
  have e2 := m_line_eq h.zb (by omega) s
  have i0 : ixD (R b) (.int 0) = some (.int b.num) := rfl
  have i1 : ixD (R b) (.int 1) = some (.int b.den) := rfl
  have e3 : (tupG (consG (tupG (consG (op2 subD (cD (.int 0)) (op2 ixD (varW 6) (cD (.int 0)))) (consG (op2 ixD (varW 6) (cD (.int 1))) nilG))) (consG (tupG (consG (cD (.int 1)) (consG (cD (.int 1)) nilG))) nilG))) env s = .ok (PL [-b, 1]) s := by
    have hp : PL [-b, 1] = .tuple [R (-b), .tuple [.int 1, .int 1]] := rfl
    rw [hp, R_neg]
    simp -implicitDefEqProofs only [tupG_def, consG_def, nilG_def, op2_def, cD_def, varW_def, h6, bind_ok, i0, i1, lift_some, subD_int, List.length_cons, List.length_nil, Nat.reduceAdd, if_pos line2]
  refine orB_f (ne_f ((cG1 (lc_same h22 hv (by rw [List.length_map]; omega))).trans e1) (vW h17) (neD_PL_self _)) (orB_f (ne_f ((cX1 h6).trans e2) e3 (neD_PL_self _)) (ne_f ((cX1 h17).trans (simple_lines hl hz s)) ?_ (by rw [neD_bool]; simp)))
  have hr : rngB (rs.length : Int) := rngB_small (by omega) (by omega)
  have hline : rs.length ≤ sizeLine := small_line (by omega)
  have h22' : ∀ x : EV, ((env.set 20 .un).set 20 x)[22]? = some (.sh (LL rs)) := fun x => wset h22 (by decide)
  have h20 : ∀ x : EV, ((env.set 20 .un).set 20 x)[20]? = some x := fun x => wself (by omega)
  have hlc := lcD_filter (i := 20) (gc := tst2 inD (op2 ixD (varW 22) (varD 20)) (slG (varW 22) noP (someP (varD 20)))) (ge := varD 20) (fun d => match d with
    | .int k => decide (rs.getD k.toNat 0 ∈ rs.take k.toNat)
    | _ => false) id (rangeL 0 rs.length) (env.set 20 .un) s (fun d hd => by
      rw [rangeL_map] at hd
      obtain ⟨k, hk, rfl⟩ := List.mem_map.mp hd
      have hk := List.mem_range.mp hk
      have j1 := atI_row hk
      have j2 : cutL (rs.map R) none (some (k : Int)) = (rs.take k).map R := by rw [cut_take _ _ (by rw [List.length_map]; omega), List.map_take]
      have j3 := inD_rows (rs.getD k 0) (rs.take k)
      have j4 : slD (.list (rs.map R)) none (some (k : Int)) = some (LL (rs.take k)) := by
        show some (PyData.list (cutL (rs.map R) none (some (k : Int)))) = _
        rw [j2]
      simp -implicitDefEqProofs only [tst2_def, op2_def, varW_def, varD_def, h20, h22', bind_ok, ixD_list, j1, lift_some, slG, noP, someP, asI_int, Option.map_some, j4, j3, asB_bool, Int.toNat_natCast]) (fun d _ _ => by
      rw [varD_def, h20]
      rfl)
  have hfl : ((rangeL 0 rs.length).filter (fun d => match d with
    | .int k => decide (rs.getD k.toNat 0 ∈ rs.take k.toNat)
    | _ => false)).length = (dups rs).length := by
    rw [rangeL_map, List.filter_map, List.length_map, dups]
    congr 1
  rw [List.map_id] at hlc
  have hd : (((dups rs).length : Int) == 0) = decide rs.Nodup := by
    by_cases hn : rs.Nodup
    · rw [(dups_nil rs).mpr hn, decide_eq_true hn]; rfl
    · have : dups rs ≠ [] := fun z => hn ((dups_nil rs).mp z)
      have := List.length_pos_iff.mpr this
      rw [decide_eq_false hn, beq_eq_false_iff_ne]; omega
  simp -implicitDefEqProofs only [op2_def, callB_def, consG_def, nilG_def, asLst_def, lcG_def, rng1_def, varW_def, h22, bind_ok, lenF_list, lift_some, List.length_map, if_pos hr, Int.toNat_natCast, rangeL_length, if_pos hline, wipeE_cons, wipeE_nil, hlc, hfl, cD_def, eqD_int, hd]
theorem st24 (h1 : env[1]? = some .st) (h24 : 24 < env.length) (hs : WFS s) : ∃ (ns : List Int) (s' : LS), (frzA 24 (setD 24 (asOw (lcG (.nm 20) [20] (rng1 (callG m__law_take (consG (varX 1) (consG (asSh (cD (.int 6))) nilG)))) yesB (op2 subD (callG m__law_take (consG (varX 1) (consG (asSh (cD (.int 5))) nilG))) (cD (.int 2))))))) env s = .nx (env.set 24 (.sh (.list (ns.map .int)))) s' ∧ WFS s' ∧ ns.length ≤ 5 := by
  obtain ⟨n, s1, t1, w1, n0, n5⟩ := draw_take h1 hs (many := 6) (by decide) (by decide)
  obtain ⟨ds, s2, e2, w2, l2, hd⟩ := lcD_draw (i := 20) (ge := op2 subD (callG m__law_take (consG (varX 1) (consG (asSh (cD (.int 5))) nilG))) (cD (.int 2))) WFS (fun y => ∃ n : Int, y = .int n) (rangeL 0 n.toNat) (env.set 20 .un) s1 w1 (fun d _ s hs => by
    obtain ⟨m, s', e, w, -, -⟩ := draw_take (env := (env.set 20 .un).set 20 (.sh d)) (wset h1 (by decide)) hs (many := 5) (by decide) (by decide)
    refine ⟨.int (m - 2), s', ?_, w, _, rfl⟩
    rw [op2_def, e]
    rfl)
  obtain ⟨ns, rfl⟩ := ints_of hd
  rw [List.length_map, rangeL_length] at l2
  have hr : rngB n := rngB_small (by omega) (by omega)
  have hline : n.toNat ≤ sizeLine := small_line (by omega)
  refine ⟨ns, s2, ?_, w2, by omega⟩
  have : (setD 24 (asOw (lcG (.nm 20) [20] (rng1 (callG m__law_take (consG (varX 1) (consG (asSh (cD (.int 6))) nilG)))) yesB (op2 subD (callG m__law_take (consG (varX 1) (consG (asSh (cD (.int 5))) nilG))) (cD (.int 2)))))) env s = .nx (env.set 24 (.ow (ns.map .int))) s2 := by
    rw [setD_def, asOw_def, lcG_def, rng1_def, t1, bind_ok]
    simp -implicitDefEqProofs only [if_pos hr, bind_ok, rangeL_length, if_pos hline, wipeE_cons, wipeE_nil, e2, evS_ok]
  rw [frzA_def, this]
  show SOut.nx (frz 24 _) s2 = _
  rw [frz_def, List.getElem?_set_self h24]
  simp only [List.set_set]
theorem lc_pairs {ns : List Int} (h24 : env[24]? = some (.sh (.list (ns.map .int)))) (hv : 11 < env.length) (hl : ns.length ≤ 5) : asLst (lcG (.nm 11) [11] (itemG (varD 24)) yesB (tupG (consG (varD 11) (consG (cD (.int 1)) nilG)))) env s = .ok (LL (ns.map fun (n : Int) => (n : Rat))) s := by
  have hlc := lcD_map (i := 11) (ge := tupG (consG (varD 11) (consG (cD (.int 1)) nilG))) (fun d => .tuple [d, .int 1]) (ns.map .int) (env.set 11 .un) s (fun d hd => by
    have := wself (x := .sh d) hv
    simp -implicitDefEqProofs only [tupG_def, consG_def, nilG_def, varD_def, this, cD_def, bind_ok, List.length_cons, List.length_nil, Nat.reduceAdd, if_pos line2])
  have hline : ns.length ≤ sizeLine := small_line (by omega)
  have e : (ns.map PyData.int).map (fun d => PyData.tuple [d, .int 1]) = (ns.map fun (n : Int) => (n : Rat)).map R := by
    rw [List.map_map, List.map_map]
    refine List.map_congr_left fun n _ => ?_
    show _ = R (n : Rat)
    rw [R_int]
    rfl
  rw [e] at hlc
  simp -implicitDefEqProofs only [asLst_def, lcG_def, itemG_def, varD_def, h24, bind_ok, listF_list, lift_some, List.length_map, if_pos hline, wipeE_cons, wipeE_nil, hlc]
theorem c25 {ns : List Int} (hl : ns.length ≤ 5) (h1 : env[1]? = some .st) (h24 : env[24]? = some (.sh (.list (ns.map .int)))) (hv : 11 < env.length) (hs : WFS s) : ∃ s', (orB (tst2 neD (callG m_of_wholes (consG (asSh (asLst (lcG (.nm 11) [11] (itemG (varD 24)) yesB (varD 11)))) nilG)) (callG m__law_trim (consG (asSh (asLst (lcG (.nm 11) [11] (itemG (varD 24)) yesB (tupG (consG (varD 11) (consG (cD (.int 1)) nilG)))))) nilG))) (orB (tst2 neD (callG m_trimmed (consG (asSh (asLst (lcG (.nm 11) [11] (itemG (varD 24)) yesB (tupG (consG (varD 11) (consG (cD (.int 1)) nilG)))))) nilG)) (callG m__law_trim (consG (asSh (asLst (lcG (.nm 11) [11] (itemG (varD 24)) yesB (tupG (consG (varD 11) (consG (cD (.int 1)) nilG)))))) nilG))) (notB (tst (callG m__law_through (consG (varX 1) nilG)))))) env s = .ok false s' ∧ WFS s' := by
  obtain ⟨s', e0, w⟩ := m__law_through_ok hs
  have e1 := m_of_wholes_eq ns (by omega) s
  have e2 := m_trimmed_eq (ns.map fun (n : Int) => (n : Rat)) s (d := LL _) (.inr rfl)
  have e3 := m__law_trim_eq (ns.map fun (n : Int) => (n : Rat)) s (by rw [List.length_map]; omega) (d := LL _) (.inr rfl)
  have hp := lc_pairs (s := s) h24 hv hl
  refine ⟨s', orB_fs (ne_f ((cG1 (lc_same h24 hv (by rw [List.length_map]; omega))).trans e1) ((cG1 hp).trans e3) (neD_PL_self _)) (orB_fs (ne_f ((cG1 hp).trans e2) ((cG1 hp).trans e3) (neD_PL_self _)) ?_), w⟩
  simp -implicitDefEqProofs only [notB_def, tst_def, callG_def, consG_def, varX_def, h1, nilG_def, bind_ok, List.all_cons, List.all_nil, solid_st, Bool.and_self, if_true, e0, lift_some, asB_bool, Bool.not_true]
/-! ### values of other kinds -/
theorem val26 {d : D} (hd : GoodD d) (h25 : env[25]? = some (.sh d)) : ((andD (isiG isTup (varW 25)) (andD (op2 ltD (callB lenF (consG (varW 25) nilG)) (cD (.int 32))) (andD (callG m__law_are_frs (consG (varX 25) (consG (asSh (callB lenF (consG (varW 25) nilG))) nilG))) (orD (op2 eqD (callB lenF (consG (varW 25) nilG)) (cD (.int 0))) (op2 neD (op2 ixD (op2 ixD (varW 25) (op1 negI (cD (.int 1)))) (cD (.int 0))) (cD (.int 0)))))))) env s = .ok (.bool (isPolyD d)) s := by
  have hno : ∀ d, isTup d = false → isPolyD d = false := fun d h => by cases d <;> simp [isTup] at h <;> rfl
  cases hT : isTup d with
  | false =>
    rw [hno d hT]
    simp -implicitDefEqProofs only [andD_def, isiG_def, varW_def, h25, bind_ok, hT, lift_some, asB_bool, Bool.false_eq_true, if_false]
  | true =>
    cases d with
    | tuple ds =>
      have e := m__law_are_frs_eq (.tuple ds) (ds.length : Int) hd s
      have hlen : callB lenF (consG (varW 25) nilG) env s = .ok (.int (ds.length : Int)) s := by
        simp -implicitDefEqProofs only [callB_def, consG_def, varW_def, nilG_def, h25, bind_ok, lenF_tuple, lift_some]
      have ec := (cXG (m := m__law_are_frs) h25 hlen).trans e
      have ha : NP.arePartsD (.tuple ds) (ds.length : Int) = ds.all isPartD := by simp [NP.arePartsD]
      rw [ha] at ec
      by_cases h3 : ds.length ≤ 31
      · have h3' : decide ((ds.length : Int) < 32) = true := decide_eq_true (by omega)
        cases hp : ds.all isPartD with
        | true =>
          rw [hp] at ec
          have hl := last_test ds 25 env s h25 hp
          rw [andD_def, isiG_def, vW h25, bind_ok, bind_ok, hT, lift_some_b, bind_ok, if_pos rfl, andD_def, op2_def, hlen, bind_ok, cD_def, bind_ok, ltD_int, lift_some, bind_ok, h3', asB_bool, lift_some, bind_ok, if_pos rfl, andD_def, ec, bind_ok, asB_bool, lift_some, bind_ok, if_pos rfl, hl]
          simp [isPolyD, h3, hp]
        | false =>
          rw [hp] at ec
          rw [andD_def, isiG_def, vW h25, bind_ok, bind_ok, hT, lift_some_b, bind_ok, if_pos rfl, andD_def, op2_def, hlen, bind_ok, cD_def, bind_ok, ltD_int, lift_some, bind_ok, h3', asB_bool, lift_some, bind_ok, if_pos rfl, andD_def, ec, bind_ok, asB_bool, lift_some, bind_ok, if_neg (by decide)]
          simp [isPolyD, hp]
      · have h3' : decide ((ds.length : Int) < 32) = false := decide_eq_false (by omega)
        rw [andD_def, isiG_def, vW h25, bind_ok, bind_ok, hT, lift_some_b, bind_ok, if_pos rfl, andD_def, op2_def, hlen, bind_ok, cD_def, bind_ok, ltD_int, lift_some, bind_ok, h3', asB_bool, lift_some, bind_ok, if_neg (by decide)]
        simp [isPolyD, h3]
    | _ => cases hT
where
  lift_some_b {b : Bool} {s : LS} : lift (asB (.bool b)) s = .ok b s := rfl
end

end N1
end

section
set_option linter.all false
set_option autoImplicit false
namespace N1
open PySem hiding run
open DS NP
open NW hiding m_scaled g_scaled m_scaled_eq

section
variable {p q t : List Rat} {a b : Rat} {env : Ev} {s : LS}
def ones (n : Nat) : D := .tuple (List.replicate n (.tuple [.int 1, .int 1]))
def vals (p : List Rat) : List D := [PL p, LL p, .tuple (p.map R ++ [.tuple [.int 0, .int 1]]), .tuple (p.map R ++ [.tuple [.int 2, .int 2]]), .none, .tuple (p.map R ++ [.tuple [.int 1, .int (-2)]]), ones 31, ones 32, .tuple [.int 1, .int 2], .tuple (p.map R ++ [.tuple [.bool true, .int 1]]), .tuple []]
theorem lt1990 {n : Nat} (h : n ≤ 100) : n < 2 ^ 1990 := Nat.lt_of_lt_of_le (show n < 2 ^ 7 by omega) (Nat.pow_le_pow_right (by decide) (by decide))
theorem addD_tup {xs ys : List D} (h : xs.length + ys.length ≤ 100000) : addD (.tuple xs) (.tuple ys) = some (.tuple (xs ++ ys)) := if_pos (small_line h)
theorem smR (x : Rat) : SmD (R x) := fun ds h => by cases h; simp
theorem fitR {x : Rat} (h : Sz 5 x) : FitD (R x) := fun i j e => by
  cases e
  have h1 := h.2
  have h2 : x.den < 2 ^ 1990 := Nat.lt_of_lt_of_le h1 (Nat.pow_le_pow_right (by decide) (by decide))
  exact h2
theorem good_rows (h : Szs 5 p) (lp : p.length ≤ 5) : ∀ c ∈ p.map R, SmD c ∧ FitD c := fun c hc => by
  obtain ⟨x, hx, rfl⟩ := List.mem_map.mp hc
  exact ⟨smR x, fitR (h x hx)⟩
theorem good_app (h : Szs 5 p) (lp : p.length ≤ 5) {e : D} (he : SmD e ∧ FitD e) : GoodD (.tuple (p.map R ++ [e])) := fun ds hds => by
  cases hds
  refine ⟨by rw [List.length_append, List.length_map, List.length_singleton]; omega, fun c hc => ?_⟩
  rcases List.mem_append.mp hc with hc | hc
  · exact good_rows h lp c hc
  · rw [List.mem_singleton.mp hc]; exact he
theorem good_ones {n : Nat} (hn : n ≤ 100) : GoodD (ones n) := fun ds hds => by
  cases hds
  refine ⟨by rw [List.length_replicate]; omega, fun c hc => ?_⟩
  rw [List.eq_of_mem_replicate hc]
  exact ⟨fun ds h => by cases h; decide, fun i j h => by cases h; exact lt1990 (by decide)⟩
theorem vals_good (h : Szs 5 p) (lp : p.length ≤ 5) : ∀ d ∈ vals p, GoodD d := fun d hd => by
  simp only [vals, List.mem_cons, List.not_mem_nil, or_false] at hd
  rcases hd with rfl | rfl | rfl | rfl | rfl | rfl | rfl | rfl | rfl | rfl | rfl
  · exact fun ds hds => by cases hds; exact ⟨by rw [List.length_map]; omega, good_rows h lp⟩
  · exact fun ds hds => by cases hds
  · exact good_app h lp ⟨fun ds h => by cases h; decide, fun i j h => by cases h; exact lt1990 (by decide)⟩
  · exact good_app h lp ⟨fun ds h => by cases h; decide, fun i j h => by cases h; exact lt1990 (by decide)⟩
  · exact fun ds hds => by cases hds
  · exact good_app h lp ⟨fun ds h => by cases h; decide, fun i j h => by cases h; exact lt1990 (by decide)⟩
  · exact good_ones (by decide)
  · exact good_ones (by decide)
  · exact fun ds hds => by
      cases hds
      refine ⟨by decide, fun c hc => ?_⟩
      simp only [List.mem_cons, List.not_mem_nil, or_false] at hc
      rcases hc with rfl | rfl
      · exact ⟨fun ds h => (by cases h), fun i j h => (by cases h)⟩
      · exact ⟨fun ds h => (by cases h), fun i j h => (by cases h)⟩
  · exact good_app h lp ⟨fun ds h => by cases h; decide, fun i j h => (by cases h)⟩
  · exact fun ds hds => by cases hds; exact ⟨by decide, fun c hc => by cases hc⟩
theorem mul_ones (n : Nat) (hn : n ≤ 100) : mulT (.tuple [.tuple [.int 1, .int 1]]) (.int (n : Int)) = some (ones n) := by
  show (if _ then _ else _) = _
  rw [if_pos ⟨by simp, by omega, by omega, by simp⟩]
  show some (PyData.tuple (List.replicate (n : Int).toNat [_]).flatten) = some (ones n)
  rw [Int.toNat_natCast]
  have : ∀ m, (List.replicate m [PyData.tuple [.int 1, .int 1]]).flatten = List.replicate m (.tuple [.int 1, .int 1]) := fun m => by
    induction m with
    | zero => rfl
    | succ m ih => rw [List.replicate_succ, List.flatten_cons, ih]; rfl
  rw [this]
  rfl
theorem items26 (lp : p.length ≤ 5) (h2 : env[2]? = some (.sh (PL p))) : (itemG (asLst (lstG (consG (varD 2) (consG (asLst (listG (varW 2))) (consG (op2 addD (varW 2) (tupG (consG (tupG (consG (cD (.int 0)) (consG (cD (.int 1)) nilG))) nilG))) (consG (op2 addD (varW 2) (tupG (consG (tupG (consG (cD (.int 2)) (consG (cD (.int 2)) nilG))) nilG))) (consG (cD .none) (consG (op2 addD (varW 2) (tupG (consG (tupG (consG (cD (.int 1)) (consG (op1 negI (cD (.int 2))) nilG))) nilG))) (consG (op2 mulT (tupG (consG (tupG (consG (cD (.int 1)) (consG (cD (.int 1)) nilG))) nilG)) (cD (.int 31))) (consG (op2 mulT (tupG (consG (tupG (consG (cD (.int 1)) (consG (cD (.int 1)) nilG))) nilG)) (cD (.int 32))) (consG (tupG (consG (cD (.int 1)) (consG (cD (.int 2)) nilG))) (consG (op2 addD (varW 2) (tupG (consG (tupG (consG (cD (.bool true)) (consG (cD (.int 1)) nilG))) nilG))) (consG (tupG nilG) nilG)))))))))))))) env s = .ok (vals p) s := by
  have h11 : (11 : Nat) ≤ sizeLine := small_line (by decide)
  have ha : ∀ e : D, addD (.tuple (p.map R)) (.tuple [e]) = some (.tuple (p.map R ++ [e])) := fun e => addD_tup (by rw [List.length_map, List.length_singleton]; omega)
  have m1 := mul_ones 31 (by decide)
  have m2 := mul_ones 32 (by decide)
  have m1' : mulT (.tuple [.tuple [.int 1, .int 1]]) (.int 31) = some (ones 31) := m1
  have m2' : mulT (.tuple [.tuple [.int 1, .int 1]]) (.int 32) = some (ones 32) := m2
  simp -implicitDefEqProofs only [itemG_def, asLst_def, lstG_def, consG_def, nilG_def, varD_def, varW_def, h2, bind_ok, listG_def, listF_tuple, lift_some, op2_def, op1_def, tupG_def, cD_def, negI_int, List.length_cons, List.length_nil, Nat.reduceAdd, if_pos line1, if_pos line2, if_pos line0, ha, m1', m2', if_pos h11, listF_list, vals]
theorem st26 (h : Szs 5 p) (lp : p.length ≤ 5) {y0 y1 y3 y4 y5 y6 y7 y8 y9 y10 y11 y12 y13 y14 y15 y16 y17 y18 y19 y20 y21 y22 y23 y24 y27 : EV} : ∃ x25 x26, (forG (.nm 25) (itemG (asLst (lstG (consG (varD 2) (consG (asLst (listG (varW 2))) (consG (op2 addD (varW 2) (tupG (consG (tupG (consG (cD (.int 0)) (consG (cD (.int 1)) nilG))) nilG))) (consG (op2 addD (varW 2) (tupG (consG (tupG (consG (cD (.int 2)) (consG (cD (.int 2)) nilG))) nilG))) (consG (cD .none) (consG (op2 addD (varW 2) (tupG (consG (tupG (consG (cD (.int 1)) (consG (op1 negI (cD (.int 2))) nilG))) nilG))) (consG (op2 mulT (tupG (consG (tupG (consG (cD (.int 1)) (consG (cD (.int 1)) nilG))) nilG)) (cD (.int 31))) (consG (op2 mulT (tupG (consG (tupG (consG (cD (.int 1)) (consG (cD (.int 1)) nilG))) nilG)) (cD (.int 32))) (consG (tupG (consG (cD (.int 1)) (consG (cD (.int 2)) nilG))) (consG (op2 addD (varW 2) (tupG (consG (tupG (consG (cD (.bool true)) (consG (cD (.int 1)) nilG))) nilG))) (consG (tupG nilG) nilG)))))))))))))) (seqD (setD 26 (asSh (andD (isiG isTup (varW 25)) (andD (op2 ltD (callB lenF (consG (varW 25) nilG)) (cD (.int 32))) (andD (callG m__law_are_frs (consG (varX 25) (consG (asSh (callB lenF (consG (varW 25) nilG))) nilG))) (orD (op2 eqD (callB lenF (consG (varW 25) nilG)) (cD (.int 0))) (op2 neD (op2 ixD (op2 ixD (varW 25) (op1 negI (cD (.int 1)))) (cD (.int 0))) (cD (.int 0))))))))) (ifD (tst2 neD (callG m_is_poly (consG (varX 25) nilG)) (varW 26)) (retD (cD (.bool false))) nopD))) [y0, y1, .sh (PL p), y3, y4, y5, y6, y7, y8, y9, y10, y11, y12, y13, y14, y15, y16, y17, y18, y19, y20, y21, y22, y23, y24, .un, .un, y27] s = .nx [y0, y1, .sh (PL p), y3, y4, y5, y6, y7, y8, y9, y10, y11, y12, y13, y14, y15, y16, y17, y18, y19, y20, y21, y22, y23, y24, x25, x26, y27] s := by
  obtain ⟨e', s', h1, x25, x26, rfl, rfl⟩ := forD_inv (t := .nm 25) (gb := (seqD (setD 26 (asSh (andD (isiG isTup (varW 25)) (andD (op2 ltD (callB lenF (consG (varW 25) nilG)) (cD (.int 32))) (andD (callG m__law_are_frs (consG (varX 25) (consG (asSh (callB lenF (consG (varW 25) nilG))) nilG))) (orD (op2 eqD (callB lenF (consG (varW 25) nilG)) (cD (.int 0))) (op2 neD (op2 ixD (op2 ixD (varW 25) (op1 negI (cD (.int 1)))) (cD (.int 0))) (cD (.int 0))))))))) (ifD (tst2 neD (callG m_is_poly (consG (varX 25) nilG)) (varW 26)) (retD (cD (.bool false))) nopD))) (fun _ env s' => ∃ x25 x26, env = [y0, y1, .sh (PL p), y3, y4, y5, y6, y7, y8, y9, y10, y11, y12, y13, y14, y15, y16, y17, y18, y19, y20, y21, y22, y23, y24, x25, x26, y27] ∧ s' = s) (vals p) [y0, y1, .sh (PL p), y3, y4, y5, y6, y7, y8, y9, y10, y11, y12, y13, y14, y15, y16, y17, y18, y19, y20, y21, y22, y23, y24, .un, .un, y27] s ⟨.un, .un, rfl, rfl⟩ (fun k d env s1 hk hP => by
    obtain ⟨x25, x26, rfl, rfl⟩ := hP
    have hg := vals_good h lp d (List.mem_of_getElem? hk)
    have q1 := val26 hg (env := [y0, y1, .sh (PL p), y3, y4, y5, y6, y7, y8, y9, y10, y11, y12, y13, y14, y15, y16, y17, y18, y19, y20, y21, y22, y23, y24, .sh d, x26, y27]) (s := s1) rfl
    have q2 := m_is_poly_eq d hg s1
    refine ⟨[y0, y1, .sh (PL p), y3, y4, y5, y6, y7, y8, y9, y10, y11, y12, y13, y14, y15, y16, y17, y18, y19, y20, y21, y22, y23, y24, .sh d, x26, y27], rfl, [y0, y1, .sh (PL p), y3, y4, y5, y6, y7, y8, y9, y10, y11, y12, y13, y14, y15, y16, y17, y18, y19, y20, y21, y22, y23, y24, .sh d, .sh (.bool (isPolyD d)), y27], s1, .inl ?_, .sh d, _, rfl, rfl⟩
    rw [seqD_nx (set_nx q1)]
    exact if_f (ne_f ((cX1 (x := d) rfl).trans q2) (vW (x := .bool (isPolyD d)) rfl) (by rw [neD_bool]; simp)))
  refine ⟨x25, x26, ?_⟩
  rw [forG_def, items26 lp rfl, evS_ok]
  exact h1
/-! ### the last row -/
theorem eq_words : eqD (.list [.str (PySem.Str.ofString "nought"), .str (PySem.Str.ofString "nought"), .str (PySem.Str.ofString "points")]) (.list [.str (PySem.Str.ofString "nought"), .str (PySem.Str.ofString "nought"), .str (PySem.Str.ofString "points")]) = some (.bool true) := by
  have h : SeqAt.shaped (.list [.str (PySem.Str.ofString "nought"), .str (PySem.Str.ofString "nought"), .str (PySem.Str.ofString "points")]) = true := by
    have s1 : PyData.strOk (PySem.Str.ofString "nought") = true := by decide +kernel
    have s2 : PyData.strOk (PySem.Str.ofString "points") = true := by decide +kernel
    simp [SeqAt.shaped, PyData.canLay0, PyData.canLayAll0, PyData.depth, PyData.depthAll, s1, s2]
  have e : PyData.eqv (.list [.str (PySem.Str.ofString "nought"), .str (PySem.Str.ofString "nought"), .str (PySem.Str.ofString "points")]) (.list [.str (PySem.Str.ofString "nought"), .str (PySem.Str.ofString "nought"), .str (PySem.Str.ofString "points")]) = true := by simp [PyData.eqv, PyData.eqvAll]
  unfold eqD
  rw [if_pos ⟨h, h⟩, e]
theorem st27 (hv : 27 < env.length) : (retD (op2 eqD (asLst (lcG (.nm 27) [27] (rng1 (cD (.int 3))) yesB (callG m__law_word (consG (varX 27) nilG)))) (asLst (lstG (consG (cD (.str (PySem.Str.ofString "nought"))) (consG (cD (.str (PySem.Str.ofString "nought"))) (consG (cD (.str (PySem.Str.ofString "points"))) nilG))))))) env s = .rt (.bool true) s := by
  have hr : rngB 3 := rngB_small (by decide) (by decide)
  have g : ∀ k : Int, callG m__law_word (consG (varX 27) nilG) ((env.set 27 .un).set 27 (.sh (.int k))) s = .ok (.str (PySem.Str.ofString (wordOf k))) s := fun k => (cX1 (wself hv)).trans (m__law_word_eq k s)
  have hlc := lc3 (g := callG m__law_word (consG (varX 27) nilG)) (i := 27) (g 0) (g 1) (g 2)
  have w0 : wordOf 0 = "nought" := rfl
  have w1 : wordOf 1 = "nought" := rfl
  have w2 : wordOf 2 = "points" := rfl
  rw [w0, w1, w2] at hlc
  simp -implicitDefEqProofs only [retD_def, op2_def, asLst_def, lcG_def, rng1_def, cD_def, bind_ok, if_pos hr, rangeL_length, show (3 : Int).toNat = 3 from rfl, if_pos line3, wipeE_cons, wipeE_nil, hlc, lstG_def, consG_def, nilG_def, List.length_cons, List.length_nil, Nat.reduceAdd, eq_words, lift_some, evS_ok]
end

end N1
end

section
set_option linter.all false
set_option autoImplicit false
set_option maxRecDepth 4000
namespace N1
open PySem hiding run
open DS NP
open NW hiding m_scaled g_scaled m_scaled_eq
theorem inside_any {p q t : List Rat} {a b : Rat} (h : Fx p q t a b) (s : LS) : ∃ I, m_inside [.sh (PL p), .sh (PL t)] s = .ok (PL I) s ∧ Tr I ∧ Bt 76 I ∧ I.length ≤ 15 ∧ ev I a = ev p (ev t a) := by
  obtain ⟨h1, h2, h3⟩ := inside_eq h s
  exact ⟨_, h1, Tr.ins _ _ _ Tr.nil, h2, h3, ev_inside p t a⟩
theorem law_true (cs : List Int) (hcs : cs ≠ []) : ∃ s, g_law (env0 26) (some (0, cs)) = .rt (.bool true) s := by
  have ev0 : env0 26 = [.un, .st, .un, .un, .un, .un, .un, .un, .un, .un, .un, .un, .un, .un, .un, .un, .un, .un, .un, .un, .un, .un, .un, .un, .un, .un, .un, .un] := rfl
  rw [ev0]
  unfold g_law
  obtain ⟨p, s1, q1, w1, tp, bp, lp⟩ := draw_poly (env := [.un, .st, .un, .un, .un, .un, .un, .un, .un, .un, .un, .un, .un, .un, .un, .un, .un, .un, .un, .un, .un, .un, .un, .un, .un, .un, .un, .un]) (i := 1) rfl (s := some (0, cs)) ⟨0, cs, rfl, hcs⟩ (many := 6) (top := 5) (by decide) (by decide) (by decide) (by decide)
  obtain ⟨q, s2, q2, w2, tq, bq, lq⟩ := draw_poly (env := [.un, .st, .un, .un, .un, .un, .un, .un, .un, .un, .un, .un, .un, .un, .un, .un, .un, .un, .un, .un, .un, .un, .un, .un, .un, .un, .un, .un]) (i := 1) rfl w1 (many := 5) (top := 5) (by decide) (by decide) (by decide) (by decide)
  obtain ⟨t, s3, q3, w3, tt, bt, lt⟩ := draw_poly (env := [.un, .st, .un, .un, .un, .un, .un, .un, .un, .un, .un, .un, .un, .un, .un, .un, .un, .un, .un, .un, .un, .un, .un, .un, .un, .un, .un, .un]) (i := 1) rfl w2 (many := 4) (top := 3) (by decide) (by decide) (by decide) (by decide)
  rw [seqD_nx (e := [.un, .st, .sh (PL p), .sh (PL q), .sh (PL t), .un, .un, .un, .un, .un, .un, .un, .un, .un, .un, .un, .un, .un, .un, .un, .un, .un, .un, .un, .un, .un, .un, .un]) (s1 := s3) (by rw [unpD_def, tupG_def, consG_def, q1, bind_ok, consG_def, q2, bind_ok, consG_def, q3, bind_ok, nilG_def]; simp -implicitDefEqProofs only [bind_ok, List.length_cons, List.length_nil, Nat.reduceAdd, if_pos line3, evS_ok, asg_tp, setAll_cons, setAll_nil, List.set_cons_zero, List.set_cons_succ])]
  obtain ⟨a, s4, q4, w4, za⟩ := draw_part (env := [.un, .st, .sh (PL p), .sh (PL q), .sh (PL t), .un, .un, .un, .un, .un, .un, .un, .un, .un, .un, .un, .un, .un, .un, .un, .un, .un, .un, .un, .un, .un, .un, .un]) (i := 1) rfl w3 (top := 5) (low := 4) (by decide) (by decide) (by decide) (by decide)
  obtain ⟨b, s5, q5, w5, zb⟩ := draw_part (env := [.un, .st, .sh (PL p), .sh (PL q), .sh (PL t), .un, .un, .un, .un, .un, .un, .un, .un, .un, .un, .un, .un, .un, .un, .un, .un, .un, .un, .un, .un, .un, .un, .un]) (i := 1) rfl w4 (top := 5) (low := 4) (by decide) (by decide) (by decide) (by decide)
  rw [seqD_nx (e := [.un, .st, .sh (PL p), .sh (PL q), .sh (PL t), .sh (R a), .sh (R b), .un, .un, .un, .un, .un, .un, .un, .un, .un, .un, .un, .un, .un, .un, .un, .un, .un, .un, .un, .un, .un]) (s1 := s5) (by rw [par_nx q4 q5]; rfl)]
  have h : Fx p q t a b := ⟨tp, bp, by omega, tq, bq, by omega, tt, bt, by omega, za, zb⟩
  have hlp := h.lp
  have hlq := h.lq
  have hlt := h.lt
  have q7 := ltimes_ok bp bq (c := 5) (by have := Nat.mul_le_mul hlp hlq; show _ ≤ 32; omega) (by omega) (by omega) (by omega) s5
  rw [seqD_nx (e := [.un, .st, .sh (PL p), .sh (PL q), .sh (PL t), .sh (R a), .sh (R b), .sh (PL (mulQ p q)), .un, .un, .un, .un, .un, .un, .un, .un, .un, .un, .un, .un, .un, .un, .un, .un, .un, .un, .un, .un]) (s1 := s5) (by rw [set_nx ((cX2 (x := PL p) (y := PL q) rfl rfl).trans q7)]; rfl)]
  rw [seqD_nx (e := [.un, .st, .sh (PL p), .sh (PL q), .sh (PL t), .sh (R a), .sh (R b), .sh (PL (mulQ p q)), .un, .un, .un, .un, .un, .un, .un, .un, .un, .un, .un, .un, .un, .un, .un, .un, .un, .un, .un, .un]) (s1 := s5) (if_f (c3 h rfl rfl rfl rfl))]
  obtain ⟨m, s6, q8, w6, m0, m4⟩ := draw_take (env := [.un, .st, .sh (PL p), .sh (PL q), .sh (PL t), .sh (R a), .sh (R b), .sh (PL (mulQ p q)), .un, .un, .un, .un, .un, .un, .un, .un, .un, .un, .un, .un, .un, .un, .un, .un, .un, .un, .un, .un]) (i := 1) rfl w5 (many := 4) (by decide) (by decide)
  obtain ⟨n, rfl⟩ : ∃ n : Nat, m = n := ⟨m.toNat, by omega⟩
  have hn3 : n ≤ 3 := by omega
  rw [seqD_nx (e := [.un, .st, .sh (PL p), .sh (PL q), .sh (PL t), .sh (R a), .sh (R b), .sh (PL (mulQ p q)), .sh (.int (n : Int)), .un, .un, .un, .un, .un, .un, .un, .un, .un, .un, .un, .un, .un, .un, .un, .un, .un, .un, .un]) (s1 := s6) (by rw [set_nx q8]; rfl)]
  rw [seqD_nx (e := [.un, .st, .sh (PL p), .sh (PL q), .sh (PL t), .sh (R a), .sh (R b), .sh (PL (mulQ p q)), .sh (.int (n : Int)), .sh (PL [1]), .un, .un, .un, .un, .un, .un, .un, .un, .un, .un, .un, .un, .un, .un, .un, .un, .un, .un]) (s1 := s6) (by simp -implicitDefEqProofs only [setD_def, asSh_def, tupG_def, consG_def, nilG_def, cD_def, bind_ok, List.length_cons, List.length_nil, Nat.reduceAdd, if_pos line2, if_pos line1, evS_ok, List.set_cons_zero, List.set_cons_succ]; rfl)]
  obtain ⟨y10, q10⟩ := st6 (s := s6) h hn3 (n := n) (e0 := .un) (e1 := .st) (e2 := .sh (PL p)) (e3 := .sh (PL q)) (e5 := .sh (R a)) (e6 := .sh (R b)) (e7 := .sh (PL (mulQ p q))) (r := [.un, .un, .un, .un, .un, .un, .un, .un, .un, .un, .un, .un, .un, .un, .un, .un, .un])
  rw [seqD_nx (e := [.un, .st, .sh (PL p), .sh (PL q), .sh (PL t), .sh (R a), .sh (R b), .sh (PL (mulQ p q)), .sh (.int (n : Int)), .sh (PL (powQ t n)), y10, .un, .un, .un, .un, .un, .un, .un, .un, .un, .un, .un, .un, .un, .un, .un, .un, .un]) (s1 := s6) (q10)]
  rw [seqD_nx (e := [.un, .st, .sh (PL p), .sh (PL q), .sh (PL t), .sh (R a), .sh (R b), .sh (PL (mulQ p q)), .sh (.int (n : Int)), .sh (PL (powQ t n)), y10, .un, .un, .un, .un, .un, .un, .un, .un, .un, .un, .un, .un, .un, .un, .un, .un, .un]) (s1 := s6) (if_f (c7 h hn3 rfl rfl rfl rfl rfl))]
  rw [seqD_nx (e := [.un, .st, .sh (PL p), .sh (PL q), .sh (PL t), .sh (R a), .sh (R b), .sh (PL (mulQ p q)), .sh (.int (n : Int)), .sh (PL (powQ t n)), y10, .un, .un, .un, .un, .un, .un, .un, .un, .un, .un, .un, .un, .un, .un, .un, .un, .un]) (s1 := s6) (if_f (c8 h rfl rfl))]
  rw [seqD_nx (e := [.un, .st, .sh (PL p), .sh (PL q), .sh (PL t), .sh (R a), .sh (R b), .sh (PL (mulQ p q)), .sh (.int (n : Int)), .sh (PL (powQ t n)), y10, .un, .un, .un, .un, .un, .un, .un, .un, .un, .un, .un, .un, .un, .un, .un, .un, .un]) (s1 := s6) (if_f (c9 h rfl (by simp only [List.length_cons, List.length_nil]; decide)))]
  have r12 := ltimes_ok bt bp (c := 5) (by have := Nat.mul_le_mul hlt hlp; show _ ≤ 32; omega) (by omega) (by omega) (by omega) s6
  have r13 := ltimes_ok bt bq (c := 5) (by have := Nat.mul_le_mul hlt hlq; show _ ≤ 32; omega) (by omega) (by omega) (by omega) s6
  rw [seqD_nx (e := [.un, .st, .sh (PL p), .sh (PL q), .sh (PL t), .sh (R a), .sh (R b), .sh (PL (mulQ p q)), .sh (.int (n : Int)), .sh (PL (powQ t n)), y10, .un, .sh (PL (mulQ t p)), .sh (PL (mulQ t q)), .un, .un, .un, .un, .un, .un, .un, .un, .un, .un, .un, .un, .un, .un]) (s1 := s6) (by rw [par_nx ((cX2 (x := PL t) (y := PL p) rfl rfl).trans r12) ((cX2 (x := PL t) (y := PL q) rfl rfl).trans r13)]; rfl)]
  obtain ⟨y14, y15, y16, y17, q11⟩ := st11 (s := s6) h (y0 := .un) (y1 := .st) (y2 := .sh (PL p)) (y3 := .sh (PL q)) (y4 := .sh (PL t)) (y5 := .sh (R a)) (y6 := .sh (R b)) (y7 := .sh (PL (mulQ p q))) (y8 := .sh (.int (n : Int))) (y9 := .sh (PL (powQ t n))) (y10 := y10) (y11 := .un) (y14 := .un) (y15 := .un) (y16 := .un) (y17 := .un) (y18 := .un) (y19 := .un) (y20 := .un) (y21 := .un) (y22 := .un) (y23 := .un) (y24 := .un) (y25 := .un) (y26 := .un) (y27 := .un)
  rw [seqD_nx (e := [.un, .st, .sh (PL p), .sh (PL q), .sh (PL t), .sh (R a), .sh (R b), .sh (PL (mulQ p q)), .sh (.int (n : Int)), .sh (PL (powQ t n)), y10, .un, .sh (PL (mulQ t p)), .sh (PL (mulQ t q)), y14, y15, y16, y17, .un, .un, .un, .un, .un, .un, .un, .un, .un, .un]) (s1 := s6) (q11)]
  rw [seqD_nx (e := [.un, .st, .sh (PL p), .sh (PL q), .sh (PL t), .sh (R a), .sh (R b), .sh (PL (mulQ p q)), .sh (.int (n : Int)), .sh (PL (powQ t n)), y10, .un, .sh (PL (mulQ t p)), .sh (PL (mulQ t q)), y14, y15, y16, y17, .sh (PL (insQ [b, 1] [] p.reverse)), .un, .un, .un, .un, .un, .un, .un, .un, .un]) (s1 := s6) (by rw [set_nx ((cX2 (x := PL p) (y := R b) rfl rfl).trans (moved_eq h s6).1)]; rfl)]
  rw [seqD_nx (e := [.un, .st, .sh (PL p), .sh (PL q), .sh (PL t), .sh (R a), .sh (R b), .sh (PL (mulQ p q)), .sh (.int (n : Int)), .sh (PL (powQ t n)), y10, .un, .sh (PL (mulQ t p)), .sh (PL (mulQ t q)), y14, y15, y16, y17, .sh (PL (insQ [b, 1] [] p.reverse)), .un, .un, .un, .un, .un, .un, .un, .un, .un]) (s1 := s6) (if_f (c13 h rfl rfl rfl rfl))]
  obtain ⟨I, qI, tI, bI, lI, eI⟩ := inside_any h s6
  rw [seqD_nx (e := [.un, .st, .sh (PL p), .sh (PL q), .sh (PL t), .sh (R a), .sh (R b), .sh (PL (mulQ p q)), .sh (.int (n : Int)), .sh (PL (powQ t n)), y10, .un, .sh (PL (mulQ t p)), .sh (PL (mulQ t q)), y14, y15, y16, y17, .sh (PL (insQ [b, 1] [] p.reverse)), .sh (PL I), .un, .un, .un, .un, .un, .un, .un, .un]) (s1 := s6) (by rw [set_nx ((cX2 (x := PL p) (y := PL t) rfl rfl).trans qI)]; rfl)]
  rw [seqD_nx (e := [.un, .st, .sh (PL p), .sh (PL q), .sh (PL t), .sh (R a), .sh (R b), .sh (PL (mulQ p q)), .sh (.int (n : Int)), .sh (PL (powQ t n)), y10, .un, .sh (PL (mulQ t p)), .sh (PL (mulQ t q)), y14, y15, y16, y17, .sh (PL (insQ [b, 1] [] p.reverse)), .sh (PL I), .un, .un, .un, .un, .un, .un, .un, .un]) (s1 := s6) (if_f (c15 h tI bI lI eI rfl rfl rfl rfl))]
  rw [seqD_nx (e := [.un, .st, .sh (PL p), .sh (PL q), .sh (PL t), .sh (R a), .sh (R b), .sh (PL (mulQ p q)), .sh (.int (n : Int)), .sh (PL (powQ t n)), y10, .un, .sh (PL (mulQ t p)), .sh (PL (mulQ t q)), y14, y15, y16, y17, .sh (PL (insQ [b, 1] [] p.reverse)), .sh (PL I), .un, .un, .un, .un, .un, .un, .un, .un]) (s1 := s6) (if_f (c16 h rfl (by simp only [List.length_cons, List.length_nil]; decide)))]
  obtain ⟨k, s7, q21, w7, k0, k3⟩ := draw_take (env := [.un, .st, .sh (PL p), .sh (PL q), .sh (PL t), .sh (R a), .sh (R b), .sh (PL (mulQ p q)), .sh (.int (n : Int)), .sh (PL (powQ t n)), y10, .un, .sh (PL (mulQ t p)), .sh (PL (mulQ t q)), y14, y15, y16, y17, .sh (PL (insQ [b, 1] [] p.reverse)), .sh (PL I), .un, .un, .un, .un, .un, .un, .un, .un]) (i := 1) rfl w6 (many := 3) (by decide) (by decide)
  obtain ⟨N, hN, hN2⟩ : ∃ N : Nat, max 0 ((p.length : Int) - 1) + k = (N : Int) ∧ N ≤ 900 := ⟨(max 0 ((p.length : Int) - 1) + k).toNat, by omega, by omega⟩
  rw [seqD_nx (e := [.un, .st, .sh (PL p), .sh (PL q), .sh (PL t), .sh (R a), .sh (R b), .sh (PL (mulQ p q)), .sh (.int (n : Int)), .sh (PL (powQ t n)), y10, .un, .sh (PL (mulQ t p)), .sh (PL (mulQ t q)), y14, y15, y16, y17, .sh (PL (insQ [b, 1] [] p.reverse)), .sh (PL I), .un, .sh (.int (N : Int)), .un, .un, .un, .un, .un, .un]) (s1 := s7) (by rw [set_nx (x := .int (N : Int)) (s' := s7) (by rw [op2_def]; simp -implicitDefEqProofs only [callB_def, consG_def, nilG_def, op2_def, cD_def, varW_def, List.getElem?_cons_zero, List.getElem?_cons_succ, bind_ok, lenF_tuple, lift_some, List.length_map, subD_int, maxF_int]; rw [q21]; simp -implicitDefEqProofs only [bind_ok, addD_int, lift_some, hN])]; rfl)]
  rw [seqD_nx (e := [.un, .st, .sh (PL p), .sh (PL q), .sh (PL t), .sh (R a), .sh (R b), .sh (PL (mulQ p q)), .sh (.int (n : Int)), .sh (PL (powQ t n)), y10, .un, .sh (PL (mulQ t p)), .sh (PL (mulQ t q)), y14, y15, y16, y17, .sh (PL (insQ [b, 1] [] p.reverse)), .sh (PL I), .un, .sh (.int (N : Int)), .un, .un, .un, .un, .un, .un]) (s1 := s7) (if_f (c18 h hN2 rfl rfl))]
  rw [seqD_nx (e := [.un, .st, .sh (PL p), .sh (PL q), .sh (PL t), .sh (R a), .sh (R b), .sh (PL (mulQ p q)), .sh (.int (n : Int)), .sh (PL (powQ t n)), y10, .un, .sh (PL (mulQ t p)), .sh (PL (mulQ t q)), y14, y15, y16, y17, .sh (PL (insQ [b, 1] [] p.reverse)), .sh (PL I), .un, .sh (.int (N : Int)), .un, .un, .un, .un, .un, .un]) (s1 := s7) (if_f (c19 h rfl))]
  obtain ⟨rs, s8, q20, w8, lrs, zrs⟩ := st20 (env := [.un, .st, .sh (PL p), .sh (PL q), .sh (PL t), .sh (R a), .sh (R b), .sh (PL (mulQ p q)), .sh (.int (n : Int)), .sh (PL (powQ t n)), y10, .un, .sh (PL (mulQ t p)), .sh (PL (mulQ t q)), y14, y15, y16, y17, .sh (PL (insQ [b, 1] [] p.reverse)), .sh (PL I), .un, .sh (.int (N : Int)), .un, .un, .un, .un, .un, .un]) rfl w7
  rw [seqD_nx (e := [.un, .st, .sh (PL p), .sh (PL q), .sh (PL t), .sh (R a), .sh (R b), .sh (PL (mulQ p q)), .sh (.int (n : Int)), .sh (PL (powQ t n)), y10, .un, .sh (PL (mulQ t p)), .sh (PL (mulQ t q)), y14, y15, y16, y17, .sh (PL (insQ [b, 1] [] p.reverse)), .sh (PL I), .un, .sh (.int (N : Int)), .sh (LL rs), .un, .un, .un, .un, .un]) (s1 := s8) (q20)]
  rw [seqD_nx (e := [.un, .st, .sh (PL p), .sh (PL q), .sh (PL t), .sh (R a), .sh (R b), .sh (PL (mulQ p q)), .sh (.int (n : Int)), .sh (PL (powQ t n)), y10, .un, .sh (PL (mulQ t p)), .sh (PL (mulQ t q)), y14, y15, y16, .sh (PL [1]), .sh (PL (insQ [b, 1] [] p.reverse)), .sh (PL I), .un, .sh (.int (N : Int)), .sh (LL rs), .un, .un, .un, .un, .un]) (s1 := s8) (by simp -implicitDefEqProofs only [setD_def, asSh_def, tupG_def, consG_def, nilG_def, cD_def, bind_ok, List.length_cons, List.length_nil, Nat.reduceAdd, if_pos line2, if_pos line1, evS_ok, List.set_cons_zero, List.set_cons_succ]; rfl)]
  obtain ⟨y23, q22⟩ := st22 (s := s8) lrs zrs (y0 := .un) (y1 := .st) (y2 := .sh (PL p)) (y3 := .sh (PL q)) (y4 := .sh (PL t)) (y5 := .sh (R a)) (y6 := .sh (R b)) (y7 := .sh (PL (mulQ p q))) (y8 := .sh (.int (n : Int))) (y9 := .sh (PL (powQ t n))) (y10 := y10) (y11 := .un) (y12 := .sh (PL (mulQ t p))) (y13 := .sh (PL (mulQ t q))) (y14 := y14) (y15 := y15) (y16 := y16) (y18 := .sh (PL (insQ [b, 1] [] p.reverse))) (y19 := .sh (PL I)) (y20 := .un) (y21 := .sh (.int (N : Int))) (y24 := .un) (y25 := .un) (y26 := .un) (y27 := .un)
  rw [seqD_nx (e := [.un, .st, .sh (PL p), .sh (PL q), .sh (PL t), .sh (R a), .sh (R b), .sh (PL (mulQ p q)), .sh (.int (n : Int)), .sh (PL (powQ t n)), y10, .un, .sh (PL (mulQ t p)), .sh (PL (mulQ t q)), y14, y15, y16, .sh (PL (linesQ [1] rs)), .sh (PL (insQ [b, 1] [] p.reverse)), .sh (PL I), .un, .sh (.int (N : Int)), .sh (LL rs), y23, .un, .un, .un, .un]) (s1 := s8) (q22)]
  rw [seqD_nx (e := [.un, .st, .sh (PL p), .sh (PL q), .sh (PL t), .sh (R a), .sh (R b), .sh (PL (mulQ p q)), .sh (.int (n : Int)), .sh (PL (powQ t n)), y10, .un, .sh (PL (mulQ t p)), .sh (PL (mulQ t q)), y14, y15, y16, .sh (PL (linesQ [1] rs)), .sh (PL (insQ [b, 1] [] p.reverse)), .sh (PL I), .un, .sh (.int (N : Int)), .sh (LL rs), y23, .un, .un, .un, .un]) (s1 := s8) (if_f (c23 h lrs zrs rfl rfl rfl (by simp only [List.length_cons, List.length_nil]; decide)))]
  obtain ⟨ns, s9, q24, w9, lns⟩ := st24 (env := [.un, .st, .sh (PL p), .sh (PL q), .sh (PL t), .sh (R a), .sh (R b), .sh (PL (mulQ p q)), .sh (.int (n : Int)), .sh (PL (powQ t n)), y10, .un, .sh (PL (mulQ t p)), .sh (PL (mulQ t q)), y14, y15, y16, .sh (PL (linesQ [1] rs)), .sh (PL (insQ [b, 1] [] p.reverse)), .sh (PL I), .un, .sh (.int (N : Int)), .sh (LL rs), y23, .un, .un, .un, .un]) rfl (by simp only [List.length_cons, List.length_nil]; decide) w8
  rw [seqD_nx (e := [.un, .st, .sh (PL p), .sh (PL q), .sh (PL t), .sh (R a), .sh (R b), .sh (PL (mulQ p q)), .sh (.int (n : Int)), .sh (PL (powQ t n)), y10, .un, .sh (PL (mulQ t p)), .sh (PL (mulQ t q)), y14, y15, y16, .sh (PL (linesQ [1] rs)), .sh (PL (insQ [b, 1] [] p.reverse)), .sh (PL I), .un, .sh (.int (N : Int)), .sh (LL rs), y23, .sh (.list (ns.map .int)), .un, .un, .un]) (s1 := s9) (q24)]
  obtain ⟨s10, q25, w10⟩ := c25 (env := [.un, .st, .sh (PL p), .sh (PL q), .sh (PL t), .sh (R a), .sh (R b), .sh (PL (mulQ p q)), .sh (.int (n : Int)), .sh (PL (powQ t n)), y10, .un, .sh (PL (mulQ t p)), .sh (PL (mulQ t q)), y14, y15, y16, .sh (PL (linesQ [1] rs)), .sh (PL (insQ [b, 1] [] p.reverse)), .sh (PL I), .un, .sh (.int (N : Int)), .sh (LL rs), y23, .sh (.list (ns.map .int)), .un, .un, .un]) lns rfl rfl (by simp only [List.length_cons, List.length_nil]; decide) w9
  rw [seqD_nx (e := [.un, .st, .sh (PL p), .sh (PL q), .sh (PL t), .sh (R a), .sh (R b), .sh (PL (mulQ p q)), .sh (.int (n : Int)), .sh (PL (powQ t n)), y10, .un, .sh (PL (mulQ t p)), .sh (PL (mulQ t q)), y14, y15, y16, .sh (PL (linesQ [1] rs)), .sh (PL (insQ [b, 1] [] p.reverse)), .sh (PL I), .un, .sh (.int (N : Int)), .sh (LL rs), y23, .sh (.list (ns.map .int)), .un, .un, .un]) (s1 := s10) (if_f q25)]
  obtain ⟨y25, y26, q26⟩ := st26 (s := s10) bp.szs hlp (y0 := .un) (y1 := .st) (y3 := .sh (PL q)) (y4 := .sh (PL t)) (y5 := .sh (R a)) (y6 := .sh (R b)) (y7 := .sh (PL (mulQ p q))) (y8 := .sh (.int (n : Int))) (y9 := .sh (PL (powQ t n))) (y10 := y10) (y11 := .un) (y12 := .sh (PL (mulQ t p))) (y13 := .sh (PL (mulQ t q))) (y14 := y14) (y15 := y15) (y16 := y16) (y17 := .sh (PL (linesQ [1] rs))) (y18 := .sh (PL (insQ [b, 1] [] p.reverse))) (y19 := .sh (PL I)) (y20 := .un) (y21 := .sh (.int (N : Int))) (y22 := .sh (LL rs)) (y23 := y23) (y24 := .sh (.list (ns.map .int))) (y27 := .un)
  rw [seqD_nx (e := [.un, .st, .sh (PL p), .sh (PL q), .sh (PL t), .sh (R a), .sh (R b), .sh (PL (mulQ p q)), .sh (.int (n : Int)), .sh (PL (powQ t n)), y10, .un, .sh (PL (mulQ t p)), .sh (PL (mulQ t q)), y14, y15, y16, .sh (PL (linesQ [1] rs)), .sh (PL (insQ [b, 1] [] p.reverse)), .sh (PL I), .un, .sh (.int (N : Int)), .sh (LL rs), y23, .sh (.list (ns.map .int)), y25, y26, .un]) (s1 := s10) (q26)]
  exact ⟨s10, st27 (by simp only [List.length_cons, List.length_nil]; decide)⟩
end N1
end

section
set_option Elab.async false
set_option linter.all false
set_option maxRecDepth 100000
set_option maxHeartbeats 0
set_option autoImplicit false
namespace N1
open PySem PySem.Spec L2 DS
open PyProof.Rows hiding St
open NP
open NW hiding m_scaled g_scaled

def topS (i : Nat) : Stmt := PySem.Challenge.pw_nodewright_k01_whole_polynomials_of_part.main.body.getD i (.Pass ⟨0, 0, 0, 0⟩)
structure Nm (mg : Str → Option Value) : Prop where
  z_abs : mg "abs" = none
  z_all : mg "all" = none
  z_bool : mg "bool" = none
  z_int : mg "int" = none
  z_isinstance : mg "isinstance" = none
  z_len : mg "len" = none
  z_list : mg "list" = none
  z_max : mg "max" = none
  z_range : mg "range" = none
  z_set : mg "set" = none
  z_tuple : mg "tuple" = none
  k_MOST_DEGREE : ∃ t, mg "MOST_DEGREE" = some (.int 30 t)
abbrev s_Misstep : Stmt := L2.inClass (topS 2) 0
def cd_Misstep : ClD := ⟨"Misstep", "word", "Misstep.__init__", defArgs s_Misstep, defBody s_Misstep, defScope s_Misstep⟩
theorem sc_Misstep : SupScope ["self", "word"] ["self", "word"] (defScope s_Misstep) := ⟨rfl, rfl, rfl, by decide +kernel, rfl, by decide +kernel, by decide +kernel, free_of (by decide +kernel), rfl, rfl⟩
theorem ok_Misstep {P : Program} {w : World} {K : PySem.W.Frag} {mg : Str → Option Value} {base : Heap} (hm : mg "Misstep" = some (.ref (He.ga K "Misstep"))) (c : clB P K "Misstep" "word" = true) (o : inV K "Misstep" = cd_Misstep.val) : EOk P w K mg base "Misstep" "word" :=
  eok_of hm c o sc_Misstep rfl rfl (msg := "this may not be done: ") (by decide) (fun _ _ _ _ _ _ _ _ us hl => match us, hl with | [_, _], _ => rfl)
    (fun f cd cc A outer s H E => pa_cons (pe_op op_add_str pe_str (pv 1)) pa_nil) (fun f cd cc A outer s H E => ps_ost (pv 0) (pv 1)) (fun _ _ _ _ => rfl) (fun _ _ _ _ => rfl) (fun _ _ _ _ => rfl) (fun _ _ _ _ => rfl)
section
variable {P : Program} {w : World} {K : PySem.W.Frag} {mg : Str → Option Value} {base : Heap}
abbrev s_divisor : Stmt := topS 4
abbrev N_divisor : List Str := ["one", "other"]
theorem sc_divisor : FnScope ["one", "other"] ["one", "other"] (defScope s_divisor) := ⟨rfl, rfl, rfl, by decide +kernel, rfl, by decide +kernel, by decide +kernel⟩
theorem ok_divisor (Z : Nm mg) (Df : DefAt K mg "divisor" s_divisor)   : FOk P w K mg base 1 "divisor" ["one", "other"] m_divisor :=
  fn_ok (N := ["one", "other"]) Df sc_divisor (fun _ _ _ _ _ _ us hl => match us, hl with | [_, _], _ => rfl) fun f cdv A outer s H E G c =>
  (ss_cons (ss_par (i := 0) (j := 1) c rfl rfl (by decide) rfl rfl (sv_of (se_callB absC (by rfl) Z.z_abs bt_abs (sl_cons lrW (sw_var (pv 0)) (sl_nil lrW)))) (sv_of (se_callB absC (by rfl) Z.z_abs bt_abs (sl_cons lrW (sw_var (pv 1)) (sl_nil lrW)))) (by rfl))
  (ss_cons (ss_while fu_divisor_1 c (sb_cmp (neO c.u64) (sw_var (pv 1)) (sw_of se_int)) (ss_one (ss_par (i := 0) (j := 1) c rfl rfl (by decide) rfl rfl (sv_of (se_var (pv 1))) (sv_of (se_bin modO (sw_var (pv 0)) (sw_var (pv 1)))) (by rfl))))
  (ss_one (ss_ret (se_var (pv 0))))))
abbrev s_part : Stmt := topS 5
abbrev N_part : List Str := ["above", "below", "common"]
theorem sc_part : FnScope ["above", "below", "common"] ["above", "below"] (defScope s_part) := ⟨rfl, rfl, rfl, by decide +kernel, rfl, by decide +kernel, by decide +kernel⟩
theorem ok_part (Z : Nm mg) (Df : DefAt K mg "part" s_part)  (h_divisor : FOk P w K mg base 1 "divisor" ["one", "other"] m_divisor) : FOk P w K mg base 2 "part" ["above", "below"] m_part :=
  fn_ok (N := ["above", "below", "common"]) Df sc_part (fun _ _ _ _ _ _ us hl => match us, hl with | [_, _], _ => rfl) fun f cdv A outer s H E G c =>
  (ss_cons (ss_if (sb_cmp ltO (sw_var (pv 1)) (sw_of se_int)) (ss_one (ss_par (i := 0) (j := 1) c rfl rfl (by decide) rfl rfl (sv_of (se_bin subO (sw_of se_int) (sw_var (pv 0)))) (sv_of (se_bin subO (sw_of se_int) (sw_var (pv 1)))) (by rfl))) ss_nil)
  (ss_cons (ss_set (i := 2) c rfl (Or.inl rfl) (sv_of (se_call c h_divisor (by decide) (by rfl) (sl_cons lrA (sx_var (pv 0)) (sl_cons lrA (sx_var (pv 1)) (sl_nil lrA))))))
  (ss_one (ss_ret (se_tup (sl_cons lrD (se_bin fdivO (sw_var (pv 0)) (sw_var (pv 2))) (sl_cons lrD (se_bin fdivO (sw_var (pv 1)) (sw_var (pv 2))) (sl_nil lrD))))))))
abbrev s_is_part : Stmt := topS 6
abbrev N_is_part : List Str := ["value", "number"]
theorem sc_is_part : FnScope ["value", "number"] ["value"] (defScope s_is_part) := ⟨rfl, rfl, rfl, by decide +kernel, rfl, by decide +kernel, by decide +kernel⟩
theorem ok_is_part (Z : Nm mg) (Df : DefAt K mg "is_part" s_is_part)  (h_divisor : FOk P w K mg base 1 "divisor" ["one", "other"] m_divisor) : FOk P w K mg base 2 "is_part" ["value"] m_is_part :=
  fn_ok (N := ["value", "number"]) Df sc_is_part (fun _ _ _ _ _ _ us hl => match us, hl with | [_], _ => rfl) fun f cdv A outer s H E G c =>
  (ss_cons (ss_if (sb_w (sbw_or (sb_not (sb_of_pe (se_isi kitTup (by rfl) Z.z_isinstance bt_isinstance (sw_var (pv 0)) (by rfl) Z.z_tuple bt_tuple))) (sbw_or1 (sb_cmp (neO c.u64) (sw_of (se_callB lenC (by rfl) Z.z_len bt_len (sl_cons lrW (sw_var (pv 0)) (sl_nil lrW)))) (sw_of se_int))))) (ss_one (ss_ret se_bl)) ss_nil)
  (ss_cons (ss_if (sb_not (sb_of_pe (se_callB (allC c.calm) (by rfl) Z.z_all bt_all (sl_cons lrW (sw_of (se_of (sf_lc (own := [("number", 1)]) (t := (.nm 1)) c (si_of (se_var (pv 0))) (blkOk_by (N := N_is_part) (sc := defScope s_is_part) (by decide +kernel)) (fun bs1 bH1 _ _ bp1 => (pg_name (i := 1) (c.blk bs1 bH1 _ _ bp1).nd rfl (by first | exact Or.inl rfl | exact Or.inr rfl))) (fun _ _ _ _ _ => spt_nil) (fun bs1 bH1 _ _ bp1 => (se_and (se_isi kitInt (by rfl) Z.z_isinstance bt_isinstance (sw_var (pv 1)) (by rfl) Z.z_int bt_int) (se_one (se_not (se_isi kitBool (by rfl) Z.z_isinstance bt_isinstance (sw_var (pv 1)) (by rfl) Z.z_bool bt_bool)))))))) (sl_nil lrW))))) (ss_one (ss_ret se_bl)) ss_nil)
  (ss_one (ss_ret (se_and (se_cmp geO (sw_of (se_ix (sw_var (pv 0)) se_int)) (sw_of se_int)) (se_one (se_cmp (eqO c.u64) (sw_of (se_call c h_divisor (by decide) (by rfl) (sl_cons lrA (sx_of (se_ix (sw_var (pv 0)) se_int)) (sl_cons lrA (sx_of (se_ix (sw_var (pv 0)) se_int)) (sl_nil lrA))))) (sw_of se_int))))))))
abbrev s_plus : Stmt := topS 7
abbrev N_plus : List Str := ["one", "other"]
theorem sc_plus : FnScope ["one", "other"] ["one", "other"] (defScope s_plus) := ⟨rfl, rfl, rfl, by decide +kernel, rfl, by decide +kernel, by decide +kernel⟩
theorem ok_plus (Z : Nm mg) (Df : DefAt K mg "plus" s_plus)  (h_part : FOk P w K mg base 2 "part" ["above", "below"] m_part) : FOk P w K mg base 3 "plus" ["one", "other"] m_plus :=
  fn_ok (N := ["one", "other"]) Df sc_plus (fun _ _ _ _ _ _ us hl => match us, hl with | [_, _], _ => rfl) fun f cdv A outer s H E G c =>
  (ss_one (ss_ret (se_call c h_part (by decide) (by rfl) (sl_cons lrA (sx_of (se_bin addO (sw_of (se_bin mulO (sw_of (se_ix (sw_var (pv 0)) se_int)) (sw_of (se_ix (sw_var (pv 1)) se_int)))) (sw_of (se_bin mulO (sw_of (se_ix (sw_var (pv 1)) se_int)) (sw_of (se_ix (sw_var (pv 0)) se_int)))))) (sl_cons lrA (sx_of (se_bin mulO (sw_of (se_ix (sw_var (pv 0)) se_int)) (sw_of (se_ix (sw_var (pv 1)) se_int)))) (sl_nil lrA))))))
abbrev s_minus : Stmt := topS 8
abbrev N_minus : List Str := ["one", "other"]
theorem sc_minus : FnScope ["one", "other"] ["one", "other"] (defScope s_minus) := ⟨rfl, rfl, rfl, by decide +kernel, rfl, by decide +kernel, by decide +kernel⟩
theorem ok_minus (Z : Nm mg) (Df : DefAt K mg "minus" s_minus)  (h_part : FOk P w K mg base 2 "part" ["above", "below"] m_part) : FOk P w K mg base 3 "minus" ["one", "other"] m_minus :=
  fn_ok (N := ["one", "other"]) Df sc_minus (fun _ _ _ _ _ _ us hl => match us, hl with | [_, _], _ => rfl) fun f cdv A outer s H E G c =>
  (ss_one (ss_ret (se_call c h_part (by decide) (by rfl) (sl_cons lrA (sx_of (se_bin subO (sw_of (se_bin mulO (sw_of (se_ix (sw_var (pv 0)) se_int)) (sw_of (se_ix (sw_var (pv 1)) se_int)))) (sw_of (se_bin mulO (sw_of (se_ix (sw_var (pv 1)) se_int)) (sw_of (se_ix (sw_var (pv 0)) se_int)))))) (sl_cons lrA (sx_of (se_bin mulO (sw_of (se_ix (sw_var (pv 0)) se_int)) (sw_of (se_ix (sw_var (pv 1)) se_int)))) (sl_nil lrA))))))
abbrev s_times : Stmt := topS 9
abbrev N_times : List Str := ["one", "other"]
theorem sc_times : FnScope ["one", "other"] ["one", "other"] (defScope s_times) := ⟨rfl, rfl, rfl, by decide +kernel, rfl, by decide +kernel, by decide +kernel⟩
theorem ok_times (Z : Nm mg) (Df : DefAt K mg "times" s_times)  (h_part : FOk P w K mg base 2 "part" ["above", "below"] m_part) : FOk P w K mg base 3 "times" ["one", "other"] m_times :=
  fn_ok (N := ["one", "other"]) Df sc_times (fun _ _ _ _ _ _ us hl => match us, hl with | [_, _], _ => rfl) fun f cdv A outer s H E G c =>
  (ss_one (ss_ret (se_call c h_part (by decide) (by rfl) (sl_cons lrA (sx_of (se_bin mulO (sw_of (se_ix (sw_var (pv 0)) se_int)) (sw_of (se_ix (sw_var (pv 1)) se_int)))) (sl_cons lrA (sx_of (se_bin mulO (sw_of (se_ix (sw_var (pv 0)) se_int)) (sw_of (se_ix (sw_var (pv 1)) se_int)))) (sl_nil lrA))))))
abbrev s_over : Stmt := topS 10
abbrev N_over : List Str := ["one", "other"]
theorem sc_over : FnScope ["one", "other"] ["one", "other"] (defScope s_over) := ⟨rfl, rfl, rfl, by decide +kernel, rfl, by decide +kernel, by decide +kernel⟩
theorem ok_over (Z : Nm mg) (Df : DefAt K mg "over" s_over)  (h_part : FOk P w K mg base 2 "part" ["above", "below"] m_part) : FOk P w K mg base 3 "over" ["one", "other"] m_over :=
  fn_ok (N := ["one", "other"]) Df sc_over (fun _ _ _ _ _ _ us hl => match us, hl with | [_, _], _ => rfl) fun f cdv A outer s H E G c =>
  (ss_one (ss_ret (se_call c h_part (by decide) (by rfl) (sl_cons lrA (sx_of (se_bin mulO (sw_of (se_ix (sw_var (pv 0)) se_int)) (sw_of (se_ix (sw_var (pv 1)) se_int)))) (sl_cons lrA (sx_of (se_bin mulO (sw_of (se_ix (sw_var (pv 0)) se_int)) (sw_of (se_ix (sw_var (pv 1)) se_int)))) (sl_nil lrA))))))
abbrev s_is_poly : Stmt := topS 13
abbrev N_is_poly : List Str := ["value", "one"]
theorem sc_is_poly : FnScope ["value", "one"] ["value"] (defScope s_is_poly) := ⟨rfl, rfl, rfl, by decide +kernel, rfl, by decide +kernel, by decide +kernel⟩
theorem ok_is_poly (Z : Nm mg) (Df : DefAt K mg "is_poly" s_is_poly)  (h_is_part : FOk P w K mg base 2 "is_part" ["value"] m_is_part) : FOk P w K mg base 3 "is_poly" ["value"] m_is_poly :=
  fn_ok (N := ["value", "one"]) Df sc_is_poly (fun _ _ _ _ _ _ us hl => match us, hl with | [_], _ => rfl) fun f cdv A outer s H E G c =>
  (ss_cons (ss_if (sb_w (sbw_or (sb_not (sb_of_pe (se_isi kitTup (by rfl) Z.z_isinstance bt_isinstance (sw_var (pv 0)) (by rfl) Z.z_tuple bt_tuple))) (sbw_or (sb_cmp gtO (sw_of (se_callB lenC (by rfl) Z.z_len bt_len (sl_cons lrW (sw_var (pv 0)) (sl_nil lrW)))) (sw_of (se_bin addO (sw_of (se_globI Z.k_MOST_DEGREE)) (sw_of se_int)))) (sbw_or1 (sb_not (sb_of_pe (se_callB (allC c.calm) (by rfl) Z.z_all bt_all (sl_cons lrW (sw_of (se_of (sf_lc (own := [("one", 1)]) (t := (.nm 1)) c (si_of (se_var (pv 0))) (blkOk_by (N := N_is_poly) (sc := defScope s_is_poly) (by decide +kernel)) (fun bs2 bH2 _ _ bp2 => (pg_name (i := 1) (c.blk bs2 bH2 _ _ bp2).nd rfl (by first | exact Or.inl rfl | exact Or.inr rfl))) (fun _ _ _ _ _ => spt_nil) (fun bs2 bH2 _ _ bp2 => (se_call (c.blk bs2 bH2 _ _ bp2) h_is_part (by decide) (by rfl) (sl_cons lrA (sx_var (pv 1)) (sl_nil lrA))))))) (sl_nil lrW))))))))) (ss_one (ss_ret se_bl)) ss_nil)
  (ss_one (ss_ret (se_or (se_cmp (eqO c.u64) (sw_of (se_callB lenC (by rfl) Z.z_len bt_len (sl_cons lrW (sw_var (pv 0)) (sl_nil lrW)))) (sw_of se_int)) (se_one (se_cmp (neO c.u64) (sw_of (se_ix (sw_of (se_ix (sw_var (pv 0)) (se_neg se_int))) se_int)) (sw_of se_int)))))))
abbrev s_trimmed : Stmt := topS 14
abbrev N_trimmed : List Str := ["row", "many"]
theorem sc_trimmed : FnScope ["row", "many"] ["row"] (defScope s_trimmed) := ⟨rfl, rfl, rfl, by decide +kernel, rfl, by decide +kernel, by decide +kernel⟩
theorem ok_trimmed (Z : Nm mg) (Df : DefAt K mg "trimmed" s_trimmed)   : FOk P w K mg base 1 "trimmed" ["row"] m_trimmed :=
  fn_ok (N := ["row", "many"]) Df sc_trimmed (fun _ _ _ _ _ _ us hl => match us, hl with | [_], _ => rfl) fun f cdv A outer s H E G c =>
  (ss_cons (ss_set (i := 1) c rfl (Or.inl rfl) (sv_of (se_callB lenC (by rfl) Z.z_len bt_len (sl_cons lrW (sw_var (pv 0)) (sl_nil lrW)))))
  (ss_cons (ss_while fu_trimmed_1 c (sb_w (sbw_and (sb_cmp gtO (sw_var (pv 1)) (sw_of se_int)) (sbw_and1 (sb_cmp (eqO c.u64) (sw_of (se_ix (sw_of (se_ix (sw_var (pv 0)) (se_bin subO (sw_var (pv 1)) (sw_of se_int)))) se_int)) (sw_of se_int))))) (ss_one (ss_aug (i := 1) c ip_subI rfl (Or.inl rfl) se_int)))
  (ss_one (ss_ret (se_callTy tupC (by rfl) Z.z_tuple bt_tuple (sl_cons lrW (sw_of (se_slice (sw_var (pv 0)) so_none (so_some (se_var (pv 1))))) (sl_nil lrW)))))))
abbrev s_of_wholes : Stmt := topS 15
abbrev N_of_wholes : List Str := ["row", "number"]
theorem sc_of_wholes : FnScope ["row", "number"] ["row"] (defScope s_of_wholes) := ⟨rfl, rfl, rfl, by decide +kernel, rfl, by decide +kernel, by decide +kernel⟩
theorem ok_of_wholes (Z : Nm mg) (Df : DefAt K mg "of_wholes" s_of_wholes)  (h_trimmed : FOk P w K mg base 1 "trimmed" ["row"] m_trimmed) : FOk P w K mg base 2 "of_wholes" ["row"] m_of_wholes :=
  fn_ok (N := ["row", "number"]) Df sc_of_wholes (fun _ _ _ _ _ _ us hl => match us, hl with | [_], _ => rfl) fun f cdv A outer s H E G c =>
  (ss_one (ss_ret (se_call c h_trimmed (by decide) (by rfl) (sl_cons lrA (sx_of (se_of (sf_lc (own := [("number", 1)]) (t := (.nm 1)) c (si_of (se_var (pv 0))) (blkOk_by (N := N_of_wholes) (sc := defScope s_of_wholes) (by decide +kernel)) (fun bs3 bH3 _ _ bp3 => (pg_name (i := 1) (c.blk bs3 bH3 _ _ bp3).nd rfl (by first | exact Or.inl rfl | exact Or.inr rfl))) (fun _ _ _ _ _ => spt_nil) (fun bs3 bH3 _ _ bp3 => (se_tup (sl_cons lrD (se_var (pv 1)) (sl_cons lrD se_int (sl_nil lrD)))))))) (sl_nil lrA)))))
abbrev s_added : Stmt := topS 16
abbrev N_added : List Str := ["one", "other", "size", "first", "second", "k"]
theorem sc_added : FnScope ["one", "other", "size", "first", "second", "k"] ["one", "other"] (defScope s_added) := ⟨rfl, rfl, rfl, by decide +kernel, rfl, by decide +kernel, by decide +kernel⟩
theorem ok_added (Z : Nm mg) (Df : DefAt K mg "added" s_added)  (h_plus : FOk P w K mg base 3 "plus" ["one", "other"] m_plus) (h_trimmed : FOk P w K mg base 1 "trimmed" ["row"] m_trimmed) : FOk P w K mg base 4 "added" ["one", "other"] m_added :=
  fn_ok (N := ["one", "other", "size", "first", "second", "k"]) Df sc_added (fun _ _ _ _ _ _ us hl => match us, hl with | [_, _], _ => rfl) fun f cdv A outer s H E G c =>
  (ss_cons (ss_set (i := 2) c rfl (Or.inl rfl) (sv_of (se_callB (maxC c.calm) (by rfl) Z.z_max bt_max (sl_cons lrW (sw_of (se_callB lenC (by rfl) Z.z_len bt_len (sl_cons lrW (sw_var (pv 0)) (sl_nil lrW)))) (sl_cons lrW (sw_of (se_callB lenC (by rfl) Z.z_len bt_len (sl_cons lrW (sw_var (pv 1)) (sl_nil lrW)))) (sl_nil lrW))))))
  (ss_cons (ss_unp (t := (.tp [3, 4])) (se_tup (sl_cons lrD (se_bin addO (sw_var (pv 0)) (sw_of (se_bin mulTO (sw_of (se_tup (sl_cons lrD (se_tup (sl_cons lrD se_int (sl_cons lrD se_int (sl_nil lrD)))) (sl_nil lrD)))) (sw_of (se_bin subO (sw_var (pv 2)) (sw_of (se_callB lenC (by rfl) Z.z_len bt_len (sl_cons lrW (sw_var (pv 0)) (sl_nil lrW))))))))) (sl_cons lrD (se_bin addO (sw_var (pv 1)) (sw_of (se_bin mulTO (sw_of (se_tup (sl_cons lrD (se_tup (sl_cons lrD se_int (sl_cons lrD se_int (sl_nil lrD)))) (sl_nil lrD)))) (sw_of (se_bin subO (sw_var (pv 2)) (sw_of (se_callB lenC (by rfl) Z.z_len bt_len (sl_cons lrW (sw_var (pv 1)) (sl_nil lrW))))))))) (sl_nil lrD)))) (pg_tup c.calm (pgs_cons (pg_name (i := 3) c.nd rfl (by first | exact Or.inl rfl | exact Or.inr rfl)) (pgs_cons (pg_name (i := 4) c.nd rfl (by first | exact Or.inl rfl | exact Or.inr rfl)) pgs_nil))))
  (ss_one (ss_ret (se_call c h_trimmed (by decide) (by rfl) (sl_cons lrA (sx_of (se_of (sf_lc (own := [("k", 5)]) (t := (.nm 5)) c (si_rng1 Z.z_range (se_var (pv 2))) (blkOk_by (N := N_added) (sc := defScope s_added) (by decide +kernel)) (fun bs4 bH4 _ _ bp4 => (pg_name (i := 5) (c.blk bs4 bH4 _ _ bp4).nd rfl (by first | exact Or.inl rfl | exact Or.inr rfl))) (fun _ _ _ _ _ => spt_nil) (fun bs4 bH4 _ _ bp4 => (se_call (c.blk bs4 bH4 _ _ bp4) h_plus (by decide) (by rfl) (sl_cons lrA (sx_of (se_ix (sw_var (pv 3)) (se_var (pv 5)))) (sl_cons lrA (sx_of (se_ix (sw_var (pv 4)) (se_var (pv 5)))) (sl_nil lrA)))))))) (sl_nil lrA)))))))
abbrev s_scaled : Stmt := topS 17
abbrev N_scaled : List Str := ["one", "factor", "number"]
theorem sc_scaled : FnScope ["one", "factor", "number"] ["one", "factor"] (defScope s_scaled) := ⟨rfl, rfl, rfl, by decide +kernel, rfl, by decide +kernel, by decide +kernel⟩
theorem ok_scaled (Z : Nm mg) (Df : DefAt K mg "scaled" s_scaled)  (h_times : FOk P w K mg base 3 "times" ["one", "other"] m_times) (h_trimmed : FOk P w K mg base 1 "trimmed" ["row"] m_trimmed) : FOk P w K mg base 4 "scaled" ["one", "factor"] m_scaled :=
  fn_ok (N := ["one", "factor", "number"]) Df sc_scaled (fun _ _ _ _ _ _ us hl => match us, hl with | [_, _], _ => rfl) fun f cdv A outer s H E G c =>
  (ss_one (ss_ret (se_call c h_trimmed (by decide) (by rfl) (sl_cons lrA (sx_of (se_of (sf_lc (own := [("number", 2)]) (t := (.nm 2)) c (si_of (se_var (pv 0))) (blkOk_by (N := N_scaled) (sc := defScope s_scaled) (by decide +kernel)) (fun bs5 bH5 _ _ bp5 => (pg_name (i := 2) (c.blk bs5 bH5 _ _ bp5).nd rfl (by first | exact Or.inl rfl | exact Or.inr rfl))) (fun _ _ _ _ _ => spt_nil) (fun bs5 bH5 _ _ bp5 => (se_call (c.blk bs5 bH5 _ _ bp5) h_times (by decide) (by rfl) (sl_cons lrA (sx_var (pv 2)) (sl_cons lrA (sx_var (pv 1)) (sl_nil lrA)))))))) (sl_nil lrA)))))
abbrev s_less : Stmt := topS 18
abbrev N_less : List Str := ["one", "other"]
theorem sc_less : FnScope ["one", "other"] ["one", "other"] (defScope s_less) := ⟨rfl, rfl, rfl, by decide +kernel, rfl, by decide +kernel, by decide +kernel⟩
theorem ok_less (Z : Nm mg) (Df : DefAt K mg "less" s_less)  (h_added : FOk P w K mg base 4 "added" ["one", "other"] m_added) (h_scaled : FOk P w K mg base 4 "scaled" ["one", "factor"] m_scaled) : FOk P w K mg base 5 "less" ["one", "other"] m_less :=
  fn_ok (N := ["one", "other"]) Df sc_less (fun _ _ _ _ _ _ us hl => match us, hl with | [_, _], _ => rfl) fun f cdv A outer s H E G c =>
  (ss_one (ss_ret (se_call c h_added (by decide) (by rfl) (sl_cons lrA (sx_var (pv 0)) (sl_cons lrA (sx_of (se_call c h_scaled (by decide) (by rfl) (sl_cons lrA (sx_var (pv 1)) (sl_cons lrA (sx_of (se_tup (sl_cons lrD (se_bin subO (sw_of se_int) (sw_of se_int)) (sl_cons lrD se_int (sl_nil lrD))))) (sl_nil lrA))))) (sl_nil lrA))))))
abbrev s_product : Stmt := topS 19
abbrev N_product : List Str := ["one", "other", "found", "a", "b"]
theorem sc_product : FnScope ["one", "other", "found", "a", "b"] ["one", "other"] (defScope s_product) := ⟨rfl, rfl, rfl, by decide +kernel, rfl, by decide +kernel, by decide +kernel⟩
theorem ok_product (Z : Nm mg) (Df : DefAt K mg "product" s_product)  (h_plus : FOk P w K mg base 3 "plus" ["one", "other"] m_plus) (h_times : FOk P w K mg base 3 "times" ["one", "other"] m_times) (h_trimmed : FOk P w K mg base 1 "trimmed" ["row"] m_trimmed) : FOk P w K mg base 4 "product" ["one", "other"] m_product :=
  fn_ok (N := ["one", "other", "found", "a", "b"]) Df sc_product (fun _ _ _ _ _ _ us hl => match us, hl with | [_, _], _ => rfl) fun f cdv A outer s H E G c =>
  (ss_cons (ss_if (sb_w (sbw_or (sb_cmp (eqO c.u64) (sw_of (se_callB lenC (by rfl) Z.z_len bt_len (sl_cons lrW (sw_var (pv 0)) (sl_nil lrW)))) (sw_of se_int)) (sbw_or1 (sb_cmp (eqO c.u64) (sw_of (se_callB lenC (by rfl) Z.z_len bt_len (sl_cons lrW (sw_var (pv 1)) (sl_nil lrW)))) (sw_of se_int))))) (ss_one (ss_ret (se_tup (sl_nil lrD)))) ss_nil)
  (ss_cons (ss_set (i := 2) c rfl (Or.inl rfl) (sv_ow (sf_rep (sf_lst (sl_cons lrD (se_tup (sl_cons lrD se_int (sl_cons lrD se_int (sl_nil lrD)))) (sl_nil lrD))) (se_bin subO (sw_of (se_bin addO (sw_of (se_callB lenC (by rfl) Z.z_len bt_len (sl_cons lrW (sw_var (pv 0)) (sl_nil lrW)))) (sw_of (se_callB lenC (by rfl) Z.z_len bt_len (sl_cons lrW (sw_var (pv 1)) (sl_nil lrW)))))) (sw_of se_int)))))
  (ss_cons (ss_for (t := (.nm 3)) c (si_rng1 Z.z_range (se_callB lenC (by rfl) Z.z_len bt_len (sl_cons lrW (sw_var (pv 0)) (sl_nil lrW)))) (pg_name (i := 3) c.nd rfl (by first | exact Or.inl rfl | exact Or.inr rfl)) (ss_one (ss_for (t := (.nm 4)) c (si_rng1 Z.z_range (se_callB lenC (by rfl) Z.z_len bt_len (sl_cons lrW (sw_var (pv 1)) (sl_nil lrW)))) (pg_name (i := 4) c.nd rfl (by first | exact Or.inl rfl | exact Or.inr rfl)) (ss_one (ss_sto (pv 2) (se_bin addO (sw_var (pv 3)) (sw_var (pv 4))) (se_call c h_plus (by decide) (by rfl) (sl_cons lrA (sx_of (se_ix (sw_var (pv 2)) (se_bin addO (sw_var (pv 3)) (sw_var (pv 4))))) (sl_cons lrA (sx_of (se_call c h_times (by decide) (by rfl) (sl_cons lrA (sx_of (se_ix (sw_var (pv 0)) (se_var (pv 3)))) (sl_cons lrA (sx_of (se_ix (sw_var (pv 1)) (se_var (pv 4)))) (sl_nil lrA))))) (sl_nil lrA)))))))))
  (ss_one (ss_ret (se_callL c h_trimmed (by decide) (by rfl) (sl_cons lrA (sx_var (pv 2)) (sl_nil lrA))))))))
abbrev s_power : Stmt := topS 20
abbrev N_power : List Str := ["one", "many", "found", "turn"]
theorem sc_power : FnScope ["one", "many", "found", "turn"] ["one", "many"] (defScope s_power) := ⟨rfl, rfl, rfl, by decide +kernel, rfl, by decide +kernel, by decide +kernel⟩
theorem ok_power (Z : Nm mg) (Df : DefAt K mg "power" s_power)  (h_product : FOk P w K mg base 4 "product" ["one", "other"] m_product) : FOk P w K mg base 5 "power" ["one", "many"] m_power :=
  fn_ok (N := ["one", "many", "found", "turn"]) Df sc_power (fun _ _ _ _ _ _ us hl => match us, hl with | [_, _], _ => rfl) fun f cdv A outer s H E G c =>
  (ss_cons (ss_set (i := 2) c rfl (Or.inl rfl) (sv_of (se_tup (sl_cons lrD (se_tup (sl_cons lrD se_int (sl_cons lrD se_int (sl_nil lrD)))) (sl_nil lrD)))))
  (ss_cons (ss_for (t := (.nm 3)) c (si_rng1 Z.z_range (se_var (pv 1))) (pg_name (i := 3) c.nd rfl (by first | exact Or.inl rfl | exact Or.inr rfl)) (ss_one (ss_set (i := 2) c rfl (Or.inl rfl) (sv_of (se_call c h_product (by decide) (by rfl) (sl_cons lrA (sx_var (pv 2)) (sl_cons lrA (sx_var (pv 0)) (sl_nil lrA))))))))
  (ss_one (ss_ret (se_var (pv 2))))))
abbrev s_value_at : Stmt := topS 21
abbrev N_value_at : List Str := ["one", "place", "found", "factor"]
theorem sc_value_at : FnScope ["one", "place", "found", "factor"] ["one", "place"] (defScope s_value_at) := ⟨rfl, rfl, rfl, by decide +kernel, rfl, by decide +kernel, by decide +kernel⟩
theorem ok_value_at (Z : Nm mg) (Df : DefAt K mg "value_at" s_value_at)  (h_plus : FOk P w K mg base 3 "plus" ["one", "other"] m_plus) (h_times : FOk P w K mg base 3 "times" ["one", "other"] m_times) : FOk P w K mg base 4 "value_at" ["one", "place"] m_value_at :=
  fn_ok (N := ["one", "place", "found", "factor"]) Df sc_value_at (fun _ _ _ _ _ _ us hl => match us, hl with | [_, _], _ => rfl) fun f cdv A outer s H E G c =>
  (ss_cons (ss_set (i := 2) c rfl (Or.inl rfl) (sv_of (se_tup (sl_cons lrD se_int (sl_cons lrD se_int (sl_nil lrD))))))
  (ss_cons (ss_for (t := (.nm 3)) c (si_of (se_rev (sw_var (pv 0)))) (pg_name (i := 3) c.nd rfl (by first | exact Or.inl rfl | exact Or.inr rfl)) (ss_one (ss_set (i := 2) c rfl (Or.inl rfl) (sv_of (se_call c h_plus (by decide) (by rfl) (sl_cons lrA (sx_of (se_call c h_times (by decide) (by rfl) (sl_cons lrA (sx_var (pv 2)) (sl_cons lrA (sx_var (pv 1)) (sl_nil lrA))))) (sl_cons lrA (sx_var (pv 3)) (sl_nil lrA))))))))
  (ss_one (ss_ret (se_var (pv 2))))))
abbrev s_derived : Stmt := topS 22
abbrev N_derived : List Str := ["one", "k"]
theorem sc_derived : FnScope ["one", "k"] ["one"] (defScope s_derived) := ⟨rfl, rfl, rfl, by decide +kernel, rfl, by decide +kernel, by decide +kernel⟩
theorem ok_derived (Z : Nm mg) (Df : DefAt K mg "derived" s_derived)  (h_times : FOk P w K mg base 3 "times" ["one", "other"] m_times) (h_trimmed : FOk P w K mg base 1 "trimmed" ["row"] m_trimmed) : FOk P w K mg base 4 "derived" ["one"] m_derived :=
  fn_ok (N := ["one", "k"]) Df sc_derived (fun _ _ _ _ _ _ us hl => match us, hl with | [_], _ => rfl) fun f cdv A outer s H E G c =>
  (ss_one (ss_ret (se_call c h_trimmed (by decide) (by rfl) (sl_cons lrA (sx_of (se_of (sf_lc (own := [("k", 1)]) (t := (.nm 1)) c (si_rng2 Z.z_range se_int (se_callB lenC (by rfl) Z.z_len bt_len (sl_cons lrW (sw_var (pv 0)) (sl_nil lrW)))) (blkOk_by (N := N_derived) (sc := defScope s_derived) (by decide +kernel)) (fun bs6 bH6 _ _ bp6 => (pg_name (i := 1) (c.blk bs6 bH6 _ _ bp6).nd rfl (by first | exact Or.inl rfl | exact Or.inr rfl))) (fun _ _ _ _ _ => spt_nil) (fun bs6 bH6 _ _ bp6 => (se_call (c.blk bs6 bH6 _ _ bp6) h_times (by decide) (by rfl) (sl_cons lrA (sx_of (se_ix (sw_var (pv 0)) (se_var (pv 1)))) (sl_cons lrA (sx_of (se_tup (sl_cons lrD (se_var (pv 1)) (sl_cons lrD se_int (sl_nil lrD))))) (sl_nil lrA)))))))) (sl_nil lrA)))))
abbrev s_divided : Stmt := topS 23
abbrev N_divided : List Str := ["one", "other", "rest", "found", "k", "j"]
theorem sc_divided : FnScope ["one", "other", "rest", "found", "k", "j"] ["one", "other"] (defScope s_divided) := ⟨rfl, rfl, rfl, by decide +kernel, rfl, by decide +kernel, by decide +kernel⟩
theorem ok_divided (Z : Nm mg) (Df : DefAt K mg "divided" s_divided) (h_Misstep : EOk P w K mg base "Misstep" "word") (h_minus : FOk P w K mg base 3 "minus" ["one", "other"] m_minus) (h_over : FOk P w K mg base 3 "over" ["one", "other"] m_over) (h_times : FOk P w K mg base 3 "times" ["one", "other"] m_times) (h_trimmed : FOk P w K mg base 1 "trimmed" ["row"] m_trimmed) : FOk P w K mg base 4 "divided" ["one", "other"] m_divided :=
  fn_ok (N := ["one", "other", "rest", "found", "k", "j"]) Df sc_divided (fun _ _ _ _ _ _ us hl => match us, hl with | [_, _], _ => rfl) fun f cdv A outer s H E G c =>
  (ss_cons (ss_if (sb_cmp (eqO c.u64) (sw_of (se_callB lenC (by rfl) Z.z_len bt_len (sl_cons lrW (sw_var (pv 1)) (sl_nil lrW)))) (sw_of se_int)) (ss_one (ss_raise c h_Misstep (by decide) (by rfl) se_str)) ss_nil)
  (ss_cons (ss_par (i := 2) (j := 3) c rfl rfl (by decide) rfl rfl (sv_ow (sf_list (by rfl) Z.z_list bt_list (sw_var (pv 0)))) (sv_ow (sf_rep (sf_lst (sl_cons lrD (se_tup (sl_cons lrD se_int (sl_cons lrD se_int (sl_nil lrD)))) (sl_nil lrD))) (se_callB (maxC c.calm) (by rfl) Z.z_max bt_max (sl_cons lrW (sw_of se_int) (sl_cons lrW (sw_of (se_bin addO (sw_of (se_bin subO (sw_of (se_callB lenC (by rfl) Z.z_len bt_len (sl_cons lrW (sw_var (pv 0)) (sl_nil lrW)))) (sw_of (se_callB lenC (by rfl) Z.z_len bt_len (sl_cons lrW (sw_var (pv 1)) (sl_nil lrW)))))) (sw_of se_int))) (sl_nil lrW)))))) (by rfl))
  (ss_cons (ss_for (t := (.nm 4)) c (si_rngD Z.z_range (se_bin subO (sw_of (se_callB lenC (by rfl) Z.z_len bt_len (sl_cons lrW (sw_var (pv 0)) (sl_nil lrW)))) (sw_of (se_callB lenC (by rfl) Z.z_len bt_len (sl_cons lrW (sw_var (pv 1)) (sl_nil lrW))))) (se_neg se_int) (se_neg se_int)) (pg_name (i := 4) c.nd rfl (by first | exact Or.inl rfl | exact Or.inr rfl)) (ss_cons (ss_sto (pv 3) (se_var (pv 4)) (se_call c h_over (by decide) (by rfl) (sl_cons lrA (sx_of (se_ix (sw_var (pv 2)) (se_bin subO (sw_of (se_bin addO (sw_var (pv 4)) (sw_of (se_callB lenC (by rfl) Z.z_len bt_len (sl_cons lrW (sw_var (pv 1)) (sl_nil lrW)))))) (sw_of se_int)))) (sl_cons lrA (sx_of (se_ix (sw_var (pv 1)) (se_neg se_int))) (sl_nil lrA)))))
  (ss_one (ss_for (t := (.nm 5)) c (si_rng1 Z.z_range (se_callB lenC (by rfl) Z.z_len bt_len (sl_cons lrW (sw_var (pv 1)) (sl_nil lrW)))) (pg_name (i := 5) c.nd rfl (by first | exact Or.inl rfl | exact Or.inr rfl)) (ss_one (ss_sto (pv 2) (se_bin addO (sw_var (pv 4)) (sw_var (pv 5))) (se_call c h_minus (by decide) (by rfl) (sl_cons lrA (sx_of (se_ix (sw_var (pv 2)) (se_bin addO (sw_var (pv 4)) (sw_var (pv 5))))) (sl_cons lrA (sx_of (se_call c h_times (by decide) (by rfl) (sl_cons lrA (sx_of (se_ix (sw_var (pv 3)) (se_var (pv 4)))) (sl_cons lrA (sx_of (se_ix (sw_var (pv 1)) (se_var (pv 5)))) (sl_nil lrA))))) (sl_nil lrA))))))))))
  (ss_one (ss_ret (se_tup (sl_cons lrD (se_callL c h_trimmed (by decide) (by rfl) (sl_cons lrA (sx_var (pv 3)) (sl_nil lrA))) (sl_cons lrD (se_callL c h_trimmed (by decide) (by rfl) (sl_cons lrA (sx_var (pv 2)) (sl_nil lrA))) (sl_nil lrD)))))))))
abbrev s_monic : Stmt := topS 24
abbrev N_monic : List Str := ["one"]
theorem sc_monic : FnScope ["one"] ["one"] (defScope s_monic) := ⟨rfl, rfl, rfl, by decide +kernel, rfl, by decide +kernel, by decide +kernel⟩
theorem ok_monic (Z : Nm mg) (Df : DefAt K mg "monic" s_monic)  (h_over : FOk P w K mg base 3 "over" ["one", "other"] m_over) (h_scaled : FOk P w K mg base 4 "scaled" ["one", "factor"] m_scaled) : FOk P w K mg base 5 "monic" ["one"] m_monic :=
  fn_ok (N := ["one"]) Df sc_monic (fun _ _ _ _ _ _ us hl => match us, hl with | [_], _ => rfl) fun f cdv A outer s H E G c =>
  (ss_one (ss_ret (sg_if (sb_cmp gtO (sw_of (se_callB lenC (by rfl) Z.z_len bt_len (sl_cons lrW (sw_var (pv 0)) (sl_nil lrW)))) (sw_of se_int)) (se_call c h_scaled (by decide) (by rfl) (sl_cons lrA (sx_var (pv 0)) (sl_cons lrA (sx_of (se_call c h_over (by decide) (by rfl) (sl_cons lrA (sx_of (se_tup (sl_cons lrD se_int (sl_cons lrD se_int (sl_nil lrD))))) (sl_cons lrA (sx_of (se_ix (sw_var (pv 0)) (se_neg se_int))) (sl_nil lrA))))) (sl_nil lrA)))) (se_tup (sl_nil lrD)))))
abbrev s_common : Stmt := topS 25
abbrev N_common : List Str := ["one", "other"]
theorem sc_common : FnScope ["one", "other"] ["one", "other"] (defScope s_common) := ⟨rfl, rfl, rfl, by decide +kernel, rfl, by decide +kernel, by decide +kernel⟩
theorem ok_common (Z : Nm mg) (Df : DefAt K mg "common" s_common)  (h_divided : FOk P w K mg base 4 "divided" ["one", "other"] m_divided) (h_monic : FOk P w K mg base 5 "monic" ["one"] m_monic) : FOk P w K mg base 6 "common" ["one", "other"] m_common :=
  fn_ok (N := ["one", "other"]) Df sc_common (fun _ _ _ _ _ _ us hl => match us, hl with | [_, _], _ => rfl) fun f cdv A outer s H E G c =>
  (ss_cons (ss_while fu_common_1 c (sb_cmp gtO (sw_of (se_callB lenC (by rfl) Z.z_len bt_len (sl_cons lrW (sw_var (pv 1)) (sl_nil lrW)))) (sw_of se_int)) (ss_one (ss_par (i := 0) (j := 1) c rfl rfl (by decide) rfl rfl (sv_of (se_var (pv 1))) (sv_of (se_ix (sw_of (se_call c h_divided (by decide) (by rfl) (sl_cons lrA (sx_var (pv 0)) (sl_cons lrA (sx_var (pv 1)) (sl_nil lrA))))) se_int)) (by rfl))))
  (ss_one (ss_ret (se_call c h_monic (by decide) (by rfl) (sl_cons lrA (sx_var (pv 0)) (sl_nil lrA))))))
abbrev s_shares : Stmt := topS 26
abbrev N_shares : List Str := ["one", "other", "first", "second", "step", "k", "back", "told"]
theorem sc_shares : FnScope ["one", "other", "first", "second", "step", "k", "back", "told"] ["one", "other"] (defScope s_shares) := ⟨rfl, rfl, rfl, by decide +kernel, rfl, by decide +kernel, by decide +kernel⟩
theorem ok_shares (Z : Nm mg) (Df : DefAt K mg "shares" s_shares) (h_Misstep : EOk P w K mg base "Misstep" "word") (h_divided : FOk P w K mg base 4 "divided" ["one", "other"] m_divided) (h_less : FOk P w K mg base 5 "less" ["one", "other"] m_less) (h_over : FOk P w K mg base 3 "over" ["one", "other"] m_over) (h_product : FOk P w K mg base 4 "product" ["one", "other"] m_product) (h_scaled : FOk P w K mg base 4 "scaled" ["one", "factor"] m_scaled) : FOk P w K mg base 6 "shares" ["one", "other"] m_shares :=
  fn_ok (N := ["one", "other", "first", "second", "step", "k", "back", "told"]) Df sc_shares (fun _ _ _ _ _ _ us hl => match us, hl with | [_, _], _ => rfl) fun f cdv A outer s H E G c =>
  (ss_cons (ss_unp (t := (.tp [2, 3])) (se_tup (sl_cons lrD (se_tup (sl_cons lrD (se_var (pv 0)) (sl_cons lrD (se_tup (sl_cons lrD (se_tup (sl_cons lrD se_int (sl_cons lrD se_int (sl_nil lrD)))) (sl_nil lrD))) (sl_cons lrD (se_tup (sl_nil lrD)) (sl_nil lrD))))) (sl_cons lrD (se_tup (sl_cons lrD (se_var (pv 1)) (sl_cons lrD (se_tup (sl_nil lrD)) (sl_cons lrD (se_tup (sl_cons lrD (se_tup (sl_cons lrD se_int (sl_cons lrD se_int (sl_nil lrD)))) (sl_nil lrD))) (sl_nil lrD))))) (sl_nil lrD)))) (pg_tup c.calm (pgs_cons (pg_name (i := 2) c.nd rfl (by first | exact Or.inl rfl | exact Or.inr rfl)) (pgs_cons (pg_name (i := 3) c.nd rfl (by first | exact Or.inl rfl | exact Or.inr rfl)) pgs_nil))))
  (ss_cons (ss_while fu_shares_1 c (sb_cmp gtO (sw_of (se_callB lenC (by rfl) Z.z_len bt_len (sl_cons lrW (sw_of (se_ix (sw_var (pv 3)) se_int)) (sl_nil lrW)))) (sw_of se_int)) (ss_cons (ss_set (i := 4) c rfl (Or.inr rfl) (sv_of (se_ix (sw_of (se_call c h_divided (by decide) (by rfl) (sl_cons lrA (sx_of (se_ix (sw_var (pv 2)) se_int)) (sl_cons lrA (sx_of (se_ix (sw_var (pv 3)) se_int)) (sl_nil lrA))))) se_int)))
  (ss_one (ss_unp (t := (.tp [2, 3])) (se_tup (sl_cons lrD (se_var (pv 3)) (sl_cons lrD (se_callTy tupC (by rfl) Z.z_tuple bt_tuple (sl_cons lrW (sw_of (se_of (sf_lc (own := [("k", 5)]) (t := (.nm 5)) c (si_rng1 Z.z_range se_int) (blkOk_by (N := N_shares) (sc := defScope s_shares) (by decide +kernel)) (fun bs7 bH7 _ _ bp7 => (pg_name (i := 5) (c.blk bs7 bH7 _ _ bp7).nd rfl (by first | exact Or.inl rfl | exact Or.inr rfl))) (fun _ _ _ _ _ => spt_nil) (fun bs7 bH7 _ _ bp7 => (se_call (c.blk bs7 bH7 _ _ bp7) h_less (by decide) (by rfl) (sl_cons lrA (sx_of (se_ix (sw_var (pv 2)) (se_var (pv 5)))) (sl_cons lrA (sx_of (se_call (c.blk bs7 bH7 _ _ bp7) h_product (by decide) (by rfl) (sl_cons lrA (sx_var (pv 4)) (sl_cons lrA (sx_of (se_ix (sw_var (pv 3)) (se_var (pv 5)))) (sl_nil lrA))))) (sl_nil lrA)))))))) (sl_nil lrW))) (sl_nil lrD)))) (pg_tup c.calm (pgs_cons (pg_name (i := 2) c.nd rfl (by first | exact Or.inl rfl | exact Or.inr rfl)) (pgs_cons (pg_name (i := 3) c.nd rfl (by first | exact Or.inl rfl | exact Or.inr rfl)) pgs_nil)))))))
  (ss_cons (ss_if (sb_cmp (eqO c.u64) (sw_of (se_callB lenC (by rfl) Z.z_len bt_len (sl_cons lrW (sw_of (se_ix (sw_var (pv 2)) se_int)) (sl_nil lrW)))) (sw_of se_int)) (ss_one (ss_raise c h_Misstep (by decide) (by rfl) se_str)) ss_nil)
  (ss_cons (ss_set (i := 6) c rfl (Or.inr rfl) (sv_of (se_call c h_over (by decide) (by rfl) (sl_cons lrA (sx_of (se_tup (sl_cons lrD se_int (sl_cons lrD se_int (sl_nil lrD))))) (sl_cons lrA (sx_of (se_ix (sw_of (se_ix (sw_var (pv 2)) se_int)) (se_neg se_int))) (sl_nil lrA))))))
  (ss_one (ss_ret (se_callTy tupC (by rfl) Z.z_tuple bt_tuple (sl_cons lrW (sw_of (se_of (sf_lc (own := [("told", 7)]) (t := (.nm 7)) c (si_of (se_var (pv 2))) (blkOk_by (N := N_shares) (sc := defScope s_shares) (by decide +kernel)) (fun bs8 bH8 _ _ bp8 => (pg_name (i := 7) (c.blk bs8 bH8 _ _ bp8).nd rfl (by first | exact Or.inl rfl | exact Or.inr rfl))) (fun _ _ _ _ _ => spt_nil) (fun bs8 bH8 _ _ bp8 => (se_call (c.blk bs8 bH8 _ _ bp8) h_scaled (by decide) (by rfl) (sl_cons lrA (sx_var (pv 7)) (sl_cons lrA (sx_var (pv 6)) (sl_nil lrA)))))))) (sl_nil lrW)))))))))
abbrev s_moved : Stmt := topS 27
abbrev N_moved : List Str := ["one", "step", "found", "factor"]
theorem sc_moved : FnScope ["one", "step", "found", "factor"] ["one", "step"] (defScope s_moved) := ⟨rfl, rfl, rfl, by decide +kernel, rfl, by decide +kernel, by decide +kernel⟩
theorem ok_moved (Z : Nm mg) (Df : DefAt K mg "moved" s_moved)  (h_added : FOk P w K mg base 4 "added" ["one", "other"] m_added) (h_product : FOk P w K mg base 4 "product" ["one", "other"] m_product) (h_trimmed : FOk P w K mg base 1 "trimmed" ["row"] m_trimmed) : FOk P w K mg base 5 "moved" ["one", "step"] m_moved :=
  fn_ok (N := ["one", "step", "found", "factor"]) Df sc_moved (fun _ _ _ _ _ _ us hl => match us, hl with | [_, _], _ => rfl) fun f cdv A outer s H E G c =>
  (ss_cons (ss_set (i := 2) c rfl (Or.inl rfl) (sv_of (se_tup (sl_nil lrD))))
  (ss_cons (ss_for (t := (.nm 3)) c (si_of (se_rev (sw_var (pv 0)))) (pg_name (i := 3) c.nd rfl (by first | exact Or.inl rfl | exact Or.inr rfl)) (ss_one (ss_set (i := 2) c rfl (Or.inl rfl) (sv_of (se_call c h_added (by decide) (by rfl) (sl_cons lrA (sx_of (se_call c h_product (by decide) (by rfl) (sl_cons lrA (sx_var (pv 2)) (sl_cons lrA (sx_of (se_tup (sl_cons lrD (se_var (pv 1)) (sl_cons lrD (se_tup (sl_cons lrD se_int (sl_cons lrD se_int (sl_nil lrD)))) (sl_nil lrD))))) (sl_nil lrA))))) (sl_cons lrA (sx_of (se_call c h_trimmed (by decide) (by rfl) (sl_cons lrA (sx_of (se_of (sf_lst (sl_cons lrD (se_var (pv 3)) (sl_nil lrD))))) (sl_nil lrA)))) (sl_nil lrA))))))))
  (ss_one (ss_ret (se_var (pv 2))))))
abbrev s_inside : Stmt := topS 28
abbrev N_inside : List Str := ["one", "other", "found", "factor"]
theorem sc_inside : FnScope ["one", "other", "found", "factor"] ["one", "other"] (defScope s_inside) := ⟨rfl, rfl, rfl, by decide +kernel, rfl, by decide +kernel, by decide +kernel⟩
theorem ok_inside (Z : Nm mg) (Df : DefAt K mg "inside" s_inside)  (h_added : FOk P w K mg base 4 "added" ["one", "other"] m_added) (h_product : FOk P w K mg base 4 "product" ["one", "other"] m_product) (h_trimmed : FOk P w K mg base 1 "trimmed" ["row"] m_trimmed) : FOk P w K mg base 5 "inside" ["one", "other"] m_inside :=
  fn_ok (N := ["one", "other", "found", "factor"]) Df sc_inside (fun _ _ _ _ _ _ us hl => match us, hl with | [_, _], _ => rfl) fun f cdv A outer s H E G c =>
  (ss_cons (ss_set (i := 2) c rfl (Or.inl rfl) (sv_of (se_tup (sl_nil lrD))))
  (ss_cons (ss_for (t := (.nm 3)) c (si_of (se_rev (sw_var (pv 0)))) (pg_name (i := 3) c.nd rfl (by first | exact Or.inl rfl | exact Or.inr rfl)) (ss_one (ss_set (i := 2) c rfl (Or.inl rfl) (sv_of (se_call c h_added (by decide) (by rfl) (sl_cons lrA (sx_of (se_call c h_product (by decide) (by rfl) (sl_cons lrA (sx_var (pv 2)) (sl_cons lrA (sx_var (pv 1)) (sl_nil lrA))))) (sl_cons lrA (sx_of (se_call c h_trimmed (by decide) (by rfl) (sl_cons lrA (sx_of (se_of (sf_lst (sl_cons lrD (se_var (pv 3)) (sl_nil lrD))))) (sl_nil lrA)))) (sl_nil lrA))))))))
  (ss_one (ss_ret (se_var (pv 2))))))
abbrev s_is_simple : Stmt := topS 29
abbrev N_is_simple : List Str := ["one"]
theorem sc_is_simple : FnScope ["one"] ["one"] (defScope s_is_simple) := ⟨rfl, rfl, rfl, by decide +kernel, rfl, by decide +kernel, by decide +kernel⟩
theorem ok_is_simple (Z : Nm mg) (Df : DefAt K mg "is_simple" s_is_simple)  (h_common : FOk P w K mg base 6 "common" ["one", "other"] m_common) (h_derived : FOk P w K mg base 4 "derived" ["one"] m_derived) : FOk P w K mg base 7 "is_simple" ["one"] m_is_simple :=
  fn_ok (N := ["one"]) Df sc_is_simple (fun _ _ _ _ _ _ us hl => match us, hl with | [_], _ => rfl) fun f cdv A outer s H E G c =>
  (ss_one (ss_ret (se_cmp leO (sw_of (se_callB lenC (by rfl) Z.z_len bt_len (sl_cons lrW (sw_of (se_call c h_common (by decide) (by rfl) (sl_cons lrA (sx_var (pv 0)) (sl_cons lrA (sx_of (se_call c h_derived (by decide) (by rfl) (sl_cons lrA (sx_var (pv 0)) (sl_nil lrA)))) (sl_nil lrA))))) (sl_nil lrW)))) (sw_of se_int))))
abbrev s_through : Stmt := topS 30
abbrev N_through : List Str := ["points", "at", "value", "found", "line", "gap"]
theorem sc_through : FnScope ["points", "at", "value", "found", "line", "gap"] ["points"] (defScope s_through) := ⟨rfl, rfl, rfl, by decide +kernel, rfl, by decide +kernel, by decide +kernel⟩
theorem ok_through (Z : Nm mg) (Df : DefAt K mg "through" s_through) (h_Misstep : EOk P w K mg base "Misstep" "word") (h_added : FOk P w K mg base 4 "added" ["one", "other"] m_added) (h_minus : FOk P w K mg base 3 "minus" ["one", "other"] m_minus) (h_over : FOk P w K mg base 3 "over" ["one", "other"] m_over) (h_product : FOk P w K mg base 4 "product" ["one", "other"] m_product) (h_scaled : FOk P w K mg base 4 "scaled" ["one", "factor"] m_scaled) (h_times : FOk P w K mg base 3 "times" ["one", "other"] m_times) (h_value_at : FOk P w K mg base 4 "value_at" ["one", "place"] m_value_at) : FOk P w K mg base 5 "through" ["points"] m_through :=
  fn_ok (N := ["points", "at", "value", "found", "line", "gap"]) Df sc_through (fun _ _ _ _ _ _ us hl => match us, hl with | [_], _ => rfl) fun f cdv A outer s H E G c =>
  (ss_cons (ss_if (sb_cmp (neO c.u64) (sw_of (se_lenSet c (by rfl) Z.z_len (by rfl) Z.z_set (se_of (sf_lc (own := [("at", 1), ("value", 2)]) (t := (.tp [1, 2])) c (si_of (se_var (pv 0))) (blkOk_by (N := N_through) (sc := defScope s_through) (by decide +kernel)) (fun bs9 bH9 _ _ bp9 => (pg_tup (c.blk bs9 bH9 _ _ bp9).calm (pgs_cons (pg_name (i := 1) (c.blk bs9 bH9 _ _ bp9).nd rfl (by first | exact Or.inl rfl | exact Or.inr rfl)) (pgs_cons (pg_name (i := 2) (c.blk bs9 bH9 _ _ bp9).nd rfl (by first | exact Or.inl rfl | exact Or.inr rfl)) pgs_nil)))) (fun _ _ _ _ _ => spt_nil) (fun bs9 bH9 _ _ bp9 => (se_var (pv 1))))))) (sw_of (se_callB lenC (by rfl) Z.z_len bt_len (sl_cons lrW (sw_var (pv 0)) (sl_nil lrW))))) (ss_one (ss_raise c h_Misstep (by decide) (by rfl) se_str)) ss_nil)
  (ss_cons (ss_unp (t := (.tp [3, 4])) (se_tup (sl_cons lrD (se_tup (sl_nil lrD)) (sl_cons lrD (se_tup (sl_cons lrD (se_tup (sl_cons lrD se_int (sl_cons lrD se_int (sl_nil lrD)))) (sl_nil lrD))) (sl_nil lrD)))) (pg_tup c.calm (pgs_cons (pg_name (i := 3) c.nd rfl (by first | exact Or.inl rfl | exact Or.inr rfl)) (pgs_cons (pg_name (i := 4) c.nd rfl (by first | exact Or.inl rfl | exact Or.inr rfl)) pgs_nil))))
  (ss_cons (ss_for (t := (.tp [1, 2])) c (si_of (se_var (pv 0))) (pg_tup c.calm (pgs_cons (pg_name (i := 1) c.nd rfl (by first | exact Or.inl rfl | exact Or.inr rfl)) (pgs_cons (pg_name (i := 2) c.nd rfl (by first | exact Or.inl rfl | exact Or.inr rfl)) pgs_nil))) (ss_cons (ss_set (i := 5) c rfl (Or.inl rfl) (sv_of (se_call c h_minus (by decide) (by rfl) (sl_cons lrA (sx_var (pv 2)) (sl_cons lrA (sx_of (se_call c h_value_at (by decide) (by rfl) (sl_cons lrA (sx_var (pv 3)) (sl_cons lrA (sx_var (pv 1)) (sl_nil lrA))))) (sl_nil lrA))))))
  (ss_cons (ss_set (i := 3) c rfl (Or.inl rfl) (sv_of (se_call c h_added (by decide) (by rfl) (sl_cons lrA (sx_var (pv 3)) (sl_cons lrA (sx_of (se_call c h_scaled (by decide) (by rfl) (sl_cons lrA (sx_var (pv 4)) (sl_cons lrA (sx_of (se_call c h_over (by decide) (by rfl) (sl_cons lrA (sx_var (pv 5)) (sl_cons lrA (sx_of (se_call c h_value_at (by decide) (by rfl) (sl_cons lrA (sx_var (pv 4)) (sl_cons lrA (sx_var (pv 1)) (sl_nil lrA))))) (sl_nil lrA))))) (sl_nil lrA))))) (sl_nil lrA))))))
  (ss_one (ss_set (i := 4) c rfl (Or.inl rfl) (sv_of (se_call c h_product (by decide) (by rfl) (sl_cons lrA (sx_var (pv 4)) (sl_cons lrA (sx_of (se_tup (sl_cons lrD (se_call c h_times (by decide) (by rfl) (sl_cons lrA (sx_of (se_tup (sl_cons lrD (se_bin subO (sw_of se_int) (sw_of se_int)) (sl_cons lrD se_int (sl_nil lrD))))) (sl_cons lrA (sx_var (pv 1)) (sl_nil lrA)))) (sl_cons lrD (se_tup (sl_cons lrD se_int (sl_cons lrD se_int (sl_nil lrD)))) (sl_nil lrD))))) (sl_nil lrA))))))))))
  (ss_one (ss_ret (se_var (pv 3)))))))
abbrev s_turned : Stmt := topS 31
abbrev N_turned : List Str := ["one", "k"]
theorem sc_turned : FnScope ["one", "k"] ["one"] (defScope s_turned) := ⟨rfl, rfl, rfl, by decide +kernel, rfl, by decide +kernel, by decide +kernel⟩
theorem ok_turned (Z : Nm mg) (Df : DefAt K mg "turned" s_turned)  (h_times : FOk P w K mg base 3 "times" ["one", "other"] m_times) : FOk P w K mg base 4 "turned" ["one"] m_turned :=
  fn_ok (N := ["one", "k"]) Df sc_turned (fun _ _ _ _ _ _ us hl => match us, hl with | [_], _ => rfl) fun f cdv A outer s H E G c =>
  (ss_one (ss_ret (se_callTy tupC (by rfl) Z.z_tuple bt_tuple (sl_cons lrW (sw_of (se_of (sf_lc (own := [("k", 1)]) (t := (.nm 1)) c (si_rng1 Z.z_range (se_callB lenC (by rfl) Z.z_len bt_len (sl_cons lrW (sw_var (pv 0)) (sl_nil lrW)))) (blkOk_by (N := N_turned) (sc := defScope s_turned) (by decide +kernel)) (fun bs10 bH10 _ _ bp10 => (pg_name (i := 1) (c.blk bs10 bH10 _ _ bp10).nd rfl (by first | exact Or.inl rfl | exact Or.inr rfl))) (fun _ _ _ _ _ => spt_nil) (fun bs10 bH10 _ _ bp10 => (sg_if (sb_cmp (eqO (c.blk bs10 bH10 _ _ bp10).u64) (sw_of (se_bin modO (sw_var (pv 1)) (sw_of se_int))) (sw_of se_int)) (se_ix (sw_var (pv 0)) (se_var (pv 1))) (se_call (c.blk bs10 bH10 _ _ bp10) h_times (by decide) (by rfl) (sl_cons lrA (sx_of (se_ix (sw_var (pv 0)) (se_var (pv 1)))) (sl_cons lrA (sx_of (se_tup (sl_cons lrD (se_bin subO (sw_of se_int) (sw_of se_int)) (sl_cons lrD se_int (sl_nil lrD))))) (sl_nil lrA))))))))) (sl_nil lrW)))))
abbrev s_back : Stmt := topS 32
abbrev N_back : List Str := ["one", "size", "row"]
theorem sc_back : FnScope ["one", "size", "row"] ["one", "size"] (defScope s_back) := ⟨rfl, rfl, rfl, by decide +kernel, rfl, by decide +kernel, by decide +kernel⟩
theorem ok_back (Z : Nm mg) (Df : DefAt K mg "back" s_back)  (h_trimmed : FOk P w K mg base 1 "trimmed" ["row"] m_trimmed) : FOk P w K mg base 2 "back" ["one", "size"] m_back :=
  fn_ok (N := ["one", "size", "row"]) Df sc_back (fun _ _ _ _ _ _ us hl => match us, hl with | [_, _], _ => rfl) fun f cdv A outer s H E G c =>
  (ss_cons (ss_set (i := 2) c rfl (Or.inl rfl) (sv_of (se_of (sf_cat (sw_of (se_of (sf_list (by rfl) Z.z_list bt_list (sw_var (pv 0))))) (sw_of (se_of (sf_rep (sf_lst (sl_cons lrD (se_tup (sl_cons lrD se_int (sl_cons lrD se_int (sl_nil lrD)))) (sl_nil lrD))) (se_bin subO (sw_of (se_bin addO (sw_var (pv 1)) (sw_of se_int))) (sw_of (se_callB lenC (by rfl) Z.z_len bt_len (sl_cons lrW (sw_var (pv 0)) (sl_nil lrW))))))))))))
  (ss_one (ss_ret (se_call c h_trimmed (by decide) (by rfl) (sl_cons lrA (sx_of (se_rev (sw_var (pv 2)))) (sl_nil lrA))))))
abbrev s_line : Stmt := topS 33
abbrev N_line : List Str := ["number"]
theorem sc_line : FnScope ["number"] ["number"] (defScope s_line) := ⟨rfl, rfl, rfl, by decide +kernel, rfl, by decide +kernel, by decide +kernel⟩
theorem ok_line (Z : Nm mg) (Df : DefAt K mg "line" s_line)  (h_times : FOk P w K mg base 3 "times" ["one", "other"] m_times) : FOk P w K mg base 4 "line" ["number"] m_line :=
  fn_ok (N := ["number"]) Df sc_line (fun _ _ _ _ _ _ us hl => match us, hl with | [_], _ => rfl) fun f cdv A outer s H E G c =>
  (ss_one (ss_ret (se_tup (sl_cons lrD (se_call c h_times (by decide) (by rfl) (sl_cons lrA (sx_of (se_tup (sl_cons lrD (se_bin subO (sw_of se_int) (sw_of se_int)) (sl_cons lrD se_int (sl_nil lrD))))) (sl_cons lrA (sx_var (pv 0)) (sl_nil lrA)))) (sl_cons lrD (se_tup (sl_cons lrD se_int (sl_cons lrD se_int (sl_nil lrD)))) (sl_nil lrD))))))
abbrev s_from_roots : Stmt := topS 34
abbrev N_from_roots : List Str := ["row", "found", "number"]
theorem sc_from_roots : FnScope ["row", "found", "number"] ["row"] (defScope s_from_roots) := ⟨rfl, rfl, rfl, by decide +kernel, rfl, by decide +kernel, by decide +kernel⟩
theorem ok_from_roots (Z : Nm mg) (Df : DefAt K mg "from_roots" s_from_roots)  (h_line : FOk P w K mg base 4 "line" ["number"] m_line) (h_product : FOk P w K mg base 4 "product" ["one", "other"] m_product) : FOk P w K mg base 5 "from_roots" ["row"] m_from_roots :=
  fn_ok (N := ["row", "found", "number"]) Df sc_from_roots (fun _ _ _ _ _ _ us hl => match us, hl with | [_], _ => rfl) fun f cdv A outer s H E G c =>
  (ss_cons (ss_set (i := 1) c rfl (Or.inl rfl) (sv_of (se_tup (sl_cons lrD (se_tup (sl_cons lrD se_int (sl_cons lrD se_int (sl_nil lrD)))) (sl_nil lrD)))))
  (ss_cons (ss_for (t := (.nm 2)) c (si_of (se_var (pv 0))) (pg_name (i := 2) c.nd rfl (by first | exact Or.inl rfl | exact Or.inr rfl)) (ss_one (ss_set (i := 1) c rfl (Or.inl rfl) (sv_of (se_call c h_product (by decide) (by rfl) (sl_cons lrA (sx_var (pv 1)) (sl_cons lrA (sx_of (se_call c h_line (by decide) (by rfl) (sl_cons lrA (sx_var (pv 2)) (sl_nil lrA)))) (sl_nil lrA))))))))
  (ss_one (ss_ret (se_var (pv 1))))))
abbrev s_law_state : Stmt := topS 36
abbrev N__law_state : List Str := ["script", "cells", "cell"]
theorem sc__law_state : FnScope ["script", "cells", "cell"] ["script"] (defScope s_law_state) := ⟨rfl, rfl, rfl, by decide +kernel, rfl, by decide +kernel, by decide +kernel⟩
abbrev s_law_take : Stmt := topS 37
abbrev N__law_take : List Str := ["state", "most", "cells", "at", "cell", "mixed"]
theorem sc__law_take : FnScope ["state", "most", "cells", "at", "cell", "mixed"] ["state", "most"] (defScope s_law_take) := ⟨rfl, rfl, rfl, by decide +kernel, rfl, by decide +kernel, by decide +kernel⟩
abbrev s_law_pick : Stmt := topS 38
abbrev N__law_pick : List Str := ["state", "row"]
theorem sc__law_pick : FnScope ["state", "row"] ["state", "row"] (defScope s_law_pick) := ⟨rfl, rfl, rfl, by decide +kernel, rfl, by decide +kernel, by decide +kernel⟩
theorem ok__law_pick (Z : Nm mg) (Df : DefAt K mg "_law_pick" s_law_pick)  (h__law_take : FOk P w K mg base 1 "_law_take" ["state", "most"] m__law_take) : FOk P w K mg base 2 "_law_pick" ["state", "row"] m__law_pick :=
  fn_ok (N := ["state", "row"]) Df sc__law_pick (fun _ _ _ _ _ _ us hl => match us, hl with | [_, _], _ => rfl) fun f cdv A outer s H E G c =>
  (ss_one (ss_ret (se_ix (sw_var (pv 1)) (se_call c h__law_take (by decide) (by rfl) (sl_cons lrA (sx_var (pv 0)) (sl_cons lrA (sx_of (se_callB lenC (by rfl) Z.z_len bt_len (sl_cons lrW (sw_var (pv 1)) (sl_nil lrW)))) (sl_nil lrA)))))))
abbrev s_law_fr : Stmt := topS 39
abbrev N__law_fr : List Str := ["above", "below", "one", "other", "turn"]
theorem sc__law_fr : FnScope ["above", "below", "one", "other", "turn"] ["above", "below"] (defScope s_law_fr) := ⟨rfl, rfl, rfl, by decide +kernel, rfl, by decide +kernel, by decide +kernel⟩
theorem ok__law_fr (Z : Nm mg) (Df : DefAt K mg "_law_fr" s_law_fr)   : FOk P w K mg base 1 "_law_fr" ["above", "below"] m__law_fr :=
  fn_ok (N := ["above", "below", "one", "other", "turn"]) Df sc__law_fr (fun _ _ _ _ _ _ us hl => match us, hl with | [_, _], _ => rfl) fun f cdv A outer s H E G c =>
  (ss_cons (ss_if (sb_cmp ltO (sw_var (pv 1)) (sw_of se_int)) (ss_one (ss_par (i := 0) (j := 1) c rfl rfl (by decide) rfl rfl (sv_of (se_bin subO (sw_of se_int) (sw_var (pv 0)))) (sv_of (se_bin subO (sw_of se_int) (sw_var (pv 1)))) (by rfl))) ss_nil)
  (ss_cons (ss_par (i := 2) (j := 3) c rfl rfl (by decide) rfl rfl (sv_of (se_callB absC (by rfl) Z.z_abs bt_abs (sl_cons lrW (sw_var (pv 0)) (sl_nil lrW)))) (sv_of (se_var (pv 1))) (by rfl))
  (ss_cons (ss_for (t := (.nm 4)) c (si_rng1 Z.z_range se_int) (pg_name (i := 4) c.nd rfl (by first | exact Or.inl rfl | exact Or.inr rfl)) (ss_cons (ss_if (sb_cmp (eqO c.u64) (sw_var (pv 3)) (sw_of se_int)) (ss_one ss_break) ss_nil)
  (ss_one (ss_par (i := 2) (j := 3) c rfl rfl (by decide) rfl rfl (sv_of (se_var (pv 3))) (sv_of (se_bin modO (sw_of (se_callTy intC (by rfl) Z.z_int bt_int (sl_cons lrW (sw_var (pv 2)) (sl_nil lrW)))) (sw_var (pv 3)))) (by rfl)))))
  (ss_one (ss_ret (se_tup (sl_cons lrD (se_bin fdivO (sw_var (pv 0)) (sw_var (pv 2))) (sl_cons lrD (se_bin fdivO (sw_var (pv 1)) (sw_var (pv 2))) (sl_nil lrD)))))))))
abbrev s_law_is_fr : Stmt := topS 40
abbrev N__law_is_fr : List Str := ["value", "n"]
theorem sc__law_is_fr : FnScope ["value", "n"] ["value"] (defScope s_law_is_fr) := ⟨rfl, rfl, rfl, by decide +kernel, rfl, by decide +kernel, by decide +kernel⟩
theorem ok__law_is_fr (Z : Nm mg) (Df : DefAt K mg "_law_is_fr" s_law_is_fr)  (h__law_fr : FOk P w K mg base 1 "_law_fr" ["above", "below"] m__law_fr) : FOk P w K mg base 2 "_law_is_fr" ["value"] m__law_is_fr :=
  fn_ok (N := ["value", "n"]) Df sc__law_is_fr (fun _ _ _ _ _ _ us hl => match us, hl with | [_], _ => rfl) fun f cdv A outer s H E G c =>
  (ss_cons (ss_if (sb_w (sbw_or (sb_not (sb_of_pe (se_isi kitTup (by rfl) Z.z_isinstance bt_isinstance (sw_var (pv 0)) (by rfl) Z.z_tuple bt_tuple))) (sbw_or (sb_cmp (neO c.u64) (sw_of (se_callB lenC (by rfl) Z.z_len bt_len (sl_cons lrW (sw_var (pv 0)) (sl_nil lrW)))) (sw_of se_int)) (sbw_or1 (sb_cmp gtO (sw_of (se_callB lenC (by rfl) Z.z_len bt_len (sl_cons lrW (sw_of (se_of (sf_lc (own := [("n", 1)]) (t := (.nm 1)) c (si_of (se_var (pv 0))) (blkOk_by (N := N__law_is_fr) (sc := defScope s_law_is_fr) (by decide +kernel)) (fun bs11 bH11 _ _ bp11 => (pg_name (i := 1) (c.blk bs11 bH11 _ _ bp11).nd rfl (by first | exact Or.inl rfl | exact Or.inr rfl))) (fun bs11 bH11 _ _ bp11 => spt_one (sb_w (sbw_or (sb_not (sb_of_pe (se_isi kitInt (by rfl) Z.z_isinstance bt_isinstance (sw_var (pv 1)) (by rfl) Z.z_int bt_int))) (sbw_or1 (sb_of_pe (se_isi kitBool (by rfl) Z.z_isinstance bt_isinstance (sw_var (pv 1)) (by rfl) Z.z_bool bt_bool)))))) (fun bs11 bH11 _ _ bp11 => (se_var (pv 1)))))) (sl_nil lrW)))) (sw_of se_int)))))) (ss_one (ss_ret se_bl)) ss_nil)
  (ss_one (ss_ret (se_and (se_cmp geO (sw_of (se_ix (sw_var (pv 0)) se_int)) (sw_of se_int)) (se_one (se_cmp (eqO c.u64) (sw_of (se_call c h__law_fr (by decide) (by rfl) (sl_cons lrA (sx_of (se_ix (sw_var (pv 0)) se_int)) (sl_cons lrA (sx_of (se_ix (sw_var (pv 0)) se_int)) (sl_nil lrA))))) (sw_var (pv 0))))))))
abbrev s_law_are_frs : Stmt := topS 41
abbrev N__law_are_frs : List Str := ["value", "many", "each"]
theorem sc__law_are_frs : FnScope ["value", "many", "each"] ["value", "many"] (defScope s_law_are_frs) := ⟨rfl, rfl, rfl, by decide +kernel, rfl, by decide +kernel, by decide +kernel⟩
theorem ok__law_are_frs (Z : Nm mg) (Df : DefAt K mg "_law_are_frs" s_law_are_frs)  (h__law_is_fr : FOk P w K mg base 2 "_law_is_fr" ["value"] m__law_is_fr) : FOk P w K mg base 3 "_law_are_frs" ["value", "many"] m__law_are_frs :=
  fn_ok (N := ["value", "many", "each"]) Df sc__law_are_frs (fun _ _ _ _ _ _ us hl => match us, hl with | [_, _], _ => rfl) fun f cdv A outer s H E G c =>
  (ss_one (ss_ret (se_and (se_isi kitTup (by rfl) Z.z_isinstance bt_isinstance (sw_var (pv 0)) (by rfl) Z.z_tuple bt_tuple) (se_and (se_cmp (eqO c.u64) (sw_of (se_callB lenC (by rfl) Z.z_len bt_len (sl_cons lrW (sw_var (pv 0)) (sl_nil lrW)))) (sw_var (pv 1))) (se_one (se_cmp (eqO c.u64) (sw_of (se_callB lenC (by rfl) Z.z_len bt_len (sl_cons lrW (sw_of (se_of (sf_lc (own := [("each", 2)]) (t := (.nm 2)) c (si_of (se_var (pv 0))) (blkOk_by (N := N__law_are_frs) (sc := defScope s_law_are_frs) (by decide +kernel)) (fun bs12 bH12 _ _ bp12 => (pg_name (i := 2) (c.blk bs12 bH12 _ _ bp12).nd rfl (by first | exact Or.inl rfl | exact Or.inr rfl))) (fun bs12 bH12 _ _ bp12 => spt_one (sb_not (sb_of_pe (se_call (c.blk bs12 bH12 _ _ bp12) h__law_is_fr (by decide) (by rfl) (sl_cons lrA (sx_var (pv 2)) (sl_nil lrA)))))) (fun bs12 bH12 _ _ bp12 => (se_var (pv 2)))))) (sl_nil lrW)))) (sw_of se_int)))))))
abbrev s_law_add : Stmt := topS 42
abbrev N__law_add : List Str := ["one", "other"]
theorem sc__law_add : FnScope ["one", "other"] ["one", "other"] (defScope s_law_add) := ⟨rfl, rfl, rfl, by decide +kernel, rfl, by decide +kernel, by decide +kernel⟩
theorem ok__law_add (Z : Nm mg) (Df : DefAt K mg "_law_add" s_law_add)  (h__law_fr : FOk P w K mg base 1 "_law_fr" ["above", "below"] m__law_fr) : FOk P w K mg base 2 "_law_add" ["one", "other"] m__law_add :=
  fn_ok (N := ["one", "other"]) Df sc__law_add (fun _ _ _ _ _ _ us hl => match us, hl with | [_, _], _ => rfl) fun f cdv A outer s H E G c =>
  (ss_one (ss_ret (se_call c h__law_fr (by decide) (by rfl) (sl_cons lrA (sx_of (se_bin addO (sw_of (se_bin mulO (sw_of (se_ix (sw_var (pv 0)) se_int)) (sw_of (se_ix (sw_var (pv 1)) se_int)))) (sw_of (se_bin mulO (sw_of (se_ix (sw_var (pv 1)) se_int)) (sw_of (se_ix (sw_var (pv 0)) se_int)))))) (sl_cons lrA (sx_of (se_bin mulO (sw_of (se_ix (sw_var (pv 0)) se_int)) (sw_of (se_ix (sw_var (pv 1)) se_int)))) (sl_nil lrA))))))
abbrev s_law_mul : Stmt := topS 43
abbrev N__law_mul : List Str := ["one", "other"]
theorem sc__law_mul : FnScope ["one", "other"] ["one", "other"] (defScope s_law_mul) := ⟨rfl, rfl, rfl, by decide +kernel, rfl, by decide +kernel, by decide +kernel⟩
theorem ok__law_mul (Z : Nm mg) (Df : DefAt K mg "_law_mul" s_law_mul)  (h__law_fr : FOk P w K mg base 1 "_law_fr" ["above", "below"] m__law_fr) : FOk P w K mg base 2 "_law_mul" ["one", "other"] m__law_mul :=
  fn_ok (N := ["one", "other"]) Df sc__law_mul (fun _ _ _ _ _ _ us hl => match us, hl with | [_, _], _ => rfl) fun f cdv A outer s H E G c =>
  (ss_one (ss_ret (se_call c h__law_fr (by decide) (by rfl) (sl_cons lrA (sx_of (se_bin mulO (sw_of (se_ix (sw_var (pv 0)) se_int)) (sw_of (se_ix (sw_var (pv 1)) se_int)))) (sl_cons lrA (sx_of (se_bin mulO (sw_of (se_ix (sw_var (pv 0)) se_int)) (sw_of (se_ix (sw_var (pv 1)) se_int)))) (sl_nil lrA))))))
abbrev s_law_sub : Stmt := topS 44
abbrev N__law_sub : List Str := ["one", "other"]
theorem sc__law_sub : FnScope ["one", "other"] ["one", "other"] (defScope s_law_sub) := ⟨rfl, rfl, rfl, by decide +kernel, rfl, by decide +kernel, by decide +kernel⟩
theorem ok__law_sub (Z : Nm mg) (Df : DefAt K mg "_law_sub" s_law_sub)  (h__law_add : FOk P w K mg base 2 "_law_add" ["one", "other"] m__law_add) : FOk P w K mg base 3 "_law_sub" ["one", "other"] m__law_sub :=
  fn_ok (N := ["one", "other"]) Df sc__law_sub (fun _ _ _ _ _ _ us hl => match us, hl with | [_, _], _ => rfl) fun f cdv A outer s H E G c =>
  (ss_one (ss_ret (se_call c h__law_add (by decide) (by rfl) (sl_cons lrA (sx_var (pv 0)) (sl_cons lrA (sx_of (se_tup (sl_cons lrD (se_bin subO (sw_of se_int) (sw_of (se_ix (sw_var (pv 1)) se_int))) (sl_cons lrD (se_ix (sw_var (pv 1)) se_int) (sl_nil lrD))))) (sl_nil lrA))))))
abbrev s_law_sign : Stmt := topS 45
abbrev N__law_sign : List Str := ["one", "other", "gap"]
theorem sc__law_sign : FnScope ["one", "other", "gap"] ["one", "other"] (defScope s_law_sign) := ⟨rfl, rfl, rfl, by decide +kernel, rfl, by decide +kernel, by decide +kernel⟩
theorem ok__law_sign (Z : Nm mg) (Df : DefAt K mg "_law_sign" s_law_sign)   : FOk P w K mg base 1 "_law_sign" ["one", "other"] m__law_sign :=
  fn_ok (N := ["one", "other", "gap"]) Df sc__law_sign (fun _ _ _ _ _ _ us hl => match us, hl with | [_, _], _ => rfl) fun f cdv A outer s H E G c =>
  (ss_cons (ss_set (i := 2) c rfl (Or.inl rfl) (sv_of (se_bin subO (sw_of (se_bin mulO (sw_of (se_ix (sw_var (pv 0)) se_int)) (sw_of (se_ix (sw_var (pv 1)) se_int)))) (sw_of (se_bin mulO (sw_of (se_ix (sw_var (pv 1)) se_int)) (sw_of (se_ix (sw_var (pv 0)) se_int)))))))
  (ss_one (ss_ret (sg_if (sb_cmp (eqO c.u64) (sw_var (pv 2)) (sw_of se_int)) se_int (sg_if (sb_cmp gtO (sw_var (pv 2)) (sw_of se_int)) se_int (se_neg se_int))))))
abbrev s_law_trim : Stmt := topS 46
abbrev N__law_trim : List Str := ["row", "left", "turn"]
theorem sc__law_trim : FnScope ["row", "left", "turn"] ["row"] (defScope s_law_trim) := ⟨rfl, rfl, rfl, by decide +kernel, rfl, by decide +kernel, by decide +kernel⟩
theorem ok__law_trim (Z : Nm mg) (Df : DefAt K mg "_law_trim" s_law_trim)   : FOk P w K mg base 1 "_law_trim" ["row"] m__law_trim :=
  fn_ok (N := ["row", "left", "turn"]) Df sc__law_trim (fun _ _ _ _ _ _ us hl => match us, hl with | [_], _ => rfl) fun f cdv A outer s H E G c =>
  (ss_cons (ss_set (i := 1) c rfl (Or.inl rfl) (sv_ow (sf_list (by rfl) Z.z_list bt_list (sw_var (pv 0)))))
  (ss_cons (ss_for (t := (.nm 2)) c (si_rng1 Z.z_range (se_callB lenC (by rfl) Z.z_len bt_len (sl_cons lrW (sw_var (pv 0)) (sl_nil lrW)))) (pg_name (i := 2) c.nd rfl (by first | exact Or.inl rfl | exact Or.inr rfl)) (ss_one (ss_if (sb_w (sbw_and (sb_cmp gtO (sw_of (se_callB lenC (by rfl) Z.z_len bt_len (sl_cons lrW (sw_var (pv 1)) (sl_nil lrW)))) (sw_of se_int)) (sbw_and1 (sb_cmp (eqO c.u64) (sw_of (se_ix (sw_of (se_ix (sw_var (pv 1)) (se_neg se_int))) se_int)) (sw_of se_int))))) (ss_one (ss_pop (fun h => ps_expr (pe_bm0 PySem.F.plainAttrs_list PySem.F.slot_list_pop PySem.F.type_list_pop mt_pop h)) (pv 1))) ss_nil)))
  (ss_one (ss_ret (se_callTy tupC (by rfl) Z.z_tuple bt_tuple (sl_cons lrW (sw_var (pv 1)) (sl_nil lrW)))))))
abbrev s_law_sum : Stmt := topS 47
abbrev N__law_sum : List Str := ["one", "other", "factor", "size", "found", "k", "first", "second"]
theorem sc__law_sum : FnScope ["one", "other", "factor", "size", "found", "k", "first", "second"] ["one", "other", "factor"] (defScope s_law_sum) := ⟨rfl, rfl, rfl, by decide +kernel, rfl, by decide +kernel, by decide +kernel⟩
theorem ok__law_sum (Z : Nm mg) (Df : DefAt K mg "_law_sum" s_law_sum)  (h__law_add : FOk P w K mg base 2 "_law_add" ["one", "other"] m__law_add) (h__law_mul : FOk P w K mg base 2 "_law_mul" ["one", "other"] m__law_mul) (h__law_trim : FOk P w K mg base 1 "_law_trim" ["row"] m__law_trim) : FOk P w K mg base 3 "_law_sum" ["one", "other", "factor"] m__law_sum :=
  fn_ok (N := ["one", "other", "factor", "size", "found", "k", "first", "second"]) Df sc__law_sum (fun _ _ _ _ _ _ us hl => match us, hl with | [_, _, _], _ => rfl) fun f cdv A outer s H E G c =>
  (ss_cons (ss_par (i := 3) (j := 4) c rfl rfl (by decide) rfl rfl (sv_of (se_callB (maxC c.calm) (by rfl) Z.z_max bt_max (sl_cons lrW (sw_of (se_callB lenC (by rfl) Z.z_len bt_len (sl_cons lrW (sw_var (pv 0)) (sl_nil lrW)))) (sl_cons lrW (sw_of (se_callB lenC (by rfl) Z.z_len bt_len (sl_cons lrW (sw_var (pv 1)) (sl_nil lrW)))) (sl_nil lrW))))) (sv_ow (sf_lst (sl_nil lrD))) (by rfl))
  (ss_cons (ss_for (t := (.nm 5)) c (si_rng1 Z.z_range (se_var (pv 3))) (pg_name (i := 5) c.nd rfl (by first | exact Or.inl rfl | exact Or.inr rfl)) (ss_cons (ss_par (i := 6) (j := 7) c rfl rfl (by decide) rfl rfl (sv_of (sg_if (sb_cmp ltO (sw_var (pv 5)) (sw_of (se_callB lenC (by rfl) Z.z_len bt_len (sl_cons lrW (sw_var (pv 0)) (sl_nil lrW))))) (se_ix (sw_var (pv 0)) (se_var (pv 5))) (se_tup (sl_cons lrD se_int (sl_cons lrD se_int (sl_nil lrD)))))) (sv_of (sg_if (sb_cmp ltO (sw_var (pv 5)) (sw_of (se_callB lenC (by rfl) Z.z_len bt_len (sl_cons lrW (sw_var (pv 1)) (sl_nil lrW))))) (se_ix (sw_var (pv 1)) (se_var (pv 5))) (se_tup (sl_cons lrD se_int (sl_cons lrD se_int (sl_nil lrD)))))) (by rfl))
  (ss_one (ss_app (pv 4) (se_call c h__law_add (by decide) (by rfl) (sl_cons lrA (sx_var (pv 6)) (sl_cons lrA (sx_of (se_call c h__law_mul (by decide) (by rfl) (sl_cons lrA (sx_var (pv 7)) (sl_cons lrA (sx_var (pv 2)) (sl_nil lrA))))) (sl_nil lrA))))))))
  (ss_one (ss_ret (se_callL c h__law_trim (by decide) (by rfl) (sl_cons lrA (sx_var (pv 4)) (sl_nil lrA)))))))
abbrev s_law_times : Stmt := topS 48
abbrev N__law_times : List Str := ["one", "other", "found", "a", "b"]
theorem sc__law_times : FnScope ["one", "other", "found", "a", "b"] ["one", "other"] (defScope s_law_times) := ⟨rfl, rfl, rfl, by decide +kernel, rfl, by decide +kernel, by decide +kernel⟩
theorem ok__law_times (Z : Nm mg) (Df : DefAt K mg "_law_times" s_law_times)  (h__law_add : FOk P w K mg base 2 "_law_add" ["one", "other"] m__law_add) (h__law_mul : FOk P w K mg base 2 "_law_mul" ["one", "other"] m__law_mul) (h__law_trim : FOk P w K mg base 1 "_law_trim" ["row"] m__law_trim) : FOk P w K mg base 3 "_law_times" ["one", "other"] m__law_times :=
  fn_ok (N := ["one", "other", "found", "a", "b"]) Df sc__law_times (fun _ _ _ _ _ _ us hl => match us, hl with | [_, _], _ => rfl) fun f cdv A outer s H E G c =>
  (ss_cons (ss_set (i := 2) c rfl (Or.inl rfl) (sv_ow (sf_rep (sf_lst (sl_cons lrD (se_tup (sl_cons lrD se_int (sl_cons lrD se_int (sl_nil lrD)))) (sl_nil lrD))) (se_callB (maxC c.calm) (by rfl) Z.z_max bt_max (sl_cons lrW (sw_of se_int) (sl_cons lrW (sw_of (se_bin subO (sw_of (se_bin addO (sw_of (se_callB lenC (by rfl) Z.z_len bt_len (sl_cons lrW (sw_var (pv 0)) (sl_nil lrW)))) (sw_of (se_callB lenC (by rfl) Z.z_len bt_len (sl_cons lrW (sw_var (pv 1)) (sl_nil lrW)))))) (sw_of se_int))) (sl_nil lrW)))))))
  (ss_cons (ss_for (t := (.nm 3)) c (si_rng1 Z.z_range (se_callB lenC (by rfl) Z.z_len bt_len (sl_cons lrW (sw_var (pv 0)) (sl_nil lrW)))) (pg_name (i := 3) c.nd rfl (by first | exact Or.inl rfl | exact Or.inr rfl)) (ss_one (ss_for (t := (.nm 4)) c (si_rng1 Z.z_range (se_callB lenC (by rfl) Z.z_len bt_len (sl_cons lrW (sw_var (pv 1)) (sl_nil lrW)))) (pg_name (i := 4) c.nd rfl (by first | exact Or.inl rfl | exact Or.inr rfl)) (ss_one (ss_sto (pv 2) (se_bin addO (sw_var (pv 3)) (sw_var (pv 4))) (se_call c h__law_add (by decide) (by rfl) (sl_cons lrA (sx_of (se_ix (sw_var (pv 2)) (se_bin addO (sw_var (pv 3)) (sw_var (pv 4))))) (sl_cons lrA (sx_of (se_call c h__law_mul (by decide) (by rfl) (sl_cons lrA (sx_of (se_ix (sw_var (pv 0)) (se_var (pv 3)))) (sl_cons lrA (sx_of (se_ix (sw_var (pv 1)) (se_var (pv 4)))) (sl_nil lrA))))) (sl_nil lrA)))))))))
  (ss_one (ss_ret (se_callL c h__law_trim (by decide) (by rfl) (sl_cons lrA (sx_var (pv 2)) (sl_nil lrA)))))))
abbrev s_law_val : Stmt := topS 49
abbrev N__law_val : List Str := ["one", "at_x", "total", "n"]
theorem sc__law_val : FnScope ["one", "at_x", "total", "n"] ["one", "at_x"] (defScope s_law_val) := ⟨rfl, rfl, rfl, by decide +kernel, rfl, by decide +kernel, by decide +kernel⟩
theorem ok__law_val (Z : Nm mg) (Df : DefAt K mg "_law_val" s_law_val)  (h__law_add : FOk P w K mg base 2 "_law_add" ["one", "other"] m__law_add) (h__law_mul : FOk P w K mg base 2 "_law_mul" ["one", "other"] m__law_mul) : FOk P w K mg base 3 "_law_val" ["one", "at_x"] m__law_val :=
  fn_ok (N := ["one", "at_x", "total", "n"]) Df sc__law_val (fun _ _ _ _ _ _ us hl => match us, hl with | [_, _], _ => rfl) fun f cdv A outer s H E G c =>
  (ss_cons (ss_set (i := 2) c rfl (Or.inl rfl) (sv_of (se_tup (sl_cons lrD se_int (sl_cons lrD se_int (sl_nil lrD))))))
  (ss_cons (ss_for (t := (.nm 3)) c (si_of (se_rev (sw_var (pv 0)))) (pg_name (i := 3) c.nd rfl (by first | exact Or.inl rfl | exact Or.inr rfl)) (ss_one (ss_set (i := 2) c rfl (Or.inl rfl) (sv_of (se_call c h__law_add (by decide) (by rfl) (sl_cons lrA (sx_of (se_call c h__law_mul (by decide) (by rfl) (sl_cons lrA (sx_var (pv 2)) (sl_cons lrA (sx_var (pv 1)) (sl_nil lrA))))) (sl_cons lrA (sx_var (pv 3)) (sl_nil lrA))))))))
  (ss_one (ss_ret (se_var (pv 2))))))
abbrev s_law_flip : Stmt := topS 50
abbrev N__law_flip : List Str := ["one"]
theorem sc__law_flip : FnScope ["one"] ["one"] (defScope s_law_flip) := ⟨rfl, rfl, rfl, by decide +kernel, rfl, by decide +kernel, by decide +kernel⟩
theorem ok__law_flip (Z : Nm mg) (Df : DefAt K mg "_law_flip" s_law_flip)  (h__law_fr : FOk P w K mg base 1 "_law_fr" ["above", "below"] m__law_fr) : FOk P w K mg base 2 "_law_flip" ["one"] m__law_flip :=
  fn_ok (N := ["one"]) Df sc__law_flip (fun _ _ _ _ _ _ us hl => match us, hl with | [_], _ => rfl) fun f cdv A outer s H E G c =>
  (ss_one (ss_ret (se_call c h__law_fr (by decide) (by rfl) (sl_cons lrA (sx_of (se_ix (sw_var (pv 0)) se_int)) (sl_cons lrA (sx_of (se_ix (sw_var (pv 0)) se_int)) (sl_nil lrA))))))
abbrev s_law_rest : Stmt := topS 51
abbrev N__law_rest : List Str := ["one", "other", "left", "multiple", "k", "j"]
theorem sc__law_rest : FnScope ["one", "other", "left", "multiple", "k", "j"] ["one", "other"] (defScope s_law_rest) := ⟨rfl, rfl, rfl, by decide +kernel, rfl, by decide +kernel, by decide +kernel⟩
theorem ok__law_rest (Z : Nm mg) (Df : DefAt K mg "_law_rest" s_law_rest)  (h__law_flip : FOk P w K mg base 2 "_law_flip" ["one"] m__law_flip) (h__law_mul : FOk P w K mg base 2 "_law_mul" ["one", "other"] m__law_mul) (h__law_sub : FOk P w K mg base 3 "_law_sub" ["one", "other"] m__law_sub) (h__law_trim : FOk P w K mg base 1 "_law_trim" ["row"] m__law_trim) : FOk P w K mg base 4 "_law_rest" ["one", "other"] m__law_rest :=
  fn_ok (N := ["one", "other", "left", "multiple", "k", "j"]) Df sc__law_rest (fun _ _ _ _ _ _ us hl => match us, hl with | [_, _], _ => rfl) fun f cdv A outer s H E G c =>
  (ss_cons (ss_par (i := 2) (j := 3) c rfl rfl (by decide) rfl rfl (sv_ow (sf_list (by rfl) Z.z_list bt_list (sw_var (pv 0)))) (sv_ow (sf_rep (sf_lst (sl_cons lrD (se_tup (sl_cons lrD se_int (sl_cons lrD se_int (sl_nil lrD)))) (sl_nil lrD))) (se_callB (maxC c.calm) (by rfl) Z.z_max bt_max (sl_cons lrW (sw_of se_int) (sl_cons lrW (sw_of (se_bin addO (sw_of (se_bin subO (sw_of (se_callB lenC (by rfl) Z.z_len bt_len (sl_cons lrW (sw_var (pv 0)) (sl_nil lrW)))) (sw_of (se_callB lenC (by rfl) Z.z_len bt_len (sl_cons lrW (sw_var (pv 1)) (sl_nil lrW)))))) (sw_of se_int))) (sl_nil lrW)))))) (by rfl))
  (ss_cons (ss_for (t := (.nm 4)) c (si_of (se_rev (sw_of (se_of (sf_listRg c (by rfl) Z.z_list (by rfl) Z.z_range (se_bin addO (sw_of (se_bin subO (sw_of (se_callB lenC (by rfl) Z.z_len bt_len (sl_cons lrW (sw_var (pv 0)) (sl_nil lrW)))) (sw_of (se_callB lenC (by rfl) Z.z_len bt_len (sl_cons lrW (sw_var (pv 1)) (sl_nil lrW)))))) (sw_of se_int))))))) (pg_name (i := 4) c.nd rfl (by first | exact Or.inl rfl | exact Or.inr rfl)) (ss_cons (ss_sto (pv 3) (se_var (pv 4)) (se_call c h__law_mul (by decide) (by rfl) (sl_cons lrA (sx_of (se_ix (sw_var (pv 2)) (se_bin subO (sw_of (se_bin addO (sw_var (pv 4)) (sw_of (se_callB lenC (by rfl) Z.z_len bt_len (sl_cons lrW (sw_var (pv 1)) (sl_nil lrW)))))) (sw_of se_int)))) (sl_cons lrA (sx_of (se_call c h__law_flip (by decide) (by rfl) (sl_cons lrA (sx_of (se_ix (sw_var (pv 1)) (se_neg se_int))) (sl_nil lrA)))) (sl_nil lrA)))))
  (ss_one (ss_for (t := (.nm 5)) c (si_rng1 Z.z_range (se_callB lenC (by rfl) Z.z_len bt_len (sl_cons lrW (sw_var (pv 1)) (sl_nil lrW)))) (pg_name (i := 5) c.nd rfl (by first | exact Or.inl rfl | exact Or.inr rfl)) (ss_one (ss_sto (pv 2) (se_bin addO (sw_var (pv 4)) (sw_var (pv 5))) (se_call c h__law_sub (by decide) (by rfl) (sl_cons lrA (sx_of (se_ix (sw_var (pv 2)) (se_bin addO (sw_var (pv 4)) (sw_var (pv 5))))) (sl_cons lrA (sx_of (se_call c h__law_mul (by decide) (by rfl) (sl_cons lrA (sx_of (se_ix (sw_var (pv 3)) (se_var (pv 4)))) (sl_cons lrA (sx_of (se_ix (sw_var (pv 1)) (se_var (pv 5)))) (sl_nil lrA))))) (sl_nil lrA))))))))))
  (ss_one (ss_ret (se_tup (sl_cons lrD (se_callL c h__law_trim (by decide) (by rfl) (sl_cons lrA (sx_var (pv 3)) (sl_nil lrA))) (sl_cons lrD (se_callL c h__law_trim (by decide) (by rfl) (sl_cons lrA (sx_var (pv 2)) (sl_nil lrA))) (sl_nil lrD))))))))
abbrev s_law_slope : Stmt := topS 52
abbrev N__law_slope : List Str := ["one", "k"]
theorem sc__law_slope : FnScope ["one", "k"] ["one"] (defScope s_law_slope) := ⟨rfl, rfl, rfl, by decide +kernel, rfl, by decide +kernel, by decide +kernel⟩
theorem ok__law_slope (Z : Nm mg) (Df : DefAt K mg "_law_slope" s_law_slope)  (h__law_mul : FOk P w K mg base 2 "_law_mul" ["one", "other"] m__law_mul) (h__law_trim : FOk P w K mg base 1 "_law_trim" ["row"] m__law_trim) : FOk P w K mg base 3 "_law_slope" ["one"] m__law_slope :=
  fn_ok (N := ["one", "k"]) Df sc__law_slope (fun _ _ _ _ _ _ us hl => match us, hl with | [_], _ => rfl) fun f cdv A outer s H E G c =>
  (ss_one (ss_ret (se_call c h__law_trim (by decide) (by rfl) (sl_cons lrA (sx_of (se_of (sf_lc (own := [("k", 1)]) (t := (.nm 1)) c (si_rng2 Z.z_range se_int (se_callB lenC (by rfl) Z.z_len bt_len (sl_cons lrW (sw_var (pv 0)) (sl_nil lrW)))) (blkOk_by (N := N__law_slope) (sc := defScope s_law_slope) (by decide +kernel)) (fun bs13 bH13 _ _ bp13 => (pg_name (i := 1) (c.blk bs13 bH13 _ _ bp13).nd rfl (by first | exact Or.inl rfl | exact Or.inr rfl))) (fun _ _ _ _ _ => spt_nil) (fun bs13 bH13 _ _ bp13 => (se_call (c.blk bs13 bH13 _ _ bp13) h__law_mul (by decide) (by rfl) (sl_cons lrA (sx_of (se_ix (sw_var (pv 0)) (se_var (pv 1)))) (sl_cons lrA (sx_of (se_tup (sl_cons lrD (se_var (pv 1)) (sl_cons lrD se_int (sl_nil lrD))))) (sl_nil lrA)))))))) (sl_nil lrA)))))
abbrev s_law_part : Stmt := topS 53
abbrev N__law_part : List Str := ["state", "top", "low"]
theorem sc__law_part : FnScope ["state", "top", "low"] ["state", "top", "low"] (defScope s_law_part) := ⟨rfl, rfl, rfl, by decide +kernel, rfl, by decide +kernel, by decide +kernel⟩
theorem ok__law_part (Z : Nm mg) (Df : DefAt K mg "_law_part" s_law_part)  (h__law_fr : FOk P w K mg base 1 "_law_fr" ["above", "below"] m__law_fr) (h__law_take : FOk P w K mg base 1 "_law_take" ["state", "most"] m__law_take) : FOk P w K mg base 2 "_law_part" ["state", "top", "low"] m__law_part :=
  fn_ok (N := ["state", "top", "low"]) Df sc__law_part (fun _ _ _ _ _ _ us hl => match us, hl with | [_, _, _], _ => rfl) fun f cdv A outer s H E G c =>
  (ss_one (ss_ret (se_call c h__law_fr (by decide) (by rfl) (sl_cons lrA (sx_of (se_bin subO (sw_of (se_call c h__law_take (by decide) (by rfl) (sl_cons lrA (sx_var (pv 0)) (sl_cons lrA (sx_of (se_bin addO (sw_of (se_bin mulO (sw_of se_int) (sw_var (pv 1)))) (sw_of se_int))) (sl_nil lrA))))) (sw_var (pv 1)))) (sl_cons lrA (sx_of (se_bin addO (sw_of se_int) (sw_of (se_call c h__law_take (by decide) (by rfl) (sl_cons lrA (sx_var (pv 0)) (sl_cons lrA (sx_var (pv 2)) (sl_nil lrA))))))) (sl_nil lrA))))))
abbrev s_law_poly : Stmt := topS 54
abbrev N__law_poly : List Str := ["state", "many", "top", "k"]
theorem sc__law_poly : FnScope ["state", "many", "top", "k"] ["state", "many", "top"] (defScope s_law_poly) := ⟨rfl, rfl, rfl, by decide +kernel, rfl, by decide +kernel, by decide +kernel⟩
theorem ok__law_poly (Z : Nm mg) (Df : DefAt K mg "_law_poly" s_law_poly)  (h__law_part : FOk P w K mg base 2 "_law_part" ["state", "top", "low"] m__law_part) (h__law_trim : FOk P w K mg base 1 "_law_trim" ["row"] m__law_trim) : FOk P w K mg base 3 "_law_poly" ["state", "many", "top"] m__law_poly :=
  fn_ok (N := ["state", "many", "top", "k"]) Df sc__law_poly (fun _ _ _ _ _ _ us hl => match us, hl with | [_, _, _], _ => rfl) fun f cdv A outer s H E G c =>
  (ss_one (ss_ret (se_call c h__law_trim (by decide) (by rfl) (sl_cons lrA (sx_of (se_of (sf_lc (own := [("k", 3)]) (t := (.nm 3)) c (si_rng1 Z.z_range (se_var (pv 1))) (blkOk_by (N := N__law_poly) (sc := defScope s_law_poly) (by decide +kernel)) (fun bs14 bH14 _ _ bp14 => (pg_name (i := 3) (c.blk bs14 bH14 _ _ bp14).nd rfl (by first | exact Or.inl rfl | exact Or.inr rfl))) (fun _ _ _ _ _ => spt_nil) (fun bs14 bH14 _ _ bp14 => (se_call (c.blk bs14 bH14 _ _ bp14) h__law_part (by decide) (by rfl) (sl_cons lrA (sx_var (pv 0)) (sl_cons lrA (sx_var (pv 2)) (sl_cons lrA (sx_of se_int) (sl_nil lrA))))))))) (sl_nil lrA)))))
abbrev s_law_common : Stmt := topS 61
abbrev N__law_common : List Str := ["one", "other", "turn", "n"]
theorem sc__law_common : FnScope ["one", "other", "turn", "n"] ["one", "other"] (defScope s_law_common) := ⟨rfl, rfl, rfl, by decide +kernel, rfl, by decide +kernel, by decide +kernel⟩
theorem ok__law_common (Z : Nm mg) (Df : DefAt K mg "_law_common" s_law_common)  (h__law_flip : FOk P w K mg base 2 "_law_flip" ["one"] m__law_flip) (h__law_mul : FOk P w K mg base 2 "_law_mul" ["one", "other"] m__law_mul) (h__law_rest : FOk P w K mg base 4 "_law_rest" ["one", "other"] m__law_rest) : FOk P w K mg base 5 "_law_common" ["one", "other"] m__law_common :=
  fn_ok (N := ["one", "other", "turn", "n"]) Df sc__law_common (fun _ _ _ _ _ _ us hl => match us, hl with | [_, _], _ => rfl) fun f cdv A outer s H E G c =>
  (ss_cons (ss_for (t := (.nm 2)) c (si_rng1 Z.z_range se_int) (pg_name (i := 2) c.nd rfl (by first | exact Or.inl rfl | exact Or.inr rfl)) (ss_one (ss_if (sb_cmp gtO (sw_of (se_callB lenC (by rfl) Z.z_len bt_len (sl_cons lrW (sw_var (pv 1)) (sl_nil lrW)))) (sw_of se_int)) (ss_one (ss_unp (t := (.tp [0, 1])) (se_tup (sl_cons lrD (se_var (pv 1)) (sl_cons lrD (se_ix (sw_of (se_call c h__law_rest (by decide) (by rfl) (sl_cons lrA (sx_var (pv 0)) (sl_cons lrA (sx_var (pv 1)) (sl_nil lrA))))) se_int) (sl_nil lrD)))) (pg_tup c.calm (pgs_cons (pg_name (i := 0) c.nd rfl (by first | exact Or.inl rfl | exact Or.inr rfl)) (pgs_cons (pg_name (i := 1) c.nd rfl (by first | exact Or.inl rfl | exact Or.inr rfl)) pgs_nil))))) ss_nil)))
  (ss_one (ss_ret (se_callTy tupC (by rfl) Z.z_tuple bt_tuple (sl_cons lrW (sw_of (se_of (sf_lc (own := [("n", 3)]) (t := (.nm 3)) c (si_of (se_var (pv 0))) (blkOk_by (N := N__law_common) (sc := defScope s_law_common) (by decide +kernel)) (fun bs15 bH15 _ _ bp15 => (pg_name (i := 3) (c.blk bs15 bH15 _ _ bp15).nd rfl (by first | exact Or.inl rfl | exact Or.inr rfl))) (fun _ _ _ _ _ => spt_nil) (fun bs15 bH15 _ _ bp15 => (se_call (c.blk bs15 bH15 _ _ bp15) h__law_mul (by decide) (by rfl) (sl_cons lrA (sx_var (pv 3)) (sl_cons lrA (sx_of (se_call (c.blk bs15 bH15 _ _ bp15) h__law_flip (by decide) (by rfl) (sl_cons lrA (sx_of (se_ix (sw_var (pv 0)) (se_neg se_int))) (sl_nil lrA)))) (sl_nil lrA)))))))) (sl_nil lrW))))))
abbrev s_law_word : Stmt := topS 62
abbrev N__law_word : List Str := ["call", "e"]
theorem sc__law_word : FnScope ["call", "e"] ["call"] (defScope s_law_word) := ⟨rfl, rfl, rfl, by decide +kernel, rfl, by decide +kernel, by decide +kernel⟩
theorem ok__law_word (Z : Nm mg) (Df : DefAt K mg "_law_word" s_law_word) (h_Misstep : EOk P w K mg base "Misstep" "word") (h_divided : FOk P w K mg base 4 "divided" ["one", "other"] m_divided) (h_shares : FOk P w K mg base 6 "shares" ["one", "other"] m_shares) (h_through : FOk P w K mg base 5 "through" ["points"] m_through) : FOk P w K mg base 7 "_law_word" ["call"] m__law_word :=
  fn_ok (N := ["call", "e"]) Df sc__law_word (fun _ _ _ _ _ _ us hl => match us, hl with | [_], _ => rfl) fun f cdv A outer s H E G c =>
  (ss_one (ss_try (i := 1) c h_Misstep rfl rfl rfl rfl (by rfl) (fun W1 pn1 xe1 ct1 => (ss_cons (ss_if (sb_cmp (eqO ct1.u64) (sw_var (pv 0)) (sw_of se_int)) (ss_one (ss_expr (se_call ct1 h_divided (by decide) (by rfl) (sl_cons lrA (sx_of (se_tup (sl_cons lrD (se_tup (sl_cons lrD se_int (sl_cons lrD se_int (sl_nil lrD)))) (sl_nil lrD)))) (sl_cons lrA (sx_of (se_tup (sl_nil lrD))) (sl_nil lrA)))))) (ss_one (ss_if (sb_cmp (eqO ct1.u64) (sw_var (pv 0)) (sw_of se_int)) (ss_one (ss_expr (se_call ct1 h_shares (by decide) (by rfl) (sl_cons lrA (sx_of (se_tup (sl_nil lrD))) (sl_cons lrA (sx_of (se_tup (sl_nil lrD))) (sl_nil lrA)))))) (ss_one (ss_expr (se_call ct1 h_through (by decide) (by rfl) (sl_cons lrA (sx_of (se_of (sf_lst (sl_cons lrD (se_tup (sl_cons lrD (se_tup (sl_cons lrD se_int (sl_cons lrD se_int (sl_nil lrD)))) (sl_cons lrD (se_tup (sl_cons lrD se_int (sl_cons lrD se_int (sl_nil lrD)))) (sl_nil lrD)))) (sl_cons lrD (se_tup (sl_cons lrD (se_tup (sl_cons lrD se_int (sl_cons lrD se_int (sl_nil lrD)))) (sl_cons lrD (se_tup (sl_cons lrD se_int (sl_cons lrD se_int (sl_nil lrD)))) (sl_nil lrD)))) (sl_nil lrD)))))) (sl_nil lrA))))))))
  (ss_one (ss_ret se_str)))) (fun C1 ad1 dd1 oe1 pn1 xf1 hno1 hz1 hf1 => (ss_one (ss_ret (se_exf xf1 hno1 hz1 hf1 (pv 1)))))))
abbrev s_law_through : Stmt := topS 63
abbrev N__law_through : List Str := ["state", "places", "points", "k", "place", "told", "point", "p"]
theorem sc__law_through : FnScope ["state", "places", "points", "k", "place", "told", "point", "p"] ["state"] (defScope s_law_through) := ⟨rfl, rfl, rfl, by decide +kernel, rfl, by decide +kernel, by decide +kernel⟩
theorem ok__law_through (Z : Nm mg) (Df : DefAt K mg "_law_through" s_law_through)  (h__law_part : FOk P w K mg base 2 "_law_part" ["state", "top", "low"] m__law_part) (h__law_take : FOk P w K mg base 1 "_law_take" ["state", "most"] m__law_take) (h__law_val : FOk P w K mg base 3 "_law_val" ["one", "at_x"] m__law_val) (h_through : FOk P w K mg base 5 "through" ["points"] m_through) : FOk P w K mg base 6 "_law_through" ["state"] m__law_through :=
  fn_ok (N := ["state", "places", "points", "k", "place", "told", "point", "p"]) Df sc__law_through (fun _ _ _ _ _ _ us hl => match us, hl with | [_], _ => rfl) fun f cdv A outer s H E G c =>
  (ss_cons (ss_par (i := 1) (j := 2) c rfl rfl (by decide) rfl rfl (sv_ow (sf_lst (sl_nil lrD))) (sv_ow (sf_lst (sl_nil lrD))) (by rfl))
  (ss_cons (ss_for (t := (.nm 3)) c (si_rng1 Z.z_range (se_call c h__law_take (by decide) (by rfl) (sl_cons lrA (sx_var (pv 0)) (sl_cons lrA (sx_of se_int) (sl_nil lrA))))) (pg_name (i := 3) c.nd rfl (by first | exact Or.inl rfl | exact Or.inr rfl)) (ss_cons (ss_set (i := 4) c rfl (Or.inl rfl) (sv_of (se_call c h__law_part (by decide) (by rfl) (sl_cons lrA (sx_var (pv 0)) (sl_cons lrA (sx_of se_int) (sl_cons lrA (sx_of se_int) (sl_nil lrA)))))))
  (ss_one (ss_if (sb_cmp (notInO c.u65) (sw_var (pv 4)) (sw_var (pv 1))) (ss_cons (ss_app (pv 1) (se_var (pv 4)))
  (ss_one (ss_app (pv 2) (se_tup (sl_cons lrD (se_var (pv 4)) (sl_cons lrD (se_call c h__law_part (by decide) (by rfl) (sl_cons lrA (sx_var (pv 0)) (sl_cons lrA (sx_of se_int) (sl_cons lrA (sx_of se_int) (sl_nil lrA))))) (sl_nil lrD))))))) ss_nil))))
  (ss_frz 2 (ss_cons (ss_set (i := 5) c rfl (Or.inr rfl) (sv_of (se_call c h_through (by decide) (by rfl) (sl_cons lrA (sx_of (se_of (sf_lc (own := [("point", 6)]) (t := (.nm 6)) c (si_of (se_var (pv 2))) (blkOk_by (N := N__law_through) (sc := defScope s_law_through) (by decide +kernel)) (fun bs16 bH16 _ _ bp16 => (pg_name (i := 6) (c.blk bs16 bH16 _ _ bp16).nd rfl (by first | exact Or.inl rfl | exact Or.inr rfl))) (fun _ _ _ _ _ => spt_nil) (fun bs16 bH16 _ _ bp16 => (se_var (pv 6)))))) (sl_nil lrA)))))
  (ss_frz 2 (ss_one (ss_ret (se_and (se_cmp leO (sw_of (se_callB lenC (by rfl) Z.z_len bt_len (sl_cons lrW (sw_var (pv 5)) (sl_nil lrW)))) (sw_of (se_callB lenC (by rfl) Z.z_len bt_len (sl_cons lrW (sw_var (pv 2)) (sl_nil lrW))))) (se_one (se_cmp (eqO c.u64) (sw_of (se_callB lenC (by rfl) Z.z_len bt_len (sl_cons lrW (sw_of (se_of (sf_lc (own := [("p", 7)]) (t := (.nm 7)) c (si_of (se_var (pv 2))) (blkOk_by (N := N__law_through) (sc := defScope s_law_through) (by decide +kernel)) (fun bs17 bH17 _ _ bp17 => (pg_name (i := 7) (c.blk bs17 bH17 _ _ bp17).nd rfl (by first | exact Or.inl rfl | exact Or.inr rfl))) (fun bs17 bH17 _ _ bp17 => spt_one (sb_cmp (neO (c.blk bs17 bH17 _ _ bp17).u64) (sw_of (se_call (c.blk bs17 bH17 _ _ bp17) h__law_val (by decide) (by rfl) (sl_cons lrA (sx_var (pv 5)) (sl_cons lrA (sx_of (se_ix (sw_var (pv 7)) se_int)) (sl_nil lrA))))) (sw_of (se_ix (sw_var (pv 7)) se_int)))) (fun bs17 bH17 _ _ bp17 => (se_var (pv 7)))))) (sl_nil lrW)))) (sw_of se_int)))))))))))
abbrev s_law : Stmt := topS 64
abbrev N_law : List Str := ["script", "state", "one", "other", "third", "factor", "place", "both", "many", "raised", "turn", "n", "left", "right", "told", "first", "second", "due", "flat", "put", "k", "size", "roots", "root", "row", "value", "good", "call"]
theorem sc_law : FnScope ["script", "state", "one", "other", "third", "factor", "place", "both", "many", "raised", "turn", "n", "left", "right", "told", "first", "second", "due", "flat", "put", "k", "size", "roots", "root", "row", "value", "good", "call"] ["script"] (defScope s_law) := ⟨rfl, rfl, rfl, by decide +kernel, rfl, by decide +kernel, by decide +kernel⟩
theorem body_law (Z : Nm mg)  (h__law_add : FOk P w K mg base 2 "_law_add" ["one", "other"] m__law_add) (h__law_are_frs : FOk P w K mg base 3 "_law_are_frs" ["value", "many"] m__law_are_frs) (h__law_common : FOk P w K mg base 5 "_law_common" ["one", "other"] m__law_common) (h__law_flip : FOk P w K mg base 2 "_law_flip" ["one"] m__law_flip) (h__law_mul : FOk P w K mg base 2 "_law_mul" ["one", "other"] m__law_mul) (h__law_part : FOk P w K mg base 2 "_law_part" ["state", "top", "low"] m__law_part) (h__law_poly : FOk P w K mg base 3 "_law_poly" ["state", "many", "top"] m__law_poly) (h__law_rest : FOk P w K mg base 4 "_law_rest" ["one", "other"] m__law_rest) (h__law_slope : FOk P w K mg base 3 "_law_slope" ["one"] m__law_slope) (h__law_sum : FOk P w K mg base 3 "_law_sum" ["one", "other", "factor"] m__law_sum) (h__law_take : FOk P w K mg base 1 "_law_take" ["state", "most"] m__law_take) (h__law_through : FOk P w K mg base 6 "_law_through" ["state"] m__law_through) (h__law_times : FOk P w K mg base 3 "_law_times" ["one", "other"] m__law_times) (h__law_trim : FOk P w K mg base 1 "_law_trim" ["row"] m__law_trim) (h__law_val : FOk P w K mg base 3 "_law_val" ["one", "at_x"] m__law_val) (h__law_word : FOk P w K mg base 7 "_law_word" ["call"] m__law_word) (h_added : FOk P w K mg base 4 "added" ["one", "other"] m_added) (h_back : FOk P w K mg base 2 "back" ["one", "size"] m_back) (h_common : FOk P w K mg base 6 "common" ["one", "other"] m_common) (h_derived : FOk P w K mg base 4 "derived" ["one"] m_derived) (h_divided : FOk P w K mg base 4 "divided" ["one", "other"] m_divided) (h_from_roots : FOk P w K mg base 5 "from_roots" ["row"] m_from_roots) (h_inside : FOk P w K mg base 5 "inside" ["one", "other"] m_inside) (h_is_poly : FOk P w K mg base 3 "is_poly" ["value"] m_is_poly) (h_is_simple : FOk P w K mg base 7 "is_simple" ["one"] m_is_simple) (h_less : FOk P w K mg base 5 "less" ["one", "other"] m_less) (h_line : FOk P w K mg base 4 "line" ["number"] m_line) (h_monic : FOk P w K mg base 5 "monic" ["one"] m_monic) (h_moved : FOk P w K mg base 5 "moved" ["one", "step"] m_moved) (h_of_wholes : FOk P w K mg base 2 "of_wholes" ["row"] m_of_wholes) (h_power : FOk P w K mg base 5 "power" ["one", "many"] m_power) (h_product : FOk P w K mg base 4 "product" ["one", "other"] m_product) (h_scaled : FOk P w K mg base 4 "scaled" ["one", "factor"] m_scaled) (h_shares : FOk P w K mg base 6 "shares" ["one", "other"] m_shares) (h_trimmed : FOk P w K mg base 1 "trimmed" ["row"] m_trimmed) (h_turned : FOk P w K mg base 4 "turned" ["one"] m_turned) (h_value_at : FOk P w K mg base 4 "value_at" ["one", "place"] m_value_at) (f : Addr) (cdv : Value) (A : Around) (outer : List Env) (s : Shared) (H : Hp) (E : XK) (G : Gh) (c : Cc (cxOf CX0 P w K mg base ["script", "state", "one", "other", "third", "factor", "place", "both", "many", "raised", "turn", "n", "left", "right", "told", "first", "second", "due", "flat", "put", "k", "size", "roots", "root", "row", "value", "good", "call"] "law" (defScope s_law) f cdv A outer s H E).nox W0 7) :
  SSs (cxOf CX0 P w K mg base ["script", "state", "one", "other", "third", "factor", "place", "both", "many", "raised", "turn", "n", "left", "right", "told", "first", "second", "due", "flat", "put", "k", "size", "roots", "root", "row", "value", "good", "call"] "law" (defScope s_law) f cdv A outer s H E).nox W0 G (defBody s_law).tail g_law :=
  (ss_cons (ss_unp (t := (.tp [2, 3, 4])) (se_tup (sl_cons lrD (se_call c h__law_poly (by decide) (by rfl) (sl_cons lrA (sx_var (pv 1)) (sl_cons lrA (sx_of (se_call c h__law_take (by decide) (by rfl) (sl_cons lrA (sx_var (pv 1)) (sl_cons lrA (sx_of se_int) (sl_nil lrA))))) (sl_cons lrA (sx_of se_int) (sl_nil lrA))))) (sl_cons lrD (se_call c h__law_poly (by decide) (by rfl) (sl_cons lrA (sx_var (pv 1)) (sl_cons lrA (sx_of (se_call c h__law_take (by decide) (by rfl) (sl_cons lrA (sx_var (pv 1)) (sl_cons lrA (sx_of se_int) (sl_nil lrA))))) (sl_cons lrA (sx_of se_int) (sl_nil lrA))))) (sl_cons lrD (se_call c h__law_poly (by decide) (by rfl) (sl_cons lrA (sx_var (pv 1)) (sl_cons lrA (sx_of (se_call c h__law_take (by decide) (by rfl) (sl_cons lrA (sx_var (pv 1)) (sl_cons lrA (sx_of se_int) (sl_nil lrA))))) (sl_cons lrA (sx_of se_int) (sl_nil lrA))))) (sl_nil lrD))))) (pg_tup c.calm (pgs_cons (pg_name (i := 2) c.nd rfl (by first | exact Or.inl rfl | exact Or.inr rfl)) (pgs_cons (pg_name (i := 3) c.nd rfl (by first | exact Or.inl rfl | exact Or.inr rfl)) (pgs_cons (pg_name (i := 4) c.nd rfl (by first | exact Or.inl rfl | exact Or.inr rfl)) pgs_nil)))))
  (ss_cons (ss_par (i := 5) (j := 6) c rfl rfl (by decide) rfl rfl (sv_of (se_call c h__law_part (by decide) (by rfl) (sl_cons lrA (sx_var (pv 1)) (sl_cons lrA (sx_of se_int) (sl_cons lrA (sx_of se_int) (sl_nil lrA)))))) (sv_of (se_call c h__law_part (by decide) (by rfl) (sl_cons lrA (sx_var (pv 1)) (sl_cons lrA (sx_of se_int) (sl_cons lrA (sx_of se_int) (sl_nil lrA)))))) (by rfl))
  (ss_cons (ss_set (i := 7) c rfl (Or.inl rfl) (sv_of (se_call c h__law_times (by decide) (by rfl) (sl_cons lrA (sx_var (pv 2)) (sl_cons lrA (sx_var (pv 3)) (sl_nil lrA))))))
  (ss_cons (ss_if (sb_w (sbw_or (sb_cmp (neO c.u64) (sw_of (se_call c h_added (by decide) (by rfl) (sl_cons lrA (sx_var (pv 2)) (sl_cons lrA (sx_var (pv 3)) (sl_nil lrA))))) (sw_of (se_call c h__law_sum (by decide) (by rfl) (sl_cons lrA (sx_var (pv 2)) (sl_cons lrA (sx_var (pv 3)) (sl_cons lrA (sx_of (se_tup (sl_cons lrD se_int (sl_cons lrD se_int (sl_nil lrD))))) (sl_nil lrA))))))) (sbw_or (sb_cmp (neO c.u64) (sw_of (se_call c h_less (by decide) (by rfl) (sl_cons lrA (sx_var (pv 2)) (sl_cons lrA (sx_var (pv 3)) (sl_nil lrA))))) (sw_of (se_call c h__law_sum (by decide) (by rfl) (sl_cons lrA (sx_var (pv 2)) (sl_cons lrA (sx_var (pv 3)) (sl_cons lrA (sx_of (se_tup (sl_cons lrD (se_neg se_int) (sl_cons lrD se_int (sl_nil lrD))))) (sl_nil lrA))))))) (sbw_or (sb_cmp (neO c.u64) (sw_of (se_call c h_product (by decide) (by rfl) (sl_cons lrA (sx_var (pv 2)) (sl_cons lrA (sx_var (pv 3)) (sl_nil lrA))))) (sw_var (pv 7))) (sbw_or1 (sb_cmp (neO c.u64) (sw_of (se_call c h_scaled (by decide) (by rfl) (sl_cons lrA (sx_var (pv 2)) (sl_cons lrA (sx_var (pv 5)) (sl_nil lrA))))) (sw_of (se_call c h__law_sum (by decide) (by rfl) (sl_cons lrA (sx_of (se_tup (sl_nil lrD))) (sl_cons lrA (sx_var (pv 2)) (sl_cons lrA (sx_var (pv 5)) (sl_nil lrA)))))))))))) (ss_one (ss_ret se_bl)) ss_nil)
  (ss_cons (ss_set (i := 8) c rfl (Or.inl rfl) (sv_of (se_call c h__law_take (by decide) (by rfl) (sl_cons lrA (sx_var (pv 1)) (sl_cons lrA (sx_of se_int) (sl_nil lrA))))))
  (ss_cons (ss_set (i := 9) c rfl (Or.inl rfl) (sv_of (se_tup (sl_cons lrD (se_tup (sl_cons lrD se_int (sl_cons lrD se_int (sl_nil lrD)))) (sl_nil lrD)))))
  (ss_cons (ss_for (t := (.nm 10)) c (si_rng1 Z.z_range (se_var (pv 8))) (pg_name (i := 10) c.nd rfl (by first | exact Or.inl rfl | exact Or.inr rfl)) (ss_one (ss_set (i := 9) c rfl (Or.inl rfl) (sv_of (se_call c h__law_times (by decide) (by rfl) (sl_cons lrA (sx_var (pv 9)) (sl_cons lrA (sx_var (pv 4)) (sl_nil lrA))))))))
  (ss_cons (ss_if (sb_w (sbw_or (sb_cmp (neO c.u64) (sw_of (se_call c h_power (by decide) (by rfl) (sl_cons lrA (sx_var (pv 4)) (sl_cons lrA (sx_var (pv 8)) (sl_nil lrA))))) (sw_var (pv 9))) (sbw_or (sb_cmp (neO c.u64) (sw_of (se_call c h_value_at (by decide) (by rfl) (sl_cons lrA (sx_var (pv 2)) (sl_cons lrA (sx_var (pv 6)) (sl_nil lrA))))) (sw_of (se_call c h__law_val (by decide) (by rfl) (sl_cons lrA (sx_var (pv 2)) (sl_cons lrA (sx_var (pv 6)) (sl_nil lrA)))))) (sbw_or (sb_cmp (neO c.u64) (sw_of (se_call c h_derived (by decide) (by rfl) (sl_cons lrA (sx_var (pv 2)) (sl_nil lrA)))) (sw_of (se_call c h__law_slope (by decide) (by rfl) (sl_cons lrA (sx_var (pv 2)) (sl_nil lrA))))) (sbw_or1 (sb_cmp (neO c.u64) (sw_of (se_globI Z.k_MOST_DEGREE)) (sw_of se_int))))))) (ss_one (ss_ret se_bl)) ss_nil)
  (ss_cons (ss_if (sb_w (sbw_and (sb_cmp gtO (sw_of (se_callB lenC (by rfl) Z.z_len bt_len (sl_cons lrW (sw_var (pv 3)) (sl_nil lrW)))) (sw_of se_int)) (sbw_and1 (sb_cmp (neO c.u64) (sw_of (se_call c h_divided (by decide) (by rfl) (sl_cons lrA (sx_var (pv 2)) (sl_cons lrA (sx_var (pv 3)) (sl_nil lrA))))) (sw_of (se_call c h__law_rest (by decide) (by rfl) (sl_cons lrA (sx_var (pv 2)) (sl_cons lrA (sx_var (pv 3)) (sl_nil lrA))))))))) (ss_one (ss_ret se_bl)) ss_nil)
  (ss_cons (ss_if (sb_cmp (neO c.u64) (sw_of (se_call c h_monic (by decide) (by rfl) (sl_cons lrA (sx_var (pv 2)) (sl_nil lrA)))) (sw_of (sg_if (sb_cmp gtO (sw_of (se_callB lenC (by rfl) Z.z_len bt_len (sl_cons lrW (sw_var (pv 2)) (sl_nil lrW)))) (sw_of se_int)) (se_callTy tupC (by rfl) Z.z_tuple bt_tuple (sl_cons lrW (sw_of (se_of (sf_lc (own := [("n", 11)]) (t := (.nm 11)) c (si_of (se_var (pv 2))) (blkOk_by (N := N_law) (sc := defScope s_law) (by decide +kernel)) (fun bs18 bH18 _ _ bp18 => (pg_name (i := 11) (c.blk bs18 bH18 _ _ bp18).nd rfl (by first | exact Or.inl rfl | exact Or.inr rfl))) (fun _ _ _ _ _ => spt_nil) (fun bs18 bH18 _ _ bp18 => (se_call (c.blk bs18 bH18 _ _ bp18) h__law_mul (by decide) (by rfl) (sl_cons lrA (sx_var (pv 11)) (sl_cons lrA (sx_of (se_call (c.blk bs18 bH18 _ _ bp18) h__law_flip (by decide) (by rfl) (sl_cons lrA (sx_of (se_ix (sw_var (pv 2)) (se_neg se_int))) (sl_nil lrA)))) (sl_nil lrA)))))))) (sl_nil lrW))) (se_tup (sl_nil lrD))))) (ss_one (ss_ret se_bl)) ss_nil)
  (ss_cons (ss_par (i := 12) (j := 13) c rfl rfl (by decide) rfl rfl (sv_of (se_call c h__law_times (by decide) (by rfl) (sl_cons lrA (sx_var (pv 4)) (sl_cons lrA (sx_var (pv 2)) (sl_nil lrA))))) (sv_of (se_call c h__law_times (by decide) (by rfl) (sl_cons lrA (sx_var (pv 4)) (sl_cons lrA (sx_var (pv 3)) (sl_nil lrA))))) (by rfl))
  (ss_cons (ss_if (sb_cmp gtO (sw_of (se_bin addO (sw_of (se_callB lenC (by rfl) Z.z_len bt_len (sl_cons lrW (sw_var (pv 12)) (sl_nil lrW)))) (sw_of (se_callB lenC (by rfl) Z.z_len bt_len (sl_cons lrW (sw_var (pv 13)) (sl_nil lrW)))))) (sw_of se_int)) (ss_cons (ss_unp (t := (.tp [14, 15, 16])) (se_call c h_shares (by decide) (by rfl) (sl_cons lrA (sx_var (pv 12)) (sl_cons lrA (sx_var (pv 13)) (sl_nil lrA)))) (pg_tup c.calm (pgs_cons (pg_name (i := 14) c.nd rfl (by first | exact Or.inl rfl | exact Or.inr rfl)) (pgs_cons (pg_name (i := 15) c.nd rfl (by first | exact Or.inl rfl | exact Or.inr rfl)) (pgs_cons (pg_name (i := 16) c.nd rfl (by first | exact Or.inl rfl | exact Or.inr rfl)) pgs_nil)))))
  (ss_cons (ss_set (i := 17) c rfl (Or.inl rfl) (sv_of (se_call c h__law_common (by decide) (by rfl) (sl_cons lrA (sx_var (pv 12)) (sl_cons lrA (sx_var (pv 13)) (sl_nil lrA))))))
  (ss_one (ss_if (sb_w (sbw_or (sb_cmp (neO c.u64) (sw_of (se_call c h_common (by decide) (by rfl) (sl_cons lrA (sx_var (pv 12)) (sl_cons lrA (sx_var (pv 13)) (sl_nil lrA))))) (sw_var (pv 17))) (sbw_or (sb_cmp (neO c.u64) (sw_var (pv 14)) (sw_var (pv 17))) (sbw_or1 (sb_cmp (neO c.u64) (sw_of (se_call c h__law_sum (by decide) (by rfl) (sl_cons lrA (sx_of (se_call c h__law_times (by decide) (by rfl) (sl_cons lrA (sx_var (pv 15)) (sl_cons lrA (sx_var (pv 12)) (sl_nil lrA))))) (sl_cons lrA (sx_of (se_call c h__law_times (by decide) (by rfl) (sl_cons lrA (sx_var (pv 16)) (sl_cons lrA (sx_var (pv 13)) (sl_nil lrA))))) (sl_cons lrA (sx_of (se_tup (sl_cons lrD se_int (sl_cons lrD se_int (sl_nil lrD))))) (sl_nil lrA)))))) (sw_var (pv 17))))))) (ss_one (ss_ret se_bl)) ss_nil)))) ss_nil)
  (ss_cons (ss_set (i := 18) c rfl (Or.inl rfl) (sv_of (se_call c h_moved (by decide) (by rfl) (sl_cons lrA (sx_var (pv 2)) (sl_cons lrA (sx_var (pv 6)) (sl_nil lrA))))))
  (ss_cons (ss_if (sb_w (sbw_or (sb_cmp (neO c.u64) (sw_of (se_call c h__law_val (by decide) (by rfl) (sl_cons lrA (sx_var (pv 18)) (sl_cons lrA (sx_var (pv 5)) (sl_nil lrA))))) (sw_of (se_call c h__law_val (by decide) (by rfl) (sl_cons lrA (sx_var (pv 2)) (sl_cons lrA (sx_of (se_call c h__law_add (by decide) (by rfl) (sl_cons lrA (sx_var (pv 6)) (sl_cons lrA (sx_var (pv 5)) (sl_nil lrA))))) (sl_nil lrA)))))) (sbw_or1 (sb_cmp (neO c.u64) (sw_of (se_callB lenC (by rfl) Z.z_len bt_len (sl_cons lrW (sw_var (pv 18)) (sl_nil lrW)))) (sw_of (se_callB lenC (by rfl) Z.z_len bt_len (sl_cons lrW (sw_var (pv 2)) (sl_nil lrW)))))))) (ss_one (ss_ret se_bl)) ss_nil)
  (ss_cons (ss_set (i := 19) c rfl (Or.inl rfl) (sv_of (se_call c h_inside (by decide) (by rfl) (sl_cons lrA (sx_var (pv 2)) (sl_cons lrA (sx_var (pv 4)) (sl_nil lrA))))))
  (ss_cons (ss_if (sb_w (sbw_or (sb_cmp (neO c.u64) (sw_of (se_call c h__law_val (by decide) (by rfl) (sl_cons lrA (sx_var (pv 19)) (sl_cons lrA (sx_var (pv 5)) (sl_nil lrA))))) (sw_of (se_call c h__law_val (by decide) (by rfl) (sl_cons lrA (sx_var (pv 2)) (sl_cons lrA (sx_of (se_call c h__law_val (by decide) (by rfl) (sl_cons lrA (sx_var (pv 4)) (sl_cons lrA (sx_var (pv 5)) (sl_nil lrA))))) (sl_nil lrA)))))) (sbw_or1 (sb_cmp (neO c.u64) (sw_var (pv 19)) (sw_of (se_call c h__law_trim (by decide) (by rfl) (sl_cons lrA (sx_of (se_of (sf_list (by rfl) Z.z_list bt_list (sw_var (pv 19))))) (sl_nil lrA)))))))) (ss_one (ss_ret se_bl)) ss_nil)
  (ss_cons (ss_if (sb_cmp (neO c.u64) (sw_of (se_call c h_turned (by decide) (by rfl) (sl_cons lrA (sx_var (pv 2)) (sl_nil lrA)))) (sw_of (se_callTy tupC (by rfl) Z.z_tuple bt_tuple (sl_cons lrW (sw_of (se_of (sf_lc (own := [("k", 20)]) (t := (.nm 20)) c (si_rng1 Z.z_range (se_callB lenC (by rfl) Z.z_len bt_len (sl_cons lrW (sw_var (pv 2)) (sl_nil lrW)))) (blkOk_by (N := N_law) (sc := defScope s_law) (by decide +kernel)) (fun bs19 bH19 _ _ bp19 => (pg_name (i := 20) (c.blk bs19 bH19 _ _ bp19).nd rfl (by first | exact Or.inl rfl | exact Or.inr rfl))) (fun _ _ _ _ _ => spt_nil) (fun bs19 bH19 _ _ bp19 => (sg_if (sb_cmp (eqO (c.blk bs19 bH19 _ _ bp19).u64) (sw_of (se_bin modO (sw_of (se_callTy intC (by rfl) Z.z_int bt_int (sl_cons lrW (sw_var (pv 20)) (sl_nil lrW)))) (sw_of se_int))) (sw_of se_int)) (se_ix (sw_var (pv 2)) (se_var (pv 20))) (se_tup (sl_cons lrD (se_bin subO (sw_of se_int) (sw_of (se_ix (sw_of (se_ix (sw_var (pv 2)) (se_var (pv 20)))) se_int))) (sl_cons lrD (se_ix (sw_of (se_ix (sw_var (pv 2)) (se_var (pv 20)))) se_int) (sl_nil lrD))))))))) (sl_nil lrW))))) (ss_one (ss_ret se_bl)) ss_nil)
  (ss_cons (ss_set (i := 21) c rfl (Or.inl rfl) (sv_of (se_bin addO (sw_of (se_callB (maxC c.calm) (by rfl) Z.z_max bt_max (sl_cons lrW (sw_of se_int) (sl_cons lrW (sw_of (se_bin subO (sw_of (se_callB lenC (by rfl) Z.z_len bt_len (sl_cons lrW (sw_var (pv 2)) (sl_nil lrW)))) (sw_of se_int))) (sl_nil lrW))))) (sw_of (se_call c h__law_take (by decide) (by rfl) (sl_cons lrA (sx_var (pv 1)) (sl_cons lrA (sx_of se_int) (sl_nil lrA))))))))
  (ss_cons (ss_if (sb_cmp (neO c.u64) (sw_of (se_call c h_back (by decide) (by rfl) (sl_cons lrA (sx_var (pv 2)) (sl_cons lrA (sx_var (pv 21)) (sl_nil lrA))))) (sw_of (se_call c h__law_trim (by decide) (by rfl) (sl_cons lrA (sx_of (se_rev (sw_of (se_of (sf_cat (sw_of (se_of (sf_list (by rfl) Z.z_list bt_list (sw_var (pv 2))))) (sw_of (se_of (sf_rep (sf_lst (sl_cons lrD (se_tup (sl_cons lrD se_int (sl_cons lrD se_int (sl_nil lrD)))) (sl_nil lrD))) (se_bin subO (sw_of (se_bin addO (sw_var (pv 21)) (sw_of se_int))) (sw_of (se_callB lenC (by rfl) Z.z_len bt_len (sl_cons lrW (sw_var (pv 2)) (sl_nil lrW))))))))))))) (sl_nil lrA))))) (ss_one (ss_ret se_bl)) ss_nil)
  (ss_cons (ss_if (sb_w (sbw_and (sb_cmp gtO (sw_of (se_callB lenC (by rfl) Z.z_len bt_len (sl_cons lrW (sw_var (pv 2)) (sl_nil lrW)))) (sw_of se_int)) (sbw_and1 (sb_cmp (neO c.u64) (sw_of (se_call c h_is_simple (by decide) (by rfl) (sl_cons lrA (sx_var (pv 2)) (sl_nil lrA)))) (sw_of (se_cmp ltO (sw_of (se_callB lenC (by rfl) Z.z_len bt_len (sl_cons lrW (sw_of (se_call c h__law_common (by decide) (by rfl) (sl_cons lrA (sx_var (pv 2)) (sl_cons lrA (sx_of (se_call c h__law_slope (by decide) (by rfl) (sl_cons lrA (sx_var (pv 2)) (sl_nil lrA)))) (sl_nil lrA))))) (sl_nil lrW)))) (sw_of se_int))))))) (ss_one (ss_ret se_bl)) ss_nil)
  (ss_cons (ss_set (i := 22) c rfl (Or.inr rfl) (sv_of (se_of (sf_lc (own := [("k", 20)]) (t := (.nm 20)) c (si_rng1 Z.z_range (se_call c h__law_take (by decide) (by rfl) (sl_cons lrA (sx_var (pv 1)) (sl_cons lrA (sx_of se_int) (sl_nil lrA))))) (blkOk_by (N := N_law) (sc := defScope s_law) (by decide +kernel)) (fun bs20 bH20 _ _ bp20 => (pg_name (i := 20) (c.blk bs20 bH20 _ _ bp20).nd rfl (by first | exact Or.inl rfl | exact Or.inr rfl))) (fun _ _ _ _ _ => spt_nil) (fun bs20 bH20 _ _ bp20 => (se_call (c.blk bs20 bH20 _ _ bp20) h__law_part (by decide) (by rfl) (sl_cons lrA (sx_var (pv 1)) (sl_cons lrA (sx_of se_int) (sl_cons lrA (sx_of se_int) (sl_nil lrA))))))))))
  (ss_cons (ss_set (i := 17) c rfl (Or.inl rfl) (sv_of (se_tup (sl_cons lrD (se_tup (sl_cons lrD se_int (sl_cons lrD se_int (sl_nil lrD)))) (sl_nil lrD)))))
  (ss_cons (ss_for (t := (.nm 23)) c (si_of (se_var (pv 22))) (pg_name (i := 23) c.nd rfl (by first | exact Or.inl rfl | exact Or.inr rfl)) (ss_one (ss_set (i := 17) c rfl (Or.inl rfl) (sv_of (se_call c h__law_times (by decide) (by rfl) (sl_cons lrA (sx_var (pv 17)) (sl_cons lrA (sx_of (se_tup (sl_cons lrD (se_tup (sl_cons lrD (se_bin subO (sw_of se_int) (sw_of (se_ix (sw_var (pv 23)) se_int))) (sl_cons lrD (se_ix (sw_var (pv 23)) se_int) (sl_nil lrD)))) (sl_cons lrD (se_tup (sl_cons lrD se_int (sl_cons lrD se_int (sl_nil lrD)))) (sl_nil lrD))))) (sl_nil lrA))))))))
  (ss_cons (ss_if (sb_w (sbw_or (sb_cmp (neO c.u64) (sw_of (se_call c h_from_roots (by decide) (by rfl) (sl_cons lrA (sx_of (se_of (sf_lc (own := [("root", 23)]) (t := (.nm 23)) c (si_of (se_var (pv 22))) (blkOk_by (N := N_law) (sc := defScope s_law) (by decide +kernel)) (fun bs21 bH21 _ _ bp21 => (pg_name (i := 23) (c.blk bs21 bH21 _ _ bp21).nd rfl (by first | exact Or.inl rfl | exact Or.inr rfl))) (fun _ _ _ _ _ => spt_nil) (fun bs21 bH21 _ _ bp21 => (se_var (pv 23)))))) (sl_nil lrA)))) (sw_var (pv 17))) (sbw_or (sb_cmp (neO c.u64) (sw_of (se_call c h_line (by decide) (by rfl) (sl_cons lrA (sx_var (pv 6)) (sl_nil lrA)))) (sw_of (se_tup (sl_cons lrD (se_tup (sl_cons lrD (se_bin subO (sw_of se_int) (sw_of (se_ix (sw_var (pv 6)) se_int))) (sl_cons lrD (se_ix (sw_var (pv 6)) se_int) (sl_nil lrD)))) (sl_cons lrD (se_tup (sl_cons lrD se_int (sl_cons lrD se_int (sl_nil lrD)))) (sl_nil lrD)))))) (sbw_or1 (sb_cmp (neO c.u64) (sw_of (se_call c h_is_simple (by decide) (by rfl) (sl_cons lrA (sx_var (pv 17)) (sl_nil lrA)))) (sw_of (se_cmp (eqO c.u64) (sw_of (se_callB lenC (by rfl) Z.z_len bt_len (sl_cons lrW (sw_of (se_of (sf_lc (own := [("k", 20)]) (t := (.nm 20)) c (si_rng1 Z.z_range (se_callB lenC (by rfl) Z.z_len bt_len (sl_cons lrW (sw_var (pv 22)) (sl_nil lrW)))) (blkOk_by (N := N_law) (sc := defScope s_law) (by decide +kernel)) (fun bs22 bH22 _ _ bp22 => (pg_name (i := 20) (c.blk bs22 bH22 _ _ bp22).nd rfl (by first | exact Or.inl rfl | exact Or.inr rfl))) (fun bs22 bH22 _ _ bp22 => spt_one (sb_cmp (inO (c.blk bs22 bH22 _ _ bp22).u65) (sw_of (se_ix (sw_var (pv 22)) (se_var (pv 20)))) (sw_of (se_slice (sw_var (pv 22)) so_none (so_some (se_var (pv 20))))))) (fun bs22 bH22 _ _ bp22 => (se_var (pv 20)))))) (sl_nil lrW)))) (sw_of se_int)))))))) (ss_one (ss_ret se_bl)) ss_nil)
  (ss_cons (ss_post 24 (ss_setLc (i := 24) (own := [("k", 20)]) (t := (.nm 20)) c rfl rfl (sw_true rfl rfl rfl (by decide +kernel)) (si_rng1 Z.z_range (se_call c h__law_take (by decide) (by rfl) (sl_cons lrA (sx_var (pv 1)) (sl_cons lrA (sx_of se_int) (sl_nil lrA))))) (blkOk_by (N := N_law) (sc := defScope s_law) (by decide +kernel)) (fun bs23 bH23 _ _ bp23 => (pg_name (i := 20) (c.blk bs23 bH23 _ _ bp23).nd rfl (by first | exact Or.inl rfl | exact Or.inr rfl))) (fun _ _ _ _ _ => spt_nil) (fun bs23 bH23 _ _ bp23 => (se_bin subO (sw_of (se_call (c.blk bs23 bH23 _ _ bp23) h__law_take (by decide) (by rfl) (sl_cons lrA (sx_var (pv 1)) (sl_cons lrA (sx_of se_int) (sl_nil lrA))))) (sw_of se_int)))))
  (ss_cons (ss_if (sb_w (sbw_or (sb_cmp (neO c.u64) (sw_of (se_call c h_of_wholes (by decide) (by rfl) (sl_cons lrA (sx_of (se_of (sf_lc (own := [("n", 11)]) (t := (.nm 11)) c (si_of (se_var (pv 24))) (blkOk_by (N := N_law) (sc := defScope s_law) (by decide +kernel)) (fun bs24 bH24 _ _ bp24 => (pg_name (i := 11) (c.blk bs24 bH24 _ _ bp24).nd rfl (by first | exact Or.inl rfl | exact Or.inr rfl))) (fun _ _ _ _ _ => spt_nil) (fun bs24 bH24 _ _ bp24 => (se_var (pv 11)))))) (sl_nil lrA)))) (sw_of (se_call c h__law_trim (by decide) (by rfl) (sl_cons lrA (sx_of (se_of (sf_lc (own := [("n", 11)]) (t := (.nm 11)) c (si_of (se_var (pv 24))) (blkOk_by (N := N_law) (sc := defScope s_law) (by decide +kernel)) (fun bs25 bH25 _ _ bp25 => (pg_name (i := 11) (c.blk bs25 bH25 _ _ bp25).nd rfl (by first | exact Or.inl rfl | exact Or.inr rfl))) (fun _ _ _ _ _ => spt_nil) (fun bs25 bH25 _ _ bp25 => (se_tup (sl_cons lrD (se_var (pv 11)) (sl_cons lrD se_int (sl_nil lrD)))))))) (sl_nil lrA))))) (sbw_or (sb_cmp (neO c.u64) (sw_of (se_call c h_trimmed (by decide) (by rfl) (sl_cons lrA (sx_of (se_of (sf_lc (own := [("n", 11)]) (t := (.nm 11)) c (si_of (se_var (pv 24))) (blkOk_by (N := N_law) (sc := defScope s_law) (by decide +kernel)) (fun bs26 bH26 _ _ bp26 => (pg_name (i := 11) (c.blk bs26 bH26 _ _ bp26).nd rfl (by first | exact Or.inl rfl | exact Or.inr rfl))) (fun _ _ _ _ _ => spt_nil) (fun bs26 bH26 _ _ bp26 => (se_tup (sl_cons lrD (se_var (pv 11)) (sl_cons lrD se_int (sl_nil lrD)))))))) (sl_nil lrA)))) (sw_of (se_call c h__law_trim (by decide) (by rfl) (sl_cons lrA (sx_of (se_of (sf_lc (own := [("n", 11)]) (t := (.nm 11)) c (si_of (se_var (pv 24))) (blkOk_by (N := N_law) (sc := defScope s_law) (by decide +kernel)) (fun bs27 bH27 _ _ bp27 => (pg_name (i := 11) (c.blk bs27 bH27 _ _ bp27).nd rfl (by first | exact Or.inl rfl | exact Or.inr rfl))) (fun _ _ _ _ _ => spt_nil) (fun bs27 bH27 _ _ bp27 => (se_tup (sl_cons lrD (se_var (pv 11)) (sl_cons lrD se_int (sl_nil lrD)))))))) (sl_nil lrA))))) (sbw_or1 (sb_not (sb_of_pe (se_call c h__law_through (by decide) (by rfl) (sl_cons lrA (sx_var (pv 1)) (sl_nil lrA))))))))) (ss_one (ss_ret se_bl)) ss_nil)
  (ss_cons (ss_for (t := (.nm 25)) c (si_of (se_of (sf_lst (sl_cons lrD (se_var (pv 2)) (sl_cons lrD (se_of (sf_list (by rfl) Z.z_list bt_list (sw_var (pv 2)))) (sl_cons lrD (se_bin addO (sw_var (pv 2)) (sw_of (se_tup (sl_cons lrD (se_tup (sl_cons lrD se_int (sl_cons lrD se_int (sl_nil lrD)))) (sl_nil lrD))))) (sl_cons lrD (se_bin addO (sw_var (pv 2)) (sw_of (se_tup (sl_cons lrD (se_tup (sl_cons lrD se_int (sl_cons lrD se_int (sl_nil lrD)))) (sl_nil lrD))))) (sl_cons lrD se_non (sl_cons lrD (se_bin addO (sw_var (pv 2)) (sw_of (se_tup (sl_cons lrD (se_tup (sl_cons lrD se_int (sl_cons lrD (se_neg se_int) (sl_nil lrD)))) (sl_nil lrD))))) (sl_cons lrD (se_bin mulTO (sw_of (se_tup (sl_cons lrD (se_tup (sl_cons lrD se_int (sl_cons lrD se_int (sl_nil lrD)))) (sl_nil lrD)))) (sw_of se_int)) (sl_cons lrD (se_bin mulTO (sw_of (se_tup (sl_cons lrD (se_tup (sl_cons lrD se_int (sl_cons lrD se_int (sl_nil lrD)))) (sl_nil lrD)))) (sw_of se_int)) (sl_cons lrD (se_tup (sl_cons lrD se_int (sl_cons lrD se_int (sl_nil lrD)))) (sl_cons lrD (se_bin addO (sw_var (pv 2)) (sw_of (se_tup (sl_cons lrD (se_tup (sl_cons lrD se_bl (sl_cons lrD se_int (sl_nil lrD)))) (sl_nil lrD))))) (sl_cons lrD (se_tup (sl_nil lrD)) (sl_nil lrD))))))))))))))) (pg_name (i := 25) c.nd rfl (by first | exact Or.inl rfl | exact Or.inr rfl)) (ss_cons (ss_set (i := 26) c rfl (Or.inl rfl) (sv_of (se_and (se_isi kitTup (by rfl) Z.z_isinstance bt_isinstance (sw_var (pv 25)) (by rfl) Z.z_tuple bt_tuple) (se_and (se_cmp ltO (sw_of (se_callB lenC (by rfl) Z.z_len bt_len (sl_cons lrW (sw_var (pv 25)) (sl_nil lrW)))) (sw_of se_int)) (se_and (se_call c h__law_are_frs (by decide) (by rfl) (sl_cons lrA (sx_var (pv 25)) (sl_cons lrA (sx_of (se_callB lenC (by rfl) Z.z_len bt_len (sl_cons lrW (sw_var (pv 25)) (sl_nil lrW)))) (sl_nil lrA)))) (se_one (se_or (se_cmp (eqO c.u64) (sw_of (se_callB lenC (by rfl) Z.z_len bt_len (sl_cons lrW (sw_var (pv 25)) (sl_nil lrW)))) (sw_of se_int)) (se_one (se_cmp (neO c.u64) (sw_of (se_ix (sw_of (se_ix (sw_var (pv 25)) (se_neg se_int))) se_int)) (sw_of se_int))))))))))
  (ss_one (ss_if (sb_cmp (neO c.u64) (sw_of (se_call c h_is_poly (by decide) (by rfl) (sl_cons lrA (sx_var (pv 25)) (sl_nil lrA)))) (sw_var (pv 26))) (ss_one (ss_ret se_bl)) ss_nil))))
  (ss_one (ss_ret (se_cmp (eqO c.u64) (sw_of (se_of (sf_lc (own := [("call", 27)]) (t := (.nm 27)) c (si_rng1 Z.z_range se_int) (blkOk_by (N := N_law) (sc := defScope s_law) (by decide +kernel)) (fun bs28 bH28 _ _ bp28 => (pg_name (i := 27) (c.blk bs28 bH28 _ _ bp28).nd rfl (by first | exact Or.inl rfl | exact Or.inr rfl))) (fun _ _ _ _ _ => spt_nil) (fun bs28 bH28 _ _ bp28 => (se_call (c.blk bs28 bH28 _ _ bp28) h__law_word (by decide) (by rfl) (sl_cons lrA (sx_var (pv 27)) (sl_nil lrA))))))) (sw_of (se_of (sf_lst (sl_cons lrD se_str (sl_cons lrD se_str (sl_cons lrD se_str (sl_nil lrD)))))))))))))))))))))))))))))))))))))
end
end N1
end

section
set_option Elab.async false
set_option linter.all false
set_option maxRecDepth 100000
set_option maxHeartbeats 0
namespace N1E
open PySem PySem.Spec L2 DS
open N1
open NP
open NW hiding m_scaled g_scaled R
open PyProof.Rows hiding St
section
variable {P : Program} {w : World} {K : PySem.W.Frag} {mg : Str → Option Value} {base : Heap}
theorem ok__law_take (Z : Nm mg) (Df : DefAt K mg "_law_take" s_law_take) : FOk P w K mg base 1 "_law_take" ["state", "most"] m__law_take := by
  obtain ⟨f, fd, hm, F⟩ := Df.ex
  refine ⟨f, fd, hm, F.kp, bindsH F (fun _ _ _ _ _ _ us hl => match us, hl with | [_, _], _ => rfl), F.ok sc__law_take (fun vs H Q E h => h.1) fun cdv A outer s H vs Q E hr h => ⟨t_take K, ?_, take_pure rfl h⟩⟩
  exact pss_cons (ps_if (pt_cmpR op_lt (pv 1) pe_int (nomark _)) (pss_one (ps_ret pe_int)) pss_nil)
    (pss_cons (ps_set (i := 2) sc__law_take.nd rfl (.inl rfl) (pe_ix ix_list (pv 0) pe_int (fun _ _ => rfl)))
    (pss_cons (ps_set (i := 3) sc__law_take.nd rfl (.inl rfl) (pe_op op_modN (pe_callTy call_int1 (by rfl) Z.z_int bt_int (pa_cons (pe_ix ix_list (pv 0) pe_int (fun _ _ => rfl)) pa_nil)) (pe_callB call_len (by rfl) Z.z_len bt_len (pa_cons (pv 2) pa_nil))))
    (pss_cons (ps_set (i := 4) sc__law_take.nd rfl (.inl rfl) (pe_ix ix_list (pv 2) (pv 3) (fun _ _ => rfl)))
    (pss_cons (ps_if (pt_cmpR op_ge (pv 4) pe_int (nomark _)) (pss_cons (ps_asg (pe_op op_fdivA (pv 4) (pv 1)) (pg_sub (pv 2) (pv 3) set_list)) (pss_one (ps_ret (pe_op op_modN (pe_callTy call_int1 (by rfl) Z.z_int bt_int (pa_cons (pv 4) pa_nil)) (pv 1))))) pss_nil)
    (pss_cons (ps_asg (pe_op op_add (pe_ix ix_list (pv 0) pe_int (fun _ _ => rfl)) pe_int) (pg_sub (pv 0) pe_int set_list))
    (pss_cons (ps_set (i := 5) sc__law_take.nd rfl (.inl rfl) (pe_op op_modN (pe_callTy call_int1 (by rfl) Z.z_int bt_int (pa_cons (pe_op op_add (pe_op op_mulA (pv 4) pe_int) (pe_op op_mulA (pe_ix ix_list (pv 0) pe_int (fun _ _ => rfl)) pe_int)) pa_nil)) pe_int))
    (pss_cons (ps_set (i := 5) sc__law_take.nd rfl (.inl rfl) (pe_op op_modN (pe_callTy call_int1 (by rfl) Z.z_int bt_int (pa_cons (pe_op op_add (pe_op op_mulA (pv 5) pe_int) (pe_op op_mulA (pe_ix ix_list (pv 0) pe_int (fun _ _ => rfl)) pe_int)) pa_nil)) pe_int))
    (pss_one (ps_ret (pe_op op_modN (pe_callTy call_int1 (by rfl) Z.z_int bt_int (pa_cons (pe_op op_fdivA (pv 5) pe_int) pa_nil)) (pv 1)))))))))))
theorem ok__law_state (Z : Nm mg) {f : Addr} {fd : FuncData} (F : FunD K "_law_state" "_law_state" (defArgs s_law_state) (defBody s_law_state) (defScope s_law_state) [] [] f fd) : FnOk P w K mg base (L2.CX P w) 1 f fd ["script"] (spState K) := by
  refine F.ok sc__law_state (fun vs H Q E h => by obtain ⟨a, ns, rfl, _⟩ := h; rfl) fun cdv A outer s H vs Q E hr h => ⟨t_state K, ?_, state_pure rfl h⟩
  exact pss_cons (ps_setLc (i := 1) (own := [("cell", 2)]) (g := gName 2) (tt := tYes) rfl sc__law_state.nd rfl rfl (sw_true rfl rfl rfl (by decide +kernel)) (pi_list (pe_slice sl_list (pv 0) po_none (po_some pe_int))) (blkOk_by (N := N__law_state) (sc := defScope s_law_state) (by decide +kernel)) (fun _ _ _ _ _ => pg_name (i := 2) sc__law_state.nd rfl (Or.inl rfl)) (fun _ _ _ _ _ => pts_nil) (fun _ _ _ _ _ => pe_callB call_abs (by rfl) Z.z_abs bt_abs (pa_cons (pv 2) pa_nil)))
    (pss_cons (ps_if (pt_cmp (pc_eqI (pe_callB call_len (by rfl) Z.z_len bt_len (pa_cons (pv 1) pa_nil)) pe_int)) (pss_one (ps_set (i := 1) sc__law_state.nd rfl (.inl rfl) (pe_lst (pa_cons pe_int pa_nil)))) pss_nil)
    (pss_one (ps_ret (pe_lst (pa_cons pe_int (pa_cons (pv 1) pa_nil))))))
theorem ok_law (Z : Nm mg) (h_Misstep : EOk P w K mg base "Misstep" "word") (D__law_state : DefAt K mg "_law_state" s_law_state) (D__law_take : DefAt K mg "_law_take" s_law_take) (D_divisor : DefAt K mg "divisor" s_divisor) (D_part : DefAt K mg "part" s_part) (D_is_part : DefAt K mg "is_part" s_is_part) (D_plus : DefAt K mg "plus" s_plus) (D_minus : DefAt K mg "minus" s_minus) (D_times : DefAt K mg "times" s_times) (D_over : DefAt K mg "over" s_over) (D_is_poly : DefAt K mg "is_poly" s_is_poly) (D_trimmed : DefAt K mg "trimmed" s_trimmed) (D_of_wholes : DefAt K mg "of_wholes" s_of_wholes) (D_added : DefAt K mg "added" s_added) (D_scaled : DefAt K mg "scaled" s_scaled) (D_less : DefAt K mg "less" s_less) (D_product : DefAt K mg "product" s_product) (D_power : DefAt K mg "power" s_power) (D_value_at : DefAt K mg "value_at" s_value_at) (D_derived : DefAt K mg "derived" s_derived) (D_divided : DefAt K mg "divided" s_divided) (D_monic : DefAt K mg "monic" s_monic) (D_common : DefAt K mg "common" s_common) (D_shares : DefAt K mg "shares" s_shares) (D_moved : DefAt K mg "moved" s_moved) (D_inside : DefAt K mg "inside" s_inside) (D_is_simple : DefAt K mg "is_simple" s_is_simple) (D_through : DefAt K mg "through" s_through) (D_turned : DefAt K mg "turned" s_turned) (D_back : DefAt K mg "back" s_back) (D_line : DefAt K mg "line" s_line) (D_from_roots : DefAt K mg "from_roots" s_from_roots) (D__law_pick : DefAt K mg "_law_pick" s_law_pick) (D__law_fr : DefAt K mg "_law_fr" s_law_fr) (D__law_is_fr : DefAt K mg "_law_is_fr" s_law_is_fr) (D__law_are_frs : DefAt K mg "_law_are_frs" s_law_are_frs) (D__law_add : DefAt K mg "_law_add" s_law_add) (D__law_mul : DefAt K mg "_law_mul" s_law_mul) (D__law_sub : DefAt K mg "_law_sub" s_law_sub) (D__law_sign : DefAt K mg "_law_sign" s_law_sign) (D__law_trim : DefAt K mg "_law_trim" s_law_trim) (D__law_sum : DefAt K mg "_law_sum" s_law_sum) (D__law_times : DefAt K mg "_law_times" s_law_times) (D__law_val : DefAt K mg "_law_val" s_law_val) (D__law_flip : DefAt K mg "_law_flip" s_law_flip) (D__law_rest : DefAt K mg "_law_rest" s_law_rest) (D__law_slope : DefAt K mg "_law_slope" s_law_slope) (D__law_part : DefAt K mg "_law_part" s_law_part) (D__law_poly : DefAt K mg "_law_poly" s_law_poly) (D__law_common : DefAt K mg "_law_common" s_law_common) (D__law_word : DefAt K mg "_law_word" s_law_word) (D__law_through : DefAt K mg "_law_through" s_law_through) (hlaw : ∀ cs : List Int, cs ≠ [] → ∃ s, g_law (env0 26) (some (0, cs)) = .rt (.bool true) s)
    {f : Addr} {fd : FuncData} (F : FunD K "law" "law" (defArgs s_law) (defBody s_law) (defScope s_law) [] [] f fd) : FnOk P w K mg base CX0 8 f fd ["script"] (spLaw K) := by
  have h__law_take : FOk P w K mg base 1 "_law_take" ["state", "most"] m__law_take := ok__law_take Z D__law_take
  have h_divisor : FOk P w K mg base 1 "divisor" ["one", "other"] m_divisor := ok_divisor Z D_divisor 
  have h_part : FOk P w K mg base 2 "part" ["above", "below"] m_part := ok_part Z D_part h_divisor
  have h_is_part : FOk P w K mg base 2 "is_part" ["value"] m_is_part := ok_is_part Z D_is_part h_divisor
  have h_plus : FOk P w K mg base 3 "plus" ["one", "other"] m_plus := ok_plus Z D_plus h_part
  have h_minus : FOk P w K mg base 3 "minus" ["one", "other"] m_minus := ok_minus Z D_minus h_part
  have h_times : FOk P w K mg base 3 "times" ["one", "other"] m_times := ok_times Z D_times h_part
  have h_over : FOk P w K mg base 3 "over" ["one", "other"] m_over := ok_over Z D_over h_part
  have h_is_poly : FOk P w K mg base 3 "is_poly" ["value"] m_is_poly := ok_is_poly Z D_is_poly h_is_part
  have h_trimmed : FOk P w K mg base 1 "trimmed" ["row"] m_trimmed := ok_trimmed Z D_trimmed 
  have h_of_wholes : FOk P w K mg base 2 "of_wholes" ["row"] m_of_wholes := ok_of_wholes Z D_of_wholes h_trimmed
  have h_added : FOk P w K mg base 4 "added" ["one", "other"] m_added := ok_added Z D_added h_plus h_trimmed
  have h_scaled : FOk P w K mg base 4 "scaled" ["one", "factor"] m_scaled := ok_scaled Z D_scaled h_times h_trimmed
  have h_less : FOk P w K mg base 5 "less" ["one", "other"] m_less := ok_less Z D_less h_added h_scaled
  have h_product : FOk P w K mg base 4 "product" ["one", "other"] m_product := ok_product Z D_product h_plus h_times h_trimmed
  have h_power : FOk P w K mg base 5 "power" ["one", "many"] m_power := ok_power Z D_power h_product
  have h_value_at : FOk P w K mg base 4 "value_at" ["one", "place"] m_value_at := ok_value_at Z D_value_at h_plus h_times
  have h_derived : FOk P w K mg base 4 "derived" ["one"] m_derived := ok_derived Z D_derived h_times h_trimmed
  have h_divided : FOk P w K mg base 4 "divided" ["one", "other"] m_divided := ok_divided Z D_divided h_Misstep h_minus h_over h_times h_trimmed
  have h_monic : FOk P w K mg base 5 "monic" ["one"] m_monic := ok_monic Z D_monic h_over h_scaled
  have h_common : FOk P w K mg base 6 "common" ["one", "other"] m_common := ok_common Z D_common h_divided h_monic
  have h_shares : FOk P w K mg base 6 "shares" ["one", "other"] m_shares := ok_shares Z D_shares h_Misstep h_divided h_less h_over h_product h_scaled
  have h_moved : FOk P w K mg base 5 "moved" ["one", "step"] m_moved := ok_moved Z D_moved h_added h_product h_trimmed
  have h_inside : FOk P w K mg base 5 "inside" ["one", "other"] m_inside := ok_inside Z D_inside h_added h_product h_trimmed
  have h_is_simple : FOk P w K mg base 7 "is_simple" ["one"] m_is_simple := ok_is_simple Z D_is_simple h_common h_derived
  have h_through : FOk P w K mg base 5 "through" ["points"] m_through := ok_through Z D_through h_Misstep h_added h_minus h_over h_product h_scaled h_times h_value_at
  have h_turned : FOk P w K mg base 4 "turned" ["one"] m_turned := ok_turned Z D_turned h_times
  have h_back : FOk P w K mg base 2 "back" ["one", "size"] m_back := ok_back Z D_back h_trimmed
  have h_line : FOk P w K mg base 4 "line" ["number"] m_line := ok_line Z D_line h_times
  have h_from_roots : FOk P w K mg base 5 "from_roots" ["row"] m_from_roots := ok_from_roots Z D_from_roots h_line h_product
  have h__law_pick : FOk P w K mg base 2 "_law_pick" ["state", "row"] m__law_pick := ok__law_pick Z D__law_pick h__law_take
  have h__law_fr : FOk P w K mg base 1 "_law_fr" ["above", "below"] m__law_fr := ok__law_fr Z D__law_fr 
  have h__law_is_fr : FOk P w K mg base 2 "_law_is_fr" ["value"] m__law_is_fr := ok__law_is_fr Z D__law_is_fr h__law_fr
  have h__law_are_frs : FOk P w K mg base 3 "_law_are_frs" ["value", "many"] m__law_are_frs := ok__law_are_frs Z D__law_are_frs h__law_is_fr
  have h__law_add : FOk P w K mg base 2 "_law_add" ["one", "other"] m__law_add := ok__law_add Z D__law_add h__law_fr
  have h__law_mul : FOk P w K mg base 2 "_law_mul" ["one", "other"] m__law_mul := ok__law_mul Z D__law_mul h__law_fr
  have h__law_sub : FOk P w K mg base 3 "_law_sub" ["one", "other"] m__law_sub := ok__law_sub Z D__law_sub h__law_add
  have h__law_sign : FOk P w K mg base 1 "_law_sign" ["one", "other"] m__law_sign := ok__law_sign Z D__law_sign 
  have h__law_trim : FOk P w K mg base 1 "_law_trim" ["row"] m__law_trim := ok__law_trim Z D__law_trim 
  have h__law_sum : FOk P w K mg base 3 "_law_sum" ["one", "other", "factor"] m__law_sum := ok__law_sum Z D__law_sum h__law_add h__law_mul h__law_trim
  have h__law_times : FOk P w K mg base 3 "_law_times" ["one", "other"] m__law_times := ok__law_times Z D__law_times h__law_add h__law_mul h__law_trim
  have h__law_val : FOk P w K mg base 3 "_law_val" ["one", "at_x"] m__law_val := ok__law_val Z D__law_val h__law_add h__law_mul
  have h__law_flip : FOk P w K mg base 2 "_law_flip" ["one"] m__law_flip := ok__law_flip Z D__law_flip h__law_fr
  have h__law_rest : FOk P w K mg base 4 "_law_rest" ["one", "other"] m__law_rest := ok__law_rest Z D__law_rest h__law_flip h__law_mul h__law_sub h__law_trim
  have h__law_slope : FOk P w K mg base 3 "_law_slope" ["one"] m__law_slope := ok__law_slope Z D__law_slope h__law_mul h__law_trim
  have h__law_part : FOk P w K mg base 2 "_law_part" ["state", "top", "low"] m__law_part := ok__law_part Z D__law_part h__law_fr h__law_take
  have h__law_poly : FOk P w K mg base 3 "_law_poly" ["state", "many", "top"] m__law_poly := ok__law_poly Z D__law_poly h__law_part h__law_trim
  have h__law_common : FOk P w K mg base 5 "_law_common" ["one", "other"] m__law_common := ok__law_common Z D__law_common h__law_flip h__law_mul h__law_rest
  have h__law_word : FOk P w K mg base 7 "_law_word" ["call"] m__law_word := ok__law_word Z D__law_word h_Misstep h_divided h_shares h_through
  have h__law_through : FOk P w K mg base 6 "_law_through" ["state"] m__law_through := ok__law_through Z D__law_through h__law_part h__law_take h__law_val h_through
  obtain ⟨fS, fdS, gS, FS⟩ := D__law_state.ex
  have GS : FnOk P w K mg base (L2.CX P w) 1 fS fdS ["script"] (spState K) := ok__law_state Z FS
  have bS : Binds K fdS ["script"] [] := bindsH FS (fun _ _ _ _ _ _ us hl => match us, hl with | [_], _ => rfl)
  refine F.ok sc_law (fun vs H Q E h => by obtain ⟨a, ns, rfl, _⟩ := h; rfl) fun cdv A outer s H vs Q E hr h => ⟨t_law K mg W0 g_law, PSs.nox ?_, law_pure rfl hlaw h⟩
  have cc : Cc (cxOf CX0 P w K mg base N_law "law" (defScope s_law) f cdv A outer s H E).nox W0 7 := ⟨takes0, hr, rfl, sc_law.nd, PassesOwn.never⟩
  exact pss_cons (ps_set (i := 1) sc_law.nd rfl (by first | exact Or.inl rfl | exact Or.inr rfl) (pe_call GS (hr.mono (by decide)) (by rfl) gS FS.kp bS .nil passL (pa_cons (pv 0) pa_nil)))
    (pss_ex fun G => body_law Z h__law_add h__law_are_frs h__law_common h__law_flip h__law_mul h__law_part h__law_poly h__law_rest h__law_slope h__law_sum h__law_take h__law_through h__law_times h__law_trim h__law_val h__law_word h_added h_back h_common h_derived h_divided h_from_roots h_inside h_is_poly h_is_simple h_less h_line h_monic h_moved h_of_wholes h_power h_product h_scaled h_shares h_trimmed h_turned h_value_at f cdv A outer s H E G cc)
end
def d__law_state : He.DefD := ⟨("_law_state", none), "_law_state", "_law_state", defArgs s_law_state, defBody s_law_state, defScope s_law_state, [], []⟩
def d__law_take : He.DefD := ⟨("_law_take", none), "_law_take", "_law_take", defArgs s_law_take, defBody s_law_take, defScope s_law_take, [], []⟩
def d_divisor : He.DefD := ⟨("divisor", none), "divisor", "divisor", defArgs s_divisor, defBody s_divisor, defScope s_divisor, [], []⟩
def d_part : He.DefD := ⟨("part", none), "part", "part", defArgs s_part, defBody s_part, defScope s_part, [], []⟩
def d_is_part : He.DefD := ⟨("is_part", none), "is_part", "is_part", defArgs s_is_part, defBody s_is_part, defScope s_is_part, [], []⟩
def d_plus : He.DefD := ⟨("plus", none), "plus", "plus", defArgs s_plus, defBody s_plus, defScope s_plus, [], []⟩
def d_minus : He.DefD := ⟨("minus", none), "minus", "minus", defArgs s_minus, defBody s_minus, defScope s_minus, [], []⟩
def d_times : He.DefD := ⟨("times", none), "times", "times", defArgs s_times, defBody s_times, defScope s_times, [], []⟩
def d_over : He.DefD := ⟨("over", none), "over", "over", defArgs s_over, defBody s_over, defScope s_over, [], []⟩
def d_is_poly : He.DefD := ⟨("is_poly", none), "is_poly", "is_poly", defArgs s_is_poly, defBody s_is_poly, defScope s_is_poly, [], []⟩
def d_trimmed : He.DefD := ⟨("trimmed", none), "trimmed", "trimmed", defArgs s_trimmed, defBody s_trimmed, defScope s_trimmed, [], []⟩
def d_of_wholes : He.DefD := ⟨("of_wholes", none), "of_wholes", "of_wholes", defArgs s_of_wholes, defBody s_of_wholes, defScope s_of_wholes, [], []⟩
def d_added : He.DefD := ⟨("added", none), "added", "added", defArgs s_added, defBody s_added, defScope s_added, [], []⟩
def d_scaled : He.DefD := ⟨("scaled", none), "scaled", "scaled", defArgs s_scaled, defBody s_scaled, defScope s_scaled, [], []⟩
def d_less : He.DefD := ⟨("less", none), "less", "less", defArgs s_less, defBody s_less, defScope s_less, [], []⟩
def d_product : He.DefD := ⟨("product", none), "product", "product", defArgs s_product, defBody s_product, defScope s_product, [], []⟩
def d_power : He.DefD := ⟨("power", none), "power", "power", defArgs s_power, defBody s_power, defScope s_power, [], []⟩
def d_value_at : He.DefD := ⟨("value_at", none), "value_at", "value_at", defArgs s_value_at, defBody s_value_at, defScope s_value_at, [], []⟩
def d_derived : He.DefD := ⟨("derived", none), "derived", "derived", defArgs s_derived, defBody s_derived, defScope s_derived, [], []⟩
def d_divided : He.DefD := ⟨("divided", none), "divided", "divided", defArgs s_divided, defBody s_divided, defScope s_divided, [], []⟩
def d_monic : He.DefD := ⟨("monic", none), "monic", "monic", defArgs s_monic, defBody s_monic, defScope s_monic, [], []⟩
def d_common : He.DefD := ⟨("common", none), "common", "common", defArgs s_common, defBody s_common, defScope s_common, [], []⟩
def d_shares : He.DefD := ⟨("shares", none), "shares", "shares", defArgs s_shares, defBody s_shares, defScope s_shares, [], []⟩
def d_moved : He.DefD := ⟨("moved", none), "moved", "moved", defArgs s_moved, defBody s_moved, defScope s_moved, [], []⟩
def d_inside : He.DefD := ⟨("inside", none), "inside", "inside", defArgs s_inside, defBody s_inside, defScope s_inside, [], []⟩
def d_is_simple : He.DefD := ⟨("is_simple", none), "is_simple", "is_simple", defArgs s_is_simple, defBody s_is_simple, defScope s_is_simple, [], []⟩
def d_through : He.DefD := ⟨("through", none), "through", "through", defArgs s_through, defBody s_through, defScope s_through, [], []⟩
def d_turned : He.DefD := ⟨("turned", none), "turned", "turned", defArgs s_turned, defBody s_turned, defScope s_turned, [], []⟩
def d_back : He.DefD := ⟨("back", none), "back", "back", defArgs s_back, defBody s_back, defScope s_back, [], []⟩
def d_line : He.DefD := ⟨("line", none), "line", "line", defArgs s_line, defBody s_line, defScope s_line, [], []⟩
def d_from_roots : He.DefD := ⟨("from_roots", none), "from_roots", "from_roots", defArgs s_from_roots, defBody s_from_roots, defScope s_from_roots, [], []⟩
def d__law_pick : He.DefD := ⟨("_law_pick", none), "_law_pick", "_law_pick", defArgs s_law_pick, defBody s_law_pick, defScope s_law_pick, [], []⟩
def d__law_fr : He.DefD := ⟨("_law_fr", none), "_law_fr", "_law_fr", defArgs s_law_fr, defBody s_law_fr, defScope s_law_fr, [], []⟩
def d__law_is_fr : He.DefD := ⟨("_law_is_fr", none), "_law_is_fr", "_law_is_fr", defArgs s_law_is_fr, defBody s_law_is_fr, defScope s_law_is_fr, [], []⟩
def d__law_are_frs : He.DefD := ⟨("_law_are_frs", none), "_law_are_frs", "_law_are_frs", defArgs s_law_are_frs, defBody s_law_are_frs, defScope s_law_are_frs, [], []⟩
def d__law_add : He.DefD := ⟨("_law_add", none), "_law_add", "_law_add", defArgs s_law_add, defBody s_law_add, defScope s_law_add, [], []⟩
def d__law_mul : He.DefD := ⟨("_law_mul", none), "_law_mul", "_law_mul", defArgs s_law_mul, defBody s_law_mul, defScope s_law_mul, [], []⟩
def d__law_sub : He.DefD := ⟨("_law_sub", none), "_law_sub", "_law_sub", defArgs s_law_sub, defBody s_law_sub, defScope s_law_sub, [], []⟩
def d__law_sign : He.DefD := ⟨("_law_sign", none), "_law_sign", "_law_sign", defArgs s_law_sign, defBody s_law_sign, defScope s_law_sign, [], []⟩
def d__law_trim : He.DefD := ⟨("_law_trim", none), "_law_trim", "_law_trim", defArgs s_law_trim, defBody s_law_trim, defScope s_law_trim, [], []⟩
def d__law_sum : He.DefD := ⟨("_law_sum", none), "_law_sum", "_law_sum", defArgs s_law_sum, defBody s_law_sum, defScope s_law_sum, [], []⟩
def d__law_times : He.DefD := ⟨("_law_times", none), "_law_times", "_law_times", defArgs s_law_times, defBody s_law_times, defScope s_law_times, [], []⟩
def d__law_val : He.DefD := ⟨("_law_val", none), "_law_val", "_law_val", defArgs s_law_val, defBody s_law_val, defScope s_law_val, [], []⟩
def d__law_flip : He.DefD := ⟨("_law_flip", none), "_law_flip", "_law_flip", defArgs s_law_flip, defBody s_law_flip, defScope s_law_flip, [], []⟩
def d__law_rest : He.DefD := ⟨("_law_rest", none), "_law_rest", "_law_rest", defArgs s_law_rest, defBody s_law_rest, defScope s_law_rest, [], []⟩
def d__law_slope : He.DefD := ⟨("_law_slope", none), "_law_slope", "_law_slope", defArgs s_law_slope, defBody s_law_slope, defScope s_law_slope, [], []⟩
def d__law_part : He.DefD := ⟨("_law_part", none), "_law_part", "_law_part", defArgs s_law_part, defBody s_law_part, defScope s_law_part, [], []⟩
def d__law_poly : He.DefD := ⟨("_law_poly", none), "_law_poly", "_law_poly", defArgs s_law_poly, defBody s_law_poly, defScope s_law_poly, [], []⟩
def d__law_common : He.DefD := ⟨("_law_common", none), "_law_common", "_law_common", defArgs s_law_common, defBody s_law_common, defScope s_law_common, [], []⟩
def d__law_word : He.DefD := ⟨("_law_word", none), "_law_word", "_law_word", defArgs s_law_word, defBody s_law_word, defScope s_law_word, [], []⟩
def d__law_through : He.DefD := ⟨("_law_through", none), "_law_through", "_law_through", defArgs s_law_through, defBody s_law_through, defScope s_law_through, [], []⟩
def d_law : He.DefD := ⟨("law", none), "law", "law", defArgs s_law, defBody s_law, defScope s_law, [], []⟩
def fnL : List He.DefD := [d__law_state, d__law_take, d_divisor, d_part, d_is_part, d_plus, d_minus, d_times, d_over, d_is_poly, d_trimmed, d_of_wholes, d_added, d_scaled, d_less, d_product, d_power, d_value_at, d_derived, d_divided, d_monic, d_common, d_shares, d_moved, d_inside, d_is_simple, d_through, d_turned, d_back, d_line, d_from_roots, d__law_pick, d__law_fr, d__law_is_fr, d__law_are_frs, d__law_add, d__law_mul, d__law_sub, d__law_sign, d__law_trim, d__law_sum, d__law_times, d__law_val, d__law_flip, d__law_rest, d__law_slope, d__law_part, d__law_poly, d__law_common, d__law_word, d__law_through, d_law]
def faL : List He.Fa := ([.glo "_law_state", .glo "_law_take", .glo "divisor", .glo "part", .glo "is_part", .glo "plus", .glo "minus", .glo "times", .glo "over", .glo "is_poly", .glo "trimmed", .glo "of_wholes", .glo "added", .glo "scaled", .glo "less", .glo "product", .glo "power", .glo "value_at", .glo "derived", .glo "divided"] : List He.Fa) ++ ([.glo "monic", .glo "common", .glo "shares", .glo "moved", .glo "inside", .glo "is_simple", .glo "through", .glo "turned", .glo "back", .glo "line", .glo "from_roots", .glo "_law_pick", .glo "_law_fr", .glo "_law_is_fr", .glo "_law_are_frs", .glo "_law_add", .glo "_law_mul", .glo "_law_sub", .glo "_law_sign", .glo "_law_trim"] : List He.Fa) ++ ([.glo "_law_sum", .glo "_law_times", .glo "_law_val", .glo "_law_flip", .glo "_law_rest", .glo "_law_slope", .glo "_law_part", .glo "_law_poly", .glo "_law_common", .glo "_law_word", .glo "_law_through", .glo "law", .free "abs", .free "all", .free "bool", .free "int", .free "isinstance", .free "len", .free "list", .free "max"] : List He.Fa) ++ ([.free "range", .free "set", .free "tuple", .int "MOST_DEGREE" 30, .glo "Misstep"] : List He.Fa)
def looseL : List PySem.Str := (["MOST_DEGREE", "Misstep", "Wrong", "_law_add", "_law_are_frs", "_law_common", "_law_flip", "_law_fr", "_law_is_fr", "_law_lengths", "_law_moments", "_law_mul", "_law_part", "_law_pick", "_law_poly", "_law_polys", "_law_rest", "_law_seconds", "_law_sign", "_law_slope"] : List PySem.Str) ++ (["_law_state", "_law_steps", "_law_sub", "_law_sum", "_law_take", "_law_through", "_law_times", "_law_trim", "_law_val", "_law_weighed", "_law_word", "added", "back", "common", "derived", "divided", "divisor", "from_roots", "inside", "is_part"] : List PySem.Str) ++ (["is_poly", "is_simple", "less", "line", "minus", "monic", "moved", "of_wholes", "over", "part", "plus", "power", "product", "scaled", "shares", "through", "times", "trimmed", "turned", "value_at"] : List PySem.Str)
abbrev R : PySem.W.OpenRow := PySem.W.OpenLaw.row PySem.Challenge.rw_nodewright_k01_whole_polynomials_of_part
def clL : List ClD := [cd_Misstep]
abbrev hk : PySem.W.Hook := hookX R.prog 4 faL fnL clL
def ob (s : PySem.W.SharedT) : AlX := obsXG R.prog 4 faL fnL clL (HandSHeadRun.getT s)
theorem ob_eq (s : PySem.W.SharedT) : ob s = hk.obs s.abs := obsXG_eq (HandSHeadRun.getT_eq s)
theorem runH (w : World) : HandSHeadRun.RunEq R (PySem.W.view R.prog [64]) hk ob 6000 looseL w := by
  intro os
  kernel_rfl
theorem facts {w : World} {K : PySem.W.Frag} {h : Heap} {mg : Str → Option Value} {f : Addr} (X : K.In h) (G : h.Ns mainGlobals mg) (hfa : mg ("law" : Str) = some (.ref f)) (c0 : SaysX R.prog faL fnL clL K) (hlaw : ∀ cs : List Int, cs ≠ [] → ∃ s, g_law (env0 26) (some (0, cs)) = .rt (.bool true) s) :
    ∃ fd : FuncData, (∀ (s : Shared) (v : Value), BindsTo s fd ⟨[v], []⟩ [("script", v)]) ∧ ∀ base : Heap, K.In base → base.Ns mainGlobals mg → FnOk R.prog w K mg base CX0 8 f fd ["script"] (spLaw K) := by
  have c := c0.d
  have D__law_state : DefAt K mg "_law_state" s_law_state := by
    obtain ⟨fd, F⟩ := c.def_ 0 (d := d__law_state) rfl
    exact ⟨_, fd, He.glo_ok X G (c.fact 0 (f := .glo "_law_state") rfl), F⟩
  have D__law_take : DefAt K mg "_law_take" s_law_take := by
    obtain ⟨fd, F⟩ := c.def_ 1 (d := d__law_take) rfl
    exact ⟨_, fd, He.glo_ok X G (c.fact 1 (f := .glo "_law_take") rfl), F⟩
  have D_divisor : DefAt K mg "divisor" s_divisor := by
    obtain ⟨fd, F⟩ := c.def_ 2 (d := d_divisor) rfl
    exact ⟨_, fd, He.glo_ok X G (c.fact 2 (f := .glo "divisor") rfl), F⟩
  have D_part : DefAt K mg "part" s_part := by
    obtain ⟨fd, F⟩ := c.def_ 3 (d := d_part) rfl
    exact ⟨_, fd, He.glo_ok X G (c.fact 3 (f := .glo "part") rfl), F⟩
  have D_is_part : DefAt K mg "is_part" s_is_part := by
    obtain ⟨fd, F⟩ := c.def_ 4 (d := d_is_part) rfl
    exact ⟨_, fd, He.glo_ok X G (c.fact 4 (f := .glo "is_part") rfl), F⟩
  have D_plus : DefAt K mg "plus" s_plus := by
    obtain ⟨fd, F⟩ := c.def_ 5 (d := d_plus) rfl
    exact ⟨_, fd, He.glo_ok X G (c.fact 5 (f := .glo "plus") rfl), F⟩
  have D_minus : DefAt K mg "minus" s_minus := by
    obtain ⟨fd, F⟩ := c.def_ 6 (d := d_minus) rfl
    exact ⟨_, fd, He.glo_ok X G (c.fact 6 (f := .glo "minus") rfl), F⟩
  have D_times : DefAt K mg "times" s_times := by
    obtain ⟨fd, F⟩ := c.def_ 7 (d := d_times) rfl
    exact ⟨_, fd, He.glo_ok X G (c.fact 7 (f := .glo "times") rfl), F⟩
  have D_over : DefAt K mg "over" s_over := by
    obtain ⟨fd, F⟩ := c.def_ 8 (d := d_over) rfl
    exact ⟨_, fd, He.glo_ok X G (c.fact 8 (f := .glo "over") rfl), F⟩
  have D_is_poly : DefAt K mg "is_poly" s_is_poly := by
    obtain ⟨fd, F⟩ := c.def_ 9 (d := d_is_poly) rfl
    exact ⟨_, fd, He.glo_ok X G (c.fact 9 (f := .glo "is_poly") rfl), F⟩
  have D_trimmed : DefAt K mg "trimmed" s_trimmed := by
    obtain ⟨fd, F⟩ := c.def_ 10 (d := d_trimmed) rfl
    exact ⟨_, fd, He.glo_ok X G (c.fact 10 (f := .glo "trimmed") rfl), F⟩
  have D_of_wholes : DefAt K mg "of_wholes" s_of_wholes := by
    obtain ⟨fd, F⟩ := c.def_ 11 (d := d_of_wholes) rfl
    exact ⟨_, fd, He.glo_ok X G (c.fact 11 (f := .glo "of_wholes") rfl), F⟩
  have D_added : DefAt K mg "added" s_added := by
    obtain ⟨fd, F⟩ := c.def_ 12 (d := d_added) rfl
    exact ⟨_, fd, He.glo_ok X G (c.fact 12 (f := .glo "added") rfl), F⟩
  have D_scaled : DefAt K mg "scaled" s_scaled := by
    obtain ⟨fd, F⟩ := c.def_ 13 (d := d_scaled) rfl
    exact ⟨_, fd, He.glo_ok X G (c.fact 13 (f := .glo "scaled") rfl), F⟩
  have D_less : DefAt K mg "less" s_less := by
    obtain ⟨fd, F⟩ := c.def_ 14 (d := d_less) rfl
    exact ⟨_, fd, He.glo_ok X G (c.fact 14 (f := .glo "less") rfl), F⟩
  have D_product : DefAt K mg "product" s_product := by
    obtain ⟨fd, F⟩ := c.def_ 15 (d := d_product) rfl
    exact ⟨_, fd, He.glo_ok X G (c.fact 15 (f := .glo "product") rfl), F⟩
  have D_power : DefAt K mg "power" s_power := by
    obtain ⟨fd, F⟩ := c.def_ 16 (d := d_power) rfl
    exact ⟨_, fd, He.glo_ok X G (c.fact 16 (f := .glo "power") rfl), F⟩
  have D_value_at : DefAt K mg "value_at" s_value_at := by
    obtain ⟨fd, F⟩ := c.def_ 17 (d := d_value_at) rfl
    exact ⟨_, fd, He.glo_ok X G (c.fact 17 (f := .glo "value_at") rfl), F⟩
  have D_derived : DefAt K mg "derived" s_derived := by
    obtain ⟨fd, F⟩ := c.def_ 18 (d := d_derived) rfl
    exact ⟨_, fd, He.glo_ok X G (c.fact 18 (f := .glo "derived") rfl), F⟩
  have D_divided : DefAt K mg "divided" s_divided := by
    obtain ⟨fd, F⟩ := c.def_ 19 (d := d_divided) rfl
    exact ⟨_, fd, He.glo_ok X G (c.fact 19 (f := .glo "divided") rfl), F⟩
  have D_monic : DefAt K mg "monic" s_monic := by
    obtain ⟨fd, F⟩ := c.def_ 20 (d := d_monic) rfl
    exact ⟨_, fd, He.glo_ok X G (c.fact 20 (f := .glo "monic") rfl), F⟩
  have D_common : DefAt K mg "common" s_common := by
    obtain ⟨fd, F⟩ := c.def_ 21 (d := d_common) rfl
    exact ⟨_, fd, He.glo_ok X G (c.fact 21 (f := .glo "common") rfl), F⟩
  have D_shares : DefAt K mg "shares" s_shares := by
    obtain ⟨fd, F⟩ := c.def_ 22 (d := d_shares) rfl
    exact ⟨_, fd, He.glo_ok X G (c.fact 22 (f := .glo "shares") rfl), F⟩
  have D_moved : DefAt K mg "moved" s_moved := by
    obtain ⟨fd, F⟩ := c.def_ 23 (d := d_moved) rfl
    exact ⟨_, fd, He.glo_ok X G (c.fact 23 (f := .glo "moved") rfl), F⟩
  have D_inside : DefAt K mg "inside" s_inside := by
    obtain ⟨fd, F⟩ := c.def_ 24 (d := d_inside) rfl
    exact ⟨_, fd, He.glo_ok X G (c.fact 24 (f := .glo "inside") rfl), F⟩
  have D_is_simple : DefAt K mg "is_simple" s_is_simple := by
    obtain ⟨fd, F⟩ := c.def_ 25 (d := d_is_simple) rfl
    exact ⟨_, fd, He.glo_ok X G (c.fact 25 (f := .glo "is_simple") rfl), F⟩
  have D_through : DefAt K mg "through" s_through := by
    obtain ⟨fd, F⟩ := c.def_ 26 (d := d_through) rfl
    exact ⟨_, fd, He.glo_ok X G (c.fact 26 (f := .glo "through") rfl), F⟩
  have D_turned : DefAt K mg "turned" s_turned := by
    obtain ⟨fd, F⟩ := c.def_ 27 (d := d_turned) rfl
    exact ⟨_, fd, He.glo_ok X G (c.fact 27 (f := .glo "turned") rfl), F⟩
  have D_back : DefAt K mg "back" s_back := by
    obtain ⟨fd, F⟩ := c.def_ 28 (d := d_back) rfl
    exact ⟨_, fd, He.glo_ok X G (c.fact 28 (f := .glo "back") rfl), F⟩
  have D_line : DefAt K mg "line" s_line := by
    obtain ⟨fd, F⟩ := c.def_ 29 (d := d_line) rfl
    exact ⟨_, fd, He.glo_ok X G (c.fact 29 (f := .glo "line") rfl), F⟩
  have D_from_roots : DefAt K mg "from_roots" s_from_roots := by
    obtain ⟨fd, F⟩ := c.def_ 30 (d := d_from_roots) rfl
    exact ⟨_, fd, He.glo_ok X G (c.fact 30 (f := .glo "from_roots") rfl), F⟩
  have D__law_pick : DefAt K mg "_law_pick" s_law_pick := by
    obtain ⟨fd, F⟩ := c.def_ 31 (d := d__law_pick) rfl
    exact ⟨_, fd, He.glo_ok X G (c.fact 31 (f := .glo "_law_pick") rfl), F⟩
  have D__law_fr : DefAt K mg "_law_fr" s_law_fr := by
    obtain ⟨fd, F⟩ := c.def_ 32 (d := d__law_fr) rfl
    exact ⟨_, fd, He.glo_ok X G (c.fact 32 (f := .glo "_law_fr") rfl), F⟩
  have D__law_is_fr : DefAt K mg "_law_is_fr" s_law_is_fr := by
    obtain ⟨fd, F⟩ := c.def_ 33 (d := d__law_is_fr) rfl
    exact ⟨_, fd, He.glo_ok X G (c.fact 33 (f := .glo "_law_is_fr") rfl), F⟩
  have D__law_are_frs : DefAt K mg "_law_are_frs" s_law_are_frs := by
    obtain ⟨fd, F⟩ := c.def_ 34 (d := d__law_are_frs) rfl
    exact ⟨_, fd, He.glo_ok X G (c.fact 34 (f := .glo "_law_are_frs") rfl), F⟩
  have D__law_add : DefAt K mg "_law_add" s_law_add := by
    obtain ⟨fd, F⟩ := c.def_ 35 (d := d__law_add) rfl
    exact ⟨_, fd, He.glo_ok X G (c.fact 35 (f := .glo "_law_add") rfl), F⟩
  have D__law_mul : DefAt K mg "_law_mul" s_law_mul := by
    obtain ⟨fd, F⟩ := c.def_ 36 (d := d__law_mul) rfl
    exact ⟨_, fd, He.glo_ok X G (c.fact 36 (f := .glo "_law_mul") rfl), F⟩
  have D__law_sub : DefAt K mg "_law_sub" s_law_sub := by
    obtain ⟨fd, F⟩ := c.def_ 37 (d := d__law_sub) rfl
    exact ⟨_, fd, He.glo_ok X G (c.fact 37 (f := .glo "_law_sub") rfl), F⟩
  have D__law_sign : DefAt K mg "_law_sign" s_law_sign := by
    obtain ⟨fd, F⟩ := c.def_ 38 (d := d__law_sign) rfl
    exact ⟨_, fd, He.glo_ok X G (c.fact 38 (f := .glo "_law_sign") rfl), F⟩
  have D__law_trim : DefAt K mg "_law_trim" s_law_trim := by
    obtain ⟨fd, F⟩ := c.def_ 39 (d := d__law_trim) rfl
    exact ⟨_, fd, He.glo_ok X G (c.fact 39 (f := .glo "_law_trim") rfl), F⟩
  have D__law_sum : DefAt K mg "_law_sum" s_law_sum := by
    obtain ⟨fd, F⟩ := c.def_ 40 (d := d__law_sum) rfl
    exact ⟨_, fd, He.glo_ok X G (c.fact 40 (f := .glo "_law_sum") rfl), F⟩
  have D__law_times : DefAt K mg "_law_times" s_law_times := by
    obtain ⟨fd, F⟩ := c.def_ 41 (d := d__law_times) rfl
    exact ⟨_, fd, He.glo_ok X G (c.fact 41 (f := .glo "_law_times") rfl), F⟩
  have D__law_val : DefAt K mg "_law_val" s_law_val := by
    obtain ⟨fd, F⟩ := c.def_ 42 (d := d__law_val) rfl
    exact ⟨_, fd, He.glo_ok X G (c.fact 42 (f := .glo "_law_val") rfl), F⟩
  have D__law_flip : DefAt K mg "_law_flip" s_law_flip := by
    obtain ⟨fd, F⟩ := c.def_ 43 (d := d__law_flip) rfl
    exact ⟨_, fd, He.glo_ok X G (c.fact 43 (f := .glo "_law_flip") rfl), F⟩
  have D__law_rest : DefAt K mg "_law_rest" s_law_rest := by
    obtain ⟨fd, F⟩ := c.def_ 44 (d := d__law_rest) rfl
    exact ⟨_, fd, He.glo_ok X G (c.fact 44 (f := .glo "_law_rest") rfl), F⟩
  have D__law_slope : DefAt K mg "_law_slope" s_law_slope := by
    obtain ⟨fd, F⟩ := c.def_ 45 (d := d__law_slope) rfl
    exact ⟨_, fd, He.glo_ok X G (c.fact 45 (f := .glo "_law_slope") rfl), F⟩
  have D__law_part : DefAt K mg "_law_part" s_law_part := by
    obtain ⟨fd, F⟩ := c.def_ 46 (d := d__law_part) rfl
    exact ⟨_, fd, He.glo_ok X G (c.fact 46 (f := .glo "_law_part") rfl), F⟩
  have D__law_poly : DefAt K mg "_law_poly" s_law_poly := by
    obtain ⟨fd, F⟩ := c.def_ 47 (d := d__law_poly) rfl
    exact ⟨_, fd, He.glo_ok X G (c.fact 47 (f := .glo "_law_poly") rfl), F⟩
  have D__law_common : DefAt K mg "_law_common" s_law_common := by
    obtain ⟨fd, F⟩ := c.def_ 48 (d := d__law_common) rfl
    exact ⟨_, fd, He.glo_ok X G (c.fact 48 (f := .glo "_law_common") rfl), F⟩
  have D__law_word : DefAt K mg "_law_word" s_law_word := by
    obtain ⟨fd, F⟩ := c.def_ 49 (d := d__law_word) rfl
    exact ⟨_, fd, He.glo_ok X G (c.fact 49 (f := .glo "_law_word") rfl), F⟩
  have D__law_through : DefAt K mg "_law_through" s_law_through := by
    obtain ⟨fd, F⟩ := c.def_ 50 (d := d__law_through) rfl
    exact ⟨_, fd, He.glo_ok X G (c.fact 50 (f := .glo "_law_through") rfl), F⟩
  have Z : Nm mg := ⟨He.free_ok X G (c.fact 52 (f := .free "abs") rfl), He.free_ok X G (c.fact 53 (f := .free "all") rfl), He.free_ok X G (c.fact 54 (f := .free "bool") rfl), He.free_ok X G (c.fact 55 (f := .free "int") rfl), He.free_ok X G (c.fact 56 (f := .free "isinstance") rfl), He.free_ok X G (c.fact 57 (f := .free "len") rfl), He.free_ok X G (c.fact 58 (f := .free "list") rfl), He.free_ok X G (c.fact 59 (f := .free "max") rfl), He.free_ok X G (c.fact 60 (f := .free "range") rfl), He.free_ok X G (c.fact 61 (f := .free "set") rfl), He.free_ok X G (c.fact 62 (f := .free "tuple") rfl), He.int_ok X G (c.fact 63 (f := .int "MOST_DEGREE" 30) rfl)⟩
  obtain ⟨c1_Misstep, c2_Misstep⟩ := c0.cl_ 0 (d := cd_Misstep) rfl
  have g_Misstep := He.glo_ok X G (c.fact 64 (f := .glo "Misstep") rfl)
  obtain ⟨fd, F⟩ := c.def_ 51 (d := d_law) rfl
  have e := hfa.symm.trans (He.glo_ok X G (c.fact 51 (f := .glo "law") rfl))
  cases e
  have b := FunD.bindsA (ps := ["script"]) F fun _ _ _ _ _ _ us hl => match us, hl with | [_], _ => rfl
  exact ⟨fd, fun s v => b s [v] rfl, fun base _ _ => ok_law Z (ok_Misstep g_Misstep c1_Misstep c2_Misstep) D__law_state D__law_take D_divisor D_part D_is_part D_plus D_minus D_times D_over D_is_poly D_trimmed D_of_wholes D_added D_scaled D_less D_product D_power D_value_at D_derived D_divided D_monic D_common D_shares D_moved D_inside D_is_simple D_through D_turned D_back D_line D_from_roots D__law_pick D__law_fr D__law_is_fr D__law_are_frs D__law_add D__law_mul D__law_sub D__law_sign D__law_trim D__law_sum D__law_times D__law_val D__law_flip D__law_rest D__law_slope D__law_part D__law_poly D__law_common D__law_word D__law_through hlaw F⟩
end N1E
open PySem PySem.W PySem.Calls PyProof.Rows
theorem PySem.Challenge.cw_nodewright_k01_whole_polynomials_of_part_holds : PySem.Challenge.rw_nodewright_k01_whole_polynomials_of_part.Holds := by
  w_on; o_law
  refine HandSHeadRun.head_any (r := OpenLaw.row PySem.Challenge.rw_nodewright_k01_whole_polynomials_of_part) (q := view (OpenLaw.row PySem.Challenge.rw_nodewright_k01_whole_polynomials_of_part).prog [64]) (H := N1E.hk) (ob := N1E.ob) (M := 6000) (loose := N1E.looseL) (d := HandSHeadRun.topDef (OpenLaw.row PySem.Challenge.rw_nodewright_k01_whole_polynomials_of_part).prog 64) (kwd := []) N1E.ob_eq
    (by kernel_rfl) (fun s => by kernel_rfl) N1E.runH (by kernel_rfl) (by kernel_rfl) (by kernel_rfl) (by rfl) (by first | assumption | decide +kernel) (by decide +kernel) ⟨rfl, rfl, rfl, rfl, rfl, by decide +kernel⟩ ?hw ?hc
  case hw => w_witness2
  case hc =>
    refine L2.walk_ofE (l := PySem.Challenge.rw_nodewright_k01_whole_polynomials_of_part) (n := 63) (k := 8) (x := "script") (CX := L2.CX0) rfl (by decide) (by kernel_rfl) ⟨rfl, by decide, by decide⟩ ?F (fun _ _ _ _ z => z)
    intro w mg fa h Y G hmg0
    obtain ⟨K, KX, c⟩ := Y
    have hmg : mg ("law" : PySem.Str) = some (.ref fa) := by
      have e : (HandSHeadRun.topDef (OpenLaw.row PySem.Challenge.rw_nodewright_k01_whole_polynomials_of_part).prog 64).name = ("law" : PySem.Str) := by kernel_rfl
      rw [← e]
      exact hmg0
    obtain ⟨fd, hb, hF⟩ := N1E.facts (w := w) KX G hmg c N1.law_true
    exact ⟨K, fd, DS.spLaw K, KX, hb, fun H a ns hl _ hS => ⟨a, ns, rfl, hS, hl, fun _ => rfl⟩, hF⟩
end
