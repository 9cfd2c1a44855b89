import PyProof.Rows.All
import HandS.ForMost
import HandS.Exc
import HandS.TryOnly
import HandS.Wide
import HandS.Style
import HandS.TupAny
import HandS.TupMul
import HandS.IsInst
import HandS.CallSlots
import HandS.WordsExc
import HandS.Deep
import HandS.Defaults
import PySem.Challenge.RW_nodewright_k09_whole_parts_of_numbers
import Wide.All
import OpenK.AllK
import Wide.FinOn
import KE.KStateDown
import Lean
import HandS.Head0
import HandS.Head1
import HandS.Head2
import HandS.HeadEnd
import HandS.HeadHook1
import HandS.HeadHook2
section
set_option Elab.async false
set_option linter.all false
set_option maxRecDepth 100000
set_option autoImplicit false
namespace DS
open PySem PySem.Spec L2
open PyProof.Rows hiding St
/-! ## data, states, results -/
abbrev D := PyData
structure Exn where
  cls : Str
  fs : List (Str × D)
abbrev LS := Option (Int × List Int)
inductive Out (α : Type) where
  | ok (a : α) (s : LS)
  | err (x : Exn) (s : LS)
  | bad
def Out.bind {α β : Type} (o : Out α) (f : α → LS → Out β) : Out β := match o with
  | .ok a s => f a s
  | .err x s => .err x s
  | .bad => .bad
inductive EV where
  | un
  | sh (d : D)
  | ow (ds : List D)
  | st
abbrev Ev := List EV
inductive SOut where
  | nx (e : Ev) (s : LS)
  | rt (d : D) (s : LS)
  | bk (e : Ev) (s : LS)
  | ct (e : Ev) (s : LS)
  | err (x : Exn) (e : Ev) (s : LS)
  | bad
/-- where the law's state lies -/
abbrev Gh := Option (Addr × Addr)
def Gh.has : Gh → Addr → Prop
  | none, _ => False
  | some (a, b), x => x = a ∨ x = b
def StOk (G : Gh) (F H : Hp) : LS → Prop
  | none => G = none
  | some (p, cs) => ∃ a b, G = some (a, b) ∧ a ≠ b ∧ F a = none ∧ F b = none ∧ H a = some (.lst [.int p, .ref b]) ∧ H b = some (.lst (cs.map V.int))
/-- F: what stands still. An expression leaves all but the state as it was -/
structure Step (G : Gh) (F H F' H' : Hp) : Prop where
  sub : ∀ a o, F' a = some o → H' a = some o
  keep : ∀ a o, H a = some o → ¬ G.has a → H' a = some o
  frz : ∀ a o, H a = some o → F' a = F a
  dom : ∀ a, H' a = none → H a = none
section
variable {K : PySem.W.Frag} {G : Gh} {F H F1 H1 F2 H2 F' H' F0 H0 : Hp} {s s' : LS}
theorem Step.refl (h : ∀ a o, F a = some o → H a = some o) : Step G F H F H := ⟨h, fun _ _ e _ => e, fun _ _ _ => rfl, fun _ e => e⟩
theorem some_of_dom {H H' : Hp} (d : ∀ a, H' a = none → H a = none) {a : Addr} {o : HO} (e : H a = some o) : ∃ o', H' a = some o' := by
  cases q : H' a with
  | none => rw [d a q] at e; cases e
  | some o' => exact ⟨o', rfl⟩
theorem Step.trans (a : Step G F H F1 H1) (b : Step G F1 H1 F2 H2) : Step G F H F2 H2 :=
  ⟨b.sub, fun x o e n => b.keep x o (a.keep x o e n) n, fun x o e => by
    obtain ⟨o', e'⟩ := some_of_dom a.dom e
    rw [b.frz x o' e', a.frz x o e], fun x e => a.dom x (b.dom x e)⟩
theorem Step.inc (h : ∀ a o, F a = some o → H a = some o) (st : Step G F H F' H') : ∀ a o, F a = some o → F' a = some o := fun a o e => by rw [st.frz a o (h a o e)]; exact e
end
/-! ## what a value is -/
mutual
inductive Rp (K : PySem.W.Frag) (F : Hp) : V → D → Prop where
  | non : Rp K F .non .none
  | bl (b : Bool) : Rp K F (.bl b) (.bool b)
  | int (i : Int) : Rp K F (.int i) (.int i)
  | str (x : Str) : Rp K F (.str x) (.str x)
  | lst {a : Addr} {xs : List V} {ds : List D} : F a = some (.lst xs) → RpAll K F xs ds → Rp K F (.ref a) (.list ds)
  | tup {a : Addr} {xs : List V} {ds : List D} : SqT K F a xs → RpAll K F xs ds → Rp K F (.ref a) (.tuple ds)
inductive RpAll (K : PySem.W.Frag) (F : Hp) : List V → List D → Prop where
  | nil : RpAll K F [] []
  | cons {v : V} {vs : List V} {d : D} {ds : List D} : Rp K F v d → RpAll K F vs ds → RpAll K F (v :: vs) (d :: ds)
end
mutual
theorem Rp.dp {K : PySem.W.Frag} {F : Hp} : ∀ {v : V} {d : D}, Rp K F v d → Dp K F v d
  | _, _, .non => .non
  | _, _, .bl b => .bl b
  | _, _, .int i => .int i
  | _, _, .str x => .str x
  | _, _, .lst a b => .lst (SqL.of a) (RpAll.dp b)
  | _, _, .tup a b => .tup a (RpAll.dp b)
theorem RpAll.dp {K : PySem.W.Frag} {F : Hp} : ∀ {vs : List V} {ds : List D}, RpAll K F vs ds → DpAll K F vs ds
  | _, _, .nil => .nil
  | _, _, .cons a b => .cons (Rp.dp a) (RpAll.dp b)
end
theorem sqT_mono {K : PySem.W.Frag} {F F' : Hp} (h : ∀ a o, F a = some o → F' a = some o) {a : Addr} {xs : List V} (e : SqT K F a xs) : SqT K F' a xs := by
  rcases e with (z | ⟨o, z⟩) | z
  · exact .inl (.inl (h _ _ z))
  · exact .inl (.inr ⟨o, h _ _ z⟩)
  · exact .inr z
mutual
theorem Rp.mono {K : PySem.W.Frag} {F F' : Hp} (h : ∀ a o, F a = some o → F' a = some o) : ∀ {v : V} {d : D}, Rp K F v d → Rp K F' v d
  | _, _, .non => .non
  | _, _, .bl b => .bl b
  | _, _, .int i => .int i
  | _, _, .str x => .str x
  | _, _, .lst a b => .lst (h _ _ a) (RpAll.mono h b)
  | _, _, .tup a b => .tup (sqT_mono h a) (RpAll.mono h b)
theorem RpAll.mono {K : PySem.W.Frag} {F F' : Hp} (h : ∀ a o, F a = some o → F' a = some o) : ∀ {vs : List V} {ds : List D}, RpAll K F vs ds → RpAll K F' vs ds
  | _, _, .nil => .nil
  | _, _, .cons a b => .cons (Rp.mono h a) (RpAll.mono h b)
end
theorem RpAll.length {K : PySem.W.Frag} {F : Hp} : ∀ {vs : List V} {ds : List D}, RpAll K F vs ds → vs.length = ds.length
  | _, _, .nil => rfl
  | _, _, .cons _ b => by rw [List.length_cons, List.length_cons, RpAll.length b]
theorem RpAll.get {K : PySem.W.Frag} {F : Hp} : ∀ {vs : List V} {ds : List D} {i : Nat} {d : D}, RpAll K F vs ds → ds[i]? = some d → ∃ v, vs[i]? = some v ∧ Rp K F v d
  | _, _, _, _, .nil, e => by simp at e
  | _, _, 0, _, .cons a _, e => by
    have e' := Option.some.inj e
    subst e'
    exact ⟨_, rfl, a⟩
  | _, _, i + 1, d, .cons _ b, e => RpAll.get (i := i) b e
theorem RpAll.append {K : PySem.W.Frag} {F : Hp} : ∀ {vs ws : List V} {ds es : List D}, RpAll K F vs ds → RpAll K F ws es → RpAll K F (vs ++ ws) (ds ++ es)
  | _, _, _, _, .nil, b => b
  | _, _, _, _, .cons a r, b => .cons a (RpAll.append r b)
theorem RpAll.set {K : PySem.W.Frag} {F : Hp} {v : V} {d : D} (r : Rp K F v d) : ∀ {vs : List V} {ds : List D} (i : Nat), RpAll K F vs ds → RpAll K F (vs.set i v) (ds.set i d)
  | _, _, _, .nil => .nil
  | _, _, 0, .cons _ b => .cons r b
  | _, _, i + 1, .cons a b => .cons a (RpAll.set r i b)
theorem RpAll.take {K : PySem.W.Frag} {F : Hp} : ∀ {vs : List V} {ds : List D} (n : Nat), RpAll K F vs ds → RpAll K F (vs.take n) (ds.take n)
  | _, _, 0, _ => .nil
  | _, _, _ + 1, .nil => .nil
  | _, _, n + 1, .cons r t => .cons r (RpAll.take n t)
theorem RpAll.drop {K : PySem.W.Frag} {F : Hp} : ∀ {vs : List V} {ds : List D} (n : Nat), RpAll K F vs ds → RpAll K F (vs.drop n) (ds.drop n)
  | _, _, 0, r => r
  | _, _, _ + 1, .nil => .nil
  | _, _, n + 1, .cons _ t => RpAll.drop n t
theorem RpAll.reverse {K : PySem.W.Frag} {F : Hp} : ∀ {vs : List V} {ds : List D}, RpAll K F vs ds → RpAll K F vs.reverse ds.reverse
  | _, _, .nil => .nil
  | _, _, .cons a b => by
    rw [List.reverse_cons, List.reverse_cons]
    exact RpAll.append (RpAll.reverse b) (.cons a .nil)
theorem RpAll.rep {K : PySem.W.Frag} {F : Hp} {vs : List V} {ds : List D} (h : RpAll K F vs ds) : ∀ n : Nat, RpAll K F (List.replicate n vs).flatten (List.replicate n ds).flatten
  | 0 => .nil
  | n + 1 => by
    rw [List.replicate_succ, List.replicate_succ, List.flatten_cons, List.flatten_cons]
    exact RpAll.append h (RpAll.rep h n)
/-! ## frames: slots against the environment -/
/-- an argument (a shared value, the state, a lent list) -/
def AV (K : PySem.W.Frag) (G : Gh) (F H : Hp) (v : V) : EV → Prop
  | .un => False
  | .sh d => Rp K F v d
  | .ow ds => ∃ p xs, v = .ref p ∧ H p = some (.lst xs) ∧ F p = none ∧ ¬ G.has p ∧ RpAll K F xs ds
  | .st => ∃ a b, G = some (a, b) ∧ v = .ref a
def SlotOk (K : PySem.W.Frag) (G : Gh) (H0 F H : Hp) (x : Option V) : EV → Prop
  | .un => True
  | .sh d => ∃ v, x = some v ∧ Rp K F v d
  | .ow ds => ∃ p xs, x = some (.ref p) ∧ H p = some (.lst xs) ∧ F p = none ∧ H0 p = none ∧ ¬ G.has p ∧ RpAll K F xs ds
  | .st => ∃ a b, G = some (a, b) ∧ x = some (.ref a)
structure Rel (K : PySem.W.Frag) (G : Gh) (F0 H0 F H : Hp) (σ : St) (env : Ev) (s : LS) : Prop where
  st : Step G F0 H0 F H
  len : env.length = σ.length
  slots : ∀ (i : Nat) (e : EV), env[i]? = some e → ∃ x : Option V, σ[i]? = some x ∧ SlotOk K G H0 F H x e
  dist : ∀ (i j : Nat) (di dj : List D), i ≠ j → env[i]? = some (EV.ow di) → env[j]? = some (EV.ow dj) → σ[i]? ≠ σ[j]?
  so : StOk G F H s
section
variable {K : PySem.W.Frag} {G : Gh} {F H F1 H1 F2 H2 F' H' F0 H0 : Hp} {s s' : LS} {σ : St} {env : Ev}
theorem SlotOk.step {x : Option V} {e : EV} (h : ∀ a o, F a = some o → H a = some o) (st : Step G F H F' H') (q : SlotOk K G H0 F H x e) : SlotOk K G H0 F' H' x e := by
  cases e with
  | un => trivial
  | sh d => obtain ⟨v, e, r⟩ := q; exact ⟨v, e, r.mono (st.inc h)⟩
  | ow ds =>
    obtain ⟨p, xs, e, hp, fp, h0, ng, r⟩ := q
    exact ⟨p, xs, e, st.keep _ _ hp ng, (st.frz _ _ hp).trans fp, h0, ng, r.mono (st.inc h)⟩
  | st => exact q
theorem AV.step {v : V} {e : EV} (h : ∀ a o, F a = some o → H a = some o) (st : Step G F H F' H') (q : AV K G F H v e) : AV K G F' H' v e := by
  cases e with
  | un => exact q
  | sh d => exact Rp.mono (st.inc h) q
  | ow ds =>
    obtain ⟨p, xs, e, hp, fp, ng, r⟩ := q
    exact ⟨p, xs, e, st.keep _ _ hp ng, (st.frz _ _ hp).trans fp, ng, r.mono (st.inc h)⟩
  | st => exact q
theorem Rel.step (r : Rel K G F0 H0 F H σ env s) (st : Step G F H F' H') (so : StOk G F' H' s') : Rel K G F0 H0 F' H' σ env s' :=
  ⟨r.st.trans st, r.len, fun i e q => by
    obtain ⟨x, e1, e2⟩ := r.slots i e q
    exact ⟨x, e1, e2.step r.st.sub st⟩, r.dist, so⟩
theorem Rel.sub (r : Rel K G F0 H0 F H σ env s) : ∀ a o, F a = some o → H a = some o := r.st.sub
end
/-! ## exceptions, results -/
def FsOk (K : PySem.W.Frag) (F : Hp) : List (Str × V) → List (Str × D) → Prop
  | [], [] => True
  | (n, v) :: r, (m, d) :: q => n = m ∧ Rp K F v d ∧ FsOk K F r q
  | _, _ => False
def RelX (K : PySem.W.Frag) (mg : Str → Option Value) (F : Hp) (x : Exn) (cls : Value) (dd : Option Addr) : Prop :=
  ∃ C d fs, mg x.cls = some (.ref C) ∧ cls = .ref C ∧ dd = some d ∧ F d = some (.xd fs) ∧ FsOk K F fs x.fs
structure RR (α β : Type) where
  r : PySem.W.Frag → Gh → Hp → Hp → Hp → β → α → Prop
  mono : ∀ {K G H H1 F' H' b a}, (∀ x, H1 x = none → H x = none) → r K G H1 F' H' b a → r K G H F' H' b a
def Post {α β : Type} (K : PySem.W.Frag) (mg : Str → Option Value) (W : WX) (G : Gh) (F H : Hp) (σ : St) (R : RR α β) (Q : β → Hp → Prop) : Out α → Prop
  | .ok a s' => ∀ b F' H', Step G F H F' H' → StOk G F' H' s' → R.r K G H F' H' b a → Q b H'
  | .err x s' => ∀ cls dd F' H', Step G F H F' H' → StOk G F' H' s' → RelX K mg F' x cls dd → W cls dd σ H'
  | .bad => False
section
variable {α β γ δ : Type} {K : PySem.W.Frag} {mg : Str → Option Value} {W : WX} {G : Gh} {F H F' H' : Hp} {σ : St} {R : RR α β} {R1 : RR γ δ} {Q : β → Hp → Prop} {Q1 : δ → Hp → Prop}
theorem Post.step {o : Out α} (h : Post K mg W G F H σ R Q o) (st : Step G F H F' H') : Post K mg W G F' H' σ R Q o := by
  cases o with
  | ok a s => exact fun b F2 H2 s2 so r => h b F2 H2 (st.trans s2) so (R.mono st.dom r)
  | err x s => exact fun c d F2 H2 s2 so r => h c d F2 H2 (st.trans s2) so r
  | bad => exact h
theorem post_bind {o : Out γ} {f : γ → LS → Out α} (h : Post K mg W G F H σ R Q (o.bind f))
    (k : ∀ a s' x F' H', Step G F H F' H' → StOk G F' H' s' → R1.r K G H F' H' x a → Post K mg W G F' H' σ R Q (f a s') → Q1 x H') : Post K mg W G F H σ R1 Q1 o := by
  cases o with
  | ok a s => exact fun x F2 H2 st so r => k a s x F2 H2 st so r (Post.step h st)
  | err x s => exact h
  | bad => exact h
end
def RD : RR D V := ⟨fun K _ _ F' _ v d => Rp K F' v d, fun _ r => r⟩
/-- a value that is looked at: shared, or a list that is lent -/
def RWd : RR D V := ⟨fun K G _ F' H' v d => Rp K F' v d ∨ ∃ p xs ds, v = .ref p ∧ d = .list ds ∧ H' p = some (.lst xs) ∧ F' p = none ∧ ¬ G.has p ∧ RpAll K F' xs ds, fun _ r => r⟩
/-- a new list that is one's own -/
def RF : RR (List D) V := ⟨fun K G H F' H' v ds => ∃ p xs, v = .ref p ∧ H p = none ∧ H' p = some (.lst xs) ∧ F' p = none ∧ ¬ G.has p ∧ RpAll K F' xs ds,
  fun h ⟨p, xs, a, b, c⟩ => ⟨p, xs, a, h _ b, c⟩⟩
/-- what is given to a name: shared, or a new list -/
def RV : RR EV V := ⟨fun K G H F' H' v e => match e with
  | .un => False
  | .sh d => Rp K F' v d
  | .ow ds => ∃ p xs, v = .ref p ∧ H p = none ∧ H' p = some (.lst xs) ∧ F' p = none ∧ ¬ G.has p ∧ RpAll K F' xs ds
  | .st => ∃ a b, G = some (a, b) ∧ v = .ref a, fun {K G H H1 F' H' b a} h r => by
    cases a with
    | un => exact r
    | sh d => exact r
    | ow ds => obtain ⟨p, xs, a, b, c⟩ := r; exact ⟨p, xs, a, h _ b, c⟩
    | st => exact r⟩
def RA : RR EV V := ⟨fun K G _ F' H' v e => AV K G F' H' v e, fun _ r => r⟩
def AVs (K : PySem.W.Frag) (G : Gh) (F H : Hp) : List V → List EV → Prop
  | [], [] => True
  | v :: vs, e :: es => AV K G F H v e ∧ AVs K G F H vs es
  | _, _ => False
def RAs : RR (List EV) (List V) := ⟨fun K G _ F' H' vs es => AVs K G F' H' vs es, fun _ r => r⟩
def RDs : RR (List D) (List V) := ⟨fun K _ _ F' _ vs ds => RpAll K F' vs ds, fun _ r => r⟩
def RB : RR Bool Bool := ⟨fun _ _ _ _ _ b a => b = a, fun _ r => r⟩
/-! ## judgements -/
def tG {α β : Type} (K : PySem.W.Frag) (mg : Str → Option Value) (W : WX) (G : Gh) (R : RR α β) (g : Ev → LS → Out α) (σ : L2.St) (H : Hp) (Q : β → Hp → Prop) : Prop :=
  ∃ F0 H0 F env s, Rel K G F0 H0 F H σ env s ∧ Post K mg W G F H σ R Q (g env s)
section
variable {α : Type}
def SG (R : RR α V) (X : Cx) (W : WX) (G : Gh) (e : Expr) (g : Ev → LS → Out α) : Prop := PE X e (tG X.K X.mg W G R g)
abbrev SE := SG RD
abbrev SW := SG RWd
abbrev SF := SG RF
abbrev SV := SG RV
abbrev SX := SG RA
def SB (X : Cx) (W : WX) (G : Gh) (e : Expr) (g : Ev → LS → Out Bool) : Prop := PT X e (tG X.K X.mg W G RB g)
def SBW (X : Cx) (W : WX) (G : Gh) (e : Expr) (g : Ev → LS → Out Bool) : Prop := PW X e (tG X.K X.mg W G RB g)
def SLg (R : RR α (List V)) (X : Cx) (W : WX) (G : Gh) (es : List Expr) (g : Ev → LS → Out α) : Prop := PA X es (tG X.K X.mg W G R g)
end
/-- Fs: what stood still ahead of the statement -/
def PostS (K : PySem.W.Frag) (mg : Str → Option Value) (W : WX) (G : Gh) (F0 H0 Fs : Hp) (D : Ends) : SOut → Prop
  | .nx env' s' => ∀ F' H' σ', Rel K G F0 H0 F' H' σ' env' s' → (∀ a o, Fs a = some o → F' a = some o) → D.nx σ' H'
  | .rt d s' => ∀ v F' H', Step G F0 H0 F' H' → StOk G F' H' s' → Rp K F' v d → D.rt v H'
  | .bk env' s' => ∀ F' H' σ', Rel K G F0 H0 F' H' σ' env' s' → (∀ a o, Fs a = some o → F' a = some o) → D.bk σ' H'
  | .ct env' s' => ∀ F' H' σ', Rel K G F0 H0 F' H' σ' env' s' → (∀ a o, Fs a = some o → F' a = some o) → D.ct σ' H'
  | .err x env' s' => ∀ cls dd F' H' σ', Rel K G F0 H0 F' H' σ' env' s' → (∀ a o, Fs a = some o → F' a = some o) → RelX K mg F' x cls dd → W cls dd σ' H'
  | .bad => False
theorem PostS.inc {K : PySem.W.Frag} {mg : Str → Option Value} {W : WX} {G : Gh} {F0 H0 Fs Ft : Hp} {D : Ends} {o : SOut} (h : ∀ a o, Fs a = some o → Ft a = some o) (p : PostS K mg W G F0 H0 Fs D o) : PostS K mg W G F0 H0 Ft D o := by
  cases o with
  | nx e s => exact fun F' H' σ' r i => p F' H' σ' r fun a o z => i a o (h a o z)
  | bk e s => exact fun F' H' σ' r i => p F' H' σ' r fun a o z => i a o (h a o z)
  | ct e s => exact fun F' H' σ' r i => p F' H' σ' r fun a o z => i a o (h a o z)
  | err x e s => exact fun c d F' H' σ' r i => p c d F' H' σ' r fun a o z => i a o (h a o z)
  | rt d s => exact p
  | bad => exact p
def tGS (K : PySem.W.Frag) (mg : Str → Option Value) (W : WX) (G : Gh) (g : Ev → LS → SOut) : TS := fun D σ H =>
  ∃ F0 H0 F env s, Rel K G F0 H0 F H σ env s ∧ PostS K mg W G F0 H0 F D (g env s)
def SS (X : Cx) (W : WX) (G : Gh) (st : Stmt) (g : Ev → LS → SOut) : Prop := PS X st (tGS X.K X.mg W G g)
def SSs (X : Cx) (W : WX) (G : Gh) (sts : List Stmt) (g : Ev → LS → SOut) : Prop := PSs X sts (tGS X.K X.mg W G g)
section
variable {α : Type} {X : Cx} {W : WX} {G : Gh} {e : Expr} {es : List Expr} {st : Stmt} {sts : List Stmt}
theorem SG.use {R : RR α V} {g : Ev → LS → Out α} (h : SG R X W G e g) : ∃ t, PE X e t ∧ ∀ F0 H0 F H σ env s Q, Rel X.K G F0 H0 F H σ env s → Post X.K X.mg W G F H σ R Q (g env s) → t σ H Q :=
  ⟨_, h, fun F0 H0 F H σ env s Q r p => ⟨F0, H0, F, env, s, r, p⟩⟩
theorem SG.mk {R : RR α V} {g : Ev → LS → Out α} {t : TE} (h : PE X e t) (k : ∀ F0 H0 F H σ env s Q, Rel X.K G F0 H0 F H σ env s → Post X.K X.mg W G F H σ R Q (g env s) → t σ H Q) : SG R X W G e g :=
  ⟨fun pins s σ H Q I ⟨F0, H0, F, env, s', r, p⟩ => h.run pins s σ H Q I (k F0 H0 F H σ env s' Q r p)⟩
theorem SB.use {g : Ev → LS → Out Bool} (h : SB X W G e g) : ∃ t, PT X e t ∧ ∀ F0 H0 F H σ env s Q, Rel X.K G F0 H0 F H σ env s → Post X.K X.mg W G F H σ RB Q (g env s) → t σ H Q :=
  ⟨_, h, fun F0 H0 F H σ env s Q r p => ⟨F0, H0, F, env, s, r, p⟩⟩
theorem SB.mk {g : Ev → LS → Out Bool} {t : TT} (h : PT X e t) (k : ∀ F0 H0 F H σ env s Q, Rel X.K G F0 H0 F H σ env s → Post X.K X.mg W G F H σ RB Q (g env s) → t σ H Q) : SB X W G e g :=
  ⟨fun pins s σ H Q I ⟨F0, H0, F, env, s', r, p⟩ => h.run pins s σ H Q I (k F0 H0 F H σ env s' Q r p)⟩
theorem SBW.use {g : Ev → LS → Out Bool} (h : SBW X W G e g) : ∃ t, PW X e t ∧ ∀ F0 H0 F H σ env s Q, Rel X.K G F0 H0 F H σ env s → Post X.K X.mg W G F H σ RB Q (g env s) → t σ H Q :=
  ⟨_, h, fun F0 H0 F H σ env s Q r p => ⟨F0, H0, F, env, s, r, p⟩⟩
theorem SBW.mk {g : Ev → LS → Out Bool} {t : TT} (h : PW X e t) (k : ∀ F0 H0 F H σ env s Q, Rel X.K G F0 H0 F H σ env s → Post X.K X.mg W G F H σ RB Q (g env s) → t σ H Q) : SBW X W G e g :=
  ⟨fun wh pins s σ H Q I ⟨F0, H0, F, env, s', r, p⟩ => h.run wh pins s σ H Q I (k F0 H0 F H σ env s' Q r p)⟩
theorem SLg.use {R : RR α (List V)} {g : Ev → LS → Out α} (h : SLg R X W G es g) : ∃ t, PA X es t ∧ ∀ F0 H0 F H σ env s Q, Rel X.K G F0 H0 F H σ env s → Post X.K X.mg W G F H σ R Q (g env s) → t σ H Q :=
  ⟨_, h, fun F0 H0 F H σ env s Q r p => ⟨F0, H0, F, env, s, r, p⟩⟩
theorem SLg.mk {R : RR α (List V)} {g : Ev → LS → Out α} {t : TA} (h : PA X es t) (k : ∀ F0 H0 F H σ env s Q, Rel X.K G F0 H0 F H σ env s → Post X.K X.mg W G F H σ R Q (g env s) → t σ H Q) : SLg R X W G es g :=
  ⟨fun ps pins s σ H Q I ⟨F0, H0, F, env, s', r, p⟩ => h.run ps pins s σ H Q I (k F0 H0 F H σ env s' Q r p)⟩
theorem SS.use {g : Ev → LS → SOut} (h : SS X W G st g) : ∃ t, PS X st t ∧ ∀ F0 H0 F H σ env s D, Rel X.K G F0 H0 F H σ env s → PostS X.K X.mg W G F0 H0 F D (g env s) → t D σ H :=
  ⟨_, h, fun F0 H0 F H σ env s Q r p => ⟨F0, H0, F, env, s, r, p⟩⟩
theorem SS.mk {g : Ev → LS → SOut} {t : TS} (h : PS X st t) (k : ∀ F0 H0 F H σ env s D, Rel X.K G F0 H0 F H σ env s → PostS X.K X.mg W G F0 H0 F D (g env s) → t D σ H) : SS X W G st g :=
  ⟨fun pins s σ H D I ⟨F0, H0, F, env, s', r, p⟩ => h.run pins s σ H D I (k F0 H0 F H σ env s' D r p)⟩
theorem SSs.use {g : Ev → LS → SOut} (h : SSs X W G sts g) : ∃ t, PSs X sts t ∧ ∀ F0 H0 F H σ env s D, Rel X.K G F0 H0 F H σ env s → PostS X.K X.mg W G F0 H0 F D (g env s) → t D σ H :=
  ⟨_, h, fun F0 H0 F H σ env s Q r p => ⟨F0, H0, F, env, s, r, p⟩⟩
theorem SSs.mk {g : Ev → LS → SOut} {t : TS} (h : PSs X sts t) (k : ∀ F0 H0 F H σ env s D, Rel X.K G F0 H0 F H σ env s → PostS X.K X.mg W G F0 H0 F D (g env s) → t D σ H) : SSs X W G sts g :=
  ⟨fun pins s σ H D I ⟨F0, H0, F, env, s', r, p⟩ => h.run pins s σ H D I (k F0 H0 F H σ env s' D r p)⟩
end
end DS
end

section
set_option Elab.async false
set_option linter.all false
set_option maxRecDepth 100000
set_option autoImplicit false
namespace DS
open PySem PySem.Spec L2
open PyProof.Rows hiding St
/-! ## the value layer's expressions -/
def lift {α : Type} (o : Option α) (s : LS) : Out α := match o with
  | some a => .ok a s
  | none => .bad
def varD (i : Nat) (env : Ev) (s : LS) : Out D := match env[i]? with
  | some (.sh d) => .ok d s
  | _ => .bad
def varW (i : Nat) (env : Ev) (s : LS) : Out D := match env[i]? with
  | some (.sh d) => .ok d s
  | some (.ow ds) => .ok (.list ds) s
  | _ => .bad
def varX (i : Nat) (env : Ev) (s : LS) : Out EV := match env[i]? with
  | some (.sh d) => .ok (.sh d) s
  | some (.ow ds) => .ok (.ow ds) s
  | some .st => .ok .st s
  | _ => .bad
def cD (d : D) (_ : Ev) (s : LS) : Out D := .ok d s
def isNone : D → Bool
  | .none => true
  | _ => false
def op2 (f : D → D → Option D) (ga gb : Ev → LS → Out D) (env : Ev) (s : LS) : Out D := (ga env s).bind fun x s1 => (gb env s1).bind fun y s2 => lift (f x y) s2
def op1 (f : D → Option D) (ga : Ev → LS → Out D) (env : Ev) (s : LS) : Out D := (ga env s).bind fun x s1 => lift (f x) s1
section
variable {X : Cx} {W : WX} {G : Gh} {e : Expr} {K : PySem.W.Frag} {F H F' H' F0 H0 : Hp} {σ : L2.St} {env : Ev} {s s' : LS} {v : V} {d : D}
/-! ### steps that leave the state alone -/
theorem Step.weak (st : Step none F H F' H') : Step G F H F' H' := ⟨st.sub, fun a o e _ => st.keep a o e (fun z => z), st.frz, st.dom⟩
theorem StOk.pure (so : StOk G F H s) (st : Step none F H F' H') : StOk G F' H' s := by
  cases s with
  | none => exact so
  | some q =>
    obtain ⟨p, cs⟩ := q
    obtain ⟨a, b, e, ne, fa, fb, ha, hb⟩ := so
    exact ⟨a, b, e, ne, (st.frz _ _ ha).trans fa, (st.frz _ _ hb).trans fb, st.keep _ _ ha (fun z => z), st.keep _ _ hb fun z => z⟩
theorem step_new {p : Addr} {o : HO} (sub : ∀ a o, F a = some o → H a = some o) (hp : H p = none) : Step none F H (upd F p o) (upd H p o) :=
  ⟨fun a u e => by
    by_cases h : a = p
    · subst h; rw [upd_same] at e ⊢; exact e
    · rw [upd_ne h] at e ⊢; exact sub a u e, fun a u e _ => by rw [upd_ne (ne_of_none e hp)]; exact e, fun a u e => by rw [upd_ne (ne_of_none e hp)], fun a e => by
    by_cases h : a = p
    · subst h; rw [upd_same] at e; cases e
    · rw [upd_ne h] at e; exact e⟩
theorem step_own {p : Addr} {o : HO} (sub : ∀ a o, F a = some o → H a = some o) (hp : H p = none) : Step none F H F (upd H p o) :=
  ⟨fun a u e => by rw [upd_ne (ne_of_none (sub a u e) hp)]; exact sub a u e, fun a u e _ => by rw [upd_ne (ne_of_none e hp)]; exact e, fun _ _ _ => rfl, fun a e => by
    by_cases h : a = p
    · subst h; rw [upd_same] at e; cases e
    · rw [upd_ne h] at e; exact e⟩
theorem none_of_sub (sub : ∀ a o, F a = some o → H a = some o) {p : Addr} (hp : H p = none) : F p = none := by
  cases q : F p with
  | none => rfl
  | some o => rw [sub p o q] at hp; cases hp
theorem not_has (so : StOk G F H s) {p : Addr} (hp : H p = none) : ¬ G.has p := by
  cases s with
  | none =>
    have e : G = none := so
    subst e
    exact fun z => z
  | some q =>
    obtain ⟨a, b, e, _, _, _, ha, hb⟩ := so
    subst e
    rintro (rfl | rfl)
    · rw [ha] at hp; cases hp
    · rw [hb] at hp; cases hp
/-! ### what is looked at -/
abbrev Wd (K : PySem.W.Frag) (G : Gh) (F H : Hp) (v : V) (d : D) : Prop := RWd.r K G H F H v d
theorem Wd.lst {ds : List D} (h : Wd K G F H v (.list ds)) (sub : ∀ a o, F a = some o → H a = some o) : ∃ p xs, v = .ref p ∧ H p = some (.lst xs) ∧ RpAll K F xs ds := by
  rcases h with h | ⟨p, xs, ds', rfl, e, hp, _, _, r⟩
  · cases h with
    | lst a b => exact ⟨_, _, rfl, sub _ _ a, b⟩
  · cases e
    exact ⟨p, xs, rfl, hp, r⟩
theorem Wd.tup {ds : List D} (h : Wd K G F H v (.tuple ds)) : ∃ p xs, v = .ref p ∧ SqT K F p xs ∧ RpAll K F xs ds := by
  rcases h with h | ⟨p, xs, ds', rfl, e, hp, _, _, r⟩
  · cases h with
    | tup a b => exact ⟨_, _, rfl, a, b⟩
  · cases e
theorem Wd.int {i : Int} (h : Wd K G F H v (.int i)) : v = .int i := by
  rcases h with h | ⟨p, xs, ds', rfl, e, hp, _, _, r⟩
  · cases h; rfl
  · cases e
theorem Wd.bl {b : Bool} (h : Wd K G F H v (.bool b)) : v = .bl b := by
  rcases h with h | ⟨p, xs, ds', rfl, e, hp, _, _, r⟩
  · cases h; rfl
  · cases e
theorem Wd.str {x : Str} (h : Wd K G F H v (.str x)) : v = .str x := by
  rcases h with h | ⟨p, xs, ds', rfl, e, hp, _, _, r⟩
  · cases h; rfl
  · cases e
theorem Wd.non (h : Wd K G F H v .none) : v = .non := by
  rcases h with h | ⟨p, xs, ds', rfl, e, hp, _, _, r⟩
  · cases h; rfl
  · cases e
theorem Wd.dp (h : Wd K G F H v d) (sub : ∀ a o, F a = some o → H a = some o) : Dp K H v d := by
  rcases h with h | ⟨p, xs, ds', rfl, rfl, hp, _, _, r⟩
  · exact (Rp.mono sub h).dp
  · exact .lst (SqL.of hp) (RpAll.mono sub r).dp
theorem Wd.step (h : Wd K G F H v d) (sub : ∀ a o, F a = some o → H a = some o) (st : Step G F H F' H') : Wd K G F' H' v d := by
  rcases h with h | ⟨p, xs, ds', rfl, rfl, hp, fp, ng, r⟩
  · exact .inl (h.mono (st.inc sub))
  · exact .inr ⟨p, xs, ds', rfl, rfl, st.keep _ _ hp ng, (st.frz _ _ hp).trans fp, ng, r.mono (st.inc sub)⟩
theorem Wd.non_iff (h : Wd K G F H v d) : (decide (v = .non)) = isNone d := by
  rcases h with h | ⟨p, xs, ds', rfl, rfl, hp, fp, ng, r⟩
  · cases h <;> simp [isNone]
  · simp [isNone]
/-! ### names, constants -/
theorem Rel.slot (r : Rel K G F0 H0 F H σ env s) {i : Nat} {e : EV} (h : env[i]? = some e) : ∃ x, σ[i]? = some x ∧ SlotOk K G H0 F H x e := r.slots i e h
theorem se_var {i : Nat} (h : PE X e (tVar i)) : SE X W G e (varD i) := by
  refine SG.mk h fun F0 H0 F H σ env s Q r p => ?_
  unfold varD at p
  split at p
  · rename_i d hd
    obtain ⟨x, e1, v, e2, q⟩ := r.slots i _ hd
    subst e2
    exact ⟨v, e1, p v F H (Step.refl r.sub) r.so q⟩
  · exact p.elim
theorem sw_var {i : Nat} (h : PE X e (tVar i)) : SW X W G e (varW i) := by
  refine SG.mk h fun F0 H0 F H σ env s Q r p => ?_
  unfold varW at p
  split at p
  · rename_i d hd
    obtain ⟨x, e1, v, e2, q⟩ := r.slots i _ hd
    subst e2
    exact ⟨v, e1, p v F H (Step.refl r.sub) r.so (.inl q)⟩
  · rename_i d hd
    obtain ⟨x, e1, pp, xs, e2, hp, fp, _, ng, q⟩ := r.slots i _ hd
    subst e2
    exact ⟨.ref pp, e1, p (.ref pp) F H (Step.refl r.sub) r.so (.inr ⟨pp, xs, d, rfl, rfl, hp, fp, ng, q⟩)⟩
  · exact p.elim
theorem sx_var {i : Nat} (h : PE X e (tVar i)) : SX X W G e (varX i) := by
  refine SG.mk h fun F0 H0 F H σ env s Q r p => ?_
  unfold varX at p
  split at p
  · rename_i d hd
    obtain ⟨x, e1, v, e2, q⟩ := r.slots i _ hd
    subst e2
    exact ⟨v, e1, p v F H (Step.refl r.sub) r.so q⟩
  · rename_i d hd
    obtain ⟨x, e1, pp, xs, e2, hp, fp, _, ng, q⟩ := r.slots i _ hd
    subst e2
    exact ⟨.ref pp, e1, p (.ref pp) F H (Step.refl r.sub) r.so ⟨pp, xs, rfl, hp, fp, ng, q⟩⟩
  · rename_i hd
    obtain ⟨x, e1, a, b, e2, e3⟩ := r.slots i _ hd
    subst e3
    exact ⟨.ref a, e1, p (.ref a) F H (Step.refl r.sub) r.so ⟨a, b, e2, rfl⟩⟩
  · exact p.elim
theorem se_const (h : PE X e (tC v)) (q : ∀ F, Rp X.K F v d) : SE X W G e (cD d) :=
  SG.mk h fun F0 H0 F H σ env s Q r p => p v F H (Step.refl r.sub) r.so (q F)
theorem se_int {i j pos} : SE X W G (.Constant (.int i) j pos) (cD (.int i)) := se_const pe_int fun _ => .int i
theorem se_bl {b j pos} : SE X W G (.Constant (.bool b) j pos) (cD (.bool b)) := se_const pe_bl fun _ => .bl b
theorem se_non {j pos} : SE X W G (.Constant .none j pos) (cD .none) := se_const pe_non fun _ => .non
theorem se_str {x j pos} : SE X W G (.Constant (.str x) j pos) (cD (.str x)) := se_const pe_str fun _ => .str x
/-! ### from one judgement to another -/
theorem Post.map {α β γ : Type} {mg : Str → Option Value} {R : RR α β} {R1 : RR γ β} {Q : β → Hp → Prop} {o : Out γ} {f : γ → α}
    (h : Post K mg W G F H σ R Q (o.bind fun a s => .ok (f a) s)) (k : ∀ F' H' b a, Step G F H F' H' → R1.r K G H F' H' b a → R.r K G H F' H' b (f a)) : Post K mg W G F H σ R1 Q o := by
  cases o with
  | ok a s => exact fun b F' H' st so r => h b F' H' st so (k F' H' b a st r)
  | err x s => exact h
  | bad => exact h
theorem Out.bind_ok {α : Type} (o : Out α) : (o.bind fun a s => .ok a s) = o := by cases o <;> rfl
theorem sw_of {g : Ev → LS → Out D} (h : SE X W G e g) : SW X W G e g := by
  obtain ⟨t, h1, h2⟩ := h.use
  refine SG.mk h1 fun F0 H0 F H σ env s Q r p => h2 F0 H0 F H σ env s Q r ?_
  rw [← Out.bind_ok (g env s)] at p
  exact Post.map (f := id) p fun _ _ _ _ _ z => .inl z
def asSh (g : Ev → LS → Out D) (env : Ev) (s : LS) : Out EV := (g env s).bind fun d s => .ok (.sh d) s
def asOw (g : Ev → LS → Out (List D)) (env : Ev) (s : LS) : Out EV := (g env s).bind fun d s => .ok (.ow d) s
def asLst (g : Ev → LS → Out (List D)) (env : Ev) (s : LS) : Out D := (g env s).bind fun d s => .ok (.list d) s
theorem sx_of {g : Ev → LS → Out D} (h : SE X W G e g) : SX X W G e (asSh g) := by
  obtain ⟨t, h1, h2⟩ := h.use
  exact SG.mk h1 fun F0 H0 F H σ env s Q r p => h2 F0 H0 F H σ env s Q r (Post.map p fun _ _ _ _ _ z => z)
theorem sv_of {g : Ev → LS → Out D} (h : SE X W G e g) : SV X W G e (asSh g) := by
  obtain ⟨t, h1, h2⟩ := h.use
  exact SG.mk h1 fun F0 H0 F H σ env s Q r p => h2 F0 H0 F H σ env s Q r (Post.map p fun _ _ _ _ _ z => z)
theorem sv_ow {g : Ev → LS → Out (List D)} (h : SF X W G e g) : SV X W G e (asOw g) := by
  obtain ⟨t, h1, h2⟩ := h.use
  exact SG.mk h1 fun F0 H0 F H σ env s Q r p => h2 F0 H0 F H σ env s Q r (Post.map p fun _ _ _ _ _ z => z)
theorem StOk.frozen {p : Addr} {o : HO} (so : StOk G F H s) (ng : ¬ G.has p) : StOk G (upd F p o) H s := by
  cases s with
  | none => exact so
  | some q =>
    obtain ⟨q1, q2⟩ := q
    obtain ⟨a, b, e, ne, fa, fb, ha, hb⟩ := so
    subst e
    exact ⟨a, b, rfl, ne, by rw [upd_ne (fun z => ng (.inl z.symm))]; exact fa, by rw [upd_ne (fun z => ng (.inr z.symm))]; exact fb, ha, hb⟩
/-- a new list, from now on shared -/
theorem se_of {g : Ev → LS → Out (List D)} (h : SF X W G e g) : SE X W G e (asLst g) := by
  obtain ⟨t, h1, h2⟩ := h.use
  refine SG.mk h1 fun F0 H0 F H σ env s Q r p => h2 F0 H0 F H σ env s Q r ?_
  unfold asLst at p
  cases q : g env s with
  | ok a s1 =>
    rw [q] at p
    intro b F' H' st so rr
    obtain ⟨pp, xs, rfl, hp, hp', fp, ng, ra⟩ := rr
    have inc : ∀ a o, F' a = some o → upd F' pp (.lst xs) a = some o := fun a o z => by rw [upd_ne (ne_of_none z fp)]; exact z
    have neG : ∀ a, G.has a → a ≠ pp := fun a z w => ng (w ▸ z)
    refine p (.ref pp) (upd F' pp (.lst xs)) H' ⟨fun a o z => ?_, st.keep, fun a o z => ?_, st.dom⟩ ?_ (.lst upd_same (ra.mono inc))
    · by_cases w : a = pp
      · subst w; rw [upd_same] at z; rw [hp', ← z]
      · rw [upd_ne w] at z; exact st.sub a o z
    · rw [upd_ne (ne_of_none z hp)]; exact st.frz a o z
    · exact so.frozen ng
  | err x s1 => rw [q] at p; exact p
  | bad => rw [q] at p; exact p
/-! ### two-place operations -/
def OpS (X : Cx) (G : Gh) (f : Value → Value → Sem Value) (g : D → D → Option D) : Prop :=
  ∃ r, OpR X f r ∧ ∀ F H x y dx dy d Q, (∀ a o, F a = some o → H a = some o) → Wd X.K G F H x dx → Wd X.K G F H y dy → g dx dy = some d → (∀ v F' H', Step none F H F' H' → Rp X.K F' v d → Q v H') → r x y H Q
theorem se_op2 {a b : Expr} {ga gb : Ev → LS → Out D} {g : D → D → Option D} {f : Value → Value → Sem Value}
    (hp : ∀ {ta tb : TE} {r : R2}, PE X a ta → PE X b tb → OpR X f r → PE X e (tOp r ta tb)) (ho : OpS X G f g) (ha : SW X W G a ga) (hb : SW X W G b gb) : SE X W G e (op2 g ga gb) := by
  obtain ⟨r, ho, hr⟩ := ho
  obtain ⟨ta, ha, ka⟩ := ha.use
  obtain ⟨tb, hb, kb⟩ := hb.use
  refine SG.mk (hp ha hb ho) fun F0 H0 F H σ env s Q rl p => ?_
  refine ka F0 H0 F H σ env s _ rl (post_bind p fun dx s1 x F1 H1 st1 so1 rx p1 => ?_)
  have rl1 := rl.step st1 so1
  refine kb F0 H0 F1 H1 σ env s1 _ rl1 (post_bind p1 fun dy s2 y F2 H2 st2 so2 ry p2 => ?_)
  cases q : g dx dy with
  | none => rw [q] at p2; exact p2.elim
  | some d =>
    rw [q] at p2
    exact hr F2 H2 x y dx dy d Q st2.sub (Wd.step rx st1.sub st2) ry q fun v F' H' st rp => p2 v F' H' st.weak (so2.pure st) rp
theorem se_bin {op : Operator} {a b : Expr} {pos : Pos} {ga gb : Ev → LS → Out D} {g : D → D → Option D} (ho : OpS X G (binaryOp op) g) (ha : SW X W G a ga) (hb : SW X W G b gb) : SE X W G (.BinOp a op b pos) (op2 g ga gb) :=
  se_op2 (fun h1 h2 h3 => pe_op h3 h1 h2) ho ha hb
theorem se_cmp {op : CmpOp} {a b : Expr} {pos : Pos} {ga gb : Ev → LS → Out D} {g : D → D → Option D} (ho : OpS X G (compareOp op) g) (ha : SW X W G a ga) (hb : SW X W G b gb)
    (hm : behindInMarks op b = false := by first | exact nobehind _ (by decide) (by decide) | rfl) : SE X W G (.Compare a [op] [b] pos) (op2 g ga gb) :=
  se_op2 (fun h1 h2 h3 => pe_cmpR h3 h1 h2 hm) ho ha hb
theorem OpR.or {f : Value → Value → Sem Value} {r1 r2 : R2} (h1 : OpR X f r1) (h2 : OpR X f r2) : OpR X f (fun x y H Q => r1 x y H Q ∨ r2 x y H Q) :=
  fun pins s σ H x y v u Q I rx ry h => h.elim (h1 pins s σ H x y v u Q I rx ry) (h2 pins s σ H x y v u Q I rx ry)
theorem stay (sub : ∀ a o, F a = some o → H a = some o) {Q : VK} (q : ∀ v F' H', Step none F H F' H' → Rp K F' v d → Q v H') {v : V} (h : Rp K F v d) : Q v H := q v F H (Step.refl sub) h
/-! ### arithmetic -/
def addD : D → D → Option D
  | .int i, .int j => some (.int (i + j))
  | .str x, .str y => if x.length + y.length ≤ sizeLine then some (.str (x ++ y)) else none
  | .tuple xs, .tuple ys => if xs.length + ys.length ≤ sizeLine then some (.tuple (xs ++ ys)) else none
  | .list xs, .list ys => if xs.length + ys.length ≤ sizeLine then some (.list (xs ++ ys)) else none
  | _, _ => none
def subD : D → D → Option D
  | .int i, .int j => some (.int (i - j))
  | _, _ => none
/-- a product that is no too great number -/
def mulOk (i j : Int) : Prop := (-(2 ^ 64) < i ∧ i < 2 ^ 64) ∨ (-(2 ^ 64) < j ∧ j < 2 ^ 64) ∨ i.natAbs.log2 + j.natAbs.log2 < 1000000
instance (i j : Int) : Decidable (mulOk i j) := by unfold mulOk; infer_instance
def mulD : D → D → Option D
  | .int i, .int j => if mulOk i j then some (.int (i * j)) else none
  | .list xs, .int k => if k < 2 ^ 62 ∧ -(2 ^ 62) < k ∧ xs.length * k.toNat ≤ sizeLine then some (.list (List.replicate k.toNat xs).flatten) else none
  | _, _ => none
def fdivD : D → D → Option D
  | .int i, .int j => if j ≠ 0 ∧ j.natAbs.log2 < 9000 then some (.int (i.fdiv j)) else none
  | _, _ => none
def modD : D → D → Option D
  | .int i, .int j => if j ≠ 0 then some (.int (i.fmod j)) else none
  | _, _ => none
theorem addO : OpS X G (binaryOp .Add) addD := by
  refine ⟨_, ((op_add.or op_add_str).or (op_catA.or op_cat)), fun F H x y dx dy d Q sub hx hy e q => ?_⟩
  unfold addD at e
  split at e
  · cases e
    cases hx.int; cases hy.int
    exact .inl (.inl ⟨_, _, rfl, rfl, stay sub q (.int _)⟩)
  · split at e
    · cases e
      cases hx.str; cases hy.str
      exact .inl (.inr ⟨_, _, rfl, rfl, by assumption, stay sub q (.str _)⟩)
    · cases e
  · split at e
    · rename_i xs ys hz
      cases e
      obtain ⟨a, us, rfl, sa, ra⟩ := hx.tup
      obtain ⟨b, vs, rfl, sb, rb⟩ := hy.tup
      refine .inr (.inl ⟨a, b, us, vs, rfl, rfl, sqT_mono sub sa, sqT_mono sub sb, by rw [ra.length, rb.length]; exact hz, fun e => ?_, fun _ e => ?_, fun _ _ p hp => ?_⟩)
      · subst e
        cases ra
        exact stay sub q (.tup sb rb)
      · subst e
        cases rb
        rw [List.append_nil] at q
        exact stay sub q (.tup sa ra)
      · have st := step_new (F := F) (o := .tup (us ++ vs)) sub hp
        exact q _ _ _ st (.tup (SqT.of upd_same) ((ra.mono (st.inc sub)).append (rb.mono (st.inc sub))))
    · cases e
  · split at e
    · rename_i xs ys hz
      cases e
      obtain ⟨a, us, rfl, sa, ra⟩ := hx.lst sub
      obtain ⟨b, vs, rfl, sb, rb⟩ := hy.lst sub
      refine .inr (.inr ⟨a, b, us, vs, rfl, rfl, sa, sb, by rw [ra.length, rb.length]; exact hz, fun p hp => ?_⟩)
      have st := step_new (F := F) (o := .lst (us ++ vs)) sub hp
      exact q _ _ _ st (.lst upd_same ((ra.mono (st.inc sub)).append (rb.mono (st.inc sub))))
    · cases e
  · cases e
theorem subO : OpS X G (binaryOp .Sub) subD := by
  refine ⟨_, op_sub, fun F H x y dx dy d Q sub hx hy e q => ?_⟩
  unfold subD at e
  split at e
  · cases e
    cases hx.int; cases hy.int
    exact ⟨_, _, rfl, rfl, stay sub q (.int _)⟩
  · cases e
theorem op_mulA : OpR X (binaryOp .Mult) (rI mulOk fun i j => .int (i * j)) := opI fun i j _ _ _ _ _ hc q => mul_int q (by
    rcases hc with h | h | h
    · exact .of_left (PySem.intBits_le_64 h.1 h.2)
    · exact .of_right (PySem.intBits_le_64 h.1 h.2)
    · exact CMulW.ok h)
theorem mulO : OpS X G (binaryOp .Mult) mulD := by
  refine ⟨_, op_mulA.or op_rep, fun F H x y dx dy d Q sub hx hy e q => ?_⟩
  unfold mulD at e
  split at e
  · split at e
    · cases e
      cases hx.int; cases hy.int
      exact .inl ⟨_, _, rfl, rfl, by assumption, stay sub q (.int _)⟩
    · cases e
  · split at e
    · rename_i xs k hk
      cases e
      cases hy.int
      obtain ⟨a, us, rfl, sa, ra⟩ := hx.lst sub
      refine .inr ⟨a, k, us, rfl, rfl, sa, by omega, by omega, by rw [ra.length]; exact hk.2.2, fun p hp => ?_⟩
      have st := step_new (F := F) (o := .lst (List.replicate k.toNat us).flatten) sub hp
      exact q _ _ _ st (.lst upd_same ((ra.mono (st.inc sub)).rep _))
    · cases e
  · cases e
theorem op_fdivA : OpR X (binaryOp .FloorDiv) (rI (fun _ j => j ≠ 0 ∧ j.natAbs.log2 < 9000) fun i j => .int (i.fdiv j)) := opI fun i j _ _ _ _ _ hc q => floordiv_int hc.1 q (.inl (PyProof.noPylong_of_log2 hc.2))
theorem fdivO : OpS X G (binaryOp .FloorDiv) fdivD := by
  refine ⟨_, op_fdivA, fun F H x y dx dy d Q sub hx hy e q => ?_⟩
  unfold fdivD at e
  split at e
  · split at e
    · cases e
      cases hx.int; cases hy.int
      exact ⟨_, _, rfl, rfl, by assumption, stay sub q (.int _)⟩
    · cases e
  · cases e
theorem modO : OpS X G (binaryOp .Mod) modD := by
  refine ⟨_, op_modN, fun F H x y dx dy d Q sub hx hy e q => ?_⟩
  unfold modD at e
  split at e
  · split at e
    · cases e
      cases hx.int; cases hy.int
      exact ⟨_, _, rfl, rfl, by assumption, stay sub q (.int _)⟩
    · cases e
  · cases e
/-! ### comparisons -/
def cmpI (p : Int → Int → Bool) : D → D → Option D
  | .int i, .int j => some (.bool (p i j))
  | _, _ => none
def ltD : D → D → Option D := cmpI fun i j => decide (i < j)
def leD : D → D → Option D := cmpI fun i j => decide (i ≤ j)
def gtD : D → D → Option D := cmpI fun i j => decide (j < i)
def geD : D → D → Option D := cmpI fun i j => decide (j ≤ i)
def eqD (x y : D) : Option D := if SeqAt.shaped x = true ∧ SeqAt.shaped y = true then some (.bool (PyData.eqv x y)) else none
def neD (x y : D) : Option D := if SeqAt.shaped x = true ∧ SeqAt.shaped y = true then some (.bool (!PyData.eqv x y)) else none
theorem cmpO {op : CmpOp} {p : Int → Int → Bool} (h : OpR X (compareOp op) (rI0 fun i j => .bl (p i j))) : OpS X G (compareOp op) (cmpI p) := by
  refine ⟨_, h, fun F H x y dx dy d Q sub hx hy e q => ?_⟩
  unfold cmpI at e
  split at e
  · cases e
    cases hx.int; cases hy.int
    exact ⟨_, _, rfl, rfl, stay sub q (.bl _)⟩
  · cases e
theorem ltO : OpS X G (compareOp .Lt) ltD := cmpO op_lt
theorem leO : OpS X G (compareOp .LtE) leD := cmpO op_le
theorem gtO : OpS X G (compareOp .Gt) gtD := cmpO op_gt
theorem geO : OpS X G (compareOp .GtE) geD := cmpO op_ge
theorem eqO (hu : X.A.units + 64 < cLine) : OpS X G (compareOp .Eq) eqD := by
  refine ⟨_, op_eqD hu, fun F H x y dx dy d Q sub hx hy e q => ?_⟩
  unfold eqD at e
  split at e
  · rename_i h
    cases e
    exact ⟨dx, dy, hx.dp sub, hy.dp sub, h.1, h.2, stay sub q (.bl _)⟩
  · cases e
theorem neO (hu : X.A.units + 64 < cLine) : OpS X G (compareOp .NotEq) neD := by
  refine ⟨_, op_neD hu, fun F H x y dx dy d Q sub hx hy e q => ?_⟩
  unfold neD at e
  split at e
  · rename_i h
    cases e
    exact ⟨dx, dy, hx.dp sub, hy.dp sub, h.1, h.2, stay sub q (.bl _)⟩
  · cases e
def isD : D → D → Option D
  | x, .none => some (.bool (isNone x))
  | .bool a, .bool b => some (.bool (decide (a = b)))
  | _, _ => none
def isntD : D → D → Option D
  | x, .none => some (.bool (!isNone x))
  | .bool a, .bool b => some (.bool (!decide (a = b)))
  | _, _ => none
theorem isO : OpS X G (compareOp .Is) isD := by
  refine ⟨_, op_isN.or op_isBl, fun F H x y dx dy d Q sub hx hy e q => ?_⟩
  unfold isD at e
  split at e
  · cases e
    cases hy.non
    refine .inl ⟨rfl, ?_⟩
    have z := hx.non_iff
    rw [z]
    exact stay sub q (.bl _)
  · cases e
    cases hx.bl; cases hy.bl
    exact .inr ⟨_, _, rfl, rfl, stay sub q (.bl _)⟩
  · cases e
theorem isntO : OpS X G (compareOp .IsNot) isntD := by
  refine ⟨_, op_notN.or op_notBl, fun F H x y dx dy d Q sub hx hy e q => ?_⟩
  unfold isntD at e
  split at e
  · cases e
    cases hy.non
    refine .inl ⟨rfl, ?_⟩
    have z := hx.non_iff
    rw [z]
    exact stay sub q (.bl _)
  · cases e
    cases hx.bl; cases hy.bl
    exact .inr ⟨_, _, rfl, rfl, stay sub q (.bl _)⟩
  · cases e
end
end DS
end

section
set_option Elab.async false
set_option linter.all false
set_option maxRecDepth 100000
set_option autoImplicit false
namespace DS
open PySem PySem.Spec L2
open PyProof.Rows hiding St
/-- what a rule leans on where one stands -/
structure Cc (X : Cx) (W : WX) (k : Nat) : Prop where
  tk : Takes X W
  room : Room k X.A
  calm : X.calm = true
  nd : X.N.Nodup
  po : PassesOwn (model X.prog X.w) X.A X.env X.xe
abbrev W0 : WX := fun _ _ _ _ => False
section
variable {X : Cx} {W : WX} {k : Nat}
theorem Cc.blk (c : Cc X W k) (s : Shared) (H : Hp) (scope : Scope) (env : Env) (fp : List Addr) : Cc (X.blk s H scope env fp) W0 k :=
  ⟨takes0, c.room, c.calm, c.nd, PassesOwn.never⟩
theorem Cc.u64 (c : Cc X W k) : X.A.units + 64 < cLine := c.room.units
theorem Cc.u65 (c : Cc X W k) (h : 1 ≤ k := by decide) : X.A.units + 65 < cLine := by
  have := c.room.un
  omega
end
section
variable {X : Cx} {W : WX} {G : Gh} {e a b : Expr} {K : PySem.W.Frag} {F H F' H' F0 H0 : Hp} {σ : L2.St} {env : Ev} {s s' : LS} {v : V} {d : D} {pos : Pos} {k : Nat}
/-! ### tests -/
def asB : D → Option Bool
  | .bool b => some b
  | _ => none
def tst (g : Ev → LS → Out D) (env : Ev) (s : LS) : Out Bool := (g env s).bind fun d s => lift (asB d) s
def tst2 (f : D → D → Option D) (ga gb : Ev → LS → Out D) (env : Ev) (s : LS) : Out Bool := (op2 f ga gb env s).bind fun d s => lift (asB d) s
theorem asB_some {d : D} {b : Bool} (h : asB d = some b) : d = .bool b := by
  cases d <;> simp [asB] at h
  rw [h]
theorem Rp.bl_inv {b : Bool} (h : Rp K F v (.bool b)) : v = .bl b := by cases h; rfl
theorem sb_of_pe {g : Ev → LS → Out D} (h : SE X W G e g) (he : ∀ whole, PySem.isTrue e X.env whole = (do let v ← whole; standAt e.pos; holding [v] (truthy v)) := by intro _; rfl) : SB X W G e (tst g) := by
  obtain ⟨t, h1, h2⟩ := h.use
  refine SB.mk (pt_val h1 he) fun F0 H0 F H σ env s Q r p => h2 F0 H0 F H σ env s _ r (post_bind p fun d s1 x F1 H1 st so rp p1 => ?_)
  cases q : asB d with
  | none => rw [q] at p1; exact p1.elim
  | some b =>
    rw [q] at p1
    cases asB_some q
    cases Rp.bl_inv rp
    exact ⟨b, rfl, p1 b F1 H1 (Step.refl st.sub) so rfl⟩
theorem sb_cmp {op : CmpOp} {ga gb : Ev → LS → Out D} {g : D → D → Option D} (ho : OpS X G (compareOp op) g) (ha : SW X W G a ga) (hb : SW X W G b gb)
    (hm : behindInMarks op b = false := by first | exact nobehind _ (by decide) (by decide) | rfl) : SB X W G (.Compare a [op] [b] pos) (tst2 g ga gb) := by
  obtain ⟨r, ho, hr⟩ := ho
  obtain ⟨ta, ha, ka⟩ := ha.use
  obtain ⟨tb, hb, kb⟩ := hb.use
  refine SB.mk (pt_cmpR ho ha hb hm) fun F0 H0 F H σ env s Q rl p => ?_
  have e1 : ∀ {α β γ : Type} (o : Out α) (f : α → LS → Out β) (g : β → LS → Out γ), (o.bind f).bind g = o.bind fun a s => (f a s).bind g := fun o f g => by cases o <;> rfl
  unfold tst2 op2 at p
  rw [e1] at p
  refine ka F0 H0 F H σ env s _ rl (post_bind p fun dx s1 x F1 H1 st1 so1 rx p1 => ?_)
  rw [e1] at p1
  have rl1 := rl.step st1 so1
  refine kb F0 H0 F1 H1 σ env s1 _ rl1 (post_bind p1 fun dy s2 y F2 H2 st2 so2 ry p2 => ?_)
  cases q : g dx dy with
  | none => rw [q] at p2; exact p2.elim
  | some d =>
    rw [q] at p2
    refine hr F2 H2 x y dx dy d _ st2.sub (Wd.step rx st1.sub st2) ry q fun v F' H' st rp => ?_
    change Post _ _ _ _ _ _ _ _ _ (lift (asB d) s2) at p2
    cases q : asB d with
    | none => rw [q] at p2; exact p2.elim
    | some b =>
      rw [q] at p2
      cases asB_some q
      cases Rp.bl_inv rp
      exact ⟨b, rfl, p2 b F' H' st.weak (so2.pure st) rfl⟩
def andB (ga gb : Ev → LS → Out Bool) (env : Ev) (s : LS) : Out Bool := (ga env s).bind fun b s => if b then gb env s else .ok false s
def orB (ga gb : Ev → LS → Out Bool) (env : Ev) (s : LS) : Out Bool := (ga env s).bind fun b s => if b then .ok true s else gb env s
def notB (ga : Ev → LS → Out Bool) (env : Ev) (s : LS) : Out Bool := (ga env s).bind fun b s => .ok (!b) s
variable {rest : List Expr} {ga gb : Ev → LS → Out Bool}
theorem sb_w (h : SBW X W G e ga) : SB X W G e ga := PW.pt h
theorem sbw_and1 (ha : SB X W G a ga) : SBW X W G (.BoolOp .And [a] pos) ga := by
  obtain ⟨t, h1, h2⟩ := ha.use
  exact SBW.mk (pw_and1 h1) h2
theorem sbw_or1 (ha : SB X W G a ga) : SBW X W G (.BoolOp .Or [a] pos) ga := by
  obtain ⟨t, h1, h2⟩ := ha.use
  exact SBW.mk (pw_or1 h1) h2
theorem sbw_and (ha : SB X W G a ga) (hb : SBW X W G (.BoolOp .And (b :: rest) pos) gb) : SBW X W G (.BoolOp .And (a :: b :: rest) pos) (andB ga gb) := by
  obtain ⟨ta, ha, ka⟩ := ha.use
  obtain ⟨tb, hb, kb⟩ := hb.use
  refine SBW.mk (pw_and ha hb) fun F0 H0 F H σ env s Q rl p => ?_
  refine ka F0 H0 F H σ env s _ rl (post_bind p fun c s1 x F1 H1 st1 so1 rx p1 => ?_)
  cases rx
  cases c with
  | true => exact iteT (kb F0 H0 F1 H1 σ env s1 _ (rl.step st1 so1) p1)
  | false => exact iteF (p1 false F1 H1 (Step.refl st1.sub) so1 rfl)
theorem sbw_or (ha : SB X W G a ga) (hb : SBW X W G (.BoolOp .Or (b :: rest) pos) gb) : SBW X W G (.BoolOp .Or (a :: b :: rest) pos) (orB ga gb) := by
  obtain ⟨ta, ha, ka⟩ := ha.use
  obtain ⟨tb, hb, kb⟩ := hb.use
  refine SBW.mk (pw_or ha hb) fun F0 H0 F H σ env s Q rl p => ?_
  refine ka F0 H0 F H σ env s _ rl (post_bind p fun c s1 x F1 H1 st1 so1 rx p1 => ?_)
  cases rx
  cases c with
  | true => exact iteT (p1 true F1 H1 (Step.refl st1.sub) so1 rfl)
  | false => exact iteF (kb F0 H0 F1 H1 σ env s1 _ (rl.step st1 so1) p1)
theorem sb_not (ha : SB X W G a ga) : SB X W G (.UnaryOp .Not a pos) (notB ga) := by
  obtain ⟨ta, ha, ka⟩ := ha.use
  refine SB.mk (pt_not ha) fun F0 H0 F H σ env s Q rl p => ?_
  refine ka F0 H0 F H σ env s _ rl (post_bind p fun c s1 x F1 H1 st1 so1 rx p1 => ?_)
  cases rx
  exact p1 (!c) F1 H1 (Step.refl st1.sub) so1 rfl
/-! ### truth values as values -/
def andD (ga gb : Ev → LS → Out D) (env : Ev) (s : LS) : Out D := (ga env s).bind fun d s => (lift (asB d) s).bind fun b s => if b then gb env s else .ok (.bool false) s
def orD (ga gb : Ev → LS → Out D) (env : Ev) (s : LS) : Out D := (ga env s).bind fun d s => (lift (asB d) s).bind fun b s => if b then .ok (.bool true) s else gb env s
def notD (ga : Ev → LS → Out D) (env : Ev) (s : LS) : Out D := (ga env s).bind fun d s => (lift (asB d) s).bind fun b s => .ok (.bool !b) s
variable {ha1 hb1 : Ev → LS → Out D}
theorem se_one {op} (h : SE X W G a ha1) : SE X W G (.BoolOp op [a] pos) ha1 := by
  obtain ⟨t, h1, h2⟩ := h.use
  exact SG.mk (pe_one h1) h2
theorem se_and (ha : SE X W G a ha1) (hb : SE X W G (.BoolOp .And (b :: rest) pos) hb1) : SE X W G (.BoolOp .And (a :: b :: rest) pos) (andD ha1 hb1) := by
  obtain ⟨ta, ha, ka⟩ := ha.use
  obtain ⟨tb, hb, kb⟩ := hb.use
  refine SG.mk (pe_and ha hb) fun F0 H0 F H σ env s Q rl p => ?_
  refine ka F0 H0 F H σ env s _ rl (post_bind p fun d s1 x F1 H1 st1 so1 rx p1 => ?_)
  cases q : asB d with
  | none => rw [q] at p1; exact p1.elim
  | some c =>
    rw [q] at p1
    cases asB_some q
    cases Rp.bl_inv rx
    refine ⟨c, rfl, ?_⟩
    cases c with
    | true => exact iteT (kb F0 H0 F1 H1 σ env s1 _ (rl.step st1 so1) p1)
    | false => exact iteF (p1 (.bl false) F1 H1 (Step.refl st1.sub) so1 (.bl false))
theorem se_or (ha : SE X W G a ha1) (hb : SE X W G (.BoolOp .Or (b :: rest) pos) hb1) : SE X W G (.BoolOp .Or (a :: b :: rest) pos) (orD ha1 hb1) := by
  obtain ⟨ta, ha, ka⟩ := ha.use
  obtain ⟨tb, hb, kb⟩ := hb.use
  refine SG.mk (pe_or ha hb) fun F0 H0 F H σ env s Q rl p => ?_
  refine ka F0 H0 F H σ env s _ rl (post_bind p fun d s1 x F1 H1 st1 so1 rx p1 => ?_)
  cases q : asB d with
  | none => rw [q] at p1; exact p1.elim
  | some c =>
    rw [q] at p1
    cases asB_some q
    cases Rp.bl_inv rx
    refine ⟨c, rfl, ?_⟩
    cases c with
    | true => exact iteT (p1 (.bl true) F1 H1 (Step.refl st1.sub) so1 (.bl true))
    | false => exact iteF (kb F0 H0 F1 H1 σ env s1 _ (rl.step st1 so1) p1)
theorem se_not (ha : SE X W G a ha1) : SE X W G (.UnaryOp .Not a pos) (notD ha1) := by
  obtain ⟨ta, ha, ka⟩ := ha.use
  refine SG.mk (pe_not ha) fun F0 H0 F H σ env s Q rl p => ?_
  refine ka F0 H0 F H σ env s _ rl (post_bind p fun d s1 x F1 H1 st1 so1 rx p1 => ?_)
  cases q : asB d with
  | none => rw [q] at p1; exact p1.elim
  | some c =>
    rw [q] at p1
    cases asB_some q
    cases Rp.bl_inv rx
    exact ⟨c, rfl, p1 (.bl (!c)) F1 H1 (Step.refl st1.sub) so1 (.bl _)⟩
def ifG {α : Type} (gc : Ev → LS → Out Bool) (ga gb : Ev → LS → Out α) (env : Ev) (s : LS) : Out α := (gc env s).bind fun b s => if b then ga env s else gb env s
theorem sg_if {α : Type} {R : RR α V} {c : Expr} {gc : Ev → LS → Out Bool} {fa fb : Ev → LS → Out α} (hc : SB X W G c gc) (ha : SG R X W G a fa) (hb : SG R X W G b fb) : SG R X W G (.IfExp c a b pos) (ifG gc fa fb) := by
  obtain ⟨tc, hc, kc⟩ := hc.use
  obtain ⟨ta, ha, ka⟩ := ha.use
  obtain ⟨tb, hb, kb⟩ := hb.use
  refine SG.mk (pe_ifExp hc ha hb) fun F0 H0 F H σ env s Q rl p => ?_
  refine kc F0 H0 F H σ env s _ rl (post_bind p fun c s1 x F1 H1 st1 so1 rx p1 => ?_)
  cases rx
  cases c with
  | true => exact iteT (ka F0 H0 F1 H1 σ env s1 _ (rl.step st1 so1) p1)
  | false => exact iteF (kb F0 H0 F1 H1 σ env s1 _ (rl.step st1 so1) p1)
/-! ### chains of comparisons -/
def chD (f f' : D → D → Option D) (ga gb gc : Ev → LS → Out D) (env : Ev) (s : LS) : Out D :=
  (ga env s).bind fun x s => (gb env s).bind fun y s => (lift ((f x y).bind asB) s).bind fun b s => if b then (gc env s).bind fun z s => lift (f' y z) s else .ok (.bool false) s
theorem se_chain {op op' : CmpOp} {c : Expr} {ga gb gc : Ev → LS → Out D} {g g' : D → D → Option D} (ho : OpS X G (compareOp op) g) (ho' : OpS X G (compareOp op') g') (ha : SW X W G a ga) (hb : SW X W G b gb) (hc : SW X W G c gc)
    (hm : lastMarks [op, op'] [b, c] = false := by with_unfolding_all rfl) : SE X W G (.Compare a [op, op'] [b, c] pos) (chD g g' ga gb gc) := by
  obtain ⟨r, ho, hr⟩ := ho
  obtain ⟨r', ho', hr'⟩ := ho'
  obtain ⟨ta, ha, ka⟩ := ha.use
  obtain ⟨tb, hb, kb⟩ := hb.use
  obtain ⟨tc, hc, kc⟩ := hc.use
  refine SG.mk (pe_chain ho ho' ha hb hc hm) fun F0 H0 F H σ env s Q rl p => ?_
  refine ka F0 H0 F H σ env s _ rl (post_bind p fun dx s1 x F1 H1 st1 so1 rx p1 => ?_)
  have rl1 := rl.step st1 so1
  refine kb F0 H0 F1 H1 σ env s1 _ rl1 (post_bind p1 fun dy s2 y F2 H2 st2 so2 ry p2 => ?_)
  cases q : g dx dy with
  | none => rw [q] at p2; exact p2.elim
  | some d =>
    rw [q] at p2
    cases q2 : asB d with
    | none => simp only [Option.bind, q2] at p2; exact p2.elim
    | some bb =>
      simp only [Option.bind, q2] at p2
      refine hr F2 H2 x y dx dy d _ st2.sub (Wd.step rx st1.sub st2) ry q fun v F3 H3 st3 rp => ?_
      cases asB_some q2
      cases Rp.bl_inv rp
      refine ⟨bb, rfl, ?_⟩
      have so3 := so2.pure st3
      have p3 := Post.step p2 (st3.weak (G := G))
      cases bb with
      | false => exact p3 (.bl false) F3 H3 (Step.refl st3.sub) so3 (.bl false)
      | true =>
        change Post _ _ _ _ _ _ _ _ _ ((gc env s2).bind _) at p3
        refine kc F0 H0 F3 H3 σ env s2 _ ((rl1.step st2 so2).step st3.weak so3) (post_bind p3 fun dz s4 z F4 H4 st4 so4 rz p4 => ?_)
        cases q4 : g' dy dz with
        | none => rw [q4] at p4; exact p4.elim
        | some dd =>
          rw [q4] at p4
          exact hr' F4 H4 y z dy dz dd Q st4.sub (Wd.step (Wd.step ry st2.sub st3.weak) st3.sub st4) rz q4 fun v F' H' st rp => p4 v F' H' st.weak (so4.pure st) rp
def chB (f f' : D → D → Option D) (ga gb gc : Ev → LS → Out D) (env : Ev) (s : LS) : Out Bool := (chD f f' ga gb gc env s).bind fun d s => lift (asB d) s
theorem sb_chain {op op' : CmpOp} {c : Expr} {ga gb gc : Ev → LS → Out D} {g g' : D → D → Option D} (ho : OpS X G (compareOp op) g) (ho' : OpS X G (compareOp op') g') (ha : SW X W G a ga) (hb : SW X W G b gb) (hc : SW X W G c gc)
    (hm : lastMarks [op, op'] [b, c] = false := by with_unfolding_all rfl) : SB X W G (.Compare a [op, op'] [b, c] pos) (chB g g' ga gb gc) := by
  have e1 : ∀ {α β γ : Type} (o : Out α) (f : α → LS → Out β) (g : β → LS → Out γ), (o.bind f).bind g = o.bind fun a s => (f a s).bind g := fun o f g => by cases o <;> rfl
  obtain ⟨r, ho, hr⟩ := ho
  obtain ⟨r', ho', hr'⟩ := ho'
  obtain ⟨ta, ha, ka⟩ := ha.use
  obtain ⟨tb, hb, kb⟩ := hb.use
  obtain ⟨tc, hc, kc⟩ := hc.use
  refine SB.mk (pt_chain ho ho' ha hb hc hm) fun F0 H0 F H σ env s Q rl p => ?_
  unfold chB chD at p
  rw [e1] at p
  refine ka F0 H0 F H σ env s _ rl (post_bind p fun dx s1 x F1 H1 st1 so1 rx p1 => ?_)
  rw [e1] at p1
  have rl1 := rl.step st1 so1
  refine kb F0 H0 F1 H1 σ env s1 _ rl1 (post_bind p1 fun dy s2 y F2 H2 st2 so2 ry p2 => ?_)
  rw [e1] at p2
  cases q : g dx dy with
  | none => rw [q] at p2; exact p2.elim
  | some d =>
    rw [q] at p2
    cases q2 : asB d with
    | none => simp only [Option.bind, q2] at p2; exact p2.elim
    | some bb =>
      simp only [Option.bind, q2] at p2
      refine hr F2 H2 x y dx dy d _ st2.sub (Wd.step rx st1.sub st2) ry q fun v F3 H3 st3 rp => ?_
      cases asB_some q2
      cases Rp.bl_inv rp
      refine ⟨bb, rfl, ?_⟩
      have so3 := so2.pure st3
      have p3 := Post.step p2 (st3.weak (G := G))
      cases bb with
      | false => exact iteF ⟨false, rfl, p3 false F3 H3 (Step.refl st3.sub) so3 rfl⟩
      | true =>
        refine iteT ?_
        change Post _ _ _ _ _ _ _ _ _ (((gc env s2).bind _).bind _) at p3
        rw [e1] at p3
        refine kc F0 H0 F3 H3 σ env s2 _ ((rl1.step st2 so2).step st3.weak so3) (post_bind p3 fun dz s4 z F4 H4 st4 so4 rz p4 => ?_)
        cases q4 : g' dy dz with
        | none => rw [q4] at p4; exact p4.elim
        | some dd =>
          rw [q4] at p4
          refine hr' F4 H4 y z dy dz dd _ st4.sub (Wd.step (Wd.step ry st2.sub st3.weak) st3.sub st4) rz q4 fun v F' H' st rp => ?_
          change Post _ _ _ _ _ _ _ _ _ (lift (asB dd) s4) at p4
          cases q5 : asB dd with
          | none => rw [q5] at p4; exact p4.elim
          | some b5 =>
            rw [q5] at p4
            cases asB_some q5
            cases Rp.bl_inv rp
            exact ⟨b5, rfl, p4 b5 F' H' st.weak (so4.pure st) rfl⟩
def negI : D → Option D
  | .int i => some (.int (-i))
  | _ => none
theorem se_neg {ga : Ev → LS → Out D} (ha : SE X W G a ga) : SE X W G (.UnaryOp .USub a pos) (op1 negI ga) := by
  obtain ⟨ta, ha, ka⟩ := ha.use
  refine SG.mk (pe_un un_neg ha) fun F0 H0 F H σ env s Q rl p => ?_
  refine ka F0 H0 F H σ env s _ rl (post_bind p fun dx s1 x F1 H1 st1 so1 rx p1 => ?_)
  cases q : negI dx with
  | none => rw [q] at p1; exact p1.elim
  | some d =>
    rw [q] at p1
    cases dx <;> simp only [negI, Option.some.injEq, reduceCtorEq] at q
    subst q
    cases rx
    exact ⟨_, rfl, p1 _ F1 H1 (Step.refl st1.sub) so1 (.int _)⟩
/-! ### rows of expressions -/
def nilG {α : Type} (_ : Ev) (s : LS) : Out (List α) := .ok [] s
def consG {α : Type} (ga : Ev → LS → Out α) (gr : Ev → LS → Out (List α)) (env : Ev) (s : LS) : Out (List α) := (ga env s).bind fun a s => (gr env s).bind fun r s => .ok (a :: r) s
def WdAll (K : PySem.W.Frag) (G : Gh) (F H : Hp) : List V → List D → Prop
  | [], [] => True
  | v :: vs, d :: ds => Wd K G F H v d ∧ WdAll K G F H vs ds
  | _, _ => False
def RWs : RR (List D) (List V) := ⟨fun K G _ F' H' vs ds => WdAll K G F' H' vs ds, fun _ r => r⟩
abbrev SAs := SLg RAs
abbrev SDs := SLg RDs
abbrev SWs := SLg RWs
structure LR {α : Type} (Re : RR α V) (Rl : RR (List α) (List V)) : Prop where
  nil : ∀ K G H F' H', Rl.r K G H F' H' [] []
  cons : ∀ K G H F' H' v vs a as, Re.r K G H F' H' v a → Rl.r K G H F' H' vs as → Rl.r K G H F' H' (v :: vs) (a :: as)
  step : ∀ K G H F1 H1 F2 H2 v a, Re.r K G H F1 H1 v a → (∀ a o, F1 a = some o → H1 a = some o) → Step G F1 H1 F2 H2 → Re.r K G H F2 H2 v a
  any : ∀ {K G H H2 F' H' v a}, Re.r K G H F' H' v a → Re.r K G H2 F' H' v a
  anys : ∀ {K G H H2 F' H' v a}, Rl.r K G H F' H' v a → Rl.r K G H2 F' H' v a
theorem lrA : LR RA RAs := ⟨fun _ _ _ _ _ => trivial, fun _ _ _ _ _ _ _ _ _ a b => ⟨a, b⟩, fun _ _ _ _ _ _ _ _ _ r sub st => AV.step sub st r, fun r => r, fun r => r⟩
theorem lrD : LR RD RDs := ⟨fun _ _ _ _ _ => .nil, fun _ _ _ _ _ _ _ _ _ a b => .cons a b, fun _ _ _ _ _ _ _ _ _ r sub st => Rp.mono (st.inc sub) r, fun r => r, fun r => r⟩
theorem lrW : LR RWd RWs := ⟨fun _ _ _ _ _ => trivial, fun _ _ _ _ _ _ _ _ _ a b => ⟨a, b⟩, fun _ _ _ _ _ _ _ _ _ r sub st => Wd.step r sub st, fun r => r, fun r => r⟩
theorem sl_nil {α : Type} {Re : RR α V} {Rl : RR (List α) (List V)} (L : LR Re Rl) : SLg Rl X W G [] nilG :=
  SLg.mk pa_nil fun F0 H0 F H σ env s Q rl p => p [] F H (Step.refl rl.sub) rl.so (L.nil _ _ _ _ _)
theorem sl_cons {α : Type} {Re : RR α V} {Rl : RR (List α) (List V)} {es : List Expr} {ga : Ev → LS → Out α} {gr : Ev → LS → Out (List α)} (L : LR Re Rl) (ha : SG Re X W G e ga) (hr : SLg Rl X W G es gr)
    (hs : starEach (e :: es) X.env = (false, eval e X.env) :: starEach es X.env := by rfl) : SLg Rl X W G (e :: es) (consG ga gr) := by
  obtain ⟨ta, ha, ka⟩ := ha.use
  obtain ⟨tr, hr, kr⟩ := hr.use
  refine SLg.mk (pa_cons ha hr hs) fun F0 H0 F H σ env s Q rl p => ?_
  refine ka F0 H0 F H σ env s _ rl (post_bind p fun dx s1 x F1 H1 st1 so1 rx p1 => ?_)
  refine kr F0 H0 F1 H1 σ env s1 _ (rl.step st1 so1) (post_bind p1 fun dy s2 y F2 H2 st2 so2 ry p2 => ?_)
  exact p2 (x :: y) F2 H2 (Step.refl st2.sub) so2 (L.cons _ _ _ _ _ _ _ _ _ (L.any (L.step _ _ _ _ _ _ _ _ _ rx st1.sub st2)) (L.anys ry))
end
end DS
end

section
set_option Elab.async false
set_option linter.all false
set_option maxRecDepth 100000
set_option autoImplicit false
namespace DS
open PySem PySem.Spec L2
open PyProof.Rows hiding St
section
variable {X : Cx} {W : WX} {G : Gh} {e a b : Expr} {es : List Expr} {K : PySem.W.Frag} {F H F' H' F0 H0 : Hp} {σ : L2.St} {env : Ev} {s s' : LS} {v : V} {d : D} {pos : Pos} {k : Nat}
/-! ### displays -/
def tupG (g : Ev → LS → Out (List D)) (env : Ev) (s : LS) : Out D := (g env s).bind fun ds s => if ds.length ≤ sizeLine then .ok (.tuple ds) s else .bad
def lstG (g : Ev → LS → Out (List D)) (env : Ev) (s : LS) : Out (List D) := (g env s).bind fun ds s => if ds.length ≤ sizeLine then .ok ds s else .bad
theorem se_tup {x1} {g : Ev → LS → Out (List D)} (h : SDs X W G es g) : SE X W G (.Tuple es x1 pos) (tupG g) := by
  obtain ⟨t, h1, h2⟩ := h.use
  refine SG.mk (pe_tup h1) fun F0 H0 F H σ env s Q r p => h2 F0 H0 F H σ env s _ r (post_bind p fun ds s1 xs F1 H1 st so rp p1 => ?_)
  split at p1
  · rename_i hz
    refine ⟨by rw [rp.length]; exact hz, fun q hq => ?_⟩
    have sn := step_new (F := F1) (o := .tup xs) st.sub hq
    exact p1 (.ref q) _ _ sn.weak (so.pure sn) (.tup (SqT.of upd_same) (rp.mono (sn.inc st.sub)))
  · exact p1.elim
theorem sf_lst {g : Ev → LS → Out (List D)} (h : SDs X W G es g) : SF X W G (.List es pos) (lstG g) := by
  obtain ⟨t, h1, h2⟩ := h.use
  refine SG.mk (pe_lst h1) fun F0 H0 F H σ env s Q r p => h2 F0 H0 F H σ env s _ r (post_bind p fun ds s1 xs F1 H1 st so rp p1 => ?_)
  split at p1
  · rename_i hz
    refine ⟨by rw [rp.length]; exact hz, fun q hq => ?_⟩
    have sn := step_own (F := F1) (o := .lst xs) st.sub hq
    exact p1 (.ref q) _ _ sn.weak (so.pure sn) ⟨q, xs, rfl, hq, upd_same, none_of_sub st.sub hq, not_has so hq, rp⟩
  · exact p1.elim
/-! ### subscripts -/
def ixD : D → D → Option D
  | .list xs, .int i => atI xs i
  | .tuple xs, .int i => atI xs i
  | .str z, .int i => if z.length ≤ sizeLine then (atI z.cps.toList i).map fun c => .str ⟨#[c]⟩ else none
  | _, _ => none
theorem RpAll.atI : ∀ {vs : List V} {ds : List D} {i : Int}, RpAll K F vs ds → L2.atI ds i = some d → ∃ v, L2.atI vs i = some v ∧ Rp K F v d := fun {vs ds i} r h => by
  unfold L2.atI at h ⊢
  rw [r.length]
  cases q : ixN ds.length i with
  | none => rw [q] at h; cases h
  | some j =>
    rw [q] at h
    exact RpAll.get (i := j) r h
theorem se_ix {ga gb : Ev → LS → Out D} (ha : SW X W G a ga) (hb : SE X W G b gb) (hs : PlainIx b := by intro _ _; rfl) : SE X W G (.Subscript a b pos) (op2 ixD ga gb) := by
  obtain ⟨ta, ha, ka⟩ := ha.use
  obtain ⟨tb, hb, kb⟩ := hb.use
  refine SG.mk (pe_ix ix_seq ha hb hs) fun F0 H0 F H σ env s Q rl p => ?_
  refine ka F0 H0 F H σ env s _ rl (post_bind p fun dx s1 x F1 H1 st1 so1 rx p1 => ?_)
  have rl1 := rl.step st1 so1
  refine kb F0 H0 F1 H1 σ env s1 _ rl1 (post_bind p1 fun dy s2 y F2 H2 st2 so2 ry p2 => ?_)
  have rx2 := Wd.step rx st1.sub st2
  cases q : ixD dx dy with
  | none => rw [q] at p2; exact p2.elim
  | some d =>
    rw [q] at p2
    have fin : ∀ {v}, Rp X.K F2 v d → Q v H2 := fun {v} rp => p2 v F2 H2 (Step.refl st2.sub) so2 rp
    unfold ixD at q
    split at q
    · cases ry
      obtain ⟨pp, us, rfl, hp, rr⟩ := Wd.lst rx2 st2.sub
      obtain ⟨v, e1, rv⟩ := rr.atI q
      exact .inl ⟨pp, us, _, v, rfl, rfl, SqL.of hp, e1, fin rv⟩
    · cases ry
      obtain ⟨pp, us, rfl, hp, rr⟩ := Wd.tup rx2
      obtain ⟨v, e1, rv⟩ := rr.atI q
      exact .inr (.inl ⟨pp, us, _, v, rfl, rfl, sqT_mono st2.sub hp, e1, fin rv⟩)
    · cases ry
      split at q
      · rename_i z i hz
        cases q3 : atI z.cps.toList i with
        | none => rw [q3] at q; cases q
        | some c =>
          rw [q3] at q
          cases q
          have ex := Wd.str rx2
          subst ex
          exact .inr (.inr ⟨z, i, c, rfl, rfl, hz, q3, fin (.str _)⟩)
      · cases q
    · cases q
def cutL {α : Type} (xs : List α) (lo hi : Option Int) : List α := List.take (HT.sIx xs.length xs.length hi - HT.sIx xs.length 0 lo) (List.drop (HT.sIx xs.length 0 lo) xs)
def slD : D → Option Int → Option Int → Option D
  | .list xs, lo, hi => some (.list (cutL xs lo hi))
  | .tuple xs, lo, hi => some (.tuple (cutL xs lo hi))
  | .str z, lo, hi => if z.length ≤ sizeLine then some (.str (cutS z lo hi)) else none
  | _, _, _ => none
def ROI : RR (Option Int) (Option Int) := ⟨fun _ _ _ _ _ b a => b = a, fun _ r => r⟩
def SO (X : Cx) (W : WX) (G : Gh) (e : Option Expr) (g : Ev → LS → Out (Option Int)) : Prop := PO X e (tG X.K X.mg W G ROI g)
def noP (_ : Ev) (s : LS) : Out (Option Int) := .ok none s
def asI : D → Option Int
  | .int i => some i
  | _ => none
def someP (g : Ev → LS → Out D) (env : Ev) (s : LS) : Out (Option Int) := (g env s).bind fun d s => lift ((asI d).map some) s
theorem SO.mk {e : Option Expr} {g : Ev → LS → Out (Option Int)} {t : TO} (h : PO X e t) (k : ∀ F0 H0 F H σ env s Q, Rel X.K G F0 H0 F H σ env s → Post X.K X.mg W G F H σ ROI Q (g env s) → t σ H Q) : SO X W G e g :=
  ⟨fun pins s σ H Q I ⟨F0, H0, F, env, s', r, p⟩ => h.run pins s σ H Q I (k F0 H0 F H σ env s' Q r p)⟩
theorem so_none : SO X W G none noP := SO.mk po_none fun F0 H0 F H σ env s Q r p => p none F H (Step.refl r.sub) r.so rfl
theorem asI_some {d : D} {i : Int} (h : asI d = some i) : d = .int i := by
  cases d <;> simp [asI] at h
  rw [h]
theorem so_some {g : Ev → LS → Out D} (h : SE X W G e g) : SO X W G (some e) (someP g) := by
  obtain ⟨t, h1, h2⟩ := h.use
  refine SO.mk (po_some h1) fun F0 H0 F H σ env s Q r p => h2 F0 H0 F H σ env s _ r (post_bind p fun d s1 x F1 H1 st so rp p1 => ?_)
  cases q : asI d with
  | none => rw [q] at p1; exact p1.elim
  | some i =>
    rw [q] at p1
    cases asI_some q
    cases rp
    exact ⟨i, rfl, p1 (some i) F1 H1 (Step.refl st.sub) so rfl⟩
def slG (ga : Ev → LS → Out D) (gl gh : Ev → LS → Out (Option Int)) (env : Ev) (s : LS) : Out D := (ga env s).bind fun x s => (gl env s).bind fun l s => (gh env s).bind fun h s => lift (slD x l h) s
theorem cut_eq (xs : List V) (lo hi : Option Int) : cutV xs lo hi = cutL xs lo hi := rfl
theorem RpAll.cut {vs : List V} {ds : List D} (r : RpAll K F vs ds) (lo hi : Option Int) : RpAll K F (cutL vs lo hi) (cutL ds lo hi) := by
  unfold cutL
  rw [r.length]
  exact (r.drop _).take _
theorem cut_all {vs : List V} {lo hi : Option Int} (h : HT.sIx vs.length 0 lo = 0 ∧ HT.sIx vs.length vs.length hi = vs.length) : cutL vs lo hi = vs := by
  unfold cutL
  rw [h.1, h.2, Nat.sub_zero, List.drop_zero, List.take_length]
theorem se_slice {p2 : Pos} {lo hi : Option Expr} {ga : Ev → LS → Out D} {gl gh : Ev → LS → Out (Option Int)} (ha : SW X W G a ga) (hl : SO X W G lo gl) (hh : SO X W G hi gh) : SE X W G (.Subscript a (.Slice lo hi none p2) pos) (slG ga gl gh) := by
  obtain ⟨ta, ha, ka⟩ := ha.use
  refine SG.mk (pe_slice ((sl_list.or sl_tupA).or sl_str) ha hl hh) fun F0 H0 F H σ env s Q rl p => ?_
  refine ka F0 H0 F H σ env s _ rl (post_bind p fun dx s1 x F1 H1 st1 so1 rx p1 => ?_)
  have rl1 := rl.step st1 so1
  refine ⟨F0, H0, F1, env, s1, rl1, post_bind p1 fun l s2 l' F2 H2 st2 so2 rl' p2 => ?_⟩
  have rl2 := rl1.step st2 so2
  refine ⟨F0, H0, F2, env, s2, rl2, post_bind p2 fun h s3 h' F3 H3 st3 so3 rh' p3 => ?_⟩
  have e1 : l' = l := rl'
  have e2 : h' = h := rh'
  subst e1; subst e2
  have rx3 := Wd.step (Wd.step rx st1.sub st2) st2.sub st3
  cases q : slD dx l' h' with
  | none => rw [q] at p3; exact p3.elim
  | some d =>
    rw [q] at p3
    unfold slD at q
    split at q
    · cases q
      obtain ⟨pp, us, rfl, hp, rr⟩ := Wd.lst rx3 st3.sub
      refine .inl (.inl ⟨pp, us, rfl, SqL.of hp, fun q hq => ?_⟩)
      have sn := step_new (F := F3) (o := .lst (cutV us l' h')) st3.sub hq
      exact p3 (.ref q) _ _ sn.weak (so3.pure sn) (.lst upd_same ((RpAll.cut rr l' h').mono (sn.inc st3.sub)))
    · cases q
      obtain ⟨pp, us, rfl, hp, rr⟩ := Wd.tup rx3
      refine .inl (.inr ⟨pp, us, rfl, sqT_mono st3.sub hp, fun hz => ?_, fun _ q hq => ?_⟩)
      · have rr2 := RpAll.cut rr l' h'
        rw [cut_all hz] at rr2
        exact p3 (.ref pp) F3 H3 (Step.refl st3.sub) so3 (.tup hp rr2)
      · have sn := step_new (F := F3) (o := .tup (cutV us l' h')) st3.sub hq
        exact p3 (.ref q) _ _ sn.weak (so3.pure sn) (.tup (SqT.of upd_same) ((RpAll.cut rr l' h').mono (sn.inc st3.sub)))
    · split at q
      · rename_i hz
        cases q
        have ex := Wd.str rx3
        subst ex
        exact .inr ⟨_, rfl, hz, p3 (.str _) F3 H3 (Step.refl st3.sub) so3 (.str _)⟩
      · cases q
    · cases q
/-! ### calls of what is built in -/
def CallS (X : Cx) (G : Gh) (f : Value) (g : List D → Option D) : Prop :=
  ∃ r, CallR X f r ∧ ∀ F H xs ds d Q, (∀ a o, F a = some o → H a = some o) → WdAll X.K G F H xs ds → g ds = some d → (∀ v F' H', Step none F H F' H' → Rp X.K F' v d → Q v H') → r xs H Q
def callB (g : List D → Option D) (gas : Ev → LS → Out (List D)) (env : Ev) (s : LS) : Out D := (gas env s).bind fun ds s => lift (g ds) s
theorem callB_fin {F H : Hp} {g : List D → Option D} {r : List V → Hp → VK → Prop} {Q : VK} {mg : Str → Option Value} {s : LS} {xs : List V} {ds : List D}
    (hr : ∀ F H xs ds d Q, (∀ a o, F a = some o → H a = some o) → WdAll K G F H xs ds → g ds = some d → (∀ v F' H', Step none F H F' H' → Rp K F' v d → Q v H') → r xs H Q)
    (sub : ∀ a o, F a = some o → H a = some o) (so : StOk G F H s) (rx : WdAll K G F H xs ds) (p : Post K mg W G F H σ RD Q (lift (g ds) s)) : r xs H Q := by
  cases q : g ds with
  | none => rw [q] at p; exact p.elim
  | some d =>
    rw [q] at p
    exact hr F H xs ds d Q sub rx q fun v F' H' st rp => p v F' H' st.weak (so.pure st) rp
theorem se_callB {x : Str} {p pos : Pos} {id : String} {g : List D → Option D} {gas : Ev → LS → Out (List D)} (hc : CallS X G (.builtin id) g) (hg : Gl X x) (hm : X.mg x = none) (hv : bootBuiltins x = some (.builtin id)) (ha : SWs X W G (e :: es) gas)
    (hn : x ≠ "__name__" := by decide) (hd : (x == ("__debug__" : Str)) = false := by decide) (he : starEach (e :: es) X.env = (false, eval e X.env) :: starEach es X.env := by rfl) (hpl : (backTo pos (starEach es X.env)).any (·.1) = false := by rfl) :
    SE X W G (.Call (.Name x p) (e :: es) [] pos) (callB g gas) := by
  obtain ⟨r, hc, hr⟩ := hc
  obtain ⟨t, h1, h2⟩ := ha.use
  exact SG.mk (pe_callB hc hg hm hv h1 hn hd he hpl) fun F0 H0 F H σ env s Q rl p => h2 F0 H0 F H σ env s _ rl (post_bind p fun ds s1 xs F1 H1 st so rx p1 => callB_fin hr st.sub so rx p1)
theorem se_callTy {x : Str} {p pos : Pos} {T : String} {g : List D → Option D} {gas : Ev → LS → Out (List D)} (hc : CallS X G (.type T) g) (hg : Gl X x) (hm : X.mg x = none) (hv : bootBuiltins x = some (.type T)) (ha : SWs X W G (e :: es) gas)
    (hn : x ≠ "__name__" := by decide) (hd : (x == ("__debug__" : Str)) = false := by decide) (he : starEach (e :: es) X.env = (false, eval e X.env) :: starEach es X.env := by rfl) (hpl : (backTo pos (starEach es X.env)).any (·.1) = false := by rfl) :
    SE X W G (.Call (.Name x p) (e :: es) [] pos) (callB g gas) := by
  obtain ⟨r, hc, hr⟩ := hc
  obtain ⟨t, h1, h2⟩ := ha.use
  exact SG.mk (pe_callTy hc hg hm hv h1 hn hd he hpl) fun F0 H0 F H σ env s Q rl p => h2 F0 H0 F H σ env s _ rl (post_bind p fun ds s1 xs F1 H1 st so rx p1 => callB_fin hr st.sub so rx p1)
theorem WdAll.one {xs : List V} (h : WdAll K G F H xs [d]) : ∃ v, xs = [v] ∧ Wd K G F H v d := by
  match xs, h with
  | [v], h => exact ⟨v, rfl, h.1⟩
theorem WdAll.two {xs : List V} {d1 d2 : D} (h : WdAll K G F H xs [d1, d2]) : ∃ v w, xs = [v, w] ∧ Wd K G F H v d1 ∧ Wd K G F H w d2 := by
  match xs, h with
  | [v, w], h => exact ⟨v, w, rfl, h.1, h.2.1⟩
theorem CallR.or {f : Value} {r1 r2 : List V → Hp → VK → Prop} (h1 : CallR X f r1) (h2 : CallR X f r2) : CallR X f (fun xs H Q => r1 xs H Q ∨ r2 xs H Q) :=
  fun pins s σ H xs us Q I rx h => h.elim (h1 pins s σ H xs us Q I rx) (h2 pins s σ H xs us Q I rx)
def lenF : List D → Option D
  | [.list xs] => some (.int xs.length)
  | [.tuple xs] => some (.int xs.length)
  | [.str z] => if z.length ≤ sizeLine then some (.int z.length) else none
  | _ => none
theorem lenC : CallS X G (.builtin "len") lenF := by
  refine ⟨_, call_len, fun F H xs ds d Q sub hx e q => ?_⟩
  unfold lenF at e
  split at e
  · cases e
    obtain ⟨v, rfl, w⟩ := hx.one
    obtain ⟨pp, us, rfl, hp, rr⟩ := w.lst sub
    exact ⟨_, us.length, rfl, .inl ⟨us, SqL.of hp, rfl⟩, stay sub q (by rw [rr.length]; exact .int _)⟩
  · cases e
    obtain ⟨v, rfl, w⟩ := hx.one
    obtain ⟨pp, us, rfl, hp, rr⟩ := w.tup
    exact ⟨_, us.length, rfl, .inr ⟨us, sqT_mono sub hp, rfl⟩, stay sub q (by rw [rr.length]; exact .int _)⟩
  · split at e
    · rename_i hz
      cases e
      obtain ⟨v, rfl, w⟩ := hx.one
      cases w.str
      exact ⟨_, _, rfl, ⟨hz, rfl⟩, stay sub q (.int _)⟩
    · cases e
  · cases e
def absF : List D → Option D
  | [.int i] => some (.int i.natAbs)
  | _ => none
theorem absC : CallS X G (.builtin "abs") absF := by
  refine ⟨_, call_abs, fun F H xs ds d Q sub hx e q => ?_⟩
  unfold absF at e
  split at e
  · rename_i i
    cases e
    obtain ⟨v, rfl, w⟩ := hx.one
    cases w.int
    have z : (if i < 0 then -i else i) = (i.natAbs : Int) := by split <;> omega
    exact ⟨_, rfl, by rw [z]; exact stay sub q (.int _)⟩
  · cases e
def intsOf : List D → Option (List Int)
  | [] => some []
  | .int i :: r => (intsOf r).map (i :: ·)
  | _ :: _ => none
def bools : List D → Option (List Bool)
  | [] => some []
  | .bool i :: r => (bools r).map (i :: ·)
  | _ :: _ => none
theorem ints_vals : ∀ {ds : List D} {ns : List Int} {vs : List V}, intsOf ds = some ns → RpAll K F vs ds → vs = ns.map V.int
  | [], ns, vs, h, r => by cases h; cases r; rfl
  | d :: ds, ns, vs, h, r => by
    cases d <;> simp [intsOf] at h
    obtain ⟨n, h1, rfl⟩ := h
    cases r with
    | cons a b =>
      cases a
      rw [ints_vals h1 b]
      rfl
theorem bools_vals : ∀ {ds : List D} {ns : List Bool} {vs : List V}, bools ds = some ns → RpAll K F vs ds → vs = ns.map V.bl
  | [], ns, vs, h, r => by cases h; cases r; rfl
  | d :: ds, ns, vs, h, r => by
    cases d <;> simp [bools] at h
    obtain ⟨n, h1, rfl⟩ := h
    cases r with
    | cons a b =>
      cases a
      rw [bools_vals h1 b]
      rfl
def maxL : List Int → Option Int
  | [] => none
  | n :: ns => some (ns.foldl max n)
def minL : List Int → Option Int
  | [] => none
  | n :: ns => some (ns.foldl min n)
theorem foldl_max_le : ∀ (ns : List Int) (n : Int), n ≤ ns.foldl max n ∧ ∀ y ∈ ns, y ≤ ns.foldl max n
  | [], n => ⟨Int.le_refl _, fun y h => by cases h⟩
  | a :: r, n => by
    obtain ⟨h1, h2⟩ := foldl_max_le r (max n a)
    refine ⟨by rw [List.foldl_cons]; omega, fun y hy => ?_⟩
    rw [List.foldl_cons]
    cases hy with
    | head => omega
    | tail _ hy => exact h2 y hy
theorem foldl_max_mem : ∀ (ns : List Int) (n : Int), ns.foldl max n = n ∨ ns.foldl max n ∈ ns
  | [], n => .inl rfl
  | a :: r, n => by
    rw [List.foldl_cons]
    rcases foldl_max_mem r (max n a) with h | h
    · rw [h]
      by_cases z : n ≤ a
      · rw [Int.max_eq_right z]; exact .inr List.mem_cons_self
      · rw [Int.max_eq_left (by omega)]; exact .inl rfl
    · exact .inr (List.mem_cons_of_mem _ h)
theorem foldl_min_le : ∀ (ns : List Int) (n : Int), ns.foldl min n ≤ n ∧ ∀ y ∈ ns, ns.foldl min n ≤ y
  | [], n => ⟨Int.le_refl _, fun y h => by cases h⟩
  | a :: r, n => by
    obtain ⟨h1, h2⟩ := foldl_min_le r (min n a)
    refine ⟨by rw [List.foldl_cons]; omega, fun y hy => ?_⟩
    rw [List.foldl_cons]
    cases hy with
    | head => omega
    | tail _ hy => exact h2 y hy
theorem foldl_min_mem : ∀ (ns : List Int) (n : Int), ns.foldl min n = n ∨ ns.foldl min n ∈ ns
  | [], n => .inl rfl
  | a :: r, n => by
    rw [List.foldl_cons]
    rcases foldl_min_mem r (min n a) with h | h
    · rw [h]
      by_cases z : n ≤ a
      · rw [Int.min_eq_left z]; exact .inl rfl
      · rw [Int.min_eq_right (by omega)]; exact .inr List.mem_cons_self
    · exact .inr (List.mem_cons_of_mem _ h)
theorem maxL_of {ns : List Int} {m M : Int} (h : maxL ns = some M) (h1 : m ∈ ns) (h2 : ∀ y ∈ ns, y ≤ m) : m = M := by
  cases ns with
  | nil => cases h
  | cons n ns =>
    cases h
    have a := (foldl_max_le ns n)
    have b := foldl_max_mem ns n
    have c : ns.foldl max n ≤ m := by
      rcases b with b | b
      · rw [b]; exact h2 n List.mem_cons_self
      · exact h2 _ (List.mem_cons_of_mem _ b)
    have d : m ≤ ns.foldl max n := by
      cases h1 with
      | head => exact a.1
      | tail _ h => exact a.2 m h
    omega
theorem minL_of {ns : List Int} {m M : Int} (h : minL ns = some M) (h1 : m ∈ ns) (h2 : ∀ y ∈ ns, m ≤ y) : m = M := by
  cases ns with
  | nil => cases h
  | cons n ns =>
    cases h
    have a := (foldl_min_le ns n)
    have b := foldl_min_mem ns n
    have c : m ≤ ns.foldl min n := by
      rcases b with b | b
      · rw [b]; exact h2 n List.mem_cons_self
      · exact h2 _ (List.mem_cons_of_mem _ b)
    have d : ns.foldl min n ≤ m := by
      cases h1 with
      | head => exact a.1
      | tail _ h => exact a.2 m h
    omega
def maxF : List D → Option D
  | [.int i, .int j] => some (.int (max i j))
  | [.list ds] => ((intsOf ds).bind maxL).map .int
  | _ => none
def minF : List D → Option D
  | [.int i, .int j] => some (.int (min i j))
  | [.list ds] => ((intsOf ds).bind minL).map .int
  | _ => none
theorem maxC (hc : X.calm = true) : CallS X G (.builtin "max") maxF := by
  refine ⟨_, CallR.or (call_max2 hc) (cr_max hc), fun F H xs ds d Q sub hx e q => ?_⟩
  unfold maxF at e
  split at e
  · cases e
    obtain ⟨v, w, rfl, h1, h2⟩ := hx.two
    cases h1.int; cases h2.int
    rename_i i j
    have z : (if j > i then j else i) = max i j := by split <;> omega
    exact .inl ⟨_, _, rfl, by rw [z]; exact stay sub q (.int _)⟩
  · rename_i es
    obtain ⟨v, rfl, w⟩ := hx.one
    obtain ⟨pp, us, rfl, hp, rr⟩ := w.lst sub
    cases h1 : intsOf es with
    | none => rw [h1] at e; cases e
    | some ns =>
      cases h2 : maxL ns with
      | none => simp [h1, h2] at e
      | some M =>
        simp only [h1, h2, Option.bind, Option.map, Option.some.injEq] at e
        subst e
        have ev := ints_vals h1 rr
        subst ev
        refine .inr ⟨pp, ns, rfl, SqL.of hp, ?_, fun m hm hle => ?_⟩
        · cases ns with
          | nil => cases h2
          | cons _ _ => exact Nat.succ_pos _
        · rw [maxL_of h2 hm hle]
          exact stay sub q (.int _)
  · cases e
theorem minC (hc : X.calm = true) : CallS X G (.builtin "min") minF := by
  refine ⟨_, CallR.or (call_min2 hc) (cr_min hc), fun F H xs ds d Q sub hx e q => ?_⟩
  unfold minF at e
  split at e
  · cases e
    obtain ⟨v, w, rfl, h1, h2⟩ := hx.two
    cases h1.int; cases h2.int
    rename_i i j
    have z : (if j < i then j else i) = min i j := by split <;> omega
    exact .inl ⟨_, _, rfl, by rw [z]; exact stay sub q (.int _)⟩
  · rename_i es
    obtain ⟨v, rfl, w⟩ := hx.one
    obtain ⟨pp, us, rfl, hp, rr⟩ := w.lst sub
    cases h1 : intsOf es with
    | none => rw [h1] at e; cases e
    | some ns =>
      cases h2 : minL ns with
      | none => simp [h1, h2] at e
      | some M =>
        simp only [h1, h2, Option.bind, Option.map, Option.some.injEq] at e
        subst e
        have ev := ints_vals h1 rr
        subst ev
        refine .inr ⟨pp, ns, rfl, SqL.of hp, ?_, fun m hm hle => ?_⟩
        · cases ns with
          | nil => cases h2
          | cons _ _ => exact Nat.succ_pos _
        · rw [minL_of h2 hm hle]
          exact stay sub q (.int _)
  · cases e
def sumF : List D → Option D
  | [.list ds] => (intsOf ds).map fun ns => .int ns.sum
  | _ => none
theorem sumC (hc : X.calm = true) : CallS X G (.builtin "sum") sumF := by
  refine ⟨_, cr_sum hc, fun F H xs ds d Q sub hx e q => ?_⟩
  unfold sumF at e
  split at e
  · rename_i es
    obtain ⟨v, rfl, w⟩ := hx.one
    obtain ⟨pp, us, rfl, hp, rr⟩ := w.lst sub
    cases h1 : intsOf es with
    | none => rw [h1] at e; cases e
    | some ns =>
      rw [h1] at e
      cases e
      have ev := ints_vals h1 rr
      subst ev
      exact ⟨pp, ns, rfl, SqL.of hp, stay sub q (.int _)⟩
  · cases e
def allF : List D → Option D
  | [.list ds] => (bools ds).map fun bs => .bool (bs.all id)
  | _ => none
def anyF : List D → Option D
  | [.list ds] => (bools ds).map fun bs => .bool (bs.any id)
  | _ => none
theorem allC (hc : X.calm = true) : CallS X G (.builtin "all") allF := by
  refine ⟨_, cr_all hc, fun F H xs ds d Q sub hx e q => ?_⟩
  unfold allF at e
  split at e
  · rename_i es
    obtain ⟨v, rfl, w⟩ := hx.one
    obtain ⟨pp, us, rfl, hp, rr⟩ := w.lst sub
    cases h1 : bools es with
    | none => rw [h1] at e; cases e
    | some ns =>
      rw [h1] at e
      cases e
      have ev := bools_vals h1 rr
      subst ev
      exact ⟨pp, ns, rfl, SqL.of hp, stay sub q (.bl _)⟩
  · cases e
theorem anyC (hc : X.calm = true) : CallS X G (.builtin "any") anyF := by
  refine ⟨_, cr_any hc, fun F H xs ds d Q sub hx e q => ?_⟩
  unfold anyF at e
  split at e
  · rename_i es
    obtain ⟨v, rfl, w⟩ := hx.one
    obtain ⟨pp, us, rfl, hp, rr⟩ := w.lst sub
    cases h1 : bools es with
    | none => rw [h1] at e; cases e
    | some ns =>
      rw [h1] at e
      cases e
      have ev := bools_vals h1 rr
      subst ev
      exact ⟨pp, ns, rfl, SqL.of hp, stay sub q (.bl _)⟩
  · cases e
def intF : List D → Option D
  | [.int i] => some (.int i)
  | [.bool b] => some (.int (if b then 1 else 0))
  | _ => none
theorem intC : CallS X G (.type "int") intF := by
  refine ⟨_, call_int1, fun F H xs ds d Q sub hx e q => ?_⟩
  unfold intF at e
  split at e
  · cases e
    obtain ⟨v, rfl, w⟩ := hx.one
    cases w.int
    exact .inl ⟨_, rfl, stay sub q (.int _)⟩
  · cases e
    obtain ⟨v, rfl, w⟩ := hx.one
    cases w.bl
    exact .inr ⟨_, rfl, stay sub q (.int _)⟩
  · cases e
def tupF : List D → Option D
  | [.list ds] => some (.tuple ds)
  | [.tuple ds] => some (.tuple ds)
  | _ => none
theorem tupC : CallS X G (.type "tuple") tupF := by
  refine ⟨_, call_tuple_of, fun F H xs ds d Q sub hx e q => ?_⟩
  unfold tupF at e
  split at e
  · cases e
    obtain ⟨v, rfl, w⟩ := hx.one
    obtain ⟨pp, us, rfl, hp, rr⟩ := w.lst sub
    refine ⟨pp, us, rfl, .inl ⟨SqL.of hp, fun l hl => ?_⟩⟩
    have st := step_new (F := F) (o := .tup us) sub hl
    exact q _ _ _ st (.tup (SqT.of upd_same) (rr.mono (st.inc sub)))
  · cases e
    obtain ⟨v, rfl, w⟩ := hx.one
    obtain ⟨pp, us, rfl, hp, rr⟩ := w.tup
    exact ⟨pp, us, rfl, .inr ⟨sqT_mono sub hp, stay sub q (.tup hp rr)⟩⟩
  · cases e
/-! ### new lists -/
def listF : D → Option (List D)
  | .list ds => some ds
  | .tuple ds => some ds
  | _ => none
def listG (g : Ev → LS → Out D) (env : Ev) (s : LS) : Out (List D) := (g env s).bind fun d s => lift (listF d) s
theorem own_fin {F H : Hp} {mg : Str → Option Value} {Q : VK} {xs : List V} {ds : List D} (sub : ∀ a o, F a = some o → H a = some o) (so : StOk G F H s) (rr : RpAll K F xs ds) (p : Post K mg W G F H σ RF Q (.ok ds s)) {q : Addr} (hq : H q = none) : Q (.ref q) (upd H q (.lst xs)) := by
  have sn := step_own (F := F) (o := .lst xs) sub hq
  exact p (.ref q) _ _ sn.weak (so.pure sn) ⟨q, xs, rfl, hq, upd_same, none_of_sub sub hq, not_has so hq, rr⟩
theorem sf_list {x : Str} {p pos : Pos} {g : Ev → LS → Out D} (hg : Gl X x) (hm : X.mg x = none) (hv : bootBuiltins x = some (.type "list")) (ha : SW X W G e g)
    (hn : x ≠ "__name__" := by decide) (hd : (x == ("__debug__" : Str)) = false := by decide) (he : starEach (e :: []) X.env = (false, eval e X.env) :: starEach [] X.env := by rfl) (hpl : (backTo pos (starEach [] X.env)).any (·.1) = false := by rfl) :
    SF X W G (.Call (.Name x p) [e] [] pos) (listG g) := by
  obtain ⟨t, h1, h2⟩ := ha.use
  refine SG.mk (pe_callTy call_list_of hg hm hv (pa_cons h1 pa_nil he) hn hd he hpl) fun F0 H0 F H σ env s Q rl p => h2 F0 H0 F H σ env s _ rl (post_bind p fun d s1 x F1 H1 st so rx p1 => ?_)
  cases q : listF d with
  | none => rw [q] at p1; exact p1.elim
  | some ds =>
    rw [q] at p1
    unfold listF at q
    split at q
    · cases q
      obtain ⟨pp, us, rfl, hp, rr⟩ := Wd.lst rx st.sub
      exact ⟨pp, us, rfl, .inl (SqL.of hp), fun l hl => own_fin st.sub so rr p1 hl⟩
    · cases q
      obtain ⟨pp, us, rfl, hp, rr⟩ := Wd.tup rx
      exact ⟨pp, us, rfl, .inr (sqT_mono st.sub hp), fun l hl => own_fin st.sub so rr p1 hl⟩
    · cases q
def repL (ds : List D) : D → Option (List D)
  | .int k => if k < 2 ^ 62 ∧ -(2 ^ 62) < k ∧ ds.length * k.toNat ≤ sizeLine then some (List.replicate k.toNat ds).flatten else none
  | _ => none
def repG (ga : Ev → LS → Out (List D)) (gb : Ev → LS → Out D) (env : Ev) (s : LS) : Out (List D) := (ga env s).bind fun ds s => (gb env s).bind fun d s => lift (repL ds d) s
theorem sf_rep {ga : Ev → LS → Out (List D)} {gb : Ev → LS → Out D} (ha : SF X W G a ga) (hb : SE X W G b gb) : SF X W G (.BinOp a .Mult b pos) (repG ga gb) := by
  obtain ⟨ta, ha, ka⟩ := ha.use
  obtain ⟨tb, hb, kb⟩ := hb.use
  refine SG.mk (pe_op op_rep ha hb) fun F0 H0 F H σ env s Q rl p => ?_
  refine ka F0 H0 F H σ env s _ rl (post_bind p fun ds s1 x F1 H1 st1 so1 rx p1 => ?_)
  have rl1 := rl.step st1 so1
  refine kb F0 H0 F1 H1 σ env s1 _ rl1 (post_bind p1 fun dy s2 y F2 H2 st2 so2 ry p2 => ?_)
  cases q : repL ds dy with
  | none => rw [q] at p2; exact p2.elim
  | some es =>
    rw [q] at p2
    unfold repL at q
    split at q
    · split at q
      · rename_i kk hk
        cases q
        cases ry
        obtain ⟨pp, us, rfl, h0, hp, fp, ng, rr⟩ := rx
        have rr2 := rr.mono (st2.inc st1.sub)
        exact ⟨pp, kk, us, rfl, rfl, st2.keep _ _ hp ng, by omega, by omega, by rw [rr2.length]; exact hk.2.2, fun l hl => own_fin st2.sub so2 (rr2.rep _) p2 hl⟩
      · cases q
    · cases q
def catG (ga gb : Ev → LS → Out D) (env : Ev) (s : LS) : Out (List D) := (ga env s).bind fun x s => (gb env s).bind fun y s => match x, y with
  | .list xs, .list ys => if xs.length + ys.length ≤ sizeLine then .ok (xs ++ ys) s else .bad
  | _, _ => .bad
theorem sf_cat {ga gb : Ev → LS → Out D} (ha : SW X W G a ga) (hb : SW X W G b gb) : SF X W G (.BinOp a .Add b pos) (catG ga gb) := by
  obtain ⟨ta, ha, ka⟩ := ha.use
  obtain ⟨tb, hb, kb⟩ := hb.use
  refine SG.mk (pe_op op_cat ha hb) fun F0 H0 F H σ env s Q rl p => ?_
  refine ka F0 H0 F H σ env s _ rl (post_bind p fun dx s1 x F1 H1 st1 so1 rx p1 => ?_)
  have rl1 := rl.step st1 so1
  refine kb F0 H0 F1 H1 σ env s1 _ rl1 (post_bind p1 fun dy s2 y F2 H2 st2 so2 ry p2 => ?_)
  split at p2
  · split at p2
    · rename_i hz
      obtain ⟨a, us, rfl, sa, ra⟩ := Wd.lst (Wd.step rx st1.sub st2) st2.sub
      obtain ⟨b, vs, rfl, sb, rb⟩ := Wd.lst ry st2.sub
      exact ⟨a, b, us, vs, rfl, rfl, sa, sb, by rw [ra.length, rb.length]; exact hz, fun l hl => own_fin st2.sub so2 (ra.append rb) p2 hl⟩
    · exact p2.elim
  · exact p2.elim
/-! ### isinstance -/
def tyName : D → Option String
  | .none => some "NoneType"
  | .bool _ => some "bool"
  | .int _ => some "int"
  | .str _ => some "str"
  | .list _ => some "list"
  | .tuple _ => some "tuple"
  | .dict _ => none
def isInt : D → Bool
  | .int _ => true
  | .bool _ => true
  | _ => false
def isBool : D → Bool
  | .bool _ => true
  | _ => false
def isStr : D → Bool
  | .str _ => true
  | _ => false
def isList : D → Bool
  | .list _ => true
  | _ => false
def isTup : D → Bool
  | .tuple _ => true
  | _ => false
def KitF (T : String) (f : D → Bool) : Prop := ∀ d n, tyName d = some n → kitB n T = some (f d)
theorem kitInt : KitF "int" isInt := fun d n h => by
  cases d <;> simp only [tyName, Option.some.injEq, reduceCtorEq] at h <;> subst h <;> simp only [isInt] <;> decide +kernel
theorem kitBool : KitF "bool" isBool := fun d n h => by
  cases d <;> simp only [tyName, Option.some.injEq, reduceCtorEq] at h <;> subst h <;> simp only [isBool] <;> decide +kernel
theorem kitStr : KitF "str" isStr := fun d n h => by
  cases d <;> simp only [tyName, Option.some.injEq, reduceCtorEq] at h <;> subst h <;> simp only [isStr] <;> decide +kernel
theorem kitList : KitF "list" isList := fun d n h => by
  cases d <;> simp only [tyName, Option.some.injEq, reduceCtorEq] at h <;> subst h <;> simp only [isList] <;> decide +kernel
theorem kitTup : KitF "tuple" isTup := fun d n h => by
  cases d <;> simp only [tyName, Option.some.injEq, reduceCtorEq] at h <;> subst h <;> simp only [isTup] <;> decide +kernel
def isiG (f : D → Bool) (g : Ev → LS → Out D) (env : Ev) (s : LS) : Out D := (g env s).bind fun d s => .ok (.bool (f d)) s
theorem Wd.ty (h : Wd K G F H v d) (sub : ∀ a o, F a = some o → H a = some o) : ∃ n, tyName d = some n ∧ TyX K H v (.type n) := by
  rcases h with h | ⟨p, xs, ds', rfl, rfl, hp, fp, ng, r⟩
  · cases h with
    | non => exact ⟨_, rfl, .base .non⟩
    | bl b => exact ⟨_, rfl, .base (.bl b)⟩
    | int b => exact ⟨_, rfl, .base (.int b)⟩
    | str b => exact ⟨_, rfl, .base (.str b)⟩
    | lst a b => exact ⟨_, rfl, .base (.lst (sub _ _ a))⟩
    | tup a b =>
      rcases a with (z | ⟨o, z⟩) | ⟨o, its, n, z, zc, _⟩
      · exact ⟨_, rfl, .base (.tup (sub _ _ z))⟩
      · exact ⟨_, rfl, .fTuple (sub _ _ z)⟩
      · exact ⟨_, rfl, .kTuple z zc⟩
  · exact ⟨_, rfl, .base (.lst hp)⟩
theorem se_isi {x y : Str} {p p2 pos : Pos} {T : String} {f : D → Bool} {g : Ev → LS → Out D} (kf : KitF T f) (hg : Gl X x) (hm : X.mg x = none) (hv : bootBuiltins x = some (.builtin "isinstance")) (ha : SW X W G e g)
    (hg2 : Gl X y) (hm2 : X.mg y = none) (hv2 : bootBuiltins y = some (.type T))
    (hn : x ≠ "__name__" := by decide) (hd : (x == ("__debug__" : Str)) = false := by decide) (hn2 : y ≠ "__name__" := by decide) (hd2 : (y == ("__debug__" : Str)) = false := by decide) (he : starEach (e :: [.Name y p2]) X.env = (false, eval e X.env) :: starEach [.Name y p2] X.env := by rfl) (he2 : starEach (Expr.Name y p2 :: []) X.env = (false, eval (.Name y p2) X.env) :: starEach [] X.env := by rfl) (hpl : (backTo pos (starEach [.Name y p2] X.env)).any (·.1) = false := by rfl) :
    SE X W G (.Call (.Name x p) [e, .Name y p2] [] pos) (isiG f g) := by
  obtain ⟨t, h1, h2⟩ := ha.use
  refine SG.mk (pe_callB call_isi hg hm hv (pa_cons h1 (pa_cons (pe_bltn (v := .ty T) hg2 hm2 hv2 rfl hn2 hd2) pa_nil he2) he) hn hd he hpl) fun F0 H0 F H σ env s Q rl p => h2 F0 H0 F H σ env s _ rl (post_bind p fun d s1 x F1 H1 st so rx p1 => ?_)
  obtain ⟨n, e1, e2⟩ := Wd.ty rx st.sub
  exact ⟨x, .ty T, _, _, _, rfl, .ty T, e2, kit_ty (kf d n e1), p1 (.bl _) F1 H1 (Step.refl st.sub) so (.bl _)⟩
end
end DS
end

section
set_option Elab.async false
set_option linter.all false
set_option maxRecDepth 100000
set_option autoImplicit false
namespace DS
open PySem PySem.Spec L2
open PyProof.Rows hiding St
section
variable {X : Cx} {W : WX} {G : Gh} {e a b : Expr} {es : List Expr} {K : PySem.W.Frag} {F H F' H' F0 H0 : Hp} {σ : L2.St} {env env' : Ev} {s s' : LS} {v : V} {d : D} {pos : Pos} {k : Nat}
/-! ### what is walked -/
structure ItOk (K : PySem.W.Frag) (J : It) (ds : List D) (F : Hp) : Prop where
  go : ∀ (F1 H1 : Hp) (i : Nat), (∀ a o, F a = some o → F1 a = some o) → (∀ a o, F1 a = some o → H1 a = some o) → i < ds.length → J.go i H1
  stop : ∀ (F1 H1 : Hp) (i : Nat), (∀ a o, F a = some o → F1 a = some o) → (∀ a o, F1 a = some o → H1 a = some o) → ds.length ≤ i → J.stop i H1
  yld : ∀ (F1 H1 : Hp) (i : Nat) (d : D) (x : V) (H2 : Hp), (∀ a o, F a = some o → F1 a = some o) → (∀ a o, F1 a = some o → H1 a = some o) → ds[i]? = some d → J.yld i H1 x H2 → ∃ F2, Step none F1 H1 F2 H2 ∧ Rp K F2 x d
def RIt : RR (List D) It := ⟨fun K _ _ F' _ J ds => ItOk K J ds F', fun _ r => r⟩
def SI (X : Cx) (W : WX) (G : Gh) (tg iter : Expr) (g : Ev → LS → Out (List D)) : Prop := PI X tg iter (tG X.K X.mg W G RIt g)
theorem SI.mk {tg : Expr} {g : Ev → LS → Out (List D)} {t : TI} (h : PI X tg e t) (k : ∀ F0 H0 F H σ env s Q, Rel X.K G F0 H0 F H σ env s → Post X.K X.mg W G F H σ RIt Q (g env s) → t σ H Q) : SI X W G tg e g :=
  ⟨fun pins s σ H R I ⟨F0, H0, F, env, s', r, p⟩ => h.run pins s σ H R I (k F0 H0 F H σ env s' R r p)⟩
theorem PI.or {tg iter : Expr} {w1 w2 : TI} (h1 : PI X tg iter w1) (h2 : PI X tg iter w2) : PI X tg iter (fun σ H R => w1 σ H R ∨ w2 σ H R) :=
  ⟨fun pins s σ H R I h => h.elim (h1.run pins s σ H R I) (h2.run pins s σ H R I)⟩
theorem it_list {p : Addr} {xs : List V} {ds : List D} (hp : F p = some (.lst xs)) (r : RpAll K F xs ds) : ItOk K (Itl K p) ds F := by
  refine ⟨fun F1 H1 i inc sub h => ?_, fun F1 H1 i inc sub h => ⟨xs, SqL.of (sub _ _ (inc _ _ hp)), by rw [r.length]; exact h⟩, fun F1 H1 i d x H2 inc sub h y => ?_⟩
  · have hl : i < xs.length := by rw [r.length]; exact h
    exact ⟨xs, xs[i], SqL.of (sub _ _ (inc _ _ hp)), List.getElem?_eq_getElem hl⟩
  · obtain ⟨e, y⟩ := y
    subst e
    obtain ⟨v, h1, h2⟩ := r.get h
    have := y xs (SqL.of (sub _ _ (inc _ _ hp)))
    rw [h1] at this
    cases this
    exact ⟨F1, Step.refl sub, h2.mono inc⟩
theorem it_tup {p : Addr} {xs : List V} {ds : List D} (hp : SqT K F p xs) (r : RpAll K F xs ds) : ItOk K (Itt K p) ds F := by
  refine ⟨fun F1 H1 i inc sub h => ?_, fun F1 H1 i inc sub h => ⟨xs, sqT_mono sub (sqT_mono inc hp), by rw [r.length]; exact h⟩, fun F1 H1 i d x H2 inc sub h y => ?_⟩
  · have hl : i < xs.length := by rw [r.length]; exact h
    exact ⟨xs, xs[i], sqT_mono sub (sqT_mono inc hp), List.getElem?_eq_getElem hl⟩
  · obtain ⟨e, y⟩ := y
    subst e
    obtain ⟨v, h1, h2⟩ := r.get h
    have := y xs (sqT_mono sub (sqT_mono inc hp))
    rw [h1] at this
    cases this
    exact ⟨F1, Step.refl sub, h2.mono inc⟩
def itemG (g : Ev → LS → Out D) (env : Ev) (s : LS) : Out (List D) := (g env s).bind fun d s => lift (listF d) s
theorem si_of {tg : Expr} {g : Ev → LS → Out D} (h : SE X W G e g) : SI X W G tg e (itemG g) := by
  obtain ⟨t, h1, h2⟩ := h.use
  refine SI.mk (PI.or (pi_list h1) (pi_tup h1)) fun F0 H0 F H σ env s Q rl p => ?_
  have key : ∀ (P : V → Hp → Prop), (∀ d v F1 H1 s1, g env s = .ok d s1 → Step G F H F1 H1 → StOk G F1 H1 s1 → Rp X.K F1 v d → P v H1) → (∀ z s1, g env s = .err z s1 → Post X.K X.mg W G F H σ RD P (g env s)) → t σ H P := fun P hP hE => by
    refine h2 F0 H0 F H σ env s P rl ?_
    cases q : g env s with
    | ok d s1 => exact fun v F1 H1 st so rp => hP d v F1 H1 s1 q st so rp
    | err z s1 => rw [← q]; exact hE z s1 q
    | bad => unfold itemG at p; rw [q] at p; exact p.elim
  unfold itemG at p
  cases q : g env s with
  | bad => rw [q] at p; exact p.elim
  | err z s1 =>
    refine .inl (key _ (fun d v F1 H1 s1 e => by rw [q] at e; cases e) fun z s1 e => ?_)
    rw [q] at p ⊢
    exact p
  | ok d s1 =>
    rw [q] at p
    change Post _ _ _ _ _ _ _ _ _ (lift (listF d) s1) at p
    cases q2 : listF d with
    | none => rw [q2] at p; exact p.elim
    | some ds =>
      rw [q2] at p
      unfold listF at q2
      split at q2
      · cases q2
        refine .inl (key _ (fun d v F1 H1 s1 e st so rp => ?_) fun z s1 e => by rw [q] at e; cases e)
        rw [q] at e
        cases e
        cases rp with
        | lst x y => exact ⟨_, rfl, ⟨_, SqL.of (st.sub _ _ x)⟩, p _ F1 H1 st so (it_list x y)⟩
      · cases q2
        refine .inr (key _ (fun d v F1 H1 s1 e st so rp => ?_) fun z s1 e => by rw [q] at e; cases e)
        rw [q] at e
        cases e
        cases rp with
        | tup x y => exact ⟨_, rfl, ⟨_, sqT_mono st.sub x⟩, p _ F1 H1 st so (it_tup x y)⟩
      · cases q2
def rangeL (lo : Int) (n : Nat) : List D := (List.range n).map fun i => .int (lo + (i : Nat))
theorem it_rng (lo : Int) (n : Nat) : ItOk K (Itr lo n) (rangeL lo n) F := by
  refine ⟨fun F1 H1 i inc sub h => (by simpa [rangeL] using h : i < n), fun F1 H1 i inc sub h => (by simpa [rangeL] using h : n ≤ i), fun F1 H1 i d x H2 inc sub h y => ?_⟩
  obtain ⟨e, y⟩ := y
  subst e; subst y
  simp only [rangeL, List.getElem?_map] at h
  have hl : i < n := by
    by_cases z : i < n
    · exact z
    · rw [List.getElem?_eq_none_iff.mpr (by simp; omega)] at h; cases h
  rw [List.getElem?_range hl] at h
  cases h
  exact ⟨F1, Step.refl sub, .int _⟩
def rngB (i : Int) : Prop := -(2 ^ 62) ≤ i ∧ i < 2 ^ 62
instance (i : Int) : Decidable (rngB i) := by unfold rngB; infer_instance
def rng1 (g : Ev → LS → Out D) (env : Ev) (s : LS) : Out (List D) := (g env s).bind fun d s => match d with
  | .int j => if rngB j then .ok (rangeL 0 j.toNat) s else .bad
  | _ => .bad
def rng2 (ga gb : Ev → LS → Out D) (env : Ev) (s : LS) : Out (List D) := (ga env s).bind fun x s => (gb env s).bind fun y s => match x, y with
  | .int i, .int j => if rngB i ∧ rngB j then .ok (rangeL i (j - i).toNat) s else .bad
  | _, _ => .bad
def downL (hi : Int) (n : Nat) : List D := (List.range n).map fun i => .int (hi + (i : Nat) * (-1))
def rngD (ga gb gc : Ev → LS → Out D) (env : Ev) (s : LS) : Out (List D) := (ga env s).bind fun x s => (gb env s).bind fun y s => (gc env s).bind fun z s => match x, y, z with
  | .int i, .int j, .int c => if rngB i ∧ rngB j ∧ c = -1 then .ok (downL i (i - j).toNat) s else .bad
  | _, _, _ => .bad
theorem si_rng1 {tg : Expr} {p pos : Pos} {g : Ev → LS → Out D} (hm : X.mg "range" = none) (ha : SE X W G a g) (hg : Gl X "range" := by rfl) (hs : starEach [a] X.env = [(false, eval a X.env)] := by rfl) (hs1 : starEach (a :: []) X.env = (false, eval a X.env) :: starEach [] X.env := by rfl) :
    SI X W G tg (.Call (.Name "range" p) [a] [] pos) (rng1 g) := by
  obtain ⟨t, h1, h2⟩ := ha.use
  refine SI.mk (pi_range1 hg hm (pa_cons h1 pa_nil hs1) hs) fun F0 H0 F H σ env s Q rl p => h2 F0 H0 F H σ env s _ rl (post_bind p fun d s1 x F1 H1 st so rx p1 => ?_)
  split at p1
  · split at p1
    · rename_i hb
      cases rx
      exact ⟨_, rfl, hb.1, hb.2, p1 _ F1 H1 (Step.refl st.sub) so (it_rng _ _)⟩
    · exact p1.elim
  · exact p1.elim
theorem si_rng2 {tg : Expr} {p pos : Pos} {ga gb : Ev → LS → Out D} (hm : X.mg "range" = none) (ha : SE X W G a ga) (hb : SE X W G b gb) (hg : Gl X "range" := by rfl) (hs : starEach [a, b] X.env = [(false, eval a X.env), (false, eval b X.env)] := by rfl) (hs2 : starEach [b] X.env = [(false, eval b X.env)] := by rfl) (hs1 : starEach (a :: [b]) X.env = (false, eval a X.env) :: starEach [b] X.env := by rfl) (hs3 : starEach (b :: []) X.env = (false, eval b X.env) :: starEach [] X.env := by rfl) :
    SI X W G tg (.Call (.Name "range" p) [a, b] [] pos) (rng2 ga gb) := by
  obtain ⟨t, h1, h2⟩ := ha.use
  obtain ⟨t', h1', h2'⟩ := hb.use
  refine SI.mk (pi_range2 hg hm (pa_cons h1 (pa_cons h1' pa_nil hs3) hs1) hs hs2) fun F0 H0 F H σ env s Q rl p => h2 F0 H0 F H σ env s _ rl (post_bind p fun d s1 x F1 H1 st so rx p1 => ?_)
  refine h2' F0 H0 F1 H1 σ env s1 _ (rl.step st so) (post_bind p1 fun d' s2 y F2 H2 st2 so2 ry p2 => ?_)
  split at p2
  · split at p2
    · rename_i hb
      cases rx
      cases ry
      exact ⟨_, _, rfl, ⟨hb.1.1, hb.1.2, hb.2.1, hb.2.2⟩, p2 _ F2 H2 (Step.refl st2.sub) so2 (it_rng _ _)⟩
    · exact p2.elim
  · exact p2.elim
theorem it_down (lo : Int) (n : Nat) : ItOk K (Itc lo (-1) n) (downL lo n) F := by
  refine ⟨fun F1 H1 i inc sub h => (by simpa [downL] using h : i < n), fun F1 H1 i inc sub h => (by simpa [downL] using h : n ≤ i), fun F1 H1 i d x H2 inc sub h y => ?_⟩
  obtain ⟨e, y⟩ := y
  subst e; subst y
  simp only [downL, List.getElem?_map] at h
  have hl : i < n := by
    by_cases z : i < n
    · exact z
    · rw [List.getElem?_eq_none_iff.mpr (by simp; omega)] at h; cases h
  rw [List.getElem?_range hl] at h
  cases h
  exact ⟨F1, Step.refl sub, .int _⟩
theorem si_rngD {tg c : Expr} {p pos : Pos} {ga gb gc : Ev → LS → Out D} (hm : X.mg "range" = none) (ha : SE X W G a ga) (hb : SE X W G b gb) (hc : SE X W G c gc) (hg : Gl X "range" := by rfl) (hs1 : starEach (a :: [b, c]) X.env = (false, eval a X.env) :: starEach [b, c] X.env := by rfl) (hs2 : starEach (b :: [c]) X.env = (false, eval b X.env) :: starEach [c] X.env := by rfl) (hs3 : starEach (c :: []) X.env = (false, eval c X.env) :: starEach [] X.env := by rfl)
    (hpl : (backTo pos (starEach [b, c] X.env)).any (·.1) = false := by rfl) :
    SI X W G tg (.Call (.Name "range" p) [a, b, c] [] pos) (rngD ga gb gc) := by
  obtain ⟨t, h1, h2⟩ := ha.use
  obtain ⟨t', h1', h2'⟩ := hb.use
  obtain ⟨t'', h1'', h2''⟩ := hc.use
  refine SI.mk (pi_range3 hg hm (pa_cons h1 (pa_cons h1' (pa_cons h1'' pa_nil hs3) hs2) hs1) hs1 hpl) fun F0 H0 F H σ env s Q rl p => h2 F0 H0 F H σ env s _ rl (post_bind p fun d s1 x F1 H1 st so rx p1 => ?_)
  refine h2' F0 H0 F1 H1 σ env s1 _ (rl.step st so) (post_bind p1 fun d' s2 y F2 H2 st2 so2 ry p2 => ?_)
  refine h2'' F0 H0 F2 H2 σ env s2 _ ((rl.step st so).step st2 so2) (post_bind p2 fun d'' s3 z F3 H3 st3 so3 rz p3 => ?_)
  split at p3
  · split at p3
    · rename_i hb
      obtain ⟨q1, q2, rfl⟩ := hb
      cases rx
      cases ry
      cases rz
      exact ⟨_, _, _, _, rfl, RgC.neg q1.1 q1.2 q2.1 q2.2, p3 _ F3 H3 (Step.refl st3.sub) so3 (it_down _ _)⟩
    · exact p3.elim
  · exact p3.elim
/-! ### targets -/
inductive Tg where
  | nm (i : Nat)
  | tp (is : List Nat)
def setAll : List Nat → List D → Ev → Option Ev
  | [], [], env => some env
  | i :: is, d :: ds, env => setAll is ds (env.set i (.sh d))
  | _, _, _ => none
def Tg.asg : Tg → D → Ev → Option Ev
  | .nm i, d, env => some (env.set i (.sh d))
  | .tp is, .tuple ds, env => setAll is ds env
  | _, _, _ => none
def Tg.slots : Tg → List Nat
  | .nm i => [i]
  | .tp is => is
def gNs : List Nat → TGs
  | [] => gNil
  | i :: r => gCons (gName i) (gNs r)
def TgR (K : PySem.W.Frag) : Tg → TG
  | .nm i => gName i
  | .tp is => gTup K is.length (gNs is)
theorem Rel.setSh (r : Rel K G F0 H0 F H σ env s) {i : Nat} (q : Rp K F v d) : Rel K G F0 H0 F H (σ.set i (some v)) (env.set i (.sh d)) s := by
  refine ⟨r.st, by rw [List.length_set, List.length_set]; exact r.len, fun j e h => ?_, fun j l dj dl hne h1 h2 => ?_, r.so⟩
  · by_cases z : i = j
    · subst z
      have hl : i < env.length := by
        by_cases w : i < env.length
        · exact w
        · rw [List.getElem?_eq_none_iff.mpr (by rw [List.length_set]; omega)] at h; cases h
      rw [List.getElem?_set_self hl] at h
      cases h
      exact ⟨some v, List.getElem?_set_self (by rw [← r.len]; exact hl), v, rfl, q⟩
    · rw [List.getElem?_set_ne z] at h
      rw [List.getElem?_set_ne z]
      exact r.slots j e h
  · have nj : i ≠ j := fun z => by
      subst z
      have hl : i < env.length := by
        by_cases w : i < env.length
        · exact w
        · rw [List.getElem?_eq_none_iff.mpr (by rw [List.length_set]; omega)] at h1; cases h1
      rw [List.getElem?_set_self hl] at h1; cases h1
    have nl : i ≠ l := fun z => by
      subst z
      have hl : i < env.length := by
        by_cases w : i < env.length
        · exact w
        · rw [List.getElem?_eq_none_iff.mpr (by rw [List.length_set]; omega)] at h2; cases h2
      rw [List.getElem?_set_self hl] at h2; cases h2
    rw [List.getElem?_set_ne nj] at h1 ⊢
    rw [List.getElem?_set_ne nl] at h2 ⊢
    exact r.dist j l dj dl hne h1 h2
theorem wipe_comm : ∀ (vs : List Nat) (σ : L2.St) (i : Nat), i ∈ vs → ∀ x, wipe (σ.set i x) vs = wipe σ vs := by
  have comm : ∀ (vs : List Nat) (σ : L2.St) (i : Nat) x, i ∉ vs → wipe (σ.set i x) vs = (wipe σ vs).set i x := by
    intro vs
    induction vs with
    | nil => intro σ i x _; rfl
    | cons w ws ih =>
      intro σ i x h
      unfold wipe
      rw [ih σ i x fun z => h (List.mem_cons_of_mem _ z), List.set_comm]
      exact fun z => h (by rw [z]; exact List.mem_cons_self)
  intro vs
  induction vs with
  | nil => intro σ i h; cases h
  | cons w ws ih =>
    intro σ i h x
    unfold wipe
    by_cases z : i ∈ ws
    · rw [ih σ i z x]
    · rw [comm ws σ i x z]
      have e : i = w := by
        cases h with
        | head => rfl
        | tail _ h => exact absurd h z
      subst e
      rw [List.set_set]
theorem gNs_run {xs : List V} {ds : List D} : ∀ (is : List Nat) (xs : List V) (ds : List D) (σ : L2.St) (env : Ev), Rel K G F0 H0 F H σ env s → RpAll K F xs ds → setAll is ds env = some env' →
    ∀ Q : L2.St → Hp → Prop, (∀ σ', Rel K G F0 H0 F H σ' env' s → (∀ vs, (∀ i ∈ is, i ∈ vs) → wipe σ' vs = wipe σ vs) → Q σ' H) → gNs is xs σ H Q
  | [], xs, ds, σ, env, r, ra, h, Q, q => by
    cases ra with
    | nil => cases h; exact ⟨rfl, q σ r fun _ _ => rfl⟩
    | cons a b => cases h
  | i :: is, xs, ds, σ, env, r, ra, h, Q, q => by
    cases ra with
    | nil => cases h
    | cons a b =>
      refine ⟨_, _, rfl, gNs_run (xs := []) (ds := []) is _ _ _ _ (r.setSh (i := i) a) b h Q fun σ' r' hw => q σ' r' fun vs hv => ?_⟩
      rw [hw vs fun j hj => hv j (List.mem_cons_of_mem _ hj)]
      exact wipe_comm vs σ i (hv i List.mem_cons_self) _
theorem setAll_len : ∀ (is : List Nat) (ds : List D) (env : Ev), setAll is ds env = some env' → ds.length = is.length
  | [], [], _, _ => rfl
  | [], _ :: _, _, h => by cases h
  | _ :: _, [], _, h => by cases h
  | i :: is, d :: ds, env, h => by rw [List.length_cons, List.length_cons, setAll_len is ds _ h]
theorem tg_run {t : Tg} (r : Rel K G F0 H0 F H σ env s) (rp : Rp K F v d) (h : t.asg d env = some env') {Q : L2.St → Hp → Prop}
    (q : ∀ σ', Rel K G F0 H0 F H σ' env' s → (∀ vs, (∀ i ∈ t.slots, i ∈ vs) → wipe σ' vs = wipe σ vs) → Q σ' H) : TgR K t v σ H Q := by
  cases t with
  | nm i =>
    cases h
    exact q _ (r.setSh rp) fun vs hv => wipe_comm vs σ i (hv i List.mem_cons_self) _
  | tp is =>
    cases d with
    | tuple ds =>
      cases rp with
      | tup a b => exact ⟨_, _, rfl, sqT_mono r.sub a, by rw [b.length]; exact setAll_len is ds env h, gNs_run (xs := []) (ds := []) is _ _ _ _ r b h Q q⟩
    | none => cases h
    | bool _ => cases h
    | int _ => cases h
    | str _ => cases h
    | list _ => cases h
    | dict _ => cases h
/-! ### list comprehensions -/
def noErr {α : Type} : Out α → Out α
  | .err _ _ => .bad
  | o => o
def wipeE (env : Ev) : List Nat → Ev
  | [] => env
  | v :: vs => (wipeE env vs).set v .un
theorem Rel.wipe (r : Rel K G F0 H0 F H σ env s) : ∀ vs, Rel K G F0 H0 F H (L2.wipe σ vs) (wipeE env vs) s
  | [] => r
  | w :: vs => by
    have r := Rel.wipe r vs
    unfold L2.wipe wipeE
    refine ⟨r.st, by rw [List.length_set, List.length_set]; exact r.len, fun j e h => ?_, fun j l dj dl hne h1 h2 => ?_, r.so⟩
    · by_cases z : w = j
      · subst z
        have hl : w < (wipeE env vs).length := by
          by_cases u : w < (wipeE env vs).length
          · exact u
          · rw [List.getElem?_eq_none_iff.mpr (by rw [List.length_set]; omega)] at h; cases h
        rw [List.getElem?_set_self hl] at h
        cases h
        exact ⟨none, List.getElem?_set_self (by rw [← r.len]; exact hl), trivial⟩
      · rw [List.getElem?_set_ne z] at h
        rw [List.getElem?_set_ne z]
        exact r.slots j e h
    · have nj : w ≠ j := fun z => by
        subst z
        have hl : w < (wipeE env vs).length := by
          by_cases u : w < (wipeE env vs).length
          · exact u
          · rw [List.getElem?_eq_none_iff.mpr (by rw [List.length_set]; omega)] at h1; cases h1
        rw [List.getElem?_set_self hl] at h1; cases h1
      have nl : w ≠ l := fun z => by
        subst z
        have hl : w < (wipeE env vs).length := by
          by_cases u : w < (wipeE env vs).length
          · exact u
          · rw [List.getElem?_eq_none_iff.mpr (by rw [List.length_set]; omega)] at h2; cases h2
        rw [List.getElem?_set_self hl] at h2; cases h2
      rw [List.getElem?_set_ne nj] at h1 ⊢
      rw [List.getElem?_set_ne nl] at h2 ⊢
      exact r.dist j l dj dl hne h1 h2
def lcD (t : Tg) (gc : Ev → LS → Out Bool) (ge : Ev → LS → Out D) : List D → Ev → LS → Out (List D)
  | [], _, s => .ok [] s
  | d :: ds, env, s => match t.asg d env with
    | none => .bad
    | some env1 => (noErr (gc env1 s)).bind fun b s => if b then (noErr (ge env1 s)).bind fun y s => (lcD t gc ge ds env s).bind fun r s => .ok (y :: r) s else lcD t gc ge ds env s
def lcG (t : Tg) (vs : List Nat) (gi : Ev → LS → Out (List D)) (gc : Ev → LS → Out Bool) (ge : Ev → LS → Out D) (env : Ev) (s : LS) : Out (List D) :=
  (gi env s).bind fun items s => if items.length ≤ sizeLine then lcD t gc ge items (wipeE env vs) s else .bad
def yesB (_ : Ev) (s : LS) : Out Bool := .ok true s
def SPT (X : Cx) (W : WX) (G : Gh) (ifs : List Expr) (g : Ev → LS → Out Bool) : Prop := PTs X ifs (tG X.K X.mg W G RB g)
theorem spt_nil : SPT X W G [] yesB := ⟨fun pins s σ H Q I ⟨F0, H0, F, env, s', r, p⟩ => pts_nil.run pins s σ H Q I (p true F H (Step.refl r.sub) r.so rfl)⟩
theorem spt_one {g : Ev → LS → Out Bool} (h : SB X W G e g) : SPT X W G [e] g := pts_one h
theorem post_noErr {α β : Type} {mg : Str → Option Value} {R : RR α β} {Q : β → Hp → Prop} {o : Out α} (h : Post K mg W0 G F H σ R Q (noErr o)) : Post K mg W0 G F H σ R Q o := by
  cases o with
  | ok a s => exact h
  | err x s => exact h.elim
  | bad => exact h
theorem noErr_bind {α β : Type} {o : Out α} {f : α → LS → Out β} : (noErr o).bind f = match o with
  | .ok a s => f a s
  | _ => .bad := by cases o <;> rfl
/-- the body of a comprehension's reading -/
theorem lc_run {t : Tg} {vs : List Nat} {gc : Ev → LS → Out Bool} {ge : Ev → LS → Out D} {mg : Str → Option Value} {items : List D} {J : It} {Q : V → Hp → Prop} (ht : ∀ i ∈ t.slots, i ∈ vs) (rl : Rel K G F0 H0 F H σ env s)
    (hz : items.length ≤ sizeLine) (hJ : ItOk K J items F) (p : Post K mg W G F H σ RF Q (lcD t gc ge items (wipeE env vs) s)) :
    ∀ D, H D = none → ∃ W : Nat → Nat → Hp → Prop, (∃ m, W 0 m (upd H D (.lst []))) ∧ ∀ i m H, W i m H →
      (J.stop i H ∧ Q (.ref D) H) ∨ (J.go i H ∧ ∃ Nx : Hp → Prop, (∀ H', Nx H' → ∃ m', m' < m ∧ W (i + 1) m' H') ∧ ∀ x H', J.yld i H x H' → TgR K t x (wipe σ vs) H' fun σ2 H2 => wipe σ2 vs = wipe σ vs ∧ tG K mg W0 G RB gc σ2 H2 fun b H3 =>
        if b = true then tG K mg W0 G RD ge σ2 H3 fun y H4 => ∃ acc, H4 D = some (.lst acc) ∧ acc.length < sizeLine ∧ Nx (upd H4 D (.lst (acc ++ [y]))) else Nx H3) := by
  intro D hD
  have nG : ¬ G.has D := not_has rl.so hD
  -- the state ahead of turn i
  let Pv : Nat → Hp → Prop := fun i Hc => ∃ Fc sc xs acc, Step G F H Fc Hc ∧ StOk G Fc Hc sc ∧ Fc D = none ∧ Hc D = some (.lst xs) ∧ RpAll K Fc xs acc ∧ acc.length ≤ i ∧
    Post K mg W G F H σ RF Q ((lcD t gc ge (items.drop i) (wipeE env vs) sc).bind fun r s => .ok (acc ++ r) s)
  refine ⟨fun i m Hc => m = items.length - i ∧ i ≤ items.length ∧ Pv i Hc, ⟨items.length, by omega, by omega, F, s, [], [], ?_⟩, ?_⟩
  · have so := step_own (F := F) (o := .lst []) rl.sub hD
    refine ⟨so.weak, rl.so.pure so, none_of_sub rl.sub hD, upd_same, .nil, Nat.le_refl _, ?_⟩
    rw [List.drop_zero]
    simp only [List.nil_append, Out.bind_ok]
    exact p
  rintro i m Hc ⟨rfl, hi, Fc, sc, xs, acc, st, so, fD, hDc, ra, hacc, pr⟩
  have incF : ∀ a o, F a = some o → Fc a = some o := st.inc rl.sub
  by_cases hlt : i < items.length
  · refine .inr ⟨hJ.go Fc Hc i incF st.sub hlt, Pv (i + 1), fun H' q => ⟨_, by omega, rfl, hlt, q⟩, fun x H' y => ?_⟩
    have hd : items[i]? = some items[i] := List.getElem?_eq_getElem hlt
    obtain ⟨F2, st2, rx⟩ := hJ.yld Fc Hc i _ x H' incF st.sub hd y
    rw [List.drop_eq_getElem_cons hlt] at pr
    have so2 := so.pure st2
    have rl2 := (((rl.step st so).step st2.weak so2)).wipe vs
    unfold lcD at pr
    cases q1 : t.asg items[i] (wipeE env vs) with
    | none => rw [q1] at pr; exact pr.elim
    | some env1 =>
      rw [q1] at pr
      simp only [] at pr
      refine tg_run rl2 rx q1 fun σ' rl3 hw => ⟨?_, ?_⟩
      · rw [hw vs ht]
        have idem : ∀ (ws : List Nat) (τ : L2.St), (∀ i ∈ ws, i ∈ vs) → L2.wipe (L2.wipe τ ws) vs = L2.wipe τ vs := by
          intro ws
          induction ws with
          | nil => intro τ _; rfl
          | cons w ws ih =>
            intro τ h
            show L2.wipe ((L2.wipe τ ws).set w none) vs = _
            rw [wipe_comm vs _ w (h w List.mem_cons_self), ih τ fun j hj => h j (List.mem_cons_of_mem _ hj)]
        exact idem vs σ fun _ h => h
      · refine ⟨F0, H0, F2, env1, sc, rl3, ?_⟩
        have hD2 : H' D = some (.lst xs) := st2.keep _ _ hDc fun z => z
        have fD2 : F2 D = none := (st2.frz _ _ hDc).trans fD
        cases q2 : gc env1 sc with
        | err z s1 => rw [q2] at pr; exact pr.elim
        | bad => rw [q2] at pr; exact pr.elim
        | ok b s1 =>
          rw [q2] at pr
          intro b' F3 H3 st3 so3 eb
          have eb : b' = b := eb
          subst eb
          have hD3 : H3 D = some (.lst xs) := st3.keep _ _ hD2 nG
          have fD3 : F3 D = none := (st3.frz _ _ hD2).trans fD2
          have stF3 : Step G F H F3 H3 := (st.trans st2.weak).trans st3
          cases b' with
          | false =>
            refine iteF ⟨F3, s1, xs, acc, stF3, so3, fD3, hD3, ra.mono fun a o z => st3.inc st2.sub a o (st2.inc st.sub a o z), by omega, ?_⟩
            exact pr
          | true =>
            refine iteT ⟨F0, H0, F3, env1, s1, rl3.step st3 so3, ?_⟩
            change Post K mg W G F H σ RF Q (((noErr (ge env1 s1)).bind fun y s => (lcD t gc ge (List.drop (i + 1) items) (wipeE env vs) s).bind fun r s => .ok (y :: r) s).bind _) at pr
            cases q3 : ge env1 s1 with
            | err z s4 => rw [q3] at pr; exact pr.elim
            | bad => rw [q3] at pr; exact pr.elim
            | ok yd s4 =>
              rw [q3] at pr
              intro y F4 H4 st4 so4 ry
              have hD4 : H4 D = some (.lst xs) := st4.keep _ _ hD3 nG
              have fD4 : F4 D = none := (st4.frz _ _ hD3).trans fD3
              have stF4 : Step G F H F4 H4 := stF3.trans st4
              have ra4 : RpAll K F4 xs acc := ra.mono fun a o z => st4.inc st3.sub a o (st3.inc st2.sub a o (st2.inc st.sub a o z))
              refine ⟨xs, hD4, by rw [ra.length]; omega, F4, s4, xs ++ [y], acc ++ [yd], ⟨fun a o z => ?_, fun a o z n => ?_, stF4.frz, fun a z => ?_⟩, ?_, fD4, upd_same, ra4.append (.cons ry .nil), by rw [List.length_append, List.length_singleton]; omega, ?_⟩
              · rw [upd_ne (ne_of_none z fD4)]; exact stF4.sub a o z
              · rw [upd_ne (ne_of_none z hD)]; exact stF4.keep a o z n
              · by_cases w : a = D
                · subst w; exact hD
                · rw [upd_ne w] at z; exact stF4.dom a z
              · cases s4 with
                | none => exact so4
                | some q =>
                  obtain ⟨p0, cs⟩ := q
                  obtain ⟨a, b, e, ne, fa, fb, ha, hb⟩ := so4
                  subst e
                  exact ⟨a, b, rfl, ne, fa, fb, by rw [upd_ne fun z => nG (.inl z.symm)]; exact ha, by rw [upd_ne fun z => nG (.inr z.symm)]; exact hb⟩
              · have e1 : ∀ {α β γ : Type} (o : Out α) (f : α → LS → Out β) (g : β → LS → Out γ), (o.bind f).bind g = o.bind fun a s => (f a s).bind g := fun o f g => by cases o <;> rfl
                change Post K mg W G F H σ RF Q (((lcD t gc ge (List.drop (i + 1) items) (wipeE env vs) s4).bind fun r s => .ok (yd :: r) s).bind _) at pr
                rw [e1] at pr
                have e2 : ∀ r : List PyData, acc ++ [yd] ++ r = acc ++ yd :: r := fun r => by simp
                simp only [Out.bind, e2] at pr ⊢
                exact pr
  · have e : i = items.length := by omega
    subst e
    rw [List.drop_length] at pr
    refine .inl ⟨hJ.stop Fc Hc _ incF st.sub (Nat.le_refl _), pr (.ref D) Fc Hc st so ⟨D, xs, rfl, hD, hDc, fD, nG, ?_⟩⟩
    rw [List.append_nil]
    exact ra
theorem sf_lc {elt tg iter : Expr} {ifs : List Expr} {scope : Scope} {own : List (Str × Nat)} {t : Tg} {gi : Ev → LS → Out (List D)} {gc : Ev → LS → Out Bool} {ge : Ev → LS → Out D} (c : Cc X W k) (hi : SI X W G tg iter gi) (ok : BlkOk X.N X.env.scope scope own)
    (hg : ∀ (s : Shared) (H : Hp) (C : Addr) (cl : List (Str × Addr)) (fp : List Addr), PG (X.blk s H scope (compEnvC scope cl C X.env) fp) tg (TgR X.K t))
    (ht : ∀ (s : Shared) (H : Hp) (C : Addr) (cl : List (Str × Addr)) (fp : List Addr), SPT (X.blk s H scope (compEnvC scope cl C X.env) fp) W0 G ifs gc)
    (he : ∀ (s : Shared) (H : Hp) (C : Addr) (cl : List (Str × Addr)) (fp : List Addr), SE (X.blk s H scope (compEnvC scope cl C X.env) fp) W0 G elt ge)
    (hts : ∀ i ∈ t.slots, i ∈ own.map (·.2) := by decide) (hs : ∀ x, foldedSetIterable iter X.env x = pure x := by intro _; rfl) :
    SF X W G (.ListComp elt [⟨tg, iter, ifs, 0⟩] scope pos) (lcG t (own.map (·.2)) gi gc ge) := by
  refine SG.mk (pe_lc (tt := tG X.K X.mg W0 G RB gc) (te := tG X.K X.mg W0 G RD ge) c.calm c.nd hi ok hg ht he hs) fun F0 H0 F H σ env s Q rl p => ?_
  refine ⟨F0, H0, F, env, s, rl, post_bind p fun items s1 J F1 H1 st1 so1 rJ p1 => ?_⟩
  split at p1
  · rename_i hz
    exact lc_run hts (rl.step st1 so1) hz rJ p1
  · exact p1.elim
end
end DS
end

section
set_option Elab.async false
set_option linter.all false
set_option maxRecDepth 100000
set_option autoImplicit false
namespace DS
open PySem PySem.Spec L2
open PyProof.Rows hiding St
section
variable {X : Cx} {W : WX} {G : Gh} {e a b : Expr} {es : List Expr} {K : PySem.W.Frag} {F H F' H' F0 H0 : Hp} {σ : L2.St} {env env' : Ev} {s s' : LS} {v : V} {d : D} {pos : Pos} {k : Nat}
/-! ## statements -/
def evS {α : Type} (o : Out α) (env : Ev) (f : α → LS → SOut) : SOut := match o with
  | .ok a s => f a s
  | .err x s => .err x env s
  | .bad => .bad
def nopD (env : Ev) (s : LS) : SOut := .nx env s
def seqD (g1 g2 : Ev → LS → SOut) (env : Ev) (s : LS) : SOut := match g1 env s with
  | .nx e s => g2 e s
  | o => o
theorem ev_use {α β : Type} {R : RR α β} {Q : β → Hp → Prop} {mg : Str → Option Value} {D : Ends} {o : Out α} {f : α → LS → SOut} (rl : Rel K G F0 H0 F H σ env s) (p : PostS K mg W G F0 H0 F D (evS o env f))
    (q : ∀ a s' b F' H', Rel K G F0 H0 F' H' σ env s' → Step G F H F' H' → R.r K G H F' H' b a → PostS K mg W G F0 H0 F' D (f a s') → Q b H') : Post K mg W G F H σ R Q o := by
  cases o with
  | ok a s => exact fun b F' H' st so r => q a s b F' H' (rl.step st so) st r (PostS.inc (st.inc rl.sub) p)
  | err x s => exact fun cls dd F' H' st so rx => p cls dd F' H' σ (rl.step st so) (st.inc rl.sub) rx
  | bad => exact p
theorem same {F : Hp} : ∀ a o, F a = some o → F a = some o := fun _ _ z => z
theorem ss_nil : SSs X W G [] nopD := SSs.mk pss_nil fun F0 H0 F H σ env s D r p => p F H σ r same
theorem ss_cons {st : Stmt} {sts : List Stmt} {g1 g2 : Ev → LS → SOut} (h1 : SS X W G st g1) (h2 : SSs X W G sts g2) : SSs X W G (st :: sts) (seqD g1 g2) := by
  obtain ⟨t1, h1, k1⟩ := h1.use
  obtain ⟨t2, h2, k2⟩ := h2.use
  refine SSs.mk (pss_cons h1 h2) fun F0 H0 F H σ env s D r p => k1 F0 H0 F H σ env s _ r ?_
  unfold seqD at p
  cases q : g1 env s with
  | nx e s1 => rw [q] at p; exact fun F' H' σ' r' i => k2 F0 H0 F' H' σ' e s1 D r' (PostS.inc i p)
  | rt d s1 => rw [q] at p; exact p
  | bk e s1 => rw [q] at p; exact p
  | ct e s1 => rw [q] at p; exact p
  | err x e s1 => rw [q] at p; exact p
  | bad => rw [q] at p; exact p
theorem ss_one {st : Stmt} {g1 : Ev → LS → SOut} (h1 : SS X W G st g1) : SSs X W G [st] g1 := by
  obtain ⟨t1, h1, k1⟩ := h1.use
  exact SSs.mk (pss_one h1) k1
def retD (g : Ev → LS → Out D) (env : Ev) (s : LS) : SOut := evS (g env s) env fun d s => .rt d s
theorem ss_ret {g : Ev → LS → Out D} (h : SE X W G e g) : SS X W G (.Return (some e) pos) (retD g) := by
  obtain ⟨t, h, kk⟩ := h.use
  exact SS.mk (ps_ret h) fun F0 H0 F H σ env s D r p => kk F0 H0 F H σ env s _ r (ev_use r p fun d s' v F' H' rl' st rp p1 => p1 v F' H' rl'.st rl'.so rp)
def retN (_ : Ev) (s : LS) : SOut := .rt .none s
theorem ss_retN : SS X W G (.Return none pos) retN := SS.mk ps_retN fun F0 H0 F H σ env s D r p => p .non F H r.st r.so .non
theorem ss_pass : SS X W G (.Pass pos) nopD := SS.mk ps_pass fun F0 H0 F H σ env s D r p => p F H σ r same
theorem ss_doc {x j pos'} : SS X W G (.Expr (.Constant (.str x) j pos) pos') nopD := SS.mk ps_doc fun F0 H0 F H σ env s D r p => p F H σ r same
def brkD (env : Ev) (s : LS) : SOut := .bk env s
def cntD (env : Ev) (s : LS) : SOut := .ct env s
theorem ss_break : SS X W G (.Break pos) brkD := SS.mk ps_break fun F0 H0 F H σ env s D r p => p F H σ r same
theorem ss_continue : SS X W G (.Continue pos) cntD := SS.mk ps_continue fun F0 H0 F H σ env s D r p => p F H σ r same
def ifD (gc : Ev → LS → Out Bool) (ga gb : Ev → LS → SOut) (env : Ev) (s : LS) : SOut := evS (gc env s) env fun b s => if b then ga env s else gb env s
theorem ss_if {c : Expr} {as bs : List Stmt} {gc : Ev → LS → Out Bool} {ga gb : Ev → LS → SOut} (hc : SB X W G c gc) (ha : SSs X W G as ga) (hb : SSs X W G bs gb) : SS X W G (.If c as bs pos) (ifD gc ga gb) := by
  obtain ⟨tc, hc, kc⟩ := hc.use
  obtain ⟨ta, ha, ka⟩ := ha.use
  obtain ⟨tb, hb, kb⟩ := hb.use
  refine SS.mk (ps_if hc ha hb) fun F0 H0 F H σ env s D r p => kc F0 H0 F H σ env s _ r (ev_use r p fun c s' v F' H' rl' st rp p1 => ?_)
  cases rp
  cases c with
  | true => exact iteT (ka F0 H0 F' H' σ env s' D rl' p1)
  | false => exact iteF (kb F0 H0 F' H' σ env s' D rl' p1)
def exprD {α : Type} (g : Ev → LS → Out α) (env : Ev) (s : LS) : SOut := evS (g env s) env fun _ s => .nx env s
theorem ss_expr {g : Ev → LS → Out D} (h : SE X W G e g) (hs : swapsWith e none pos.line X.env = pure false := by rfl) : SS X W G (.Expr e pos) (exprD g) := by
  obtain ⟨t, h, kk⟩ := h.use
  exact SS.mk (ps_expr h hs) fun F0 H0 F H σ env s D r p => kk F0 H0 F H σ env s _ r (ev_use r p fun d s' v F' H' rl' st rp p1 => p1 F' H' σ rl' same)
/-! ### names are given values -/
theorem Rel.setV (r : Rel K G F0 H0 F H σ env s) (r' : Rel K G F0 H0 F' H' σ env s') (st : Step G F H F' H') {i : Nat} {ev : EV} (q : RV.r K G H F' H' v ev) : Rel K G F0 H0 F' H' (σ.set i (some v)) (env.set i ev) s' := by
  have some_lt : ∀ {ev : EV} {e : EV}, (env.set i ev)[i]? = some e → i < env.length := fun {ev e} h => by
    by_cases w : i < env.length
    · exact w
    · rw [List.getElem?_eq_none_iff.mpr (by rw [List.length_set]; omega)] at h; cases h
  cases ev with
  | un => exact q.elim
  | sh d => exact r'.setSh q
  | ow ds =>
    obtain ⟨p, xs, rfl, hp, hp', fp, ng, ra⟩ := q
    have h0 : H0 p = none := r.st.dom p hp
    refine ⟨r'.st, by rw [List.length_set, List.length_set]; exact r'.len, fun j e h => ?_, fun j l dj dl hne h1 h2 => ?_, r'.so⟩
    · by_cases z : i = j
      · subst z
        have hl := some_lt h
        rw [List.getElem?_set_self hl] at h
        cases h
        exact ⟨_, List.getElem?_set_self (by rw [← r.len]; exact hl), p, xs, rfl, hp', fp, h0, ng, ra⟩
      · rw [List.getElem?_set_ne z] at h
        rw [List.getElem?_set_ne z]
        exact r'.slots j e h
    · have other : ∀ {m : Nat} {dm : List D}, i ≠ m → env[m]? = some (.ow dm) → σ[m]? ≠ some (some (.ref p)) := fun {m dm} z h e => by
        obtain ⟨x, e1, p2, xs2, e2, hp2, _⟩ := r.slots m _ h
        rw [e] at e1
        cases e1
        cases e2
        rw [hp] at hp2
        cases hp2
      by_cases zj : i = j
      · subst zj
        have zl : i ≠ l := hne
        rw [List.getElem?_set_ne zl] at h2
        rw [List.getElem?_set_self (by rw [← r.len]; exact some_lt h1), List.getElem?_set_ne zl]
        exact fun e => other zl h2 e.symm
      · by_cases zl : i = l
        · subst zl
          rw [List.getElem?_set_ne zj] at h1
          rw [List.getElem?_set_self (by rw [← r.len]; exact some_lt h2), List.getElem?_set_ne zj]
          exact other zj h1
        · rw [List.getElem?_set_ne zj] at h1 ⊢
          rw [List.getElem?_set_ne zl] at h2 ⊢
          exact r.dist j l dj dl hne h1 h2
  | st =>
    obtain ⟨a, b, e, rfl⟩ := q
    refine ⟨r'.st, by rw [List.length_set, List.length_set]; exact r'.len, fun j e h => ?_, fun j l dj dl hne h1 h2 => ?_, r'.so⟩
    · by_cases z : i = j
      · subst z
        have hl := some_lt h
        rw [List.getElem?_set_self hl] at h
        cases h
        exact ⟨_, List.getElem?_set_self (by rw [← r.len]; exact hl), a, b, by assumption, rfl⟩
      · rw [List.getElem?_set_ne z] at h
        rw [List.getElem?_set_ne z]
        exact r'.slots j e h
    · have nj : i ≠ j := fun z => by
        subst z
        rw [List.getElem?_set_self (some_lt h1)] at h1; cases h1
      have nl : i ≠ l := fun z => by
        subst z
        rw [List.getElem?_set_self (some_lt h2)] at h2; cases h2
      rw [List.getElem?_set_ne nj] at h1 ⊢
      rw [List.getElem?_set_ne nl] at h2 ⊢
      exact r.dist j l dj dl hne h1 h2
def setD (i : Nat) (g : Ev → LS → Out EV) (env : Ev) (s : LS) : SOut := evS (g env s) env fun v s => .nx (env.set i v) s
theorem ss_set {i : Nat} {x : Str} {pos' : Pos} {g : Ev → LS → Out EV} (c : Cc X W k) (hi : X.N[i]? = some x) (hx : L2.Loc X.env.scope x) (he : SV X W G e g) (hs : swapsWith e (some (.Name x pos')) pos.line X.env = pure false := by rfl) (hf : X.fn x = true ∨ X.env.scope.names.lookup x = some .local := by first | exact .inl rfl | exact .inr rfl | assumption) :
    SS X W G (.Assign [.Name x pos'] e pos) (setD i g) := by
  obtain ⟨t, h, kk⟩ := he.use
  exact SS.mk (ps_set c.nd hi hx h hs hf) fun F0 H0 F H σ env s D r p => kk F0 H0 F H σ env s _ r (ev_use r p fun ev s' v F' H' rl' st rp p1 => p1 F' H' _ (r.setV rl' st rp) same)
/-- y = [..]: a local name takes a comprehension's list -/
theorem ss_setLc {i : Nat} {y : Str} {py : Pos} {elt tg iter : Expr} {ifs : List Expr} {scope : Scope} {own : List (Str × Nat)} {spos : Pos} {t : Tg} {gi : Ev → LS → Out (List D)} {gc : Ev → LS → Out Bool} {ge : Ev → LS → Out D} (c : Cc X W k) (hy : X.N[i]? = some y) (hyl : X.env.scope.names.lookup y = some .local)
    (hsw : swapsWith (.ListComp elt [⟨tg, iter, ifs, 0⟩] scope pos) (some (.Name y py)) spos.line X.env = pure true) (hi : SI X W G tg iter gi) (ok : BlkOk X.N X.env.scope scope own)
    (hg : ∀ (s : Shared) (H : Hp) (C : Addr) (cl : List (Str × Addr)) (fp : List Addr), PG (X.blk s H scope (compEnvC scope cl C X.env) fp) tg (TgR X.K t))
    (ht : ∀ (s : Shared) (H : Hp) (C : Addr) (cl : List (Str × Addr)) (fp : List Addr), SPT (X.blk s H scope (compEnvC scope cl C X.env) fp) W0 G ifs gc)
    (he : ∀ (s : Shared) (H : Hp) (C : Addr) (cl : List (Str × Addr)) (fp : List Addr), SE (X.blk s H scope (compEnvC scope cl C X.env) fp) W0 G elt ge)
    (hts : ∀ i ∈ t.slots, i ∈ own.map (·.2) := by decide) (hs : ∀ x, foldedSetIterable iter X.env x = pure x := by intro _; rfl) :
    SS X W G (.Assign [.Name y py] (.ListComp elt [⟨tg, iter, ifs, 0⟩] scope pos) spos) (setD i (asOw (lcG t (own.map (·.2)) gi gc ge))) := by
  refine SS.mk (ps_setLc (tt := tG X.K X.mg W0 G RB gc) (te := tG X.K X.mg W0 G RD ge) c.calm c.nd hy hyl hsw hi ok hg ht he hs) fun F0 H0 F H σ env s D r p => ?_
  unfold setD at p
  have p' := ev_use (R := RV) (Q := fun v H' => D.nx (σ.set i (some v)) H') r p (fun ev s' v F' H' rl' st rp p1 => p1 F' H' _ (r.setV rl' st rp) same)
  unfold asOw lcG at p'
  have e1 : ∀ {α β γ : Type} (o : Out α) (f : α → LS → Out β) (g : β → LS → Out γ), (o.bind f).bind g = o.bind fun a s => (f a s).bind g := fun o f g => by cases o <;> rfl
  rw [e1] at p'
  refine ⟨F0, H0, F, env, s, r, post_bind p' fun items s1 J F1 H1 st1 so1 rJ p1 => ?_⟩
  split at p1
  · rename_i hz
    exact lc_run hts (r.step st1 so1) hz rJ (Post.map p1 fun _ _ _ _ _ z => z)
  · exact p1.elim
/-- a, b = e1, e2 -/
def par2 (i j : Nat) (ga gb : Ev → LS → Out EV) (env : Ev) (s : LS) : SOut := evS (ga env s) env fun x s => evS (gb env s) env fun y s => .nx ((env.set i x).set j y) s
theorem RV.step (h : ∀ a o, F a = some o → H a = some o) {H1 : Hp} {ev : EV} (st : Step G F H F' H') (q : RV.r K G H1 F H v ev) : RV.r K G H1 F' H' v ev := by
  cases ev with
  | un => exact q
  | sh d => exact Rp.mono (st.inc h) q
  | ow ds =>
    obtain ⟨p, xs, rfl, hp, hp', fp, ng, ra⟩ := q
    exact ⟨p, xs, rfl, hp, st.keep _ _ hp' ng, (st.frz _ _ hp').trans fp, ng, ra.mono (st.inc h)⟩
  | st => exact q
theorem ss_par {i j : Nat} {x y : Str} {px py pt : Pos} {kt k2 : Nat} {pt2 : Pos} {ga gb : Ev → LS → Out EV} (c : Cc X W k) (hi : X.N[i]? = some x) (hj : X.N[j]? = some y) (hij : i ≠ j) (hx : X.env.scope.names.lookup x = some .local) (hy : X.env.scope.names.lookup y = some .local)
    (ha : SV X W G a ga) (hb : SV X W G b gb) (hsw : swappedStores [.Tuple [.Name x px, .Name y py] kt pt] (.Tuple [a, b] k2 pt2) X.env = pure (some [x, y])) (hs : swapsWithSole [.Tuple [.Name x px, .Name y py] kt pt] (.Tuple [a, b] k2 pt2) pos.line X.env = pure false := by rfl)
    (hs1 : starEach (a :: [b]) X.env = (false, eval a X.env) :: starEach [b] X.env := by rfl) (hs3 : starEach (b :: []) X.env = (false, eval b X.env) :: starEach [] X.env := by rfl) :
    SS X W G (.Assign [.Tuple [.Name x px, .Name y py] kt pt] (.Tuple [a, b] k2 pt2) pos) (par2 i j ga gb) := by
  obtain ⟨ta, ha, ka⟩ := ha.use
  obtain ⟨tb, hb, kb⟩ := hb.use
  refine SS.mk (ps_par c.calm c.nd hi hj hij hx hy (pa_cons ha (pa_cons hb pa_nil hs3) hs1) hsw hs) fun F0 H0 F H σ env s D r p => ka F0 H0 F H σ env s _ r (ev_use r p fun ev s1 v F1 H1 rl1 st1 rp p1 => ?_)
  refine kb F0 H0 F1 H1 σ env s1 _ rl1 (ev_use rl1 p1 fun ev2 s2 w F2 H2 rl2 st2 rq p2 => ?_)
  refine ⟨v, w, rfl, p2 F2 H2 _ ?_ same⟩
  have q1 : Rel X.K G F0 H0 F1 H1 (σ.set i (some v)) (env.set i ev) s1 := r.setV rl1 st1 rp
  exact q1.setV (q1.step st2 rl2.so) st2 rq
def par3 (i j l : Nat) (ga gb gc : Ev → LS → Out EV) (env : Ev) (s : LS) : SOut := evS (ga env s) env fun x s => evS (gb env s) env fun y s => evS (gc env s) env fun z s => .nx (((env.set i x).set j y).set l z) s
theorem ss_par3 {c' : Expr} {i j l : Nat} {x y z : Str} {px py pz pt : Pos} {kt k2 : Nat} {pt2 : Pos} {ga gb gc : Ev → LS → Out EV} (c : Cc X W k) (hi : X.N[i]? = some x) (hj : X.N[j]? = some y) (hl : X.N[l]? = some z) (hij : i ≠ j) (hil : i ≠ l) (hjl : j ≠ l) (hx : X.env.scope.names.lookup x = some .local) (hy : X.env.scope.names.lookup y = some .local) (hz : X.env.scope.names.lookup z = some .local)
    (ha : SV X W G a ga) (hb : SV X W G b gb) (hc : SV X W G c' gc) (hsw : swappedStores [.Tuple [.Name x px, .Name y py, .Name z pz] kt pt] (.Tuple [a, b, c'] k2 pt2) X.env = pure (some [x, y, z])) (hs : swapsWithSole [.Tuple [.Name x px, .Name y py, .Name z pz] kt pt] (.Tuple [a, b, c'] k2 pt2) pos.line X.env = pure false := by rfl)
    (hs1 : starEach (a :: [b, c']) X.env = (false, eval a X.env) :: starEach [b, c'] X.env := by rfl) (hs2 : starEach (b :: [c']) X.env = (false, eval b X.env) :: starEach [c'] X.env := by rfl) (hs3 : starEach (c' :: []) X.env = (false, eval c' X.env) :: starEach [] X.env := by rfl) :
    SS X W G (.Assign [.Tuple [.Name x px, .Name y py, .Name z pz] kt pt] (.Tuple [a, b, c'] k2 pt2) pos) (par3 i j l ga gb gc) := by
  obtain ⟨ta, ha, ka⟩ := ha.use
  obtain ⟨tb, hb, kb⟩ := hb.use
  obtain ⟨tc, hc, kc⟩ := hc.use
  refine SS.mk (ps_par3 c.calm c.nd hi hj hl hij hil hjl hx hy hz (pa_cons ha (pa_cons hb (pa_cons hc pa_nil hs3) hs2) hs1) hsw hs) fun F0 H0 F H σ env s D r p => ka F0 H0 F H σ env s _ r (ev_use r p fun ev s1 v F1 H1 rl1 st1 rp p1 => ?_)
  refine kb F0 H0 F1 H1 σ env s1 _ rl1 (ev_use rl1 p1 fun ev2 s2 w F2 H2 rl2 st2 rq p2 => ?_)
  refine kc F0 H0 F2 H2 σ env s2 _ rl2 (ev_use rl2 p2 fun ev3 s3 u F3 H3 rl3 st3 rr p3 => ?_)
  refine ⟨v, w, u, rfl, p3 F3 H3 _ ?_ same⟩
  have q1 : Rel X.K G F0 H0 F1 H1 (σ.set i (some v)) (env.set i ev) s1 := r.setV rl1 st1 rp
  have q2 := q1.setV (q1.step st2 rl2.so) st2 rq (i := j)
  exact q2.setV (q2.step st3 rl3.so) st3 rr
/-- a, b, .. = e (a tuple) -/
def unpD (t : Tg) (g : Ev → LS → Out D) (env : Ev) (s : LS) : SOut := evS (g env s) env fun d s => match t.asg d env with
  | some env' => .nx env' s
  | none => .bad
theorem ss_unp {tg : Expr} {t : Tg} {g : Ev → LS → Out D} (he : SE X W G e g) (hg : PG X tg (TgR X.K t)) (hs : swapsWithSole [tg] e pos.line X.env = pure false := by rfl) (hw : swappedStores [tg] e X.env = pure none := by rfl)
    (h1 : (assignEach [tg] X.env).map (·.2) = [assign tg X.env] := by rfl) : SS X W G (.Assign [tg] e pos) (unpD t g) := by
  obtain ⟨te, h, kk⟩ := he.use
  refine SS.mk (ps_asg h hg hs hw h1) fun F0 H0 F H σ env s D r p => kk F0 H0 F H σ env s _ r (ev_use r p fun d s' v F' H' rl' st rp p1 => ?_)
  split at p1
  · rename_i env' hq
    exact tg_run rl' rp hq fun σ' r' _ => p1 F' H' σ' r' same
  · exact p1.elim
/-- x += e -/
def augD (f : D → D → Option D) (i : Nat) (g : Ev → LS → Out D) (env : Ev) (s : LS) : SOut := match env[i]? with
  | some (.sh x) => evS (g env s) env fun y s => match f x y with
    | some z => .nx (env.set i (.sh z)) s
    | none => .bad
  | _ => .bad
def IpS (X : Cx) (G : Gh) (op : Operator) (g : D → D → Option D) : Prop :=
  ∃ r, PIp X op r ∧ ∀ F H x y dx dy d Q, (∀ a o, F a = some o → H a = some o) → Rp X.K F x dx → Rp X.K F y dy → g dx dy = some d → (∀ v F' H', Step none F H F' H' → Rp X.K F' v d → Q v H') → r x y H Q
def augI : D → D → Option D
  | .int i, .int j => some (.int (i + j))
  | _, _ => none
theorem ip_addI : IpS X G .Add augI := by
  refine ⟨_, ip_add, fun F H x y dx dy d Q sub hx hy e q => ?_⟩
  unfold augI at e
  split at e
  · cases e
    cases hx; cases hy
    exact ⟨_, _, rfl, rfl, stay sub q (.int _)⟩
  · cases e
theorem ip_subI : IpS X G .Sub subD := by
  refine ⟨_, ip_sub, fun F H x y dx dy d Q sub hx hy e q => ?_⟩
  unfold subD at e
  split at e
  · cases e
    cases hx; cases hy
    exact ⟨_, _, rfl, rfl, stay sub q (.int _)⟩
  · cases e
theorem ss_aug {i : Nat} {x : Str} {pos' : Pos} {op : Operator} {f : D → D → Option D} {g : Ev → LS → Out D} (c : Cc X W k) (ip : IpS X G op f) (hi : X.N[i]? = some x) (hx : L2.Loc X.env.scope x) (he : SE X W G e g) (hf : X.fn x = true ∨ X.env.scope.names.lookup x = some .local := by first | exact .inl rfl | exact .inr rfl | assumption) :
    SS X W G (.AugAssign (.Name x pos') op e pos) (augD f i g) := by
  obtain ⟨t, h, kk⟩ := he.use
  obtain ⟨ri, ip, ki⟩ := ip
  refine SS.mk (ps_aug c.nd hi hx h ip hf) fun F0 H0 F H σ env s D r p => ?_
  unfold augD at p
  split at p
  · rename_i dx hdx
    obtain ⟨x, e1, v, rfl, q⟩ := r.slots i _ hdx
    refine ⟨v, e1, kk F0 H0 F H σ env s _ r (ev_use r p fun dy s' w F' H' rl' st rp p1 => ?_)⟩
    split at p1
    · rename_i dz hz
      exact ki F' H' v w dx dy dz _ st.sub (Rp.mono (st.inc r.sub) q) rp hz fun u F2 H2 st2 ru => p1 F2 H2 _ ((rl'.step st2.weak (rl'.so.pure st2)).setSh ru) (st2.inc st.sub)
    · exact p1.elim
  · exact p.elim
/-! ### one's own lists are changed -/
theorem Rel.put (r : Rel K G F0 H0 F H σ env s) {i : Nat} {p : Addr} {xs ys : List V} {ds es : List D} (he : env[i]? = some (.ow ds)) (hσ : σ[i]? = some (some (.ref p))) (hp : H p = some (.lst xs)) (ra : RpAll K F ys es) :
    Rel K G F0 H0 F (upd H p (.lst ys)) σ (env.set i (.ow es)) s := by
  obtain ⟨x, e1, p', xs', e2, hp', fp, h0, ng, _⟩ := r.slots i _ he
  rw [hσ] at e1
  cases e1
  cases e2
  have hl : i < env.length := by
    by_cases w : i < env.length
    · exact w
    · rw [List.getElem?_eq_none_iff.mpr (by omega)] at he; cases he
  refine ⟨⟨fun a o z => ?_, fun a o z n => ?_, r.st.frz, fun a z => ?_⟩, by rw [List.length_set]; exact r.len, fun j e h => ?_, fun j l dj dl hne h1 h2 => ?_, ?_⟩
  · rw [upd_ne (ne_of_none z fp)]; exact r.st.sub a o z
  · rw [upd_ne (ne_of_none z h0)]; exact r.st.keep a o z n
  · by_cases w : a = p
    · subst w; exact h0
    · rw [upd_ne w] at z; exact r.st.dom a z
  · by_cases z : i = j
    · subst z
      rw [List.getElem?_set_self hl] at h
      cases h
      exact ⟨_, hσ, p, ys, rfl, upd_same, fp, h0, ng, ra⟩
    · rw [List.getElem?_set_ne z] at h
      obtain ⟨x, e1, q⟩ := r.slots j e h
      refine ⟨x, e1, ?_⟩
      cases e with
      | un => trivial
      | sh d => exact q
      | st => exact q
      | ow dj =>
        obtain ⟨p2, xs2, e2, hp2, r2⟩ := q
        have ne : p2 ≠ p := fun w => r.dist i j ds dj z he h (by rw [hσ, e1, e2, w])
        exact ⟨p2, xs2, e2, by rw [upd_ne ne]; exact hp2, r2⟩
  · have g : ∀ {m : Nat} {dm : List D}, (env.set i (.ow es))[m]? = some (.ow dm) → ∃ d', env[m]? = some (.ow d') := fun {m dm} h => by
      by_cases z : i = m
      · subst z; exact ⟨_, he⟩
      · rw [List.getElem?_set_ne z] at h; exact ⟨_, h⟩
    obtain ⟨d1, h1⟩ := g h1
    obtain ⟨d2, h2⟩ := g h2
    exact r.dist j l d1 d2 hne h1 h2
  · have so := r.so
    cases s with
    | none => exact so
    | some q =>
      obtain ⟨p0, cs⟩ := q
      obtain ⟨a, b, e, ne, fa, fb, ha, hb⟩ := so
      subst e
      exact ⟨a, b, rfl, ne, fa, fb, by rw [upd_ne fun z => ng (.inl z.symm)]; exact ha, by rw [upd_ne fun z => ng (.inr z.symm)]; exact hb⟩
def appD (i : Nat) (g : Ev → LS → Out D) (env : Ev) (s : LS) : SOut := match env[i]? with
  | some (.ow ds) => evS (g env s) env fun d s => if ds.length < sizeLine then .nx (env.set i (.ow (ds ++ [d]))) s else .bad
  | _ => .bad
theorem ss_app {i : Nat} {o : Expr} {apos cpos : Pos} {g : Ev → LS → Out D} (ho : PE X o (tVar i)) (he : SE X W G e g) (h1 : attributeBase o "append" X.env (eval o X.env) = eval o X.env := by rfl)
    (h2 : ((((backTo cpos (starEach (e :: []) X.env)).all fun x => !x.1) && (backToKw cpos (keywordEach [] X.env)).all fun x => x.1.isSome) && decide ((([e] : List Expr).length + ([] : List Keyword).length + if ([] : List Keyword).isEmpty = true then 0 else 1) < 30)) = true := by rfl) (h3 : (apos.endLine == cpos.line) = true := by rfl)
    (h4 : starEach (e :: []) X.env = (false, eval e X.env) :: starEach [] X.env := by rfl) (h5 : (backTo cpos (starEach [] X.env)).any (·.1) = false := by rfl) (hs : swapsWith (.Call (.Attribute o "append" apos) [e] [] cpos) none pos.line X.env = pure false := by rfl) :
    SS X W G (.Expr (.Call (.Attribute o "append" apos) [e] [] cpos) pos) (appD i g) := by
  obtain ⟨t, h, kk⟩ := he.use
  refine SS.mk (ps_expr (pe_bm PySem.F.plainAttrs_list PySem.F.slot_list_append PySem.F.type_list_append mt_append ho (pa_cons h pa_nil h4) h1 h2 h3 h4 h5) hs) fun F0 H0 F H σ env s D r p => ?_
  unfold appD at p
  split at p
  · rename_i ds hds
    obtain ⟨x, e1, pp, xs, rfl, hp, fp, h0, ng, ra⟩ := r.slots i _ hds
    refine ⟨.ref pp, e1, .inl ⟨rfl, xs, SqL.of hp⟩, kk F0 H0 F H σ env s _ r (ev_use r p fun d s' v F' H' rl' st rp p1 => ?_)⟩
    split at p1
    · rename_i hz
      have ra' := ra.mono (st.inc r.sub)
      have hp' := st.keep _ _ hp ng
      exact ⟨pp, xs, v, rfl, rfl, hp', by rw [ra.length]; exact hz, p1 F' _ σ (rl'.put hds e1 hp' (ra'.append (.cons rp .nil))) same⟩
    · exact p1.elim
  · exact p.elim
def popD (i : Nat) (env : Ev) (s : LS) : SOut := match env[i]? with
  | some (.ow ds) => if ds ≠ [] then .nx (env.set i (.ow ds.dropLast)) s else .bad
  | _ => .bad
theorem RpAll.dropLast : ∀ {vs : List V} {ds : List D}, RpAll K F vs ds → RpAll K F vs.dropLast ds.dropLast
  | _, _, .nil => .nil
  | _, _, .cons a .nil => .nil
  | _, _, .cons a (.cons b c) => .cons a (RpAll.dropLast (.cons b c))
theorem ss_pop {i : Nat} {o : Expr} {apos cpos : Pos} (hp : ∀ (h : PE X o (tVar i)), PS X (.Expr (.Call (.Attribute o "pop" apos) [] [] cpos) pos) (tDrop (tBM0 X.K "list" rPop (tVar i)))) (ho : PE X o (tVar i)) : SS X W G (.Expr (.Call (.Attribute o "pop" apos) [] [] cpos) pos) (popD i) := by
  refine SS.mk (hp ho) fun F0 H0 F H σ env s D r p => ?_
  unfold popD at p
  split at p
  · rename_i ds hds
    split at p
    · rename_i hne
      obtain ⟨x, e1, pp, xs, rfl, hp, fp, h0, ng, ra⟩ := r.slots i _ hds
      have hl : xs ≠ [] := fun z => hne (by
        subst z
        cases ra
        rfl)
      have hlast : xs[xs.length - 1]? = some (xs.getLast hl) := by
        rw [List.getLast_eq_getElem]
        exact List.getElem?_eq_getElem _
      exact ⟨.ref pp, e1, .inl ⟨rfl, xs, SqL.of hp⟩, pp, xs, _, rfl, rfl, hp, hlast, p F _ σ (r.put hds e1 hp ra.dropLast) same⟩
    · exact p.elim
  · exact p.elim
def stoD (i : Nat) (gi g : Ev → LS → Out D) (env : Ev) (s : LS) : SOut := evS (g env s) env fun d s => match env[i]? with
  | some (.ow ds) => evS (gi env s) env fun k s => match (asI k).bind (ixN ds.length) with
    | some j => .nx (env.set i (.ow (ds.set j d))) s
    | none => .bad
  | _ => .bad
theorem ss_sto {i : Nat} {o ix : Expr} {p1 : Pos} {gi g : Ev → LS → Out D} (ho : PE X o (tVar i)) (hi : SE X W G ix gi) (he : SE X W G e g)
    (ha : ∀ v, assign (.Subscript o ix p1) X.env v = (do
      let ov ← holding [v] (eval o X.env)
      let iv ← holding [v, ov] (eval ix X.env)
      standAt p1
      holding [v, ov, iv] (setItem ov iv v)
      release [v, ov, iv] []) := by intro _; rfl) (hs : swapsWithSole [.Subscript o ix p1] e pos.line X.env = pure false := by rfl) (hw : swappedStores [.Subscript o ix p1] e X.env = pure none := by rfl)
    (h1 : (assignEach [.Subscript o ix p1] X.env).map (·.2) = [assign (.Subscript o ix p1) X.env] := by rfl) : SS X W G (.Assign [.Subscript o ix p1] e pos) (stoD i gi g) := by
  obtain ⟨t, h, kk⟩ := he.use
  obtain ⟨ti, hi, ki⟩ := hi.use
  refine SS.mk (ps_asg h (pg_sub ho hi set_list ha) hs hw h1) fun F0 H0 F H σ env s D r p => kk F0 H0 F H σ env s _ r (ev_use r p fun d s' v F' H' rl' st rp p1 => ?_)
  split at p1
  · rename_i ds hds
    obtain ⟨x, e1, pp, xs, rfl, hp, fp, h0, ng, ra⟩ := rl'.slots i _ hds
    refine ⟨.ref pp, e1, ki F0 H0 F' H' σ env s' _ rl' (ev_use rl' p1 fun dk s2 w F2 H2 rl2 st2 rk p2 => ?_)⟩
    cases q : asI dk with
    | none => rw [q] at p2; exact p2.elim
    | some kk =>
      cases asI_some q
      cases rk
      rw [q] at p2
      change PostS _ _ _ _ _ _ _ _ (match ixN ds.length kk with | some j => _ | none => _) at p2
      cases q2 : ixN ds.length kk with
      | none => rw [q2] at p2; exact p2.elim
      | some j =>
        rw [q2] at p2
        have hp2 := st2.keep _ _ hp ng
        exact ⟨pp, xs, kk, j, rfl, rfl, hp2, by rw [ra.length]; exact q2, p2 F2 _ σ (rl2.put hds e1 hp2 ((ra.mono (st2.inc st.sub)).set (Rp.mono (st2.inc st.sub) rp) j)) same⟩
  · exact p1.elim
/-- from here on the list in the slot is shared -/
def frz (i : Nat) (env : Ev) : Ev := match env[i]? with
  | some (.ow ds) => env.set i (.sh (.list ds))
  | _ => env
theorem Rel.freeze (r : Rel K G F0 H0 F H σ env s) (i : Nat) : ∃ F', Rel K G F0 H0 F' H σ (frz i env) s ∧ ∀ a o, F a = some o → F' a = some o := by
  unfold frz
  split
  · rename_i ds hds
    obtain ⟨x, e1, pp, xs, rfl, hp, fp, h0, ng, ra⟩ := r.slots i _ hds
    have hl : i < env.length := by
      by_cases w : i < env.length
      · exact w
      · rw [List.getElem?_eq_none_iff.mpr (by omega)] at hds; cases hds
    have inc : ∀ a o, F a = some o → upd F pp (.lst xs) a = some o := fun a o z => by rw [upd_ne (ne_of_none z fp)]; exact z
    refine ⟨upd F pp (.lst xs), ⟨⟨fun a o z => ?_, r.st.keep, fun a o z => ?_, r.st.dom⟩, by rw [List.length_set]; exact r.len, fun j e h => ?_, fun j l dj dl hne h1 h2 => ?_, r.so.frozen ng⟩, inc⟩
    · by_cases w : a = pp
      · subst w; rw [upd_same] at z; rw [hp, ← z]
      · rw [upd_ne w] at z; exact r.st.sub a o z
    · rw [upd_ne (ne_of_none z h0)]; exact r.st.frz a o z
    · by_cases z : i = j
      · subst z
        rw [List.getElem?_set_self hl] at h
        cases h
        exact ⟨_, e1, .ref pp, rfl, .lst upd_same (ra.mono inc)⟩
      · rw [List.getElem?_set_ne z] at h
        obtain ⟨x, e2, q⟩ := r.slots j e h
        refine ⟨x, e2, ?_⟩
        cases e with
        | un => trivial
        | sh d => obtain ⟨v, e3, q⟩ := q; exact ⟨v, e3, q.mono inc⟩
        | st => exact q
        | ow dj =>
          obtain ⟨p2, xs2, e3, hp2, fp2, r2⟩ := q
          have ne : p2 ≠ pp := fun w => r.dist i j ds dj z hds h (by rw [e1, e2, e3, w])
          exact ⟨p2, xs2, e3, hp2, by rw [upd_ne ne]; exact fp2, r2.1, r2.2.1, r2.2.2.mono inc⟩
    · have nj : i ≠ j := fun z => by
        subst z
        rw [List.getElem?_set_self hl] at h1; cases h1
      have nl : i ≠ l := fun z => by
        subst z
        rw [List.getElem?_set_self hl] at h2; cases h2
      rw [List.getElem?_set_ne nj] at h1
      rw [List.getElem?_set_ne nl] at h2
      exact r.dist j l dj dl hne h1 h2
  · exact ⟨F, r, fun _ _ z => z⟩
def frzD (i : Nat) (g : Ev → LS → SOut) (env : Ev) (s : LS) : SOut := g (frz i env) s
theorem ss_frz {sts : List Stmt} {g : Ev → LS → SOut} (i : Nat) (h : SSs X W G sts g) : SSs X W G sts (frzD i g) := by
  obtain ⟨t, h, kk⟩ := h.use
  refine SSs.mk h fun F0 H0 F H σ env s D r p => ?_
  obtain ⟨F', r', inc⟩ := r.freeze i
  exact kk F0 H0 F' H σ _ s D r' (PostS.inc inc p)
/-! ### loops -/
def forD (t : Tg) (gb : Ev → LS → SOut) : List D → Ev → LS → SOut
  | [], env, s => .nx env s
  | d :: ds, env, s => match t.asg d env with
    | none => .bad
    | some env1 => match gb env1 s with
      | .nx e s => forD t gb ds e s
      | .ct e s => forD t gb ds e s
      | .bk e s => .nx e s
      | o => o
def forG (t : Tg) (gi : Ev → LS → Out (List D)) (gb : Ev → LS → SOut) (env : Ev) (s : LS) : SOut := evS (gi env s) env fun items s => forD t gb items env s
theorem ss_for {tg iter : Expr} {body : List Stmt} {t : Tg} {gi : Ev → LS → Out (List D)} {gb : Ev → LS → SOut} (c : Cc X W k) (hi : SI X W G tg iter gi) (hg : PG X tg (TgR X.K t)) (hb : SSs X W G body gb) (hs : ∀ x, foldedSetIterable iter X.env x = pure x := by intro _; rfl) :
    SS X W G (.For tg iter body [] pos) (forG t gi gb) := by
  obtain ⟨tb, hb, kb⟩ := hb.use
  refine SS.mk (ps_for c.po c.calm hi hg hb hs) fun F0 H0 F H σ env s D r p => ⟨F0, H0, F, env, s, r, ev_use r p fun items s1 J F1 H1 rl1 st1 rJ p1 => ?_⟩
  refine ⟨fun i m σ' Hc => m = items.length - i ∧ i ≤ items.length ∧ ∃ Fc ec sc, Rel X.K G F0 H0 Fc Hc σ' ec sc ∧ (∀ a o, F1 a = some o → Fc a = some o) ∧ PostS X.K X.mg W G F0 H0 F1 D (forD t gb (items.drop i) ec sc), ⟨items.length, by omega, by omega, F1, env, s1, rl1, fun _ _ z => z, by rw [List.drop_zero]; exact p1⟩, ?_⟩
  rintro i m σ' Hc ⟨rfl, hi, Fc, ec, sc, rc, inc, pc⟩
  by_cases hlt : i < items.length
  · refine .inr ⟨rJ.go Fc Hc i inc rc.sub hlt, fun σ2 H2 => ∃ F2 e2 s2, Rel X.K G F0 H0 F2 H2 σ2 e2 s2 ∧ (∀ a o, F1 a = some o → F2 a = some o) ∧ PostS X.K X.mg W G F0 H0 F1 D (forD t gb (items.drop (i + 1)) e2 s2), fun σ2 H2 q => ⟨_, by omega, rfl, hlt, q⟩, fun x H' y => ?_⟩
    obtain ⟨F2, st2, rx⟩ := rJ.yld Fc Hc i _ x H' inc rc.sub (List.getElem?_eq_getElem hlt) y
    rw [List.drop_eq_getElem_cons hlt] at pc
    have rc2 := rc.step st2.weak (rc.so.pure st2)
    have inc2 : ∀ a o, F1 a = some o → F2 a = some o := fun a o z => st2.inc rc.sub a o (inc a o z)
    unfold forD at pc
    cases q1 : t.asg items[i] ec with
    | none => rw [q1] at pc; exact pc.elim
    | some e1 =>
      rw [q1] at pc
      refine tg_run rc2 rx q1 fun σ3 rc3 _ => kb F0 H0 F2 H' σ3 e1 sc _ rc3 ?_
      cases q2 : gb e1 sc with
      | nx e s => simp only [q2] at pc; exact fun F3 H3 σ4 r4 i4 => ⟨F3, e, s, r4, fun a o z => i4 a o (inc2 a o z), pc⟩
      | ct e s => simp only [q2] at pc; exact fun F3 H3 σ4 r4 i4 => ⟨F3, e, s, r4, fun a o z => i4 a o (inc2 a o z), pc⟩
      | bk e s => simp only [q2] at pc; exact fun F3 H3 σ4 r4 i4 => pc F3 H3 σ4 r4 fun a o z => i4 a o (inc2 a o z)
      | rt d s => simp only [q2] at pc; exact pc
      | err x e s => simp only [q2] at pc; exact fun c d F3 H3 σ4 r4 i4 => pc c d F3 H3 σ4 r4 fun a o z => i4 a o (inc2 a o z)
      | bad => simp only [q2] at pc; exact pc
  · have e : i = items.length := by omega
    subst e
    rw [List.drop_length] at pc
    exact .inl ⟨rJ.stop Fc Hc _ inc rc.sub (Nat.le_refl _), pc Fc Hc σ' rc inc⟩
def whileD (gc : Ev → LS → Out Bool) (gb : Ev → LS → SOut) : Nat → Ev → LS → SOut
  | 0, _, _ => .bad
  | n + 1, env, s => evS (gc env s) env fun b s => if b then match gb env s with
      | .nx e s => whileD gc gb n e s
      | .ct e s => whileD gc gb n e s
      | .bk e s => .nx e s
      | o => o
    else .nx env s
/-- a while, by a number of turns that is enough -/
def whileG (fuel : Ev → LS → Nat) (gc : Ev → LS → Out Bool) (gb : Ev → LS → SOut) (env : Ev) (s : LS) : SOut := whileD gc gb (fuel env s) env s
theorem ss_while {c' : Expr} {body : List Stmt} {gc : Ev → LS → Out Bool} {gb : Ev → LS → SOut} (fuel : Ev → LS → Nat) (c : Cc X W k) (hc : SB X W G c' gc) (hb : SSs X W G body gb) : SS X W G (.While c' body [] pos) (whileG fuel gc gb) := by
  obtain ⟨tc, hc, kc⟩ := hc.use
  obtain ⟨tb, hb, kb⟩ := hb.use
  refine SS.mk (ps_while c.po hc hb) fun F0 H0 F H σ env s D r p => ?_
  refine ⟨fun m σ' Hc => ∃ Fc ec sc, Rel X.K G F0 H0 Fc Hc σ' ec sc ∧ PostS X.K X.mg W G F0 H0 Fc D (whileD gc gb m ec sc), ⟨fuel env s, F, env, s, r, p⟩, ?_⟩
  rintro m σ' Hc ⟨Fc, ec, sc, rc, pc⟩
  cases m with
  | zero => exact pc.elim
  | succ n =>
    unfold whileD at pc
    refine kc F0 H0 Fc Hc σ' ec sc _ rc (ev_use rc pc fun b s1 v F1 H1 rl1 st1 rb p1 => ?_)
    cases rb
    cases b with
    | false => exact iteF (p1 F1 H1 σ' rl1 same)
    | true =>
      refine iteT ⟨fun σ2 H2 => ∃ F2 e2 s2, Rel X.K G F0 H0 F2 H2 σ2 e2 s2 ∧ PostS X.K X.mg W G F0 H0 F2 D (whileD gc gb n e2 s2), fun σ2 H2 q => ⟨n, by omega, q⟩, ?_⟩
      refine kb F0 H0 F1 H1 σ' ec s1 _ rl1 ?_
      have pc' : PostS X.K X.mg W G F0 H0 F1 D (match gb ec s1 with
        | .nx e s => whileD gc gb n e s
        | .ct e s => whileD gc gb n e s
        | .bk e s => .nx e s
        | o => o) := p1
      cases q2 : gb ec s1 with
      | nx e s => simp only [q2] at pc'; exact fun F3 H3 σ4 r4 i4 => ⟨F3, e, s, r4, PostS.inc i4 pc'⟩
      | ct e s => simp only [q2] at pc'; exact fun F3 H3 σ4 r4 i4 => ⟨F3, e, s, r4, PostS.inc i4 pc'⟩
      | bk e s => simp only [q2] at pc'; exact pc'
      | rt d s => simp only [q2] at pc'; exact pc'
      | err x e s => simp only [q2] at pc'; exact pc'
      | bad => simp only [q2] at pc'; exact pc'
end
end DS
end

section
set_option Elab.async false
set_option linter.all false
set_option maxRecDepth 100000
set_option autoImplicit false
namespace DS
open PySem PySem.Spec L2
open PyProof.Rows hiding St
/-! ## defs -/
def EV.solid : EV → Bool
  | .sh _ => true
  | .st => true
  | _ => false
/-- what the caller wishes of an exception -/
abbrev WE' (E : XK) : WX := fun c d _ H => E c d H
def spF (K : PySem.W.Frag) (mg : Str → Option Value) (n : Nat) (m : List EV → LS → Out D) : Sp := fun vs H Q E => vs.length = n ∧ ∃ (G : Gh) (F : Hp) (args : List EV) (s : LS),
  (∀ a o, F a = some o → H a = some o) ∧ StOk G F H s ∧ AVs K G F H vs args ∧ args.all EV.solid = true ∧ Post K mg (WE' E) G F H [] RD Q (m args s)
/-- a def: where it stands, what it computes -/
structure FOk (P : Program) (w : World) (K : PySem.W.Frag) (mg : Str → Option Value) (base : Heap) (k : Nat) (name : Str) (ps : List Str) (m : List EV → LS → Out D) : Prop where
  ex : ∃ (f : Addr) (fd : FuncData), mg name = some (.ref f) ∧ PySem.W.keepIn K (.ref f) = true ∧ Binds K fd ps [] ∧ FnOk P w K mg base (L2.CX P w) k f fd ps (spF K mg ps.length m)
theorem FOk.mono {P : Program} {w : World} {K : PySem.W.Frag} {mg : Str → Option Value} {base : Heap} {j k : Nat} {name : Str} {ps : List Str} {m : List EV → LS → Out D} (h : FOk P w K mg base j name ps m) (hj : j ≤ k) : FOk P w K mg base k name ps m := by
  obtain ⟨f, fd, a, b, c, d⟩ := h.ex
  exact ⟨f, fd, a, b, c, d.mono hj⟩
def run (n : Nat) (g : Ev → LS → SOut) (args : List EV) (s : LS) : Out D := match g (args ++ List.replicate (n - args.length) .un) s with
  | .nx _ s => .ok .none s
  | .rt d s => .ok d s
  | .err x _ s => .err x s
  | _ => .bad
section
variable {X : Cx} {W : WX} {G : Gh} {e a b : Expr} {es : List Expr} {K : PySem.W.Frag} {F H F' H' F0 H0 : Hp} {σ : L2.St} {env env' : Ev} {s s' : LS} {v : V} {d : D} {pos : Pos} {k j : Nat} {mg : Str → Option Value}
theorem AVs.length : ∀ {vs : List V} {es : List EV}, AVs K G F H vs es → vs.length = es.length
  | [], [], _ => rfl
  | _ :: _, _ :: _, h => by rw [List.length_cons, List.length_cons, AVs.length h.2]
  | [], _ :: _, h => h.elim
  | _ :: _, [], h => h.elim
theorem AVs.get : ∀ {vs : List V} {es : List EV} {i : Nat} {e : EV}, AVs K G F H vs es → es[i]? = some e → ∃ v, vs[i]? = some v ∧ AV K G F H v e
  | v :: _, _ :: _, 0, e, h, q => by
    have q' := Option.some.inj q
    subst q'
    exact ⟨v, rfl, h.1⟩
  | _ :: _, _ :: _, i + 1, e, h, q => AVs.get (i := i) h.2 q
  | [], [], _, _, _, q => by simp at q
  | [], _ :: _, _, _, h, _ => h.elim
  | _ :: _, [], _, _, h, _ => h.elim
theorem Post.slots {α β : Type} {R : RR α β} {Q : β → Hp → Prop} {E : XK} {o : Out α} {σ' : L2.St} (h : Post K mg (WE' E) G F H σ R Q o) : Post K mg (WE' E) G F H σ' R Q o := by
  cases o with
  | ok a s => exact h
  | err x s => exact h
  | bad => exact h
/-- the start of a def's body -/
theorem Rel.start {N : List Str} {vs : List V} {args : List EV} (sub : ∀ a o, F a = some o → H a = some o) (so : StOk G F H s) (av : AVs K G F H vs args) (hs : args.all EV.solid = true) :
    Rel K G F H F H (L2.start N vs) (args ++ List.replicate (N.length - args.length) .un) s := by
  have hl := av.length
  refine ⟨Step.refl sub, ?_, fun i e h => ?_, fun i j di dj hne h1 h2 => ?_, so⟩
  · unfold L2.start
    rw [List.length_append, List.length_append, List.length_map, List.length_replicate, List.length_replicate, hl]
  · unfold L2.start
    by_cases z : i < args.length
    · rw [List.getElem?_append_left z] at h
      obtain ⟨v, e1, q⟩ := av.get h
      refine ⟨some v, ?_, ?_⟩
      · rw [List.getElem?_append_left (by rw [List.length_map, hl]; exact z), List.getElem?_map, e1]
        rfl
      · have hsol : e.solid = true := List.all_eq_true.mp hs e (List.mem_of_getElem? h)
        cases e with
        | un => cases hsol
        | sh d => exact ⟨v, rfl, q⟩
        | ow d => cases hsol
        | st => obtain ⟨a, b, e2, rfl⟩ := q; exact ⟨a, b, e2, rfl⟩
    · rw [List.getElem?_append_right (by omega)] at h
      have he : e = .un := by
        have := List.mem_of_getElem? h
        exact List.eq_of_mem_replicate this
      subst he
      have hlt : i - args.length < N.length - args.length := by
        by_cases w : i - args.length < N.length - args.length
        · exact w
        · rw [List.getElem?_eq_none_iff.mpr (by rw [List.length_replicate]; omega)] at h; cases h
      refine ⟨none, ?_, trivial⟩
      rw [List.getElem?_append_right (by rw [List.length_map, hl]; omega), List.length_map, hl]
      rw [List.getElem?_replicate]
      simp [hlt]
  · exfalso
    by_cases z : i < args.length
    · rw [List.getElem?_append_left z] at h1
      have := List.all_eq_true.mp hs _ (List.mem_of_getElem? h1)
      cases this
    · rw [List.getElem?_append_right (by omega)] at h1
      have := List.eq_of_mem_replicate (List.mem_of_getElem? h1)
      cases this
theorem post_run {N : Nat} {g : Ev → LS → SOut} {args : List EV} {E : XK} {Q : VK} (p : Post K mg (WE' E) G F H [] RD Q (run N g args s)) :
    PostS K mg (WE' E) G F H F { nx := fun _ H' => Q .non H', rt := Q } (g (args ++ List.replicate (N - args.length) .un) s) := by
  unfold run at p
  cases q : g (args ++ List.replicate (N - args.length) .un) s with
  | nx e s1 => rw [q] at p; exact fun F' H' σ' r _ => p .non F' H' r.st r.so .non
  | rt d s1 => rw [q] at p; exact fun v F' H' st so rp => p v F' H' st so rp
  | bk e s1 => rw [q] at p; exact p.elim
  | ct e s1 => rw [q] at p; exact p.elim
  | err x e s1 => rw [q] at p; exact fun c d F' H' σ' r _ rx => p c d F' H' r.st r.so rx
  | bad => rw [q] at p; exact p.elim
/-- where a def stands -/
structure DefAt (K : PySem.W.Frag) (mg : Str → Option Value) (x : Str) (st : Stmt) : Prop where
  ex : ∃ (f : Addr) (fd : FuncData), mg x = some (.ref f) ∧ FunD K x x (defArgs st) (defBody st) (defScope st) [] [] f fd
abbrev BindsH (x : Str) (st : Stmt) (ps : List Str) : Prop :=
  ∀ (kV doc pm : Value) (an : Option Addr) (cdv ct : Value) (us : List Value), us.length = ps.length → bindArgs (PySem.W.fnOf x x (defArgs st) (defBody st) (defScope st) .none kV doc pm an cdv ct) ⟨us, []⟩ = pure (ps.zip us)
theorem bindsH {x : Str} {st : Stmt} {ps : List Str} {f : Addr} {fd : FuncData} (F : FunD K x x (defArgs st) (defBody st) (defScope st) [] [] f fd) (h : BindsH x st ps) : Binds K fd ps [] := F.bindsN h
theorem fn_ok {P : Program} {w : World} {K : PySem.W.Frag} {mg : Str → Option Value} {base : Heap} {x : Str} {st : Stmt} {N ps : List Str} {g : Ev → LS → SOut} {k : Nat} (D : DefAt K mg x st) (S : FnScope N ps (defScope st)) (hb : BindsH x st ps)
    (hbody : ∀ (f : Addr) (cdv : Value) (A : Around) (outer : List Env) (s : Shared) (H : Hp) (E : XK) (G : Gh), Cc (cxOf (L2.CX P w) P w K mg base N x (defScope st) f cdv A outer s H E) (WE' E) k →
      SSs (cxOf (L2.CX P w) P w K mg base N x (defScope st) f cdv A outer s H E) (WE' E) G (defBody st) g) : FOk P w K mg base (k + 1) x ps (run N.length g) := by
  obtain ⟨f, fd, hm, F⟩ := D.ex
  refine ⟨f, fd, hm, F.kp, bindsH F hb, F.ok S (fun vs H Q E h => h.1) fun cdv A outer s H vs Q E hr h => ?_⟩
  obtain ⟨hl, G, Fz, args, ls, sub, so, av, hs, p⟩ := h
  have tk : Takes (cxOf (L2.CX P w) P w K mg base N x (defScope st) f cdv A outer s H E) (WE' E) := takes_of rfl rfl rfl rfl
  have cc : Cc (cxOf (L2.CX P w) P w K mg base N x (defScope st) f cdv A outer s H E) (WE' E) k := ⟨tk, hr, rfl, S.nd, passes_of rfl⟩
  exact ⟨_, hbody f cdv A outer s H E G cc, Fz, H, Fz, _, ls, Rel.start sub so av hs, post_run p⟩
/-! ### calls -/
/-- rows of a written length -/
def Lng {α : Type} (n : Nat) (g : Ev → LS → Out (List α)) : Prop := ∀ env s r s', g env s = .ok r s' → r.length = n
theorem lng_nil {α : Type} : Lng (α := α) 0 nilG := fun env s r s' h => by cases h; rfl
theorem lng_cons {α : Type} {n : Nat} {ga : Ev → LS → Out α} {gr : Ev → LS → Out (List α)} (h : Lng n gr) : Lng (n + 1) (consG ga gr) := fun env s r s' q => by
  unfold consG at q
  cases q1 : ga env s with
  | ok a s1 =>
    rw [q1] at q
    change (gr env s1).bind _ = _ at q
    cases q2 : gr env s1 with
    | ok b s2 =>
      rw [q2] at q
      cases q
      rw [List.length_cons, h env s1 b _ q2]
    | err _ _ => rw [q2] at q; cases q
    | bad => rw [q2] at q; cases q
  | err _ _ => rw [q1] at q; cases q
  | bad => rw [q1] at q; cases q
def callG (m : List EV → LS → Out D) (gas : Ev → LS → Out (List EV)) (env : Ev) (s : LS) : Out D := (gas env s).bind fun args s => if args.all EV.solid = true then m args s else .bad
theorem se_call {x : Str} {ps : List Str} {m : List EV → LS → Out D} {p pos : Pos} {gas : Ev → LS → Out (List EV)} (c : Cc X W k) (Fk : FOk X.prog X.w X.K X.mg X.base j x ps m) (hj : j ≤ k) (hg : Gl X x) (ha : SAs X W G (e :: es) gas)
    (hdb : (x == ("__debug__" : Str)) = false := by decide) (he : starEach (e :: es) X.env = (false, eval e X.env) :: starEach es X.env := by rfl) (hpl : (backTo pos (starEach es X.env)).any (·.1) = false := by rfl)
    (hal : Lng ps.length gas := by repeat (first | exact lng_nil | apply lng_cons)) :
    SE X W G (.Call (.Name x p) (e :: es) [] pos) (callG m gas) := by
  obtain ⟨f, fd, hm, hk, hb, Fn⟩ := Fk.ex
  obtain ⟨t, h1, h2⟩ := ha.use
  refine SG.mk (pe_callSD (E := fun σ => WE W σ) Fn (c.room.mono hj) hg hm hk hb .nil (fun σ => passAt c.tk σ) h1 hdb he hpl) fun F0 H0 F H σ env s Q rl p => ?_
  have hlen' := hal env s
  unfold callG at p
  cases q : gas env s with
  | err x s1 => rw [q] at p; exact h2 F0 H0 F H σ env s _ rl (by rw [q]; exact p)
  | bad => rw [q] at p; exact p.elim
  | ok args s1 =>
    have hl := hlen' args s1 q
    refine h2 F0 H0 F H σ env s _ rl ?_
    rw [q] at p ⊢
    intro vs F1 H1 st1 so1 rv
    change Post _ _ _ _ _ _ _ _ _ (if args.all EV.solid = true then m args s1 else .bad) at p
    split at p
    · rename_i hs
      rw [List.append_nil]
      refine ⟨by rw [AVs.length rv]; exact hl, G, F1, args, s1, st1.sub, so1, rv, hs, ?_⟩
      have p1 := Post.step p st1
      cases q3 : m args s1 with
      | ok d s2 => rw [q3] at p1; exact p1
      | err x s2 => rw [q3] at p1; exact p1
      | bad => rw [q3] at p1; exact p1
    · exact p.elim
/-! ### lists that are lent -/
mutual
def flat : D → Bool
  | .list _ => false
  | .dict _ => false
  | .tuple ds => flats ds
  | _ => true
def flats : List D → Bool
  | [] => true
  | d :: ds => flat d && flats ds
end
mutual
theorem Rp.flat_in {F F' H : Hp} (hf : ∀ a xs, F a = some (.tup xs) → F' a = some (.tup xs)) (hz : ∀ a o xs, F a = some (.frz o (.tup xs)) → F' a = some (.frz o (.tup xs))) : ∀ {v : V} {d : D}, Rp K F v d → flat d = true → Rp K F' v d
  | _, _, .non, _ => .non
  | _, _, .bl b, _ => .bl b
  | _, _, .int i, _ => .int i
  | _, _, .str x, _ => .str x
  | _, _, .lst _ _, h => by simp [flat] at h
  | _, _, .tup a b, h => .tup (by
      rcases a with (z | ⟨o, z⟩) | z
      · exact .inl (.inl (hf _ _ z))
      · exact .inl (.inr ⟨o, hz _ _ _ z⟩)
      · exact .inr z) (RpAll.flat_in (H := H) hf hz b (by simpa [flat] using h))
theorem RpAll.flat_in {F F' H : Hp} (hf : ∀ a xs, F a = some (.tup xs) → F' a = some (.tup xs)) (hz : ∀ a o xs, F a = some (.frz o (.tup xs)) → F' a = some (.frz o (.tup xs))) : ∀ {vs : List V} {ds : List D}, RpAll K F vs ds → flats ds = true → RpAll K F' vs ds
  | _, _, .nil, _ => .nil
  | _, d :: ds, .cons a b, h => by
    have h' : flat d = true ∧ flats ds = true := by simpa [flats] using h
    exact .cons (Rp.flat_in (H := H) hf hz a h'.1) (RpAll.flat_in (H := H) hf hz b h'.2)
end
def EV.lent : EV → EV
  | .ow ds => .sh (.list ds)
  | e => e
def flatOut : Out D → Out D
  | .ok d s => if flat d = true then .ok d s else .bad
  | .err x s => if x.fs.all (fun p => flat p.2) = true then .err x s else .bad
  | .bad => .bad
def callL (m : List EV → LS → Out D) (gas : Ev → LS → Out (List EV)) (env : Ev) (s : LS) : Out D := (gas env s).bind fun args s => if (args.map EV.lent).all EV.solid = true then flatOut (m (args.map EV.lent) s) else .bad
/-- what is lent, added to what stands still -/
theorem lend : ∀ {vs : List V} {es : List EV} {F : Hp}, (∀ a o, F a = some o → H a = some o) → StOk G F H s → AVs K G F H vs es → ∃ Fl, (∀ a o, F a = some o → Fl a = some o) ∧ (∀ a o, Fl a = some o → H a = some o) ∧ StOk G Fl H s ∧ (∀ a, (∃ xs, Fl a = some (.lst xs)) ∨ Fl a = F a) ∧ AVs K G Fl H vs (es.map EV.lent)
  | [], [], F, sub, so, _ => ⟨F, fun _ _ z => z, sub, so, fun _ => .inr rfl, trivial⟩
  | [], _ :: _, _, _, _, h => h.elim
  | _ :: _, [], _, _, _, h => h.elim
  | v :: vs, e :: es, F, sub, so, h => by
    obtain ⟨Fl, i1, i2, so1, alt, r⟩ := lend sub so h.2
    cases e with
    | un => exact h.1.elim
    | sh d => exact ⟨Fl, i1, i2, so1, alt, Rp.mono i1 h.1, r⟩
    | st => exact ⟨Fl, i1, i2, so1, alt, h.1, r⟩
    | ow ds =>
      obtain ⟨p, xs, rfl, hp, fp, ng, ra⟩ := h.1
      have mono : ∀ a o, Fl a = some o → upd Fl p (.lst xs) a = some o := fun a o z => by
        by_cases w : a = p
        · subst w
          have := i2 _ _ z
          rw [hp] at this
          cases this
          exact upd_same
        · rw [upd_ne w]; exact z
      have avm : ∀ {vs : List V} {es : List EV}, AVs K G Fl H vs (es.map EV.lent) → AVs K G (upd Fl p (.lst xs)) H vs (es.map EV.lent) := by
        intro vs es
        induction es generalizing vs with
        | nil => intro h; cases vs with
          | nil => trivial
          | cons _ _ => exact h.elim
        | cons e es ih =>
          intro h
          cases vs with
          | nil => exact h.elim
          | cons v vs =>
            refine ⟨?_, ih h.2⟩
            cases e with
            | un => exact h.1
            | sh d => exact Rp.mono mono h.1
            | ow d => exact Rp.mono mono h.1
            | st => exact h.1
      refine ⟨upd Fl p (.lst xs), fun a o z => mono a o (i1 a o z), fun a o z => ?_, so1.frozen ng, fun a => ?_, .lst upd_same (ra.mono fun a o z => mono a o (i1 a o z)), avm r⟩
      · by_cases w : a = p
        · subst w; rw [upd_same] at z; rw [hp, ← z]
        · rw [upd_ne w] at z; exact i2 a o z
      · by_cases w : a = p
        · subst w; exact .inl ⟨xs, upd_same⟩
        · rw [upd_ne w]; exact alt a
theorem StOk.back {F1 H1 : Hp} {s1 s2 : LS} (so1 : StOk G F1 H1 s1) (so : StOk G F' H' s2) : StOk G (fun a => if H1 a = none then F' a else F1 a) H' s2 := by
  cases s2 with
  | none => exact so
  | some q =>
    obtain ⟨p0, cs⟩ := q
    obtain ⟨a, b, e, ne, fa, fb, ha, hb⟩ := so
    subst e
    have inG : ∀ x, Gh.has (some (a, b)) x → F1 x = none := fun x hx => by
      cases s1 with
      | none => exact nomatch (show (some (a, b) : Gh) = none from so1)
      | some q =>
        obtain ⟨p1, cs1⟩ := q
        obtain ⟨a', b', e', _, fa', fb', _⟩ := so1
        cases e'
        rcases hx with rfl | rfl
        · exact fa'
        · exact fb'
    refine ⟨a, b, rfl, ne, ?_, ?_, ha, hb⟩
    · show (if H1 a = none then F' a else F1 a) = none
      split
      · exact fa
      · exact inG a (.inl rfl)
    · show (if H1 b = none then F' b else F1 b) = none
      split
      · exact fb
      · exact inG b (.inr rfl)
theorem se_callL {x : Str} {ps : List Str} {m : List EV → LS → Out D} {p pos : Pos} {gas : Ev → LS → Out (List EV)} (c : Cc X W k) (Fk : FOk X.prog X.w X.K X.mg X.base j x ps m) (hj : j ≤ k) (hg : Gl X x) (ha : SAs X W G (e :: es) gas)
    (hdb : (x == ("__debug__" : Str)) = false := by decide) (he : starEach (e :: es) X.env = (false, eval e X.env) :: starEach es X.env := by rfl) (hpl : (backTo pos (starEach es X.env)).any (·.1) = false := by rfl)
    (hal : Lng ps.length gas := by repeat (first | exact lng_nil | apply lng_cons)) :
    SE X W G (.Call (.Name x p) (e :: es) [] pos) (callL m gas) := by
  obtain ⟨f, fd, hm, hk, hb, Fn⟩ := Fk.ex
  obtain ⟨t, h1, h2⟩ := ha.use
  refine SG.mk (pe_callSD (E := fun σ => WE W σ) Fn (c.room.mono hj) hg hm hk hb .nil (fun σ => passAt c.tk σ) h1 hdb he hpl) fun F0 H0 F H σ env s Q rl p => ?_
  have hlen' := hal env s
  unfold callL at p
  cases q : gas env s with
  | err x s1 => rw [q] at p; exact h2 F0 H0 F H σ env s _ rl (by rw [q]; exact p)
  | bad => rw [q] at p; exact p.elim
  | ok args s1 =>
    have hl := hlen' args s1 q
    refine h2 F0 H0 F H σ env s _ rl ?_
    rw [q] at p ⊢
    intro vs F1 H1 st1 so1 rv
    change Post _ _ _ _ _ _ _ _ _ (if (args.map EV.lent).all EV.solid = true then flatOut (m (args.map EV.lent) s1) else .bad) at p
    split at p
    · rename_i hs
      rw [List.append_nil]
      obtain ⟨Fl, i1, i2, sol, alt, rl2⟩ := lend st1.sub so1 rv
      refine ⟨by rw [AVs.length rv]; exact hl, G, Fl, args.map EV.lent, s1, i2, sol, rl2, hs, ?_⟩
      -- back: what is new stands still, what was lent is one's own again
      have p1 := Post.step p st1
      have back : ∀ {F' H'}, Step G Fl H1 F' H' → StOk G F' H' s1 ∨ True → Step G F1 H1 (fun a => if H1 a = none then F' a else F1 a) H' := fun {F' H'} st _ => ⟨fun a o z => by
        split at z
        · exact st.sub a o z
        · rename_i hn
          exact st.sub a o (by
            obtain ⟨o1, e1⟩ : ∃ o1, H1 a = some o1 := by
              cases w : H1 a with
              | none => exact absurd w hn
              | some o1 => exact ⟨o1, rfl⟩
            rw [st.frz a o1 e1]
            exact i1 a o z), st.keep, fun a o z => by
        rw [if_neg (by rw [z]; exact fun w => nomatch w)], st.dom⟩
      have tupIn : ∀ {F' H'}, Step G Fl H1 F' H' → (∀ a xs, F' a = some (.tup xs) → (if H1 a = none then F' a else F1 a) = some (.tup xs)) ∧ (∀ a o xs, F' a = some (.frz o (.tup xs)) → (if H1 a = none then F' a else F1 a) = some (.frz o (.tup xs))) ∧ (∀ a fs, F' a = some (.xd fs) → (if H1 a = none then F' a else F1 a) = some (.xd fs)) := fun {F' H'} st => by
        have core : ∀ (a : Addr) (u : HO), (∀ xs, u ≠ .lst xs) → F' a = some u → (if H1 a = none then F' a else F1 a) = some u := fun a u hu z => by
          split
          · exact z
          · rename_i hn
            obtain ⟨o1, e1⟩ : ∃ o1, H1 a = some o1 := by
              cases w : H1 a with
              | none => exact absurd w hn
              | some o1 => exact ⟨o1, rfl⟩
            have := st.frz a o1 e1
            rw [z] at this
            rcases alt a with ⟨xs, w⟩ | w
            · rw [w] at this
              exact absurd (Option.some.inj this) (hu xs)
            · rw [← w, ← this]
        exact ⟨fun a xs => core a _ (fun xs z => by cases z), fun a o xs => core a _ (fun xs z => by cases z), fun a fs => core a _ (fun xs z => by cases z)⟩
      have soB : ∀ {F' H' s2}, StOk G F' H' s2 → StOk G (fun a => if H1 a = none then F' a else F1 a) H' s2 := fun {F' H' s2} so => so1.back so
      cases q3 : m (args.map EV.lent) s1 with
      | ok d s2 =>
        rw [q3] at p1
        change Post _ _ _ _ _ _ _ _ _ (if flat d = true then .ok d s2 else .bad) at p1
        split at p1
        · rename_i hfl
          intro v F' H' st so rp
          obtain ⟨t1, t2, _⟩ := tupIn st
          exact p1 v _ H' (back st (.inr trivial)) (soB so) (Rp.flat_in (H := H1) t1 t2 rp hfl)
        · exact p1.elim
      | err x s2 =>
        rw [q3] at p1
        change Post _ _ _ _ _ _ _ _ _ (if x.fs.all (fun p => flat p.2) = true then .err x s2 else .bad) at p1
        split at p1
        · rename_i hfl
          intro cls dd F' H' st so rx
          obtain ⟨t1, t2, t3⟩ := tupIn st
          obtain ⟨C, dx, fs, e1, e2, e3, e4, e5⟩ := rx
          refine p1 cls dd _ H' (back st (.inr trivial)) (soB so) ⟨C, dx, fs, e1, e2, e3, t3 _ _ e4, ?_⟩
          have fsIn : ∀ (fs : List (Str × V)) (xs : List (Str × D)), FsOk X.K F' fs xs → xs.all (fun p => flat p.2) = true → FsOk X.K (fun a => if H1 a = none then F' a else F1 a) fs xs := by
            intro fs
            induction fs with
            | nil => intro xs h _; cases xs with
              | nil => trivial
              | cons _ _ => exact h.elim
            | cons f fs ih =>
              intro xs h hall
              cases xs with
              | nil => exact h.elim
              | cons y ys =>
                have hall' : flat y.2 = true ∧ (ys.all fun p => flat p.2) = true := by simpa using hall
                exact ⟨h.1, Rp.flat_in (H := H1) t1 t2 h.2.1 hall'.1, ih ys h.2.2 hall'.2⟩
          exact fsIn fs x.fs e5 hfl
        · exact p1.elim
      | bad => rw [q3] at p1; exact p1.elim
    · exact p.elim
end
end DS
namespace DS
open PySem PySem.Spec L2
open PyProof.Rows hiding St
theorem bt_len : bootBuiltins "len" = some (.builtin "len") := by decide +kernel
theorem bt_abs : bootBuiltins "abs" = some (.builtin "abs") := by decide +kernel
theorem bt_max : bootBuiltins "max" = some (.builtin "max") := by decide +kernel
theorem bt_min : bootBuiltins "min" = some (.builtin "min") := by decide +kernel
theorem bt_sum : bootBuiltins "sum" = some (.builtin "sum") := by decide +kernel
theorem bt_all : bootBuiltins "all" = some (.builtin "all") := by decide +kernel
theorem bt_any : bootBuiltins "any" = some (.builtin "any") := by decide +kernel
theorem bt_isinstance : bootBuiltins "isinstance" = some (.builtin "isinstance") := by decide +kernel
theorem bt_int : bootBuiltins "int" = some (.type "int") := by decide +kernel
theorem bt_bool : bootBuiltins "bool" = some (.type "bool") := by decide +kernel
theorem bt_str : bootBuiltins "str" = some (.type "str") := by decide +kernel
theorem bt_list : bootBuiltins "list" = some (.type "list") := by decide +kernel
theorem bt_tuple : bootBuiltins "tuple" = some (.type "tuple") := by decide +kernel
section
variable {X : Cx} {W : WX} {G : Gh} {K : PySem.W.Frag} {pos : Pos}
def frzA (i : Nat) (g : Ev → LS → SOut) (env : Ev) (s : LS) : SOut := match g env s with
  | .nx e s => .nx (frz i e) s
  | o => o
theorem ss_post {st : Stmt} {g : Ev → LS → SOut} (i : Nat) (h : SS X W G st g) : SS X W G st (frzA i g) := by
  obtain ⟨t, h, kk⟩ := h.use
  refine SS.mk h fun F0 H0 F H σ env s D r p => kk F0 H0 F H σ env s D r ?_
  unfold frzA at p
  cases q : g env s with
  | nx e s1 =>
    rw [q] at p
    intro F' H' σ' r' i1
    obtain ⟨F2, r2, i2⟩ := r'.freeze i
    exact p F2 H' σ' r2 fun a o z => i2 a o (i1 a o z)
  | rt d s1 => rw [q] at p; exact p
  | bk e s1 => rw [q] at p; exact p
  | ct e s1 => rw [q] at p; exact p
  | err x e s1 => rw [q] at p; exact p
  | bad => rw [q] at p; exact p
/-- a number of turns: the size of the int in a slot, and one -/
def fuI (i : Nat) (env : Ev) (_ : LS) : Nat := match env[i]? with
  | some (.sh (.int n)) => n.natAbs + 1
  | _ => 0
end
end DS
end

section
set_option Elab.async false
set_option linter.all false
set_option maxRecDepth 100000
set_option autoImplicit false
namespace DS
open PySem PySem.Spec L2
open PyProof.Rows hiding St
/-! ## the law's own state: a place and the cells -/
/-- the next number of the script below a bound -/
def takeV (most p : Int) (cs : List Int) : Int × Int × List Int :=
  let at_ := (p.fmod (cs.length : Int)).toNat
  let cell := cs.getD at_ 0
  if 1000000000000000000 ≤ cell then (cell.fmod most, p, cs.set at_ (cell.fdiv most))
  else
    let m1 := (cell * 48271 + (p + 1) * 69621).fmod 2147483647
    let m2 := (m1 * 16807 + (p + 1) * 7919).fmod 1000000007
    ((m2.fdiv 7).fmod most, p + 1, cs)
def m__law_take (args : List EV) (s : LS) : Out D := match args, s with
  | [.st, .sh (.int most)], some (p, cs) => if most < 2 then .ok (.int 0) s else if cs ≠ [] ∧ most < 2 ^ 64 then .ok (.int (takeV most p cs).1) (some (takeV most p cs).2) else .bad
  | _, _ => .bad
def rAddI : R2 := rI0 fun i j => .int (i + j)
def rModI : R2 := rI (fun _ j => j ≠ 0) fun i j => .int (i.fmod j)
def rMulI : R2 := rI mulOk fun i j => .int (i * j)
def rDivI : R2 := rI (fun _ j => j ≠ 0 ∧ j.natAbs.log2 < 9000) fun i j => .int (i.fdiv j)
def rIntI : List V → Hp → VK → Prop := fun xs H Q => (∃ i, xs = [V.int i] ∧ Q (V.int i) H) ∨ ∃ k, xs = [V.bl k] ∧ Q (V.int (if k = true then 1 else 0)) H
def rLenI (K : PySem.W.Frag) : List V → Hp → VK → Prop := fun xs H Q => ∃ x n, xs = [x] ∧ LenV K x H n ∧ Q (.int n) H
def tInt (t : TE) : TE := tCB rIntI (tCons t tNil)
def t_take (K : PySem.W.Frag) : TS :=
  tSeq (tIfS (tTest (tOp (rI0 fun i j => .bl (decide (i < j))) (tVar 1) (tC (.int 2)))) (tRet (tC (.int 0))) tNext)
  (tSeq (tAsg (tOp (rIxL K) (tVar 0) (tC (.int 1))) (gName 2))
  (tSeq (tAsg (tOp rModI (tInt (tOp (rIxL K) (tVar 0) (tC (.int 0)))) (tCB (rLenI K) (tCons (tVar 2) tNil))) (gName 3))
  (tSeq (tAsg (tOp (rIxL K) (tVar 2) (tVar 3)) (gName 4))
  (tSeq (tIfS (tTest (tOp (rI0 fun i j => .bl (decide (j ≤ i))) (tVar 4) (tC (.int 1000000000000000000)))) (tSeq (tAsg (tOp rDivI (tVar 4) (tVar 1)) (gSub (tVar 2) (tVar 3) rSetL)) (tRet (tOp rModI (tInt (tVar 4)) (tVar 1)))) tNext)
  (tSeq (tAsg (tOp rAddI (tOp (rIxL K) (tVar 0) (tC (.int 0))) (tC (.int 1))) (gSub (tVar 0) (tC (.int 0)) rSetL))
  (tSeq (tAsg (tOp rModI (tInt (tOp rAddI (tOp rMulI (tVar 4) (tC (.int 48271))) (tOp rMulI (tOp (rIxL K) (tVar 0) (tC (.int 0))) (tC (.int 69621))))) (tC (.int 2147483647))) (gName 5))
  (tSeq (tAsg (tOp rModI (tInt (tOp rAddI (tOp rMulI (tVar 5) (tC (.int 16807))) (tOp rMulI (tOp (rIxL K) (tVar 0) (tC (.int 0))) (tC (.int 7919))))) (tC (.int 1000000007))) (gName 5))
  (tRet (tOp rModI (tInt (tOp rDivI (tVar 5) (tC (.int 7)))) (tVar 1))))))))))
theorem log2_small {n : Nat} (h : n < 2 ^ 64) : n.log2 < 9000 := by
  by_cases z : n = 0
  · subst z; decide
  · have := (Nat.log2_lt z (k := 64)).mpr h
    omega
theorem take_pure {K : PySem.W.Frag} {mg : Str → Option Value} {N : List Str} (hN : N.length = 6) {vs : List V} {H : Hp} {Q : VK} {E : XK} (h : spF K mg 2 m__law_take vs H Q E) :
    t_take K { nx := fun _ H' => Q .non H', rt := Q } (L2.start N vs) H := by
  obtain ⟨hl, G, F, args, s, sub, so, av, hs, p⟩ := h
  unfold m__law_take at p
  split at p
  · rename_i most pp cs
    obtain ⟨a, b, rfl, ne, fa, fb, ha, hb⟩ := so
    match vs, hl, av with
    | [v, w], _, av =>
      obtain ⟨⟨a', b', e1, rfl⟩, av2, _⟩ := av
      cases e1
      cases av2
      have est : L2.start N [.ref a, .int most] = [some (.ref a), some (.int most), none, none, none, none] := by
        unfold L2.start
        rw [hN]
        rfl
      rw [est]
      have so0 : StOk (some (a, b)) F H (some (pp, cs)) := ⟨a, b, rfl, ne, fa, fb, ha, hb⟩
      refine ⟨_, rfl, _, _, rfl, rfl, _, rfl, ?_⟩
      by_cases h2 : most < 2
      · rw [if_pos h2] at p
        rw [decide_eq_true h2]
        exact iteT (p (.int 0) F H (Step.refl sub) so0 (.int 0))
      · rw [if_neg h2] at p
        rw [decide_eq_false h2]
        refine iteF ?_
        split at p
        · rename_i hc
          obtain ⟨hne, hm⟩ := hc
          have hlen : 0 < cs.length := by
            cases cs with
            | nil => exact absurd rfl hne
            | cons _ _ => exact Nat.succ_pos _
          have hm9 : most ≠ 0 ∧ most.natAbs.log2 < 9000 := ⟨by omega, log2_small (by omega)⟩
          have hat0 : 0 ≤ pp.fmod (cs.length : Int) := Int.fmod_nonneg_of_pos _ (by omega)
          have hat1 : pp.fmod (cs.length : Int) < cs.length := Int.fmod_lt_of_pos _ (by omega)
          have hi : (pp.fmod (cs.length : Int)).toNat < cs.length := by omega
          have hcell : (cs.map V.int)[(pp.fmod (cs.length : Int)).toNat]? = some (.int (cs.getD (pp.fmod (cs.length : Int)).toNat 0)) := by
            rw [List.getElem?_map, List.getElem?_eq_getElem hi]
            simp [List.getD, List.getElem?_eq_getElem hi]
          have hcellA : atI (cs.map V.int) (pp.fmod (cs.length : Int)) = some (.int (cs.getD (pp.fmod (cs.length : Int)).toNat 0)) := at_of (Int.toNat_of_nonneg hat0).symm hcell
          refine ⟨_, rfl, a, _, 1, _, rfl, rfl, SqL.of ha, atI_nat (j := 1) rfl, ?_⟩
          refine ⟨_, rfl, a, _, 0, _, rfl, rfl, SqL.of ha, atI_nat (j := 0) rfl, .inl ⟨_, rfl, _, rfl, .ref b, cs.length, rfl, .inl ⟨_, SqL.of hb, (List.length_map _).symm⟩, _, _, rfl, rfl, by omega, ?_⟩⟩
          refine ⟨_, rfl, _, rfl, b, _, _, _, rfl, rfl, SqL.of hb, hcellA, ?_⟩
          refine ⟨_, rfl, _, _, rfl, rfl, _, rfl, ?_⟩
          have key := fun v F' H' => p v F' H'
          by_cases hbig : 1000000000000000000 ≤ cs.getD (pp.fmod (cs.length : Int)).toNat 0
          · rw [decide_eq_true hbig]
            refine iteT ?_
            have hv : takeV most pp cs = ((cs.getD (pp.fmod (cs.length : Int)).toNat 0).fmod most, pp, cs.set (pp.fmod (cs.length : Int)).toNat ((cs.getD (pp.fmod (cs.length : Int)).toNat 0).fdiv most)) := if_pos hbig
            have ix : ixN (cs.map V.int).length (pp.fmod (cs.length : Int)) = some (pp.fmod (cs.length : Int)).toNat := by
              unfold ixN
              rw [if_pos hat0, if_pos (by rw [List.length_map]; exact hat1)]
            refine ⟨_, rfl, _, rfl, _, _, rfl, rfl, hm9, ?_⟩
            refine ⟨_, rfl, _, rfl, b, _, _, _, rfl, rfl, hb, ix, ?_⟩
            refine ⟨_, rfl, .inl ⟨_, rfl, _, rfl, _, _, rfl, rfl, by omega, ?_⟩⟩
            rw [hv] at key
            refine key _ F _ ⟨fun x o z => ?_, fun x o z n => ?_, fun _ _ _ => rfl, fun x z => ?_⟩ ⟨a, b, rfl, ne, fa, fb, ?_, ?_⟩ (.int _)
            · rw [upd_ne (ne_of_none z fb)]; exact sub x o z
            · rw [upd_ne fun w => n (.inr w)]; exact z
            · by_cases w : x = b
              · subst w; rw [upd_same] at z; cases z
              · rw [upd_ne w] at z; exact z
            · rw [upd_ne ne]; exact ha
            · rw [upd_same, List.map_set]
          · rw [decide_eq_false hbig]
            refine iteF ?_
            have hv : takeV most pp cs = ((((((cs.getD (pp.fmod (cs.length : Int)).toNat 0) * 48271 + (pp + 1) * 69621).fmod 2147483647) * 16807 + (pp + 1) * 7919).fmod 1000000007).fdiv 7 |>.fmod most, pp + 1, cs) := if_neg hbig
            refine ⟨_, rfl, a, _, 0, _, rfl, rfl, SqL.of ha, atI_nat (j := 0) rfl, _, _, rfl, rfl, ?_⟩
            refine ⟨_, rfl, a, _, 0, 0, rfl, rfl, ha, rfl, ?_⟩
            have ha2 : upd H a (.lst ([V.int pp, V.ref b].set 0 (.int (pp + 1)))) a = some (.lst [.int (pp + 1), .ref b]) := upd_same
            refine ⟨_, rfl, _, _, rfl, rfl, .inr (.inl (by decide)), _, rfl, a, _, 0, _, rfl, rfl, SqL.of ha2, atI_nat (j := 0) rfl, _, _, rfl, rfl, .inr (.inl (by decide)), _, _, rfl, rfl, .inl ⟨_, rfl, _, _, rfl, rfl, (by show (2147483647 : Int) ≠ 0; decide), ?_⟩⟩
            refine ⟨_, rfl, _, _, rfl, rfl, .inr (.inl (by decide)), _, rfl, a, _, 0, _, rfl, rfl, SqL.of ha2, atI_nat (j := 0) rfl, _, _, rfl, rfl, .inr (.inl (by decide)), _, _, rfl, rfl, .inl ⟨_, rfl, _, _, rfl, rfl, (by show (1000000007 : Int) ≠ 0; decide), ?_⟩⟩
            refine ⟨_, rfl, _, _, rfl, rfl, ⟨by decide, by decide⟩, .inl ⟨_, rfl, _, rfl, _, _, rfl, rfl, by omega, ?_⟩⟩
            rw [hv] at key
            refine key _ F _ ⟨fun x o z => ?_, fun x o z n => ?_, fun _ _ _ => rfl, fun x z => ?_⟩ ⟨a, b, rfl, ne, fa, fb, upd_same, ?_⟩ (.int _)
            · rw [upd_ne (ne_of_none z fa)]; exact sub x o z
            · rw [upd_ne fun w => n (.inl w)]; exact z
            · by_cases w : x = a
              · subst w; rw [upd_same] at z; cases z
              · rw [upd_ne w] at z; exact z
            · rw [upd_ne ne.symm]; exact hb
        · exact p.elim
  · exact p.elim
/-! ### the law's state is made -/
def rAbsI : List V → Hp → VK → Prop := fun xs H Q => ∃ i, xs = [V.int i] ∧ Q (V.int (if i < 0 then -i else i)) H
def t_state (K : PySem.W.Frag) : TS :=
  tSeq (tAsg (tLc (iList K (tSl (rSlL K) (tVar 0) tNoPart (tPart (tC (.int 63))))) (gName 2) tYes (tCB rAbsI (tCons (tVar 2) tNil)) [2]) (gName 1))
  (tSeq (tIfS (tB (tEqI (tCB (rLenI K) (tCons (tVar 1) tNil)) (tC (.int 0)))) (tAsg (tLst (tCons (tC (.int 0)) tNil)) (gName 1)) tNext)
  (tRet (tLst (tCons (tC (.int 0)) (tCons (tVar 1) tNil)))))
def spState (K : PySem.W.Frag) : Sp := fun vs H Q _ => ∃ (a : Addr) (ns : List Int), vs = [.ref a] ∧ SqL K H a (ns.map V.int) ∧ ns.length ≤ 63 ∧
  ∀ (p c : Addr) (cs : List Int) (H' : Hp), cs ≠ [] → p ≠ c → H p = none → H c = none → Same H H' → H' p = some (.lst [.int 0, .ref c]) → H' c = some (.lst (cs.map V.int)) → Q (.ref p) H'
theorem state_pure {K : PySem.W.Frag} {N : List Str} (hN : N.length = 3) {vs : List V} {H : Hp} {Q : VK} {E : XK} (h : spState K vs H Q E) :
    t_state K { nx := fun _ H' => Q .non H', rt := Q } (L2.start N vs) H := by
  obtain ⟨a, ns, rfl, hS, hlen, q⟩ := h
  have est : L2.start N [.ref a] = [some (.ref a), none, none] := by
    unfold L2.start
    rw [hN]
    rfl
  rw [est]
  refine ⟨.ref a, rfl, 63, rfl, a, _, rfl, hS, fun b nb => ⟨b, rfl, ⟨_, SqL.of upd_same⟩, fun D nD => ?_⟩⟩
  have nDb : b ≠ D := fun z => by rw [← z, upd_same] at nD; cases nD
  have nD0 : H D = none := by rw [upd_ne nDb.symm] at nD; exact nD
  have ecut : cutV (ns.map V.int) none (some 63) = (cutL ns none (some 63)).map V.int := by
    unfold cutV cutL
    rw [List.length_map, List.map_take, List.map_drop]
  generalize hcs : cutL ns none (some 63) = ms at ecut
  have hms : ms.length ≤ 63 := by
    rw [← hcs]
    unfold cutL
    rw [List.length_take, List.length_drop]
    omega
  rw [ecut] at nD ⊢
  let ab : Int → Int := fun i => if i < 0 then -i else i
  refine lc_list (K := K) (a := b) (xs := ms.map V.int) (fun i H' => Same H H' ∧ H' b = some (.lst (ms.map V.int)) ∧ H' D = some (.lst (((ms.take i).map ab).map V.int))) ?_ (fun i H' _ hp => SqL.of hp.2.1) (fun i x H' hx hp => ?_) fun H' hp => ?_
  · refine ⟨fun x o z => ?_, ?_, upd_same⟩
    · rw [upd_ne (ne_of_none z nD0), upd_ne (ne_of_none z nb)]; exact z
    · rw [upd_ne nDb, upd_same]
  · obtain ⟨hs, hb, hD⟩ := hp
    have hi : i < ms.length := by
      by_cases z : i < ms.length
      · exact z
      · rw [List.getElem?_eq_none_iff.mpr (by rw [List.length_map]; omega)] at hx; cases hx
    rw [List.getElem?_map, List.getElem?_eq_getElem hi] at hx
    cases hx
    refine ⟨rfl, _, rfl, ms[i], rfl, _, hD, ?_, ?_⟩
    · rw [List.length_map, List.length_map, List.length_take, sizeLine_eq]
      omega
    · refine ⟨fun x o z => ?_, ?_, ?_⟩
      · rw [upd_ne (ne_of_none z nD0)]; exact hs x o z
      · rw [upd_ne nDb]; exact hb
      · rw [upd_same, List.take_add_one, List.getElem?_eq_getElem hi, List.map_append, List.map_append]
        rfl
  · obtain ⟨hs, hb, hD⟩ := hp
    rw [List.length_map, List.take_length] at hD
    refine ⟨.ref D, rfl, .ref D, ms.length, rfl, .inl ⟨_, SqL.of hD, by rw [List.length_map, List.length_map]⟩, _, _, rfl, rfl, _, rfl, ?_⟩
    by_cases hz : ms = []
    · subst hz
      refine iteT ⟨by rw [sizeLine_eq]; show 1 ≤ 16777216; decide, fun c nc => ?_⟩
      have ncD : D ≠ c := ne_of_none hD nc
      have nc0 : H c = none := hs.free nc
      refine ⟨.ref c, rfl, by rw [sizeLine_eq]; show 2 ≤ 16777216; decide, fun p np => ?_⟩
      have npc : p ≠ c := fun z => by rw [z, upd_same] at np; cases np
      have np0 : H p = none := by rw [upd_ne npc] at np; exact hs.free np
      refine q p c [0] _ (fun z => nomatch z) npc np0 nc0 (fun x o z => ?_) upd_same ?_
      · rw [upd_ne (ne_of_none z np0), upd_ne (ne_of_none z nc0)]; exact hs x o z
      · rw [upd_ne npc.symm, upd_same]; rfl
    · have hd : decide ((ms.length : Int) = 0) = false := decide_eq_false (by
        cases ms with
        | nil => exact absurd rfl hz
        | cons _ _ => rw [List.length_cons]; omega)
      show (if decide ((ms.length : Int) = 0) = true then _ else _)
      rw [hd]
      refine iteF ⟨.ref D, rfl, by rw [sizeLine_eq]; show 2 ≤ 16777216; decide, fun p np => ?_⟩
      have npD : D ≠ p := ne_of_none hD np
      have np0 : H p = none := hs.free np
      refine q p D (ms.map ab) _ (fun z => hz (by simpa using z)) npD.symm np0 nD0 (fun x o z => ?_) upd_same ?_
      · rw [upd_ne (ne_of_none z np0)]; exact hs x o z
      · rw [upd_ne npD]; exact hD
/-! ### the law itself -/
def spLaw (K : PySem.W.Frag) : Sp := fun vs H Q _ => ∃ (a : Addr) (ns : List Int), vs = [.ref a] ∧ SqL K H a (ns.map V.int) ∧ ns.length ≤ 63 ∧ ∀ H', Q (.bl true) H'
def env0 (n : Nat) : Ev := .un :: .st :: List.replicate n .un
def t_law (K : PySem.W.Frag) (mg : Str → Option Value) (W : WX) (g : Ev → LS → SOut) : TS :=
  tSeq (tAsg (tCall (spState K) [] E0 (tCons (tVar 0) tNil)) (gName 1)) (fun D σ H => ∃ G, tGS K mg W G g D σ H)
theorem pss_ex {X : Cx} {W : WX} {sts : List Stmt} {g : Ev → LS → SOut} (h : ∀ G, SSs X W G sts g) : PSs X sts (fun D σ H => ∃ G, tGS X.K X.mg W G g D σ H) :=
  ⟨fun pins s σ H D I ⟨G, q⟩ => (h G).run pins s σ H D I q⟩
theorem law_pure {K : PySem.W.Frag} {mg : Str → Option Value} {W : WX} {g : Ev → LS → SOut} {N : List Str} {n : Nat} (hN : N.length = n + 2) (hg : ∀ cs : List Int, cs ≠ [] → ∃ s, g (env0 n) (some (0, cs)) = .rt (.bool true) s) {vs : List V} {H : Hp} {Q : VK} {E : XK} (h : spLaw K vs H Q E) :
    t_law K mg W g { nx := fun _ H' => Q .non H', rt := Q } (L2.start N vs) H := by
  obtain ⟨a, ns, rfl, hS, hlen, q⟩ := h
  have est : L2.start N [.ref a] = some (.ref a) :: none :: List.replicate n none := by
    unfold L2.start
    rw [hN]
    rfl
  rw [est]
  refine ⟨.ref a, rfl, a, ns, rfl, hS, hlen, fun p c cs H' hne npc hp hc sm ep ec => ?_⟩
  obtain ⟨s, hg⟩ := hg cs hne
  have so : StOk (some (p, c)) H H' (some (0, cs)) := ⟨p, c, rfl, npc, hp, hc, ep, ec⟩
  have nost : ∀ (i : Nat) (ds : List D), (env0 n)[i]? ≠ some (EV.ow ds) := fun i ds h => by
    unfold env0 at h
    match i with
    | 0 => cases h
    | 1 => cases h
    | i + 2 =>
      have := List.eq_of_mem_replicate (List.mem_of_getElem? (show (List.replicate n EV.un)[i]? = some (.ow ds) from h))
      cases this
  refine ⟨some (p, c), H, H', H, env0 n, some (0, cs), ⟨Step.refl sm, by simp [env0], fun i e h => ?_, fun i j di dj _ h1 _ => absurd h1 (nost i di), so⟩, ?_⟩
  · unfold env0 at h
    match i with
    | 0 => cases h; exact ⟨_, rfl, trivial⟩
    | 1 => cases h; exact ⟨_, rfl, p, c, rfl, rfl⟩
    | i + 2 =>
      have h' : (List.replicate n EV.un)[i]? = some e := h
      have := List.eq_of_mem_replicate (List.mem_of_getElem? h')
      subst this
      have hl : i < n := by
        by_cases z : i < n
        · exact z
        · rw [List.getElem?_eq_none_iff.mpr (by rw [List.length_replicate]; omega)] at h'; cases h'
      refine ⟨none, ?_, trivial⟩
      show (List.replicate n (none : Option V))[i]? = some none
      rw [List.getElem?_replicate]
      simp [hl]
  · rw [hg]
    intro v F' H2 _ _ rp
    cases rp
    exact q H2
end DS
end

section
set_option linter.all false
set_option autoImplicit false
namespace DS
open PySem
variable {α β : Type}
@[simp] theorem bind_ok (a : α) (s : LS) (f : α → LS → Out β) : (Out.ok a s).bind f = f a s := rfl
@[simp] theorem bind_err (x : Exn) (s : LS) (f : α → LS → Out β) : (Out.err x s : Out α).bind f = .err x s := rfl
@[simp] theorem bind_bad (f : α → LS → Out β) : (Out.bad : Out α).bind f = .bad := rfl
@[simp] theorem lift_some (a : α) (s : LS) : lift (some a) s = .ok a s := rfl
@[simp] theorem lift_none (s : LS) : lift (none : Option α) s = .bad := rfl
@[simp] theorem evS_ok (a : α) (s : LS) (env : Ev) (f : α → LS → SOut) : evS (.ok a s) env f = f a s := rfl
@[simp] theorem evS_err (x : Exn) (s : LS) (env : Ev) (f : α → LS → SOut) : evS (.err x s : Out α) env f = .err x env s := rfl
@[simp] theorem evS_bad (env : Ev) (f : α → LS → SOut) : evS (.bad : Out α) env f = .bad := rfl
@[simp] theorem noErr_ok (a : α) (s : LS) : noErr (.ok a s) = .ok a s := rfl
theorem seqD_nx {g1 g2 : Ev → LS → SOut} {env e : Ev} {s s1 : LS} (h : g1 env s = .nx e s1) : seqD g1 g2 env s = g2 e s1 := by unfold seqD; rw [h]
theorem seqD_rt {g1 g2 : Ev → LS → SOut} {env : Ev} {d : D} {s s1 : LS} (h : g1 env s = .rt d s1) : seqD g1 g2 env s = .rt d s1 := by unfold seqD; rw [h]
theorem seqD_err {g1 g2 : Ev → LS → SOut} {env e : Ev} {x : Exn} {s s1 : LS} (h : g1 env s = .err x e s1) : seqD g1 g2 env s = .err x e s1 := by unfold seqD; rw [h]
@[simp] theorem seqD_def (g1 g2 : Ev → LS → SOut) (env : Ev) (s : LS) : seqD g1 g2 env s = match g1 env s with
  | .nx e s => g2 e s
  | o => o := rfl
@[simp] theorem varD_def (i : Nat) (env : Ev) (s : LS) : varD i env s = match env[i]? with
  | some (.sh d) => .ok d s
  | _ => .bad := rfl
@[simp] theorem varW_def (i : Nat) (env : Ev) (s : LS) : varW i env s = match env[i]? with
  | some (.sh d) => .ok d s
  | some (.ow ds) => .ok (.list ds) s
  | _ => .bad := rfl
@[simp] theorem varX_def (i : Nat) (env : Ev) (s : LS) : varX i env s = match env[i]? with
  | some (.sh d) => .ok (.sh d) s
  | some (.ow ds) => .ok (.ow ds) s
  | some .st => .ok .st s
  | _ => .bad := rfl
@[simp] theorem cD_def (d : D) (env : Ev) (s : LS) : cD d env s = .ok d s := rfl
@[simp] theorem op2_def (f : D → D → Option D) (ga gb : Ev → LS → Out D) (env : Ev) (s : LS) : op2 f ga gb env s = (ga env s).bind fun x s1 => (gb env s1).bind fun y s2 => lift (f x y) s2 := rfl
@[simp] theorem op1_def (f : D → Option D) (ga : Ev → LS → Out D) (env : Ev) (s : LS) : op1 f ga env s = (ga env s).bind fun x s1 => lift (f x) s1 := rfl
@[simp] theorem asSh_def (g : Ev → LS → Out D) (env : Ev) (s : LS) : asSh g env s = (g env s).bind fun d s => .ok (.sh d) s := rfl
@[simp] theorem asOw_def (g : Ev → LS → Out (List D)) (env : Ev) (s : LS) : asOw g env s = (g env s).bind fun d s => .ok (.ow d) s := rfl
@[simp] theorem asLst_def (g : Ev → LS → Out (List D)) (env : Ev) (s : LS) : asLst g env s = (g env s).bind fun d s => .ok (.list d) s := rfl
@[simp] theorem tst_def (g : Ev → LS → Out D) (env : Ev) (s : LS) : tst g env s = (g env s).bind fun d s => lift (asB d) s := rfl
@[simp] theorem tst2_def (f : D → D → Option D) (ga gb : Ev → LS → Out D) (env : Ev) (s : LS) : tst2 f ga gb env s = (op2 f ga gb env s).bind fun d s => lift (asB d) s := rfl
@[simp] theorem asB_bool (b : Bool) : asB (.bool b) = some b := rfl
@[simp] theorem asI_int (i : Int) : asI (.int i) = some i := rfl
@[simp] theorem andB_def (ga gb : Ev → LS → Out Bool) (env : Ev) (s : LS) : andB ga gb env s = (ga env s).bind fun b s => if b then gb env s else .ok false s := rfl
@[simp] theorem orB_def (ga gb : Ev → LS → Out Bool) (env : Ev) (s : LS) : orB ga gb env s = (ga env s).bind fun b s => if b then .ok true s else gb env s := rfl
@[simp] theorem notB_def (ga : Ev → LS → Out Bool) (env : Ev) (s : LS) : notB ga env s = (ga env s).bind fun b s => .ok (!b) s := rfl
@[simp] theorem andD_def (ga gb : Ev → LS → Out D) (env : Ev) (s : LS) : andD ga gb env s = (ga env s).bind fun d s => (lift (asB d) s).bind fun b s => if b then gb env s else .ok (.bool false) s := rfl
@[simp] theorem orD_def (ga gb : Ev → LS → Out D) (env : Ev) (s : LS) : orD ga gb env s = (ga env s).bind fun d s => (lift (asB d) s).bind fun b s => if b then .ok (.bool true) s else gb env s := rfl
@[simp] theorem notD_def (ga : Ev → LS → Out D) (env : Ev) (s : LS) : notD ga env s = (ga env s).bind fun d s => (lift (asB d) s).bind fun b s => .ok (.bool !b) s := rfl
@[simp] theorem ifG_def (gc : Ev → LS → Out Bool) (ga gb : Ev → LS → Out α) (env : Ev) (s : LS) : ifG gc ga gb env s = (gc env s).bind fun b s => if b then ga env s else gb env s := rfl
@[simp] theorem nilG_def (env : Ev) (s : LS) : (nilG env s : Out (List α)) = .ok [] s := rfl
@[simp] theorem consG_def (ga : Ev → LS → Out α) (gr : Ev → LS → Out (List α)) (env : Ev) (s : LS) : consG ga gr env s = (ga env s).bind fun a s => (gr env s).bind fun r s => .ok (a :: r) s := rfl
@[simp] theorem callG_def (m : List EV → LS → Out D) (gas : Ev → LS → Out (List EV)) (env : Ev) (s : LS) : callG m gas env s = (gas env s).bind fun args s => if args.all EV.solid = true then m args s else .bad := rfl
@[simp] theorem callL_def (m : List EV → LS → Out D) (gas : Ev → LS → Out (List EV)) (env : Ev) (s : LS) : callL m gas env s = (gas env s).bind fun args s => if (args.map EV.lent).all EV.solid = true then flatOut (m (args.map EV.lent) s) else .bad := rfl
@[simp] theorem callB_def (g : List D → Option D) (gas : Ev → LS → Out (List D)) (env : Ev) (s : LS) : callB g gas env s = (gas env s).bind fun ds s => lift (g ds) s := rfl
@[simp] theorem solid_sh (d : D) : EV.solid (.sh d) = true := rfl
@[simp] theorem solid_st : EV.solid .st = true := rfl
@[simp] theorem lent_sh (d : D) : EV.lent (.sh d) = .sh d := rfl
@[simp] theorem lent_st : EV.lent .st = .st := rfl
@[simp] theorem lent_ow (d : List D) : EV.lent (.ow d) = .sh (.list d) := rfl
@[simp] theorem isiG_def (f : D → Bool) (g : Ev → LS → Out D) (env : Ev) (s : LS) : isiG f g env s = (g env s).bind fun d s => .ok (.bool (f d)) s := rfl
@[simp] theorem nopD_def (env : Ev) (s : LS) : nopD env s = .nx env s := rfl
@[simp] theorem retD_def (g : Ev → LS → Out D) (env : Ev) (s : LS) : retD g env s = evS (g env s) env fun d s => .rt d s := rfl
@[simp] theorem retN_def (env : Ev) (s : LS) : retN env s = .rt .none s := rfl
@[simp] theorem brkD_def (env : Ev) (s : LS) : brkD env s = .bk env s := rfl
@[simp] theorem cntD_def (env : Ev) (s : LS) : cntD env s = .ct env s := rfl
@[simp] theorem ifD_def (gc : Ev → LS → Out Bool) (ga gb : Ev → LS → SOut) (env : Ev) (s : LS) : ifD gc ga gb env s = evS (gc env s) env fun b s => if b then ga env s else gb env s := rfl
@[simp] theorem exprD_def (g : Ev → LS → Out α) (env : Ev) (s : LS) : exprD g env s = evS (g env s) env fun _ s => .nx env s := rfl
@[simp] theorem setD_def (i : Nat) (g : Ev → LS → Out EV) (env : Ev) (s : LS) : setD i g env s = evS (g env s) env fun v s => .nx (env.set i v) s := rfl
@[simp] theorem par2_def (i j : Nat) (ga gb : Ev → LS → Out EV) (env : Ev) (s : LS) : par2 i j ga gb env s = evS (ga env s) env fun x s => evS (gb env s) env fun y s => .nx ((env.set i x).set j y) s := rfl
@[simp] theorem par3_def (i j l : Nat) (ga gb gc : Ev → LS → Out EV) (env : Ev) (s : LS) : par3 i j l ga gb gc env s = evS (ga env s) env fun x s => evS (gb env s) env fun y s => evS (gc env s) env fun z s => .nx (((env.set i x).set j y).set l z) s := rfl
@[simp] theorem unpD_def (t : Tg) (g : Ev → LS → Out D) (env : Ev) (s : LS) : unpD t g env s = evS (g env s) env fun d s => match t.asg d env with
  | some env' => .nx env' s
  | none => .bad := rfl
@[simp] theorem augD_def (f : D → D → Option D) (i : Nat) (g : Ev → LS → Out D) (env : Ev) (s : LS) : augD f i g env s = match env[i]? with
  | some (.sh x) => evS (g env s) env fun y s => match f x y with
    | some z => .nx (env.set i (.sh z)) s
    | none => .bad
  | _ => .bad := rfl
@[simp] theorem augI_int (i j : Int) : augI (.int i) (.int j) = some (.int (i + j)) := rfl
@[simp] theorem appD_def (i : Nat) (g : Ev → LS → Out D) (env : Ev) (s : LS) : appD i g env s = match env[i]? with
  | some (.ow ds) => evS (g env s) env fun d s => if ds.length < sizeLine then .nx (env.set i (.ow (ds ++ [d]))) s else .bad
  | _ => .bad := rfl
@[simp] theorem popD_def (i : Nat) (env : Ev) (s : LS) : popD i env s = match env[i]? with
  | some (.ow ds) => if ds ≠ [] then .nx (env.set i (.ow ds.dropLast)) s else .bad
  | _ => .bad := rfl
@[simp] theorem stoD_def (i : Nat) (gi g : Ev → LS → Out D) (env : Ev) (s : LS) : stoD i gi g env s = evS (g env s) env fun d s => match env[i]? with
  | some (.ow ds) => evS (gi env s) env fun k s => match (asI k).bind (L2.ixN ds.length) with
    | some j => .nx (env.set i (.ow (ds.set j d))) s
    | none => .bad
  | _ => .bad := rfl
@[simp] theorem frz_def (i : Nat) (env : Ev) : frz i env = match env[i]? with
  | some (.ow ds) => env.set i (.sh (.list ds))
  | _ => env := rfl
@[simp] theorem frzD_def (i : Nat) (g : Ev → LS → SOut) (env : Ev) (s : LS) : frzD i g env s = g (frz i env) s := rfl
@[simp] theorem frzA_def (i : Nat) (g : Ev → LS → SOut) (env : Ev) (s : LS) : frzA i g env s = match g env s with
  | .nx e s => .nx (frz i e) s
  | o => o := rfl
@[simp] theorem forG_def (t : Tg) (gi : Ev → LS → Out (List D)) (gb : Ev → LS → SOut) (env : Ev) (s : LS) : forG t gi gb env s = evS (gi env s) env fun items s => forD t gb items env s := rfl
@[simp] theorem forD_nil (t : Tg) (gb : Ev → LS → SOut) (env : Ev) (s : LS) : forD t gb [] env s = .nx env s := rfl
theorem forD_cons (t : Tg) (gb : Ev → LS → SOut) (d : D) (ds : List D) (env : Ev) (s : LS) : forD t gb (d :: ds) env s = match t.asg d env with
  | none => .bad
  | some env1 => match gb env1 s with
    | .nx e s => forD t gb ds e s
    | .ct e s => forD t gb ds e s
    | .bk e s => .nx e s
    | o => o := rfl
theorem forD_nx {t : Tg} {gb : Ev → LS → SOut} {d : D} {ds : List D} {env env1 e : Ev} {s s' : LS} (h1 : t.asg d env = some env1) (h2 : gb env1 s = .nx e s') : forD t gb (d :: ds) env s = forD t gb ds e s' := by
  rw [forD_cons, h1]
  simp only [h2]
@[simp] theorem asg_nm (i : Nat) (d : D) (env : Ev) : (Tg.nm i).asg d env = some (env.set i (.sh d)) := rfl
@[simp] theorem asg_tp (is : List Nat) (ds : List D) (env : Ev) : (Tg.tp is).asg (.tuple ds) env = setAll is ds env := rfl
@[simp] theorem setAll_nil (env : Ev) : setAll [] [] env = some env := rfl
@[simp] theorem setAll_cons (i : Nat) (is : List Nat) (d : D) (ds : List D) (env : Ev) : setAll (i :: is) (d :: ds) env = setAll is ds (env.set i (.sh d)) := rfl
@[simp] theorem itemG_def (g : Ev → LS → Out D) (env : Ev) (s : LS) : itemG g env s = (g env s).bind fun d s => lift (listF d) s := rfl
@[simp] theorem listG_def (g : Ev → LS → Out D) (env : Ev) (s : LS) : listG g env s = (g env s).bind fun d s => lift (listF d) s := rfl
@[simp] theorem listF_list (ds : List D) : listF (.list ds) = some ds := rfl
@[simp] theorem listF_tuple (ds : List D) : listF (.tuple ds) = some ds := rfl
@[simp] theorem lcG_def (t : Tg) (vs : List Nat) (gi : Ev → LS → Out (List D)) (gc : Ev → LS → Out Bool) (ge : Ev → LS → Out D) (env : Ev) (s : LS) : lcG t vs gi gc ge env s =
  (gi env s).bind fun items s => if items.length ≤ sizeLine then lcD t gc ge items (wipeE env vs) s else .bad := rfl
@[simp] theorem wipeE_nil (env : Ev) : wipeE env [] = env := rfl
@[simp] theorem wipeE_cons (env : Ev) (v : Nat) (vs : List Nat) : wipeE env (v :: vs) = (wipeE env vs).set v .un := rfl
@[simp] theorem yesB_def (env : Ev) (s : LS) : yesB env s = .ok true s := rfl
@[simp] theorem addD_int (i j : Int) : addD (.int i) (.int j) = some (.int (i + j)) := rfl
@[simp] theorem subD_int (i j : Int) : subD (.int i) (.int j) = some (.int (i - j)) := rfl
@[simp] theorem negI_int (i : Int) : negI (.int i) = some (.int (-i)) := rfl
theorem mulD_int {i j : Int} (h : mulOk i j) : mulD (.int i) (.int j) = some (.int (i * j)) := if_pos h
theorem fdivD_int {i j : Int} (h : j ≠ 0) (h2 : j.natAbs.log2 < 9000) : fdivD (.int i) (.int j) = some (.int (i.fdiv j)) := if_pos ⟨h, h2⟩
theorem modD_int {i j : Int} (h : j ≠ 0) : modD (.int i) (.int j) = some (.int (i.fmod j)) := if_pos h
@[simp] theorem ltD_int (i j : Int) : ltD (.int i) (.int j) = some (.bool (decide (i < j))) := rfl
@[simp] theorem leD_int (i j : Int) : leD (.int i) (.int j) = some (.bool (decide (i ≤ j))) := rfl
@[simp] theorem gtD_int (i j : Int) : gtD (.int i) (.int j) = some (.bool (decide (j < i))) := rfl
@[simp] theorem geD_int (i j : Int) : geD (.int i) (.int j) = some (.bool (decide (j ≤ i))) := rfl
theorem shaped_int (i : Int) : SeqAt.shaped (.int i) = true := rfl
theorem shaped_bool (b : Bool) : SeqAt.shaped (.bool b) = true := rfl
theorem shaped_none : SeqAt.shaped .none = true := rfl
@[simp] theorem eqD_int (i j : Int) : eqD (.int i) (.int j) = some (.bool (i == j)) := by
  unfold eqD
  rw [if_pos ⟨shaped_int i, shaped_int j⟩]
  simp only [PyData.eqv]
@[simp] theorem neD_int (i j : Int) : neD (.int i) (.int j) = some (.bool (i != j)) := by
  unfold neD
  rw [if_pos ⟨shaped_int i, shaped_int j⟩]
  simp only [PyData.eqv]
  rfl
@[simp] theorem eqD_bool (i j : Bool) : eqD (.bool i) (.bool j) = some (.bool (i == j)) := by
  unfold eqD
  rw [if_pos ⟨shaped_bool i, shaped_bool j⟩]
  simp only [PyData.eqv]
@[simp] theorem neD_bool (i j : Bool) : neD (.bool i) (.bool j) = some (.bool (i != j)) := by
  unfold neD
  rw [if_pos ⟨shaped_bool i, shaped_bool j⟩]
  simp only [PyData.eqv]
  rfl
@[simp] theorem isD_none (x : D) : isD x .none = some (.bool (isNone x)) := by cases x <;> rfl
@[simp] theorem isntD_none (x : D) : isntD x .none = some (.bool (!isNone x)) := by cases x <;> rfl
@[simp] theorem isD_bool (a b : Bool) : isD (.bool a) (.bool b) = some (.bool (decide (a = b))) := rfl
@[simp] theorem isntD_bool (a b : Bool) : isntD (.bool a) (.bool b) = some (.bool (!decide (a = b))) := rfl
@[simp] theorem isNone_none : isNone .none = true := rfl
@[simp] theorem isNone_tuple (ds : List D) : isNone (.tuple ds) = false := rfl
@[simp] theorem isNone_list (ds : List D) : isNone (.list ds) = false := rfl
@[simp] theorem isNone_int (i : Int) : isNone (.int i) = false := rfl
@[simp] theorem lenF_list (ds : List D) : lenF [.list ds] = some (.int ds.length) := rfl
@[simp] theorem lenF_tuple (ds : List D) : lenF [.tuple ds] = some (.int ds.length) := rfl
@[simp] theorem absF_int (i : Int) : absF [.int i] = some (.int i.natAbs) := rfl
@[simp] theorem intF_int (i : Int) : intF [.int i] = some (.int i) := rfl
@[simp] theorem tupF_list (ds : List D) : tupF [.list ds] = some (.tuple ds) := rfl
@[simp] theorem tupF_tuple (ds : List D) : tupF [.tuple ds] = some (.tuple ds) := rfl
@[simp] theorem maxF_int (i j : Int) : maxF [.int i, .int j] = some (.int (max i j)) := rfl
@[simp] theorem minF_int (i j : Int) : minF [.int i, .int j] = some (.int (min i j)) := rfl
@[simp] theorem allF_list (ds : List D) : allF [.list ds] = (bools ds).map fun bs => .bool (bs.all id) := rfl
@[simp] theorem bools_nil : bools [] = some [] := rfl
@[simp] theorem bools_cons (b : Bool) (r : List D) : bools (.bool b :: r) = (bools r).map (b :: ·) := rfl
theorem atI_nat {xs : List α} {j : Nat} : L2.atI xs (j : Int) = xs[j]? := by
  unfold L2.atI L2.ixN
  rw [if_pos (Int.natCast_nonneg j)]
  by_cases h : (j : Int) < xs.length
  · rw [if_pos h]; rfl
  · rw [if_neg h, List.getElem?_eq_none_iff.mpr (by omega)]; rfl
@[simp] theorem atI_zero (x : α) (xs : List α) : L2.atI (x :: xs) 0 = some x := atI_nat (j := 0)
@[simp] theorem atI_one (x y : α) (xs : List α) : L2.atI (x :: y :: xs) 1 = some y := atI_nat (j := 1)
@[simp] theorem atI_two (x y z : α) (xs : List α) : L2.atI (x :: y :: z :: xs) 2 = some z := atI_nat (j := 2)
@[simp] theorem ixD_tuple (xs : List D) (i : Int) : ixD (.tuple xs) (.int i) = L2.atI xs i := rfl
@[simp] theorem ixD_list (xs : List D) (i : Int) : ixD (.list xs) (.int i) = L2.atI xs i := rfl
theorem small_line {n : Nat} (h : n ≤ 100000) : n ≤ sizeLine := by rw [sizeLine_eq]; omega
theorem small_line' {n : Nat} (h : n < 100000) : n < sizeLine := by rw [sizeLine_eq]; omega
@[simp] theorem tupG_def (g : Ev → LS → Out (List D)) (env : Ev) (s : LS) : tupG g env s = (g env s).bind fun ds s => if ds.length ≤ sizeLine then .ok (.tuple ds) s else .bad := rfl
@[simp] theorem lstG_def (g : Ev → LS → Out (List D)) (env : Ev) (s : LS) : lstG g env s = (g env s).bind fun ds s => if ds.length ≤ sizeLine then .ok ds s else .bad := rfl
@[simp] theorem line0 : 0 ≤ sizeLine := Nat.zero_le _
@[simp] theorem line1 : 1 ≤ sizeLine := small_line (by decide)
@[simp] theorem line2 : 2 ≤ sizeLine := small_line (by decide)
@[simp] theorem line3 : 3 ≤ sizeLine := small_line (by decide)
@[simp] theorem line4 : 4 ≤ sizeLine := small_line (by decide)
@[simp] theorem line5 : 5 ≤ sizeLine := small_line (by decide)
@[simp] theorem rng1_def (g : Ev → LS → Out D) (env : Ev) (s : LS) : rng1 g env s = (g env s).bind fun d s => match d with
  | .int j => if rngB j then .ok (rangeL 0 j.toNat) s else .bad
  | _ => .bad := rfl
@[simp] theorem rng2_def (ga gb : Ev → LS → Out D) (env : Ev) (s : LS) : rng2 ga gb env s = (ga env s).bind fun x s => (gb env s).bind fun y s => match x, y with
  | .int i, .int j => if rngB i ∧ rngB j then .ok (rangeL i (j - i).toNat) s else .bad
  | _, _ => .bad := rfl
@[simp] theorem rngD_def (ga gb gc : Ev → LS → Out D) (env : Ev) (s : LS) : rngD ga gb gc env s = (ga env s).bind fun x s => (gb env s).bind fun y s => (gc env s).bind fun z s => match x, y, z with
  | .int i, .int j, .int c => if rngB i ∧ rngB j ∧ c = -1 then .ok (downL i (i - j).toNat) s else .bad
  | _, _, _ => .bad := rfl
@[simp] theorem repG_def (ga : Ev → LS → Out (List D)) (gb : Ev → LS → Out D) (env : Ev) (s : LS) : repG ga gb env s = (ga env s).bind fun ds s => (gb env s).bind fun d s => lift (repL ds d) s := rfl
@[simp] theorem catG_def (ga gb : Ev → LS → Out D) (env : Ev) (s : LS) : catG ga gb env s = (ga env s).bind fun x s => (gb env s).bind fun y s => match x, y with
  | .list xs, .list ys => if xs.length + ys.length ≤ sizeLine then .ok (xs ++ ys) s else .bad
  | _, _ => .bad := rfl
theorem run_rt {n : Nat} {g : Ev → LS → SOut} {args : List EV} {s s' : LS} {d : D} (h : g (args ++ List.replicate (n - args.length) .un) s = .rt d s') : DS.run n g args s = .ok d s' := by unfold DS.run; rw [h]
theorem run_err {n : Nat} {g : Ev → LS → SOut} {args : List EV} {s s' : LS} {x : Exn} {e : Ev} (h : g (args ++ List.replicate (n - args.length) .un) s = .err x e s') : DS.run n g args s = .err x s' := by unfold DS.run; rw [h]
@[simp] theorem run_def (n : Nat) (g : Ev → LS → SOut) (args : List EV) (s : LS) : DS.run n g args s = match g (args ++ List.replicate (n - args.length) .un) s with
  | .nx _ s => .ok .none s
  | .rt d s => .ok d s
  | .err x _ s => .err x s
  | _ => .bad := rfl
@[simp] theorem whileG_def (fuel : Ev → LS → Nat) (gc : Ev → LS → Out Bool) (gb : Ev → LS → SOut) (env : Ev) (s : LS) : whileG fuel gc gb env s = whileD gc gb (fuel env s) env s := rfl
theorem whileD_succ (gc : Ev → LS → Out Bool) (gb : Ev → LS → SOut) (n : Nat) (env : Ev) (s : LS) : whileD gc gb (n + 1) env s = evS (gc env s) env fun b s => if b then match gb env s with
      | .nx e s => whileD gc gb n e s
      | .ct e s => whileD gc gb n e s
      | .bk e s => .nx e s
      | o => o
    else .nx env s := rfl
end DS
end

section
set_option linter.all false
set_option maxRecDepth 100000
set_option autoImplicit false
namespace NW
open PySem
open DS

def fu_divisor_1 : Ev → LS → Nat := fuI 1
def g_divisor : Ev → LS → SOut := (seqD (par2 0 1 (asSh (callB absF (consG (varW 0) nilG))) (asSh (callB absF (consG (varW 1) nilG))))
  (seqD (whileG fu_divisor_1 (tst2 neD (varW 1) (cD (.int 0))) (par2 0 1 (asSh (varD 1)) (asSh (op2 modD (varW 0) (varW 1)))))
  (retD (varD 0))))
def m_divisor : List EV → LS → Out D := run 2 g_divisor
def g_part : Ev → LS → SOut := (seqD (ifD (tst2 ltD (varW 1) (cD (.int 0))) (par2 0 1 (asSh (op2 subD (cD (.int 0)) (varW 0))) (asSh (op2 subD (cD (.int 0)) (varW 1)))) nopD)
  (seqD (setD 2 (asSh (callG m_divisor (consG (varX 0) (consG (varX 1) nilG)))))
  (retD (tupG (consG (op2 fdivD (varW 0) (varW 2)) (consG (op2 fdivD (varW 1) (varW 2)) nilG))))))
def m_part : List EV → LS → Out D := run 3 g_part
def g_is_part : Ev → LS → SOut := (seqD (ifD (orB (notB (tst (isiG isTup (varW 0)))) (tst2 neD (callB lenF (consG (varW 0) nilG)) (cD (.int 2)))) (retD (cD (.bool false))) nopD)
  (seqD (ifD (notB (tst (callB allF (consG (asLst (lcG (.nm 1) [1] (itemG (varD 0)) yesB (andD (isiG isInt (varW 1)) (notD (isiG isBool (varW 1)))))) nilG)))) (retD (cD (.bool false))) nopD)
  (retD (andD (op2 geD (op2 ixD (varW 0) (cD (.int 1))) (cD (.int 1))) (op2 eqD (callG m_divisor (consG (asSh (op2 ixD (varW 0) (cD (.int 0)))) (consG (asSh (op2 ixD (varW 0) (cD (.int 1)))) nilG))) (cD (.int 1)))))))
def m_is_part : List EV → LS → Out D := run 2 g_is_part
def g_plus : Ev → LS → SOut := (retD (callG m_part (consG (asSh (op2 addD (op2 mulD (op2 ixD (varW 0) (cD (.int 0))) (op2 ixD (varW 1) (cD (.int 1)))) (op2 mulD (op2 ixD (varW 1) (cD (.int 0))) (op2 ixD (varW 0) (cD (.int 1)))))) (consG (asSh (op2 mulD (op2 ixD (varW 0) (cD (.int 1))) (op2 ixD (varW 1) (cD (.int 1))))) nilG))))
def m_plus : List EV → LS → Out D := run 2 g_plus
def g_minus : Ev → LS → SOut := (retD (callG m_part (consG (asSh (op2 subD (op2 mulD (op2 ixD (varW 0) (cD (.int 0))) (op2 ixD (varW 1) (cD (.int 1)))) (op2 mulD (op2 ixD (varW 1) (cD (.int 0))) (op2 ixD (varW 0) (cD (.int 1)))))) (consG (asSh (op2 mulD (op2 ixD (varW 0) (cD (.int 1))) (op2 ixD (varW 1) (cD (.int 1))))) nilG))))
def m_minus : List EV → LS → Out D := run 2 g_minus
def g_times : Ev → LS → SOut := (retD (callG m_part (consG (asSh (op2 mulD (op2 ixD (varW 0) (cD (.int 0))) (op2 ixD (varW 1) (cD (.int 0))))) (consG (asSh (op2 mulD (op2 ixD (varW 0) (cD (.int 1))) (op2 ixD (varW 1) (cD (.int 1))))) nilG))))
def m_times : List EV → LS → Out D := run 2 g_times
def g_over : Ev → LS → SOut := (retD (callG m_part (consG (asSh (op2 mulD (op2 ixD (varW 0) (cD (.int 0))) (op2 ixD (varW 1) (cD (.int 1))))) (consG (asSh (op2 mulD (op2 ixD (varW 0) (cD (.int 1))) (op2 ixD (varW 1) (cD (.int 0))))) nilG))))
def m_over : List EV → LS → Out D := run 2 g_over
def g_is_less : Ev → LS → SOut := (retD (op2 ltD (op2 mulD (op2 ixD (varW 0) (cD (.int 0))) (op2 ixD (varW 1) (cD (.int 1)))) (op2 mulD (op2 ixD (varW 1) (cD (.int 0))) (op2 ixD (varW 0) (cD (.int 1))))))
def m_is_less : List EV → LS → Out D := run 2 g_is_less
def g_total : Ev → LS → SOut := (seqD (setD 1 (asSh (tupG (consG (cD (.int 0)) (consG (cD (.int 1)) nilG)))))
  (seqD (forG (.nm 2) (itemG (varD 0)) (setD 1 (asSh (callG m_plus (consG (varX 1) (consG (varX 2) nilG))))))
  (retD (varD 1))))
def m_total : List EV → LS → Out D := run 3 g_total
def g_least_of : Ev → LS → SOut := (seqD (setD 1 (asSh (cD .none)))
  (seqD (forG (.nm 2) (itemG (varD 0)) (ifD (orB (tst2 isD (varW 1) (cD .none)) (tst (callG m_is_less (consG (varX 2) (consG (varX 1) nilG))))) (setD 1 (asSh (varD 2))) nopD))
  (retD (varD 1))))
def m_least_of : List EV → LS → Out D := run 3 g_least_of
def g_whole_below : Ev → LS → SOut := (retD (op2 fdivD (op2 ixD (varW 0) (cD (.int 0))) (op2 ixD (varW 0) (cD (.int 1)))))
def m_whole_below : List EV → LS → Out D := run 1 g_whole_below
def g_whole_above : Ev → LS → SOut := (retD (op2 subD (cD (.int 0)) (op2 fdivD (op2 subD (cD (.int 0)) (op2 ixD (varW 0) (cD (.int 0)))) (op2 ixD (varW 0) (cD (.int 1))))))
def m_whole_above : List EV → LS → Out D := run 1 g_whole_above
def g_is_whole_part : Ev → LS → SOut := (retD (op2 eqD (op2 ixD (varW 0) (cD (.int 1))) (cD (.int 1))))
def m_is_whole_part : List EV → LS → Out D := run 1 g_is_whole_part
def g_are_parts : Ev → LS → SOut := (retD (andD (isiG isTup (varW 0)) (andD (op2 eqD (callB lenF (consG (varW 0) nilG)) (varW 1)) (callB allF (consG (asLst (lcG (.nm 2) [2] (itemG (varD 0)) yesB (callG m_is_part (consG (varX 2) nilG)))) nilG)))))
def m_are_parts : List EV → LS → Out D := run 3 g_are_parts
def g_scaled : Ev → LS → SOut := (seqD (setD 1 (asSh (cD (.int 1))))
  (seqD (forG (.nm 2) (itemG (varD 0)) (setD 1 (asSh (op2 fdivD (op2 mulD (varW 1) (op2 ixD (varW 2) (cD (.int 1)))) (callG m_divisor (consG (varX 1) (consG (asSh (op2 ixD (varW 2) (cD (.int 1)))) nilG)))))))
  (seqD (frzA 3 (setD 3 (asOw (lcG (.nm 2) [2] (itemG (varD 0)) yesB (op2 mulD (op2 ixD (varW 2) (cD (.int 0))) (op2 fdivD (varW 1) (op2 ixD (varW 2) (cD (.int 1)))))))))
  (seqD (setD 4 (asSh (cD (.int 0))))
  (seqD (forG (.nm 5) (itemG (varD 3)) (setD 4 (asSh (callG m_divisor (consG (varX 4) (consG (varX 5) nilG))))))
  (retD (ifG (tst2 eqD (varW 4) (cD (.int 0))) (callB tupF (consG (varW 3) nilG)) (callB tupF (consG (asLst (lcG (.nm 5) [5] (itemG (varD 3)) yesB (op2 fdivD (varW 5) (varW 4)))) nilG)))))))))
def m_scaled : List EV → LS → Out D := run 6 g_scaled
def g_dot : Ev → LS → SOut := (retD (callG m_total (consG (asSh (asLst (lcG (.nm 2) [2] (rng1 (callB lenF (consG (varW 0) nilG))) yesB (callG m_times (consG (asSh (op2 ixD (varW 1) (varD 2))) (consG (asSh (tupG (consG (op2 ixD (varW 0) (varD 2)) (consG (cD (.int 1)) nilG)))) nilG)))))) nilG)))
def m_dot : List EV → LS → Out D := run 3 g_dot
end NW
end

section
set_option linter.all false
set_option maxRecDepth 100000
set_option autoImplicit false
namespace NW
open PySem
open DS

def g__law_pick : Ev → LS → SOut := (retD (op2 ixD (varW 1) (callG m__law_take (consG (varX 0) (consG (asSh (callB lenF (consG (varW 1) nilG))) nilG)))))
def m__law_pick : List EV → LS → Out D := run 2 g__law_pick
def g__law_fr : Ev → LS → SOut := (seqD (ifD (tst2 ltD (varW 1) (cD (.int 0))) (par2 0 1 (asSh (op2 subD (cD (.int 0)) (varW 0))) (asSh (op2 subD (cD (.int 0)) (varW 1)))) nopD)
  (seqD (par2 2 3 (asSh (callB absF (consG (varW 0) nilG))) (asSh (varD 1)))
  (seqD (forG (.nm 4) (rng1 (cD (.int 4000))) (seqD (ifD (tst2 eqD (varW 3) (cD (.int 0))) brkD nopD)
  (par2 2 3 (asSh (varD 3)) (asSh (op2 modD (callB intF (consG (varW 2) nilG)) (varW 3))))))
  (retD (tupG (consG (op2 fdivD (varW 0) (varW 2)) (consG (op2 fdivD (varW 1) (varW 2)) nilG)))))))
def m__law_fr : List EV → LS → Out D := run 5 g__law_fr
def g__law_is_fr : Ev → LS → SOut := (seqD (ifD (orB (notB (tst (isiG isTup (varW 0)))) (orB (tst2 neD (callB lenF (consG (varW 0) nilG)) (cD (.int 2))) (tst2 gtD (callB lenF (consG (asLst (lcG (.nm 1) [1] (itemG (varD 0)) (orB (notB (tst (isiG isInt (varW 1)))) (tst (isiG isBool (varW 1)))) (varD 1))) nilG)) (cD (.int 0))))) (retD (cD (.bool false))) nopD)
  (retD (andD (op2 geD (op2 ixD (varW 0) (cD (.int 1))) (cD (.int 1))) (op2 eqD (callG m__law_fr (consG (asSh (op2 ixD (varW 0) (cD (.int 0)))) (consG (asSh (op2 ixD (varW 0) (cD (.int 1)))) nilG))) (varW 0)))))
def m__law_is_fr : List EV → LS → Out D := run 2 g__law_is_fr
def g__law_are_frs : Ev → LS → SOut := (retD (andD (isiG isTup (varW 0)) (andD (op2 eqD (callB lenF (consG (varW 0) nilG)) (varW 1)) (op2 eqD (callB lenF (consG (asLst (lcG (.nm 2) [2] (itemG (varD 0)) (notB (tst (callG m__law_is_fr (consG (varX 2) nilG)))) (varD 2))) nilG)) (cD (.int 0))))))
def m__law_are_frs : List EV → LS → Out D := run 3 g__law_are_frs
def g__law_add : Ev → LS → SOut := (retD (callG m__law_fr (consG (asSh (op2 addD (op2 mulD (op2 ixD (varW 0) (cD (.int 0))) (op2 ixD (varW 1) (cD (.int 1)))) (op2 mulD (op2 ixD (varW 1) (cD (.int 0))) (op2 ixD (varW 0) (cD (.int 1)))))) (consG (asSh (op2 mulD (op2 ixD (varW 0) (cD (.int 1))) (op2 ixD (varW 1) (cD (.int 1))))) nilG))))
def m__law_add : List EV → LS → Out D := run 2 g__law_add
def g__law_mul : Ev → LS → SOut := (retD (callG m__law_fr (consG (asSh (op2 mulD (op2 ixD (varW 0) (cD (.int 0))) (op2 ixD (varW 1) (cD (.int 0))))) (consG (asSh (op2 mulD (op2 ixD (varW 0) (cD (.int 1))) (op2 ixD (varW 1) (cD (.int 1))))) nilG))))
def m__law_mul : List EV → LS → Out D := run 2 g__law_mul
def g__law_sub : Ev → LS → SOut := (retD (callG m__law_add (consG (varX 0) (consG (asSh (tupG (consG (op2 subD (cD (.int 0)) (op2 ixD (varW 1) (cD (.int 0)))) (consG (op2 ixD (varW 1) (cD (.int 1))) nilG)))) nilG))))
def m__law_sub : List EV → LS → Out D := run 2 g__law_sub
def g__law_sign : Ev → LS → SOut := (seqD (setD 2 (asSh (op2 subD (op2 mulD (op2 ixD (varW 0) (cD (.int 0))) (op2 ixD (varW 1) (cD (.int 1)))) (op2 mulD (op2 ixD (varW 1) (cD (.int 0))) (op2 ixD (varW 0) (cD (.int 1)))))))
  (retD (ifG (tst2 eqD (varW 2) (cD (.int 0))) (cD (.int 0)) (ifG (tst2 gtD (varW 2) (cD (.int 0))) (cD (.int 1)) (op1 negI (cD (.int 1)))))))
def m__law_sign : List EV → LS → Out D := run 3 g__law_sign
end NW
end

section
set_option linter.all false
set_option autoImplicit false
namespace NW
open PySem hiding run
open DS
/-- a part -/
def R (q : Rat) : D := .tuple [.int q.num, .int q.den]
theorem R_def (q : Rat) : R q = .tuple [.int q.num, .int q.den] := rfl
theorem R_inj {p q : Rat} (h : R p = R q) : p = q := by
  unfold R at h
  injection h with h
  injection h with h1 h2
  injection h2 with h2 _
  injection h1 with h1
  injection h2 with h2
  exact Rat.ext h1 (by omega)
/-! ### the greatest common divisor by Euclid -/
theorem log2_le_of_le {a b : Nat} (h : a ≤ b) (hb : b.log2 < 9000) : a.log2 < 9000 := by
  by_cases z : a = 0
  · subst z; decide
  · have hb0 : b ≠ 0 := by omega
    have h1 := (Nat.log2_lt hb0).mp hb
    exact (Nat.log2_lt z).mpr (Nat.lt_of_le_of_lt h h1)
theorem fmod_nat (a b : Nat) : (a : Int).fmod b = ((a % b : Nat) : Int) := by
  rw [Int.fmod_eq_emod_of_nonneg _ (by omega)]
  rfl
theorem gcd_step (a b : Nat) : b.gcd (a % b) = a.gcd b := by
  rw [Nat.gcd_comm a b, Nat.gcd_rec b a, Nat.gcd_comm]
theorem euclid_while : ∀ (n : Nat) (a b : Nat) (s : LS), b < n →
    whileD (tst2 neD (varW 1) (cD (.int 0))) (par2 0 1 (asSh (varD 1)) (asSh (op2 modD (varW 0) (varW 1)))) n [.sh (.int a), .sh (.int b)] s = .nx [.sh (.int (a.gcd b : Nat)), .sh (.int 0)] s
  | 0, a, b, s, h => absurd h (Nat.not_lt_zero _)
  | n + 1, a, b, s, h => by
    rw [whileD_succ]
    by_cases hb : b = 0
    · subst hb
      simp
    · have hb' : ((b : Int) != 0) = true := by simpa using hb
      have hb2 : (b : Int) ≠ 0 := by omega
      have ih := euclid_while n b (a % b) s (by have := Nat.mod_lt a (show b > 0 by omega); omega)
      simp only [tst2_def, op2_def, varW_def, cD_def, List.getElem?_cons_succ, List.getElem?_cons_zero, bind_ok, neD_int, lift_some, asB_bool, evS_ok, hb', if_true, par2_def, asSh_def, varD_def, modD_int hb2, fmod_nat, List.set_cons_zero, List.set_cons_succ]
      rw [ih, gcd_step]
theorem m_divisor_eq (a b : Int) (s : LS) : m_divisor [.sh (.int a), .sh (.int b)] s = .ok (.int (a.gcd b : Nat)) s := by
  unfold m_divisor g_divisor
  refine run_rt ?_
  rw [seqD_nx (e := [.sh (.int (a.natAbs : Nat)), .sh (.int (b.natAbs : Nat))]) (s1 := s) (by simp)]
  rw [seqD_nx (e := [.sh (.int (a.gcd b : Nat)), .sh (.int 0)]) (s1 := s)]
  · simp
  · rw [whileG_def]
    exact euclid_while _ a.natAbs b.natAbs s (by simp [fuI, fu_divisor_1])
/-! ### a part made of two integers -/
theorem fdiv_nat_dvd {a : Int} {b : Nat} (hb : b ≠ 0) : a.fdiv b = a / b := by
  rw [Int.fdiv_eq_ediv_of_nonneg _ (by omega)]
theorem R_divInt_pos {a : Int} {b : Nat} (hb : b ≠ 0) : R (Rat.divInt a b) = .tuple [.int (a / (a.gcd b : Nat)), .int ((b : Int) / (a.gcd b : Nat))] := by
  unfold R
  have e : Rat.divInt a b = Rat.normalize a b hb := by
    rw [Rat.divInt_ofNat]
    exact (Rat.normalize_eq_mkRat hb).symm
  rw [e, Rat.normalize_eq hb]
  simp [Int.gcd]
theorem m_part_eq (a b : Int) (s : LS) (hb : b ≠ 0) (hz : b.natAbs.log2 < 9000) : m_part [.sh (.int a), .sh (.int b)] s = .ok (R (Rat.divInt a b)) s := by
  have key : ∀ (a b : Int), 0 < b → b.natAbs.log2 < 9000 → ∀ s, (seqD (setD 2 (asSh (callG m_divisor (consG (varX 0) (consG (varX 1) nilG)))))
      (retD (tupG (consG (op2 fdivD (varW 0) (varW 2)) (consG (op2 fdivD (varW 1) (varW 2)) nilG))))) [.sh (.int a), .sh (.int b), .un] s = .rt (R (Rat.divInt a b)) s := by
    intro a b hb hz s
    obtain ⟨n, rfl⟩ : ∃ n : Nat, b = n := ⟨b.toNat, by omega⟩
    have hn : n ≠ 0 := by omega
    have hg0 : a.gcd n ≠ 0 := fun z => by
      have := Int.gcd_eq_zero_iff.mp z
      omega
    have hgle : a.gcd n ≤ n := Int.gcd_le_natAbs_right a (by omega : (n : Int) ≠ 0) |> fun h => by simpa using h
    have hgz : ((a.gcd n : Nat) : Int).natAbs.log2 < 9000 := log2_le_of_le (by simpa using hgle) (by simpa using hz)
    have hg1 : ((a.gcd n : Nat) : Int) ≠ 0 := by omega
    rw [R_divInt_pos hn]
    simp [m_divisor_eq, fdivD_int hg1 hgz, fdiv_nat_dvd hg0]
  unfold m_part g_part
  refine run_rt ?_
  by_cases hneg : b < 0
  · have k := key (-a) (-b) (by omega) (by simpa using hz) s
    have e : Rat.divInt (-a) (-b) = Rat.divInt a b := by
      rw [Rat.neg_divInt_neg]
    rw [e] at k
    rw [seqD_nx (e := [.sh (.int (-a)), .sh (.int (-b)), .un]) (s1 := s) (by simp [hneg])]
    exact k
  · rw [seqD_nx (e := [.sh (.int a), .sh (.int b), .un]) (s1 := s) (by simp [hneg])]
    exact key a b (by omega) hz s
/-! ### sizes -/
/-- above and below are less than 2 ^ k -/
def Sz (k : Nat) (q : Rat) : Prop := q.num.natAbs < 2 ^ k ∧ q.den < 2 ^ k
theorem Sz.mono {k l : Nat} {q : Rat} (h : Sz k q) (hl : k ≤ l) : Sz l q := by
  have := Nat.pow_le_pow_right (show 2 > 0 by decide) hl
  exact ⟨Nat.lt_of_lt_of_le h.1 this, Nat.lt_of_lt_of_le h.2 this⟩
theorem log2_of_lt {n k m : Nat} (h : n < 2 ^ k) (hk : k ≤ m) (hm : 0 < m) : n.log2 < m := by
  by_cases z : n = 0
  · subst z; simpa using hm
  · exact Nat.lt_of_lt_of_le ((Nat.log2_lt z).mpr h) hk
theorem mul_lt_pow {a b k l : Nat} (h1 : a < 2 ^ k) (h2 : b < 2 ^ l) : a * b < 2 ^ (k + l) := by
  rw [Nat.pow_add]
  exact Nat.mul_lt_mul'' h1 h2
theorem mulOk_of {i j : Int} {k l : Nat} (h1 : i.natAbs < 2 ^ k) (h2 : j.natAbs < 2 ^ l) (h : k + l ≤ 900000) : mulOk i j := by
  refine .inr (.inr ?_)
  have a := log2_of_lt h1 (Nat.le_succ k) (Nat.succ_pos k)
  have b := log2_of_lt h2 (Nat.le_succ l) (Nat.succ_pos l)
  omega
theorem num_divInt_le (a : Int) {b : Int} (hb : b ≠ 0) : (Rat.divInt a b).num.natAbs ≤ a.natAbs ∧ (Rat.divInt a b).den ≤ b.natAbs := by
  refine ⟨?_, ?_⟩
  · rw [Rat.num_divInt]
    refine Nat.le_trans (Int.natAbs_ediv_le_natAbs _ _) ?_
    rw [Int.natAbs_mul]
    have : b.sign.natAbs ≤ 1 := by
      rcases Int.lt_trichotomy b 0 with h | h | h
      · rw [Int.sign_eq_neg_one_of_neg h]; decide
      · exact absurd h hb
      · rw [Int.sign_eq_one_of_pos h]; decide
    calc b.sign.natAbs * a.natAbs ≤ 1 * a.natAbs := Nat.mul_le_mul_right _ this
      _ = a.natAbs := Nat.one_mul _
  · rw [Rat.den_divInt, if_neg hb]
    exact Nat.div_le_self _ _
theorem Sz.divInt {a b : Int} {k : Nat} (hb : b ≠ 0) (h1 : a.natAbs < 2 ^ k) (h2 : b.natAbs < 2 ^ k) : Sz k (Rat.divInt a b) :=
  ⟨Nat.lt_of_le_of_lt (num_divInt_le a hb).1 h1, Nat.lt_of_le_of_lt (num_divInt_le a hb).2 h2⟩
theorem add_eq_divInt (p q : Rat) : p + q = Rat.divInt (p.num * q.den + q.num * p.den) (p.den * q.den) := by
  rw [← Rat.divInt_add_divInt _ _ (by exact_mod_cast p.den_nz) (by exact_mod_cast q.den_nz), Rat.num_divInt_den, Rat.num_divInt_den]
theorem sub_eq_divInt (p q : Rat) : p - q = Rat.divInt (p.num * q.den - q.num * p.den) (p.den * q.den) := by
  rw [← Rat.divInt_sub_divInt _ _ (by exact_mod_cast p.den_nz) (by exact_mod_cast q.den_nz), Rat.num_divInt_den, Rat.num_divInt_den]
theorem mul_eq_divInt (p q : Rat) : p * q = Rat.divInt (p.num * q.num) (p.den * q.den) := by
  rw [← Rat.divInt_mul_divInt, Rat.num_divInt_den, Rat.num_divInt_den]
theorem div_eq_divInt (p q : Rat) : p / q = Rat.divInt (p.num * q.den) (p.den * q.num) := by
  rw [Rat.div_def, ← Rat.divInt_mul_divInt, Rat.num_divInt_den, ← Rat.inv_divInt, Rat.num_divInt_den]
theorem den_ne (q : Rat) : (q.den : Int) ≠ 0 := by exact_mod_cast q.den_nz
theorem dens_ne (p q : Rat) : (p.den : Int) * q.den ≠ 0 := Int.mul_ne_zero (den_ne p) (den_ne q)
variable {k l : Nat} {p q : Rat}
theorem add_nums (hp : Sz k p) (hq : Sz l q) : (p.num * q.den + q.num * p.den).natAbs < 2 ^ (k + l + 1) ∧ (p.num * q.den - q.num * p.den).natAbs < 2 ^ (k + l + 1) := by
  have a : (p.num * q.den).natAbs < 2 ^ (k + l) := by rw [Int.natAbs_mul]; exact mul_lt_pow hp.1 hq.2
  have b : (q.num * p.den).natAbs < 2 ^ (k + l) := by rw [Int.natAbs_mul, Nat.add_comm]; exact mul_lt_pow hq.1 hp.2
  rw [Nat.pow_succ]
  omega
theorem mul_dens (hp : Sz k p) (hq : Sz l q) : ((p.den : Int) * q.den).natAbs < 2 ^ (k + l) := by rw [Int.natAbs_mul]; exact mul_lt_pow hp.2 hq.2
theorem pow_le_succ (n : Nat) : 2 ^ n ≤ 2 ^ (n + 1) := Nat.pow_le_pow_right (by decide) (Nat.le_succ n)
theorem Sz.add (hp : Sz k p) (hq : Sz l q) : Sz (k + l + 1) (p + q) := by
  rw [add_eq_divInt]
  exact Sz.divInt (dens_ne p q) (add_nums hp hq).1 (Nat.lt_of_lt_of_le (mul_dens hp hq) (pow_le_succ _))
theorem Sz.sub (hp : Sz k p) (hq : Sz l q) : Sz (k + l + 1) (p - q) := by
  rw [sub_eq_divInt]
  exact Sz.divInt (dens_ne p q) (add_nums hp hq).2 (Nat.lt_of_lt_of_le (mul_dens hp hq) (pow_le_succ _))
theorem Sz.mul (hp : Sz k p) (hq : Sz l q) : Sz (k + l) (p * q) := by
  rw [mul_eq_divInt]
  exact Sz.divInt (dens_ne p q) (by rw [Int.natAbs_mul]; exact mul_lt_pow hp.1 hq.1) (mul_dens hp hq)
theorem Sz.neg (hp : Sz k p) : Sz k (-p) := ⟨by rw [Rat.neg_num, Int.natAbs_neg]; exact hp.1, by rw [Rat.neg_den]; exact hp.2⟩
/-! ### the program's reckoning -/
theorem ok_of {i j : Int} {a b : Nat} (h1 : i.natAbs < 2 ^ a) (h2 : j.natAbs < 2 ^ b) (h : a + b ≤ 8999) : mulD (.int i) (.int j) = some (.int (i * j)) := mulD_int (mulOk_of h1 h2 (by omega))
theorem nat_abs_lt {n k : Nat} (h : n < 2 ^ k) : (n : Int).natAbs < 2 ^ k := by simpa using h
theorem m_plus_eq (hp : Sz k p) (hq : Sz l q) (h : k + l ≤ 8999) (s : LS) : m_plus [.sh (R p), .sh (R q)] s = .ok (R (p + q)) s := by
  have h1 : mulD (.int p.num) (.int q.den) = some (.int (p.num * q.den)) := ok_of hp.1 (nat_abs_lt hq.2) h
  have h2 : mulD (.int q.num) (.int p.den) = some (.int (q.num * p.den)) := ok_of hq.1 (nat_abs_lt hp.2) (by omega)
  have h3 : mulD (.int p.den) (.int q.den) = some (.int (p.den * q.den)) := ok_of (nat_abs_lt hp.2) (nat_abs_lt hq.2) h
  have e := m_part_eq (p.num * q.den + q.num * p.den) (p.den * q.den) s (dens_ne p q) (log2_of_lt (mul_dens hp hq) (by omega) (by omega))
  rw [R_def p, R_def q, add_eq_divInt p q]
  unfold m_plus g_plus
  simp -implicitDefEqProofs [h1, h2, h3, e]
theorem m_minus_eq (hp : Sz k p) (hq : Sz l q) (h : k + l ≤ 8999) (s : LS) : m_minus [.sh (R p), .sh (R q)] s = .ok (R (p - q)) s := by
  have h1 : mulD (.int p.num) (.int q.den) = some (.int (p.num * q.den)) := ok_of hp.1 (nat_abs_lt hq.2) h
  have h2 : mulD (.int q.num) (.int p.den) = some (.int (q.num * p.den)) := ok_of hq.1 (nat_abs_lt hp.2) (by omega)
  have h3 : mulD (.int p.den) (.int q.den) = some (.int (p.den * q.den)) := ok_of (nat_abs_lt hp.2) (nat_abs_lt hq.2) h
  have e := m_part_eq (p.num * q.den - q.num * p.den) (p.den * q.den) s (dens_ne p q) (log2_of_lt (mul_dens hp hq) (by omega) (by omega))
  rw [R_def p, R_def q, sub_eq_divInt p q]
  unfold m_minus g_minus
  simp -implicitDefEqProofs [h1, h2, h3, e]
theorem m_times_eq (hp : Sz k p) (hq : Sz l q) (h : k + l ≤ 8999) (s : LS) : m_times [.sh (R p), .sh (R q)] s = .ok (R (p * q)) s := by
  have h1 : mulD (.int p.num) (.int q.num) = some (.int (p.num * q.num)) := ok_of hp.1 hq.1 h
  have h3 : mulD (.int p.den) (.int q.den) = some (.int (p.den * q.den)) := ok_of (nat_abs_lt hp.2) (nat_abs_lt hq.2) h
  have e := m_part_eq (p.num * q.num) (p.den * q.den) s (dens_ne p q) (log2_of_lt (mul_dens hp hq) (by omega) (by omega))
  rw [R_def p, R_def q, mul_eq_divInt p q]
  unfold m_times g_times
  simp -implicitDefEqProofs [h1, h3, e]
theorem num_ne {q : Rat} (h : q ≠ 0) : q.num ≠ 0 := fun z => h (Rat.num_eq_zero.mp z)
theorem m_over_eq (hp : Sz k p) (hq : Sz l q) (hz : q ≠ 0) (h : k + l ≤ 8999) (s : LS) : m_over [.sh (R p), .sh (R q)] s = .ok (R (p / q)) s := by
  have h1 : mulD (.int p.num) (.int q.den) = some (.int (p.num * q.den)) := ok_of hp.1 (nat_abs_lt hq.2) h
  have h3 : mulD (.int p.den) (.int q.num) = some (.int (p.den * q.num)) := ok_of (nat_abs_lt hp.2) hq.1 h
  have hd : ((p.den : Int) * q.num).natAbs < 2 ^ (k + l) := by rw [Int.natAbs_mul]; exact mul_lt_pow hp.2 hq.1
  have e := m_part_eq (p.num * q.den) (p.den * q.num) s (Int.mul_ne_zero (den_ne p) (num_ne hz)) (log2_of_lt hd (by omega) (by omega))
  rw [R_def p, R_def q, div_eq_divInt p q]
  unfold m_over g_over
  simp -implicitDefEqProofs [h1, h3, e]
theorem m_is_less_eq (hp : Sz k p) (hq : Sz l q) (h : k + l ≤ 8999) (s : LS) : m_is_less [.sh (R p), .sh (R q)] s = .ok (.bool (decide (p < q))) s := by
  have h1 : mulD (.int p.num) (.int q.den) = some (.int (p.num * q.den)) := ok_of hp.1 (nat_abs_lt hq.2) h
  have h2 : mulD (.int q.num) (.int p.den) = some (.int (q.num * p.den)) := ok_of hq.1 (nat_abs_lt hp.2) (by omega)
  rw [R_def p, R_def q]
  unfold m_is_less g_is_less
  simp [h1, h2, Rat.lt_iff]
end NW
end

section
set_option linter.all false
set_option autoImplicit false
namespace NW
open PySem hiding run
open DS
/-! ## the older laws' own reckoning: Euclid by a for of written length -/
abbrev frBody (i j k l : Nat) : Ev → LS → SOut := seqD (ifD (tst2 eqD (varW j) (cD (.int 0))) brkD nopD) (par2 k l (asSh (varD j)) (asSh (op2 modD (callB intF (consG (varW i) nilG)) (varW j))))
theorem frBody_zero (x0 x1 x4 : EV) (a : Nat) (s : LS) : frBody 2 3 2 3 [x0, x1, .sh (.int a), .sh (.int 0), x4] s = .bk [x0, x1, .sh (.int a), .sh (.int 0), x4] s := by
  simp -implicitDefEqProofs [frBody]
theorem frBody_pos (x0 x1 x4 : EV) (a b : Nat) (hb : b ≠ 0) (s : LS) : frBody 2 3 2 3 [x0, x1, .sh (.int a), .sh (.int b), x4] s = .nx [x0, x1, .sh (.int b), .sh (.int (a % b : Nat)), x4] s := by
  have h1 : ((b : Int) == 0) = false := by simpa using hb
  have h2 : (b : Int) ≠ 0 := by omega
  simp -implicitDefEqProofs only [frBody, seqD_def, ifD_def, tst2_def, op2_def, varW_def, cD_def, List.getElem?_cons_succ, List.getElem?_cons_zero, bind_ok, eqD_int, h1, lift_some, asB_bool, evS_ok, Bool.false_eq_true, if_false, nopD_def, par2_def, asSh_def, varD_def, callB_def, consG_def, nilG_def, intF_int, modD_int h2, fmod_nat, List.set_cons_zero, List.set_cons_succ]
theorem half_two {a b m : Nat} (hb : b < 2 ^ (m + 1)) (hr : a % b ≠ 0) (h0 : b ≠ 0) : b % (a % b) < 2 ^ m := by
  have h1 : a % b < b := Nat.mod_lt _ (by omega)
  have h2 : b % (a % b) < a % b := Nat.mod_lt _ (by omega)
  have h3 : b % (a % b) ≤ b - a % b := by
    have e := Nat.mod_eq_sub_mod (a := b) (b := a % b) (by omega)
    rw [e]
    exact Nat.mod_le _ _
  rw [Nat.pow_succ] at hb
  omega
theorem euclid_for : ∀ (m a b : Nat) (ds : List D) (x0 x1 x4 : EV) (s : LS), b < 2 ^ m → 2 * m ≤ ds.length →
    ∃ x, forD (.nm 4) (frBody 2 3 2 3) ds [x0, x1, .sh (.int a), .sh (.int b), x4] s = .nx [x0, x1, .sh (.int (a.gcd b : Nat)), .sh (.int 0), x] s := by
  have zero : ∀ (a : Nat) (ds : List D) (x0 x1 x4 : EV) (s : LS), ∃ x, forD (.nm 4) (frBody 2 3 2 3) ds [x0, x1, .sh (.int a), .sh (.int 0), x4] s = .nx [x0, x1, .sh (.int a), .sh (.int 0), x] s := by
    intro a ds x0 x1 x4 s
    cases ds with
    | nil => exact ⟨_, rfl⟩
    | cons d ds =>
      refine ⟨.sh d, ?_⟩
      rw [forD_cons]
      simp only [asg_nm, List.set_cons_zero, List.set_cons_succ]
      rw [frBody_zero]
  intro m
  induction m with
  | zero =>
    intro a b ds x0 x1 x4 s hb _
    have : b = 0 := by simpa using hb
    subst this
    rw [Nat.gcd_zero_right]
    exact zero a ds x0 x1 x4 s
  | succ m ih =>
    intro a b ds x0 x1 x4 s hb hl
    by_cases h0 : b = 0
    · subst h0
      rw [Nat.gcd_zero_right]
      exact zero a ds x0 x1 x4 s
    · match ds, hl with
      | d1 :: d2 :: ds, hl =>
        rw [forD_cons]
        simp only [asg_nm, List.set_cons_zero, List.set_cons_succ]
        rw [frBody_pos _ _ _ _ _ h0]
        by_cases hr : a % b = 0
        · obtain ⟨x, hx⟩ := zero b (d2 :: ds) x0 x1 (.sh d1) s
          refine ⟨x, ?_⟩
          simp only [hr]
          rw [← gcd_step, hr, Nat.gcd_zero_right]
          exact hx
        · obtain ⟨x, hx⟩ := ih (a % b) (b % (a % b)) ds x0 x1 (.sh d2) s (half_two hb hr h0) (by simp only [List.length_cons] at hl; omega)
          refine ⟨x, ?_⟩
          simp only []
          rw [forD_cons]
          simp only [asg_nm, List.set_cons_zero, List.set_cons_succ]
          rw [frBody_pos _ _ _ _ _ hr]
          simp only []
          rw [← gcd_step a b, ← gcd_step b (a % b)]
          exact hx
theorem rangeL_length (lo : Int) (n : Nat) : (rangeL lo n).length = n := by simp [rangeL]
theorem rngB_small {i : Int} (h0 : -1000000 ≤ i) (h : i ≤ 1000000) : rngB i := by unfold rngB; omega
theorem m__law_fr_eq (a b : Int) (s : LS) (hb : b ≠ 0) (hz : b.natAbs < 2 ^ 1990) : m__law_fr [.sh (.int a), .sh (.int b)] s = .ok (R (Rat.divInt a b)) s := by
  have key : ∀ (a b : Int), 0 < b → b.natAbs < 2 ^ 1990 → ∀ s, (seqD (par2 2 3 (asSh (callB absF (consG (varW 0) nilG))) (asSh (varD 1)))
      (seqD (forG (.nm 4) (rng1 (cD (.int 4000))) (frBody 2 3 2 3))
      (retD (tupG (consG (op2 fdivD (varW 0) (varW 2)) (consG (op2 fdivD (varW 1) (varW 2)) nilG)))))) [.sh (.int a), .sh (.int b), .un, .un, .un] s = .rt (R (Rat.divInt a b)) s := by
    intro a b hb hz s
    obtain ⟨n, rfl⟩ : ∃ n : Nat, b = n := ⟨b.toNat, by omega⟩
    have hn : n ≠ 0 := by omega
    have hz' : n < 2 ^ 1990 := by simpa using hz
    rw [seqD_nx (e := [.sh (.int a), .sh (.int n), .sh (.int (a.natAbs : Nat)), .sh (.int n), .un]) (s1 := s) (by simp -implicitDefEqProofs)]
    obtain ⟨x, hx⟩ := euclid_for 1990 a.natAbs n (rangeL 0 4000) (.sh (.int a)) (.sh (.int n)) .un s hz' (by rw [rangeL_length]; decide)
    rw [seqD_nx (e := [.sh (.int a), .sh (.int n), .sh (.int (a.natAbs.gcd n : Nat)), .sh (.int 0), x]) (s1 := s)]
    · have hg0 : a.natAbs.gcd n ≠ 0 := fun z => by
        have := Nat.eq_zero_of_gcd_eq_zero_right z
        omega
      have hgle : a.natAbs.gcd n ≤ n := Nat.gcd_le_right _ (by omega)
      have hgz : ((a.natAbs.gcd n : Nat) : Int).natAbs.log2 < 9000 := by
        have h1 : (a.natAbs.gcd n) < 2 ^ 1990 := by omega
        have := log2_of_lt h1 (show 1990 ≤ 9000 by omega) (by omega)
        simpa using this
      have hg1 : ((a.natAbs.gcd n : Nat) : Int) ≠ 0 := by omega
      have eg : a.natAbs.gcd n = a.gcd n := rfl
      rw [R_divInt_pos hn, ← eg]
      simp -implicitDefEqProofs [fdivD_int hg1 hgz, fdiv_nat_dvd hg0]
    · have hr : rngB 4000 := rngB_small (by decide) (by decide)
      rw [forG_def, rng1_def]
      simp -implicitDefEqProofs only [cD_def, bind_ok, if_pos hr, evS_ok]
      exact hx
  unfold m__law_fr g__law_fr
  refine run_rt ?_
  by_cases hneg : b < 0
  · have k := key (-a) (-b) (by omega) (by simpa using hz) s
    rw [Rat.neg_divInt_neg] at k
    rw [seqD_nx (e := [.sh (.int (-a)), .sh (.int (-b)), .un, .un, .un]) (s1 := s) (by simp -implicitDefEqProofs [hneg])]
    exact k
  · rw [seqD_nx (e := [.sh (.int a), .sh (.int b), .un, .un, .un]) (s1 := s) (by simp -implicitDefEqProofs [hneg])]
    exact key a b (by omega) hz s
variable {k l : Nat} {p q : Rat}
theorem m__law_add_eq (hp : Sz k p) (hq : Sz l q) (h : k + l ≤ 1990) (s : LS) : m__law_add [.sh (R p), .sh (R q)] s = .ok (R (p + q)) s := by
  have h1 : mulD (.int p.num) (.int q.den) = some (.int (p.num * q.den)) := ok_of hp.1 (nat_abs_lt hq.2) (by omega)
  have h2 : mulD (.int q.num) (.int p.den) = some (.int (q.num * p.den)) := ok_of hq.1 (nat_abs_lt hp.2) (by omega)
  have h3 : mulD (.int p.den) (.int q.den) = some (.int (p.den * q.den)) := ok_of (nat_abs_lt hp.2) (nat_abs_lt hq.2) (by omega)
  have e := m__law_fr_eq (p.num * q.den + q.num * p.den) (p.den * q.den) s (dens_ne p q) (Nat.lt_of_lt_of_le (mul_dens hp hq) (Nat.pow_le_pow_right (by decide) h))
  rw [R_def p, R_def q, add_eq_divInt p q]
  unfold m__law_add g__law_add
  simp -implicitDefEqProofs [h1, h2, h3, e]
theorem m__law_mul_eq (hp : Sz k p) (hq : Sz l q) (h : k + l ≤ 1990) (s : LS) : m__law_mul [.sh (R p), .sh (R q)] s = .ok (R (p * q)) s := by
  have h1 : mulD (.int p.num) (.int q.num) = some (.int (p.num * q.num)) := ok_of hp.1 hq.1 (by omega)
  have h3 : mulD (.int p.den) (.int q.den) = some (.int (p.den * q.den)) := ok_of (nat_abs_lt hp.2) (nat_abs_lt hq.2) (by omega)
  have e := m__law_fr_eq (p.num * q.num) (p.den * q.den) s (dens_ne p q) (Nat.lt_of_lt_of_le (mul_dens hp hq) (Nat.pow_le_pow_right (by decide) h))
  rw [R_def p, R_def q, mul_eq_divInt p q]
  unfold m__law_mul g__law_mul
  simp -implicitDefEqProofs [h1, h3, e]
theorem R_neg (q : Rat) : R (-q) = .tuple [.int (-q.num), .int q.den] := by rw [R_def, Rat.neg_num, Rat.neg_den]
theorem m__law_sub_eq (hp : Sz k p) (hq : Sz l q) (h : k + l ≤ 1990) (s : LS) : m__law_sub [.sh (R p), .sh (R q)] s = .ok (R (p - q)) s := by
  have e := m__law_add_eq hp hq.neg h s
  rw [R_neg] at e
  have es : p + -q = p - q := (Rat.sub_eq_add_neg p q).symm
  rw [es] at e
  rw [R_def q]
  unfold m__law_sub g__law_sub
  simp -implicitDefEqProofs [e]
def sgn (p q : Rat) : Int := if p = q then 0 else if q < p then 1 else -1
theorem m__law_sign_eq (hp : Sz k p) (hq : Sz l q) (h : k + l ≤ 1990) (s : LS) : m__law_sign [.sh (R p), .sh (R q)] s = .ok (.int (sgn p q)) s := by
  have h1 : mulD (.int p.num) (.int q.den) = some (.int (p.num * q.den)) := ok_of hp.1 (nat_abs_lt hq.2) (by omega)
  have h2 : mulD (.int q.num) (.int p.den) = some (.int (q.num * p.den)) := ok_of hq.1 (nat_abs_lt hp.2) (by omega)
  rw [R_def p, R_def q]
  unfold m__law_sign g__law_sign
  have a1 : q < p ↔ q.num * p.den < p.num * q.den := Rat.lt_iff q p
  have a2 : p < q ↔ p.num * q.den < q.num * p.den := Rat.lt_iff p q
  have a3 : p = q ↔ ¬ (q < p) ∧ ¬ (p < q) := by
    constructor
    · rintro rfl; exact ⟨Rat.lt_irrefl, Rat.lt_irrefl⟩
    · rintro ⟨h1, h2⟩; exact Rat.le_antisymm (Rat.not_lt.mp h1) (Rat.not_lt.mp h2)
  by_cases c : p = q
  · subst c
    simp -implicitDefEqProofs [h1, h2, sgn]
  · by_cases d : q < p
    · have d' := a1.mp d
      have e1 : (p.num * (q.den : Int) - q.num * p.den == 0) = false := by simp; omega
      simp -implicitDefEqProofs [h1, h2, e1, sgn, c, d, d']
    · have d' : p.num * q.den < q.num * p.den := a2.mp (by
        rcases Decidable.em (p < q) with z | z
        · exact z
        · exact absurd (a3.mpr ⟨d, z⟩) c)
      have e1 : (p.num * (q.den : Int) - q.num * p.den == 0) = false := by simp; omega
      have e2 : ¬ q.num * p.den < p.num * q.den := by omega
      simp -implicitDefEqProofs [h1, h2, e1, sgn, c, d, e2]
end NW
end

section
set_option linter.all false
set_option autoImplicit false
namespace DS
open PySem
/-! ## loops -/
theorem forD_inv {t : Tg} {gb : Ev → LS → SOut} (P : Nat → Ev → LS → Prop) : ∀ (items : List D) (env : Ev) (s : LS), P 0 env s →
    (∀ i d env s, items[i]? = some d → P i env s → ∃ env1, t.asg d env = some env1 ∧ ∃ e' s', (gb env1 s = .nx e' s' ∨ gb env1 s = .ct e' s') ∧ P (i + 1) e' s') →
    ∃ e' s', forD t gb items env s = .nx e' s' ∧ P items.length e' s' := by
  intro items
  induction items generalizing P with
  | nil => exact fun env s h _ => ⟨env, s, rfl, h⟩
  | cons d ds ih =>
    intro env s h0 hs
    obtain ⟨env1, h1, e', s', h2, h3⟩ := hs 0 d env s rfl h0
    obtain ⟨e2, s2, h4, h5⟩ := ih (fun i => P (i + 1)) e' s' h3 fun i d' env s hi hp => hs (i + 1) d' env s hi hp
    refine ⟨e2, s2, ?_, h5⟩
    rw [forD_cons, h1]
    rcases h2 with h2 | h2 <;> simp only [h2, h4]
/-- a comprehension that draws nothing -/
theorem lcD_map {i : Nat} {ge : Ev → LS → Out D} (f : D → D) : ∀ (ds : List D) (env : Ev) (s : LS), (∀ d ∈ ds, ge (env.set i (.sh d)) s = .ok (f d) s) → lcD (.nm i) yesB ge ds env s = .ok (ds.map f) s
  | [], _, _, _ => rfl
  | d :: ds, env, s, h => by
    have ih := lcD_map f ds env s fun d' hd => h d' (List.mem_cons_of_mem _ hd)
    simp only [lcD, asg_nm, yesB_def, noErr_ok, bind_ok, if_true, h d List.mem_cons_self, ih, List.map_cons]
theorem lcD_filter {i : Nat} {gc : Ev → LS → Out Bool} {ge : Ev → LS → Out D} (p : D → Bool) (f : D → D) : ∀ (ds : List D) (env : Ev) (s : LS), (∀ d ∈ ds, gc (env.set i (.sh d)) s = .ok (p d) s) → (∀ d ∈ ds, p d = true → ge (env.set i (.sh d)) s = .ok (f d) s) →
    lcD (.nm i) gc ge ds env s = .ok ((ds.filter p).map f) s
  | [], _, _, _, _ => rfl
  | d :: ds, env, s, hc, h => by
    have ih := lcD_filter p f ds env s (fun d' hd => hc d' (List.mem_cons_of_mem _ hd)) fun d' hd => h d' (List.mem_cons_of_mem _ hd)
    simp only [lcD, asg_nm, hc d List.mem_cons_self, noErr_ok, bind_ok]
    cases q : p d with
    | true => simp only [if_true, h d List.mem_cons_self q, noErr_ok, bind_ok, ih, List.filter_cons_of_pos q, List.map_cons]
    | false => simp only [Bool.false_eq_true, if_false, ih, List.filter_cons_of_neg (by simp [q] : ¬ p d = true)]
/-- a comprehension that draws -/
theorem lcD_draw {i : Nat} {ge : Ev → LS → Out D} (WF : LS → Prop) (P : D → Prop) : ∀ (ds : List D) (env : Ev) (s : LS), WF s → (∀ d ∈ ds, ∀ s, WF s → ∃ y s', ge (env.set i (.sh d)) s = .ok y s' ∧ WF s' ∧ P y) →
    ∃ rs s', lcD (.nm i) yesB ge ds env s = .ok rs s' ∧ WF s' ∧ rs.length = ds.length ∧ ∀ y ∈ rs, P y
  | [], env, s, h, _ => ⟨[], s, rfl, h, rfl, fun y hy => by cases hy⟩
  | d :: ds, env, s, h0, h => by
    obtain ⟨y, s1, e1, w1, p1⟩ := h d List.mem_cons_self s h0
    obtain ⟨rs, s2, e2, w2, l2, p2⟩ := lcD_draw WF P ds env s1 w1 fun d' hd => h d' (List.mem_cons_of_mem _ hd)
    refine ⟨y :: rs, s2, ?_, w2, by rw [List.length_cons, List.length_cons, l2], fun z hz => ?_⟩
    · simp only [lcD, asg_nm, yesB_def, noErr_ok, bind_ok, if_true, e1, e2]
    · cases hz with
      | head => exact p1
      | tail _ hz => exact p2 z hz
/-! ## draws -/
def WFS (s : LS) : Prop := ∃ p cs, s = some (p, cs) ∧ cs ≠ []
theorem take_ok {s : LS} (h : WFS s) {most : Int} (h1 : 1 ≤ most) (h2 : most < 2 ^ 64) : ∃ r s', m__law_take [.st, .sh (.int most)] s = .ok (.int r) s' ∧ WFS s' ∧ 0 ≤ r ∧ r < most := by
  obtain ⟨p, cs, rfl, hne⟩ := h
  by_cases hm : most < 2
  · exact ⟨0, some (p, cs), if_pos hm, ⟨p, cs, rfl, hne⟩, by omega, by omega⟩
  · refine ⟨(takeV most p cs).1, some (takeV most p cs).2, ?_, ?_, ?_⟩
    · show (if most < 2 then _ else if cs ≠ [] ∧ most < 2 ^ 64 then _ else _) = _
      rw [if_neg hm, if_pos ⟨hne, h2⟩]
    · unfold takeV
      dsimp only
      split
      · refine ⟨_, _, rfl, fun z => hne ?_⟩
        have := congrArg List.length z
        rw [List.length_set] at this
        exact List.eq_nil_of_length_eq_zero this
      · exact ⟨_, _, rfl, hne⟩
    · unfold takeV
      dsimp only
      split
      · exact ⟨Int.fmod_nonneg_of_pos _ (by omega), Int.fmod_lt_of_pos _ (by omega)⟩
      · exact ⟨Int.fmod_nonneg_of_pos _ (by omega), Int.fmod_lt_of_pos _ (by omega)⟩
end DS
namespace NW
open PySem hiding run
open DS
theorem pick_ok {s : LS} (h : WFS s) {xs : List D} (h1 : xs ≠ []) (h2 : xs.length < 1000000) : ∃ x s', m__law_pick [.st, .sh (.list xs)] s = .ok x s' ∧ WFS s' ∧ x ∈ xs := by
  have hl : 0 < xs.length := List.length_pos_iff.mpr h1
  obtain ⟨r, s', e, w, r0, r1⟩ := take_ok h (most := xs.length) (by omega) (by omega)
  have hr : r.toNat < xs.length := by omega
  refine ⟨xs[r.toNat], s', ?_, w, List.getElem_mem hr⟩
  have ea : L2.atI xs r = some xs[r.toNat] := by
    have := DS.atI_nat (xs := xs) (j := r.toNat)
    rw [Int.toNat_of_nonneg r0] at this
    rw [this, List.getElem?_eq_getElem hr]
  unfold m__law_pick g__law_pick
  simp -implicitDefEqProofs [e, ea]
/-! ## data compared -/
theorem shaped_R (q : Rat) : SeqAt.shaped (R q) = true := by
  have h1 : (R q).canLay0 = true := by simp [R, PyData.canLay0, PyData.canLayAll0]
  have h2 : (R q).depth ≤ 64 := by simp [R, PyData.depth, PyData.depthAll]
  unfold SeqAt.shaped
  rw [h1, decide_eq_true h2]
  rfl
theorem eqv_R (p q : Rat) : PyData.eqv (R p) (R q) = decide (p = q) := by
  have e : PyData.eqv (R p) (R q) = ((p.num == q.num) && (((p.den : Int) == q.den) && true)) := by simp [R, PyData.eqv, PyData.eqvAll]
  rw [e]
  by_cases h : p = q
  · subst h; simp
  · rw [decide_eq_false h]
    by_cases h1 : p.num = q.num
    · have h2 : (p.den : Int) ≠ q.den := fun z => h (Rat.ext h1 (by omega))
      simp [h2]
    · simp [h1]
theorem neD_R (p q : Rat) : neD (R p) (R q) = some (.bool (!decide (p = q))) := by
  unfold neD
  rw [if_pos ⟨shaped_R p, shaped_R q⟩, eqv_R]
theorem eqD_R (p q : Rat) : eqD (R p) (R q) = some (.bool (decide (p = q))) := by
  unfold eqD
  rw [if_pos ⟨shaped_R p, shaped_R q⟩, eqv_R]
@[simp] theorem neD_R_self (p : Rat) : neD (R p) (R p) = some (.bool false) := by rw [neD_R]; simp
theorem R_zero : R 0 = .tuple [.int 0, .int 1] := rfl
theorem R_one : R 1 = .tuple [.int 1, .int 1] := rfl
theorem R_int (n : Int) : R (n : Rat) = .tuple [.int n, .int 1] := by
  rw [R_def, Rat.num_intCast, Rat.den_intCast]
  rfl
theorem Sz_zero : Sz 1 (0 : Rat) := ⟨by decide, by decide⟩
theorem Sz_one : Sz 1 (1 : Rat) := ⟨by decide, by decide⟩
theorem Sz_int {n : Int} {k : Nat} (h : n.natAbs < 2 ^ k) (hk : 0 < k) : Sz k (n : Rat) := by
  refine ⟨by rw [Rat.num_intCast]; exact h, ?_⟩
  rw [Rat.den_intCast]
  exact Nat.one_lt_two_pow (by omega)
/-! ## the rows of parts -/
theorem foldl_Sz {k : Nat} : ∀ (qs : List Rat) (q0 : Rat) (j : Nat), (∀ q ∈ qs, Sz k q) → Sz j q0 → Sz (j + qs.length * (k + 1)) (qs.foldl (· + ·) q0)
  | [], q0, j, _, h => by simpa using h
  | q :: qs, q0, j, h, h0 => by
    have h1 := h0.add (h q List.mem_cons_self)
    have h2 := foldl_Sz qs (q0 + q) (j + k + 1) (fun q' hq => h q' (List.mem_cons_of_mem _ hq)) h1
    have e : j + (q :: qs).length * (k + 1) = j + k + 1 + qs.length * (k + 1) := by
      rw [List.length_cons, Nat.succ_mul]; omega
    rw [e]
    exact h2
end NW
end

section
set_option linter.all false
set_option autoImplicit false
namespace NW
open PySem hiding run
open DS
/-! ## sums of rows -/
def sumQ (q0 : Rat) (qs : List Rat) : Rat := qs.foldl (· + ·) q0
theorem total_loop {k : Nat} (s : LS) (x0 : EV) : ∀ (qs : List Rat) (q0 : Rat) (j : Nat) (x2 : EV), (∀ q ∈ qs, Sz k q) → Sz j q0 → j + qs.length * (k + 1) + k ≤ 8999 →
    ∃ x, forD (.nm 2) (setD 1 (asSh (callG m_plus (consG (varX 1) (consG (varX 2) nilG))))) (qs.map R) [x0, .sh (R q0), x2] s = .nx [x0, .sh (R (sumQ q0 qs)), x] s
  | [], q0, j, x2, _, _, _ => ⟨x2, rfl⟩
  | q :: qs, q0, j, x2, h, h0, hz => by
    have hq := h q List.mem_cons_self
    have hl : (q :: qs).length * (k + 1) = qs.length * (k + 1) + (k + 1) := by rw [List.length_cons, Nat.succ_mul]
    have e := m_plus_eq h0 hq (by omega) s
    obtain ⟨x, hx⟩ := total_loop s x0 qs (q0 + q) (j + k + 1) (.sh (R q)) (fun q' hq => h q' (List.mem_cons_of_mem _ hq)) (h0.add hq) (by omega)
    refine ⟨x, ?_⟩
    rw [List.map_cons, forD_cons]
    simp -implicitDefEqProofs [e]
    exact hx
theorem m_total_eq {k : Nat} (qs : List Rat) (s : LS) (h : ∀ q ∈ qs, Sz k q) (hz : 1 + qs.length * (k + 1) + k ≤ 8999) : m_total [.sh (.list (qs.map R))] s = .ok (R (sumQ 0 qs)) s := by
  obtain ⟨x, hx⟩ := total_loop s (.sh (.list (qs.map R))) qs 0 1 .un h Sz_zero (by omega)
  unfold m_total g_total
  refine run_rt ?_
  rw [seqD_nx (e := [.sh (.list (qs.map R)), .sh (R 0), .un]) (s1 := s) (by simp -implicitDefEqProofs [R_zero])]
  rw [seqD_nx (e := [.sh (.list (qs.map R)), .sh (R (sumQ 0 qs)), x]) (s1 := s)]
  · simp -implicitDefEqProofs
  · rw [forG_def]
    simp -implicitDefEqProofs
    simpa using hx
/-! ## the least -/
def optD : Option Rat → D
  | none => .none
  | some q => R q
def lessQ (o : Option Rat) (n : Rat) : Option Rat := match o with
  | none => some n
  | some b => if n < b then some n else some b
theorem isNone_R (q : Rat) : isNone (R q) = false := rfl
theorem least_loop {k : Nat} (hk : k + k ≤ 8999) (s : LS) (x0 : EV) : ∀ (qs : List Rat) (o : Option Rat) (x2 : EV), (∀ q ∈ qs, Sz k q) → (∀ q, o = some q → Sz k q) →
    ∃ x, forD (.nm 2) (ifD (orB (tst2 isD (varW 1) (cD .none)) (tst (callG m_is_less (consG (varX 2) (consG (varX 1) nilG))))) (setD 1 (asSh (varD 2))) nopD) (qs.map R) [x0, .sh (optD o), x2] s = .nx [x0, .sh (optD (qs.foldl lessQ o)), x] s
  | [], o, x2, _, _ => ⟨x2, rfl⟩
  | q :: qs, o, x2, h, h0 => by
    have hq := h q List.mem_cons_self
    have hrest := fun q' hq => h q' (List.mem_cons_of_mem q hq)
    have hnew : ∀ q', lessQ o q = some q' → Sz k q' := fun q' e => by
      cases o with
      | none => cases e; exact hq
      | some b =>
        unfold lessQ at e
        dsimp only at e
        split at e
        · cases e; exact hq
        · cases e; exact h0 _ rfl
    obtain ⟨x, hx⟩ := least_loop hk s x0 qs (lessQ o q) (.sh (R q)) hrest hnew
    refine ⟨x, ?_⟩
    rw [List.map_cons, forD_cons, List.foldl_cons]
    cases o with
    | none =>
      simp -implicitDefEqProofs [optD]
      exact hx
    | some b =>
      have e := m_is_less_eq hq (h0 b rfl) hk s
      have hx' : forD (.nm 2) _ (List.map R qs) [x0, .sh (optD (if q < b then some q else some b)), .sh (R q)] s = _ := hx
      by_cases c : q < b
      · rw [if_pos c] at hx'
        simp -implicitDefEqProofs [optD, isNone_R, e, c]
        simpa [optD, lessQ, c] using hx'
      · rw [if_neg c] at hx'
        simp -implicitDefEqProofs [optD, isNone_R, e, c]
        simpa [optD, lessQ, c] using hx'
theorem m_least_of_eq {k : Nat} (hk : k + k ≤ 8999) (qs : List Rat) (s : LS) (h : ∀ q ∈ qs, Sz k q) : m_least_of [.sh (.list (qs.map R))] s = .ok (optD (qs.foldl lessQ none)) s := by
  obtain ⟨x, hx⟩ := least_loop hk s (.sh (.list (qs.map R))) qs none .un h (fun q e => nomatch e)
  unfold m_least_of g_least_of
  refine run_rt ?_
  rw [seqD_nx (e := [.sh (.list (qs.map R)), .sh (optD none), .un]) (s1 := s) (by simp -implicitDefEqProofs [optD])]
  rw [seqD_nx (e := [.sh (.list (qs.map R)), .sh (optD (qs.foldl lessQ none)), x]) (s1 := s)]
  · simp -implicitDefEqProofs
  · rw [forG_def]
    simp -implicitDefEqProofs
    simpa using hx
/-! ## floors -/
theorem log2_den {k : Nat} {q : Rat} (h : Sz k q) (hk : k ≤ 8999) : ((q.den : Int)).natAbs.log2 < 9000 := by
  have := log2_of_lt h.2 (show k ≤ 9000 by omega) (by omega)
  simpa using this
theorem m_whole_below_eq {k : Nat} {q : Rat} (h : Sz k q) (hk : k ≤ 8999) (s : LS) : m_whole_below [.sh (R q)] s = .ok (.int (q.num / q.den)) s := by
  unfold m_whole_below g_whole_below
  rw [R_def]
  simp -implicitDefEqProofs [fdivD_int (den_ne q) (log2_den h hk), fdiv_nat_dvd q.den_nz]
theorem m_whole_above_eq {k : Nat} {q : Rat} (h : Sz k q) (hk : k ≤ 8999) (s : LS) : m_whole_above [.sh (R q)] s = .ok (.int (-((-q.num) / q.den))) s := by
  unfold m_whole_above g_whole_above
  rw [R_def]
  simp -implicitDefEqProofs [fdivD_int (den_ne q) (log2_den h hk), fdiv_nat_dvd q.den_nz]
theorem m_is_whole_part_eq (a b : Int) (s : LS) : m_is_whole_part [.sh (.tuple [.int a, .int b])] s = .ok (.bool (b == 1)) s := by
  unfold m_is_whole_part g_is_whole_part
  simp -implicitDefEqProofs
/-! ## what is a part -/
def isPartD : D → Bool
  | .tuple [.int a, .int b] => decide (1 ≤ b) && (a.gcd b == 1)
  | _ => false
def plainInt (d : D) : Bool := isInt d && !isBool d
theorem bools_map (f : D → Bool) : ∀ ds : List D, bools (ds.map fun d => .bool (f d)) = some (ds.map f)
  | [] => rfl
  | d :: ds => by simp [bools_map f ds]
theorem gcd_eqD (a b : Int) : (((a.gcd b : Nat) : Int) == 1) = (a.gcd b == 1) := by
  by_cases h : a.gcd b = 1
  · rw [h]; rfl
  · rw [beq_eq_false_iff_ne.mpr h, beq_eq_false_iff_ne]
    omega
theorem plain_cases {d : D} (h : plainInt d = true) : ∃ i, d = .int i := by
  cases d <;> simp [plainInt, isInt, isBool] at h
  exact ⟨_, rfl⟩
theorem m_is_part_eq (d : D) (hd : ∀ ds, d = .tuple ds → ds.length ≤ 1000) (s : LS) : m_is_part [.sh d] s = .ok (.bool (isPartD d)) s := by
  unfold m_is_part g_is_part
  refine run_rt ?_
  have hno : ∀ d, isTup d = false → isPartD d = false := fun d h => by cases d <;> simp [isTup] at h <;> rfl
  cases hT : isTup d with
  | false =>
    rw [seqD_rt (d := .bool false) (s1 := s) (by simp -implicitDefEqProofs [hT]), hno d hT]
  | true =>
    cases d with
    | tuple ds =>
      have hlen := hd ds rfl
      by_cases h2 : ds.length = 2
      · match ds, h2 with
        | [x, y], _ =>
          rw [seqD_nx (e := [.sh (.tuple [x, y]), .un]) (s1 := s) (by simp -implicitDefEqProofs [isTup])]
          have hl : lcD (.nm 1) yesB (andD (isiG isInt (varW 1)) (notD (isiG isBool (varW 1)))) [x, y] [.sh (.tuple [x, y]), .un] s = .ok ([x, y].map fun d => .bool (plainInt d)) s := by
            refine lcD_map _ _ _ _ fun d _ => ?_
            cases h : isInt d <;> cases h' : isBool d <;> simp -implicitDefEqProofs [plainInt, h, h']
          cases hp : (plainInt x && plainInt y) with
          | false =>
            rw [seqD_rt (d := .bool false) (s1 := s) (by
              simp -implicitDefEqProofs [hl, bools]
              simp only [Bool.and_eq_false_iff] at hp
              rcases hp with hp | hp <;> simp [hp])]
            have : isPartD (.tuple [x, y]) = false := by
              cases x <;> cases y <;> first | rfl | (simp [plainInt, isInt, isBool] at hp)
            rw [this]
          | true =>
            have hp' := Bool.and_eq_true_iff.mp hp
            obtain ⟨i, rfl⟩ := plain_cases hp'.1
            obtain ⟨j, rfl⟩ := plain_cases hp'.2
            rw [seqD_nx (e := [.sh (.tuple [.int i, .int j]), .un]) (s1 := s) (by
              simp -implicitDefEqProofs [hl, bools, hp'.1, hp'.2])]
            by_cases hj : 1 ≤ j
            · simp -implicitDefEqProofs [m_divisor_eq, hj, isPartD, gcd_eqD]
            · simp -implicitDefEqProofs [hj, isPartD]
      · have h2' : ((ds.length : Int) != 2) = true := by
          simp
          omega
        rw [seqD_rt (d := .bool false) (s1 := s) (by simp -implicitDefEqProofs [isTup, h2'])]
        have : isPartD (.tuple ds) = false := by
          match ds, h2 with
          | [], _ => rfl
          | [_], _ => cases ‹D› <;> rfl
          | _ :: _ :: _ :: _, _ => unfold isPartD; split <;> first | rfl | (rename_i h; cases h)
          | [_, _], h => exact absurd rfl h
        rw [this]
    | _ => cases hT
/-! ## rows of parts -/
def arePartsD (d : D) (many : Int) : Bool := match d with
  | .tuple ds => ((ds.length : Int) == many) && ds.all isPartD
  | _ => false
def small (d : D) : Prop := ∀ ds, d = .tuple ds → ds.length ≤ 1000
theorem m_are_parts_eq (d : D) (many : Int) (hd : small d) (hds : ∀ ds, d = .tuple ds → ∀ x ∈ ds, small x) (s : LS) : m_are_parts [.sh d, .sh (.int many)] s = .ok (.bool (arePartsD d many)) s := by
  unfold m_are_parts g_are_parts
  refine run_rt ?_
  have hno : ∀ d, isTup d = false → arePartsD d many = false := fun d h => by cases d <;> simp [isTup] at h <;> rfl
  cases hT : isTup d with
  | false => simp -implicitDefEqProofs [hT, hno d hT]
  | true =>
    cases d with
    | tuple ds =>
      have hl : lcD (.nm 2) yesB (callG m_is_part (consG (varX 2) nilG)) ds [.sh (.tuple ds), .sh (.int many), .un] s = .ok (ds.map fun d => .bool (isPartD d)) s := by
        refine lcD_map _ _ _ _ fun d hd' => ?_
        simp -implicitDefEqProofs [m_is_part_eq d (hds ds rfl d hd')]
      have hz : ds.length ≤ sizeLine := small_line (by have := hd ds rfl; omega)
      by_cases hm : (ds.length : Int) = many
      · simp -implicitDefEqProofs [isTup, hm, hl, hz, bools_map, arePartsD, List.all_map]
      · simp -implicitDefEqProofs [isTup, hm, arePartsD]
    | _ => cases hT
/-! ## integers of a row -/
def lcmL (n : Nat) (qs : List Rat) : Nat := qs.foldl (fun a q => a.lcm q.den) n
theorem lcm_turn {k j n : Nat} {q : Rat} (hq : q.den < 2 ^ k) (h0 : n ≠ 0) (h1 : n < 2 ^ j) (hz : j + k ≤ 8000) (s : LS) (x0 x3 x4 x5 : EV) :
   setD 1 (asSh (op2 fdivD (op2 mulD (varW 1) (op2 ixD (varW 2) (cD (.int 1)))) (callG m_divisor (consG (varX 1) (consG (asSh (op2 ixD (varW 2) (cD (.int 1)))) nilG))))) [x0, .sh (.int (n : Nat)), .sh (R q), x3, x4, x5] s = .nx [x0, .sh (.int (n.lcm q.den : Nat)), .sh (R q), x3, x4, x5] s := by
  have hg0 : n.gcd q.den ≠ 0 := fun z => q.den_nz (Nat.eq_zero_of_gcd_eq_zero_right z)
  have hgi : ((n : Int).gcd (q.den : Int) : Nat) = n.gcd q.den := Int.gcd_natCast_natCast n q.den
  have hgl : n.gcd q.den < 2 ^ k := Nat.lt_of_le_of_lt (Nat.gcd_le_right _ q.den_pos) hq
  have hgz : ((n.gcd q.den : Nat) : Int).natAbs.log2 < 9000 := by
    have := log2_of_lt hgl (show k ≤ 9000 by omega) (by omega)
    rw [Int.natAbs_natCast]
    exact this
  have hg1 : ((n.gcd q.den : Nat) : Int) ≠ 0 := by omega
  have h1m : mulD (.int (n : Nat)) (.int q.den) = some (.int ((n : Int) * q.den)) := ok_of (a := j) (b := k) (by simpa using h1) (by simpa using hq) (by omega)
  have hdiv : ((n : Int) * (q.den : Int)) / ((n.gcd q.den : Nat) : Int) = ((n.lcm q.den : Nat) : Int) := by
    rw [← Int.natCast_mul, ← Int.natCast_ediv, ← Nat.lcm.eq_1]
  have hd : fdivD (.int ((n : Int) * q.den)) (.int (n.gcd q.den : Nat)) = some (.int (n.lcm q.den : Nat)) := by
    rw [fdivD_int hg1 hgz, fdiv_nat_dvd hg0, hdiv]
  have hdd := m_divisor_eq n q.den s
  rw [hgi] at hdd
  rw [R_def]
  simp -implicitDefEqProofs [h1m, hdd, hd]
theorem lcm_loop {k : Nat} (s : LS) (x0 x3 x4 x5 : EV) (qs : List Rat) : ∀ (n j : Nat) (x2 : EV), (∀ q ∈ qs, q.den < 2 ^ k) → n ≠ 0 → n < 2 ^ j → j + qs.length * k + k ≤ 8000 →
    ∃ x, forD (.nm 2) (setD 1 (asSh (op2 fdivD (op2 mulD (varW 1) (op2 ixD (varW 2) (cD (.int 1)))) (callG m_divisor (consG (varX 1) (consG (asSh (op2 ixD (varW 2) (cD (.int 1)))) nilG)))))) (qs.map R) [x0, .sh (.int (n : Nat)), x2, x3, x4, x5] s
      = .nx [x0, .sh (.int (lcmL n qs : Nat)), x, x3, x4, x5] s ∧ lcmL n qs ≠ 0 ∧ lcmL n qs < 2 ^ (j + qs.length * k) ∧ n ∣ lcmL n qs ∧ ∀ q ∈ qs, q.den ∣ lcmL n qs := by
  induction qs with
  | nil =>
    intro n j x2 _ h0 h1 _
    refine ⟨x2, by rw [List.map_nil, forD_nil]; rfl, h0, ?_, Nat.dvd_refl _, fun q h => by cases h⟩
    rw [List.length_nil, Nat.zero_mul, Nat.add_zero]
    exact h1
  | cons q qs ih =>
    intro n j x2 h h0 h1 hz
    have hq := h q List.mem_cons_self
    have hl : (q :: qs).length * k = qs.length * k + k := by rw [List.length_cons, Nat.succ_mul]
    rw [hl] at hz ⊢
    have hlt : n.lcm q.den < 2 ^ (j + k) := Nat.lt_of_le_of_lt (Nat.le_of_dvd (Nat.mul_pos (by omega) q.den_pos) (Nat.lcm_dvd_mul n q.den)) (mul_lt_pow h1 hq)
    have hne : n.lcm q.den ≠ 0 := Nat.lcm_ne_zero h0 q.den_nz
    obtain ⟨x, hx, a1, a2, a3, a4⟩ := ih (n.lcm q.den) (j + k) (.sh (R q)) (fun q' hq => h q' (List.mem_cons_of_mem _ hq)) hne hlt (by omega)
    have e : j + (qs.length * k + k) = j + k + qs.length * k := by omega
    have hz' : j + k ≤ 8000 := by omega
    have step := lcm_turn hq h0 h1 hz' s x0 x3 x4 x5
    rw [e]
    refine ⟨x, ?_, a1, a2, Nat.dvd_trans (Nat.dvd_lcm_left _ _) a3, fun q' hq' => ?_⟩
    · rw [List.map_cons, forD_nx (env1 := [x0, .sh (.int (n : Nat)), .sh (R q), x3, x4, x5]) rfl step]
      exact hx
    · cases hq' with
      | head => exact Nat.dvd_trans (Nat.dvd_lcm_right _ _) a3
      | tail _ hq' => exact a4 q' hq'
def gcdL (n : Nat) (ns : List Int) : Nat := ns.foldl (fun a i => a.gcd i.natAbs) n
theorem gcd_loop (s : LS) (x0 x1 x2 x3 : EV) : ∀ (ns : List Int) (n : Nat) (x5 : EV),
    ∃ x, forD (.nm 5) (setD 4 (asSh (callG m_divisor (consG (varX 4) (consG (varX 5) nilG))))) (ns.map .int) [x0, x1, x2, x3, .sh (.int (n : Nat)), x5] s = .nx [x0, x1, x2, x3, .sh (.int (gcdL n ns : Nat)), x] s
  | [], n, x5 => ⟨x5, rfl⟩
  | i :: ns, n, x5 => by
    obtain ⟨x, hx⟩ := gcd_loop s x0 x1 x2 x3 ns (n.gcd i.natAbs) (.sh (.int i))
    refine ⟨x, ?_⟩
    have e : ((n : Int).gcd i : Nat) = n.gcd i.natAbs := rfl
    rw [List.map_cons, forD_cons]
    simp -implicitDefEqProofs [m_divisor_eq, e]
    exact hx
theorem gcdL_dvd : ∀ (ns : List Int) (n : Nat), gcdL n ns ∣ n ∧ ∀ i ∈ ns, ((gcdL n ns : Nat) : Int) ∣ i
  | [], n => ⟨Nat.dvd_refl _, fun i h => by cases h⟩
  | i :: ns, n => by
    obtain ⟨h1, h2⟩ := gcdL_dvd ns (n.gcd i.natAbs)
    refine ⟨Nat.dvd_trans h1 (Nat.gcd_dvd_left _ _), fun j hj => ?_⟩
    cases hj with
    | head => exact Int.ofNat_dvd_left.mpr (Nat.dvd_trans h1 (Nat.gcd_dvd_right _ _))
    | tail _ hj => exact h2 j hj
theorem gcdL_mul (g : Nat) : ∀ (ns : List Int) (n : Nat), gcdL (g * n) (ns.map fun i => (g : Int) * i) = g * gcdL n ns
  | [], n => rfl
  | i :: ns, n => by
    have e : (g * n).gcd ((g : Int) * i).natAbs = g * n.gcd i.natAbs := by
      rw [Int.natAbs_mul, Int.natAbs_natCast, Nat.gcd_mul_left]
    show gcdL ((g * n).gcd ((g : Int) * i).natAbs) _ = g * gcdL (n.gcd i.natAbs) ns
    rw [e]
    exact gcdL_mul g ns _
theorem gcdL_zero : ∀ (ns : List Int) (n : Nat), gcdL n ns = 0 → n = 0 ∧ ∀ i ∈ ns, i = 0
  | [], n, h => ⟨h, fun i h => by cases h⟩
  | i :: ns, n, h => by
    obtain ⟨h1, h2⟩ := gcdL_zero ns _ h
    have := Nat.gcd_eq_zero_iff.mp h1
    refine ⟨this.1, fun j hj => ?_⟩
    cases hj with
    | head => omega
    | tail _ hj => exact h2 j hj
theorem rat_eq_div (q : Rat) : q = (q.num : Rat) / (q.den : Rat) := by
  have := Rat.divInt_eq_div q.num q.den
  rw [Rat.num_divInt_den] at this
  exact this
theorem whole_of {q : Rat} {L : Nat} (h : q.den ∣ L) : ((q.num * ((L : Int) / q.den) : Int) : Rat) = (L : Rat) * q := by
  obtain ⟨m, rfl⟩ := h
  have hd : (q.den : Rat) ≠ 0 := by exact_mod_cast q.den_nz
  have e : (((q.den * m : Nat) : Int) / (q.den : Int)) = (m : Int) := by
    rw [Int.natCast_mul]
    exact Int.mul_ediv_cancel_left _ (den_ne q)
  rw [e]
  have e2 := rat_eq_div q
  have e3 : q * (q.den : Rat) = (q.num : Rat) := by
    have := Rat.div_mul_cancel (a := (q.num : Rat)) hd
    rw [← e2] at this
    exact this
  rw [Rat.intCast_mul, ← e3, Rat.natCast_mul]
  have : ((m : Int) : Rat) = (m : Rat) := by norm_cast
  rw [this]
  grind
theorem log2_den' {k : Nat} {q : Rat} (h : q.den < 2 ^ k) (hk : k ≤ 8999) : ((q.den : Int)).natAbs.log2 < 9000 := by
  have := log2_of_lt h (show k ≤ 9000 by omega) (by omega)
  simpa using this
theorem m_scaled_eq {k l : Nat} (qs : List Rat) (s : LS) (h : ∀ q ∈ qs, q.num.natAbs < 2 ^ l ∧ q.den < 2 ^ k) (hz : 1 + qs.length * k + k + l ≤ 8000) (hn : qs.length ≤ 1000) :
    ∃ (c : Rat) (f : Rat → Int), m_scaled [.sh (.list (qs.map R))] s = .ok (.tuple ((qs.map f).map .int)) s ∧ 0 < c ∧ (∀ q ∈ qs, (f q : Rat) = c * q) ∧ ((∃ q ∈ qs, q ≠ 0) → gcdL 0 (qs.map f) = 1) ∧ ∀ q ∈ qs, (f q).natAbs < 2 ^ (1 + qs.length * k + l) := by
  obtain ⟨x, hx, L0, Lz, -, Ld⟩ := lcm_loop (k := k) s (.sh (.list (qs.map R))) .un .un .un qs 1 1 .un (fun q hq => (h q hq).2) (by decide) (by decide) (by omega)
  generalize hL : lcmL 1 qs = L at *
  let f0 : Rat → Int := fun q => q.num * ((L : Int) / q.den)
  have f0_eq : ∀ q ∈ qs, (f0 q : Rat) = (L : Rat) * q := fun q hq => whole_of (Ld q hq)
  have Lpos : (0 : Rat) < L := by exact_mod_cast Nat.pos_of_ne_zero L0
  have q_div : ∀ q : Rat, ((L : Int) / (q.den : Int)).natAbs < 2 ^ (1 + qs.length * k) := fun q => by
    have : ((L : Int) / (q.den : Int)) = ((L / q.den : Nat) : Int) := by norm_cast
    rw [this, Int.natAbs_natCast]
    exact Nat.lt_of_le_of_lt (Nat.div_le_self _ _) Lz
  have f0_sz : ∀ q ∈ qs, (f0 q).natAbs < 2 ^ (1 + qs.length * k + l) := fun q hq => by
    show (q.num * ((L : Int) / q.den)).natAbs < _
    rw [Int.natAbs_mul, Nat.add_comm (1 + qs.length * k) l]
    exact mul_lt_pow (h q hq).1 (q_div q)
  -- the row of whole numbers
  have hrow : lcD (.nm 2) yesB (op2 mulD (op2 ixD (varW 2) (cD (.int 0))) (op2 fdivD (varW 1) (op2 ixD (varW 2) (cD (.int 1))))) (qs.map R) [.sh (.list (qs.map R)), .sh (.int (L : Nat)), .un, .un, .un, .un] s = .ok ((qs.map f0).map .int) s := by
    have key := lcD_map (i := 2) (ge := op2 mulD (op2 ixD (varW 2) (cD (.int 0))) (op2 fdivD (varW 1) (op2 ixD (varW 2) (cD (.int 1))))) (fun d => match d with | .tuple [.int a, .int b] => .int (a * ((L : Int) / b)) | d => d) (qs.map R) [.sh (.list (qs.map R)), .sh (.int (L : Nat)), .un, .un, .un, .un] s (fun d hd => by
      obtain ⟨q, hq, rfl⟩ := List.mem_map.mp hd
      have hq' := h q hq
      have hm : mulD (.int q.num) (.int ((L : Int) / q.den)) = some (.int (q.num * ((L : Int) / q.den))) := ok_of hq'.1 (q_div q) (by omega)
      simp -implicitDefEqProofs [R_def, fdivD_int (den_ne q) (log2_den' hq'.2 (by omega)), fdiv_nat_dvd q.den_nz, hm])
    rw [key, List.map_map, List.map_map]
    rfl
  obtain ⟨x5, hg⟩ := gcd_loop s (.sh (.list (qs.map R))) (.sh (.int (L : Nat))) x (.sh (.list ((qs.map f0).map .int))) (qs.map f0) 0 .un
  generalize hG : gcdL 0 (qs.map f0) = g at hg
  have hGd := (gcdL_dvd (qs.map f0) 0).2
  rw [hG] at hGd
  have hline : qs.length ≤ sizeLine := small_line (by omega)
  have start : ∀ d, (retD (ifG (tst2 eqD (varW 4) (cD (.int 0))) (callB tupF (consG (varW 3) nilG)) (callB tupF (consG (asLst (lcG (.nm 5) [5] (itemG (varD 3)) yesB (op2 fdivD (varW 5) (varW 4)))) nilG)))) [.sh (.list (qs.map R)), .sh (.int (L : Nat)), x, .sh (.list ((qs.map f0).map .int)), .sh (.int (g : Nat)), x5] s = .rt d s → m_scaled [.sh (.list (qs.map R))] s = .ok d s := fun d hd => by
    unfold m_scaled g_scaled
    refine run_rt ?_
    rw [seqD_nx (e := [.sh (.list (qs.map R)), .sh (.int (1 : Nat)), .un, .un, .un, .un]) (s1 := s) (by simp -implicitDefEqProofs)]
    rw [seqD_nx (e := [.sh (.list (qs.map R)), .sh (.int (L : Nat)), x, .un, .un, .un]) (s1 := s) (by
      rw [forG_def]
      simp -implicitDefEqProofs only [itemG_def, varD_def, List.getElem?_cons_zero, bind_ok, listF_list, lift_some, evS_ok]
      exact hx)]
    rw [seqD_nx (e := [.sh (.list (qs.map R)), .sh (.int (L : Nat)), x, .sh (.list ((qs.map f0).map .int)), .un, .un]) (s1 := s) (by
      simp -implicitDefEqProofs [-List.map_map, hline]
      rw [hrow]
      simp -implicitDefEqProofs [-List.map_map])]
    rw [seqD_nx (e := [.sh (.list (qs.map R)), .sh (.int (L : Nat)), x, .sh (.list ((qs.map f0).map .int)), .sh (.int (0 : Nat)), .un]) (s1 := s) (by simp -implicitDefEqProofs)]
    rw [seqD_nx (e := [.sh (.list (qs.map R)), .sh (.int (L : Nat)), x, .sh (.list ((qs.map f0).map .int)), .sh (.int (g : Nat)), x5]) (s1 := s) (by
      rw [forG_def]
      simp -implicitDefEqProofs only [itemG_def, varD_def, List.getElem?_cons_zero, List.getElem?_cons_succ, bind_ok, listF_list, lift_some, evS_ok]
      exact hg)]
    exact hd
  by_cases g0 : g = 0
  · subst g0
    refine ⟨L, f0, start _ ?_, Lpos, f0_eq, fun ⟨q, hq, hne⟩ => ?_, f0_sz⟩
    · simp -implicitDefEqProofs
    · exfalso
      have z := (gcdL_zero _ _ hG).2 (f0 q) (List.mem_map_of_mem hq)
      have e := f0_eq q hq
      rw [z] at e
      have : (L : Rat) * q = 0 := by rw [← e]; rfl
      rcases Rat.mul_eq_zero.mp this with w | w
      · exact absurd w (by intro w; rw [w] at Lpos; exact Rat.lt_irrefl Lpos)
      · exact hne w
  · have hg1 : ((g : Nat) : Int) ≠ 0 := by omega
    have gpos : (0 : Rat) < g := by exact_mod_cast Nat.pos_of_ne_zero g0
    have gne : (g : Rat) ≠ 0 := fun w => by rw [w] at gpos; exact Rat.lt_irrefl gpos
    have hmul : ∀ q ∈ qs, (g : Int) * (f0 q / g) = f0 q := fun q hq => Int.mul_ediv_cancel' (hGd _ (List.mem_map_of_mem hq))
    have hgz : ((g : Nat) : Int).natAbs.log2 < 9000 := by
      by_cases hall : ∀ q ∈ qs, f0 q = 0
      · exfalso
        have : ∀ (ns : List Int) (n : Nat), n = 0 → (∀ i ∈ ns, i = 0) → gcdL n ns = 0 := by
          intro ns
          induction ns with
          | nil => intro n h _; exact h
          | cons i ns ih => intro n h hi; exact ih _ (by rw [h, hi i List.mem_cons_self]; rfl) fun j hj => hi j (List.mem_cons_of_mem _ hj)
        exact g0 (by rw [← hG]; exact this _ _ rfl fun i hi => by obtain ⟨q, hq, rfl⟩ := List.mem_map.mp hi; exact hall q hq)
      · have ⟨q, hq⟩ : ∃ q, ¬ (q ∈ qs → f0 q = 0) := Classical.not_forall.mp hall
        have hq1 : q ∈ qs := Classical.byContradiction fun z => hq fun w => absurd w z
        have hq2 : f0 q ≠ 0 := fun z => hq fun _ => z
        have hle : g ≤ (f0 q).natAbs := Nat.le_of_dvd (by omega) (Int.ofNat_dvd_left.mp (hGd _ (List.mem_map_of_mem hq1)))
        have := log2_of_lt (Nat.lt_of_le_of_lt hle (f0_sz q hq1)) (show 1 + qs.length * k + l ≤ 9000 by omega) (by omega)
        simpa using this
    refine ⟨(L : Rat) / g, fun q => f0 q / g, start _ ?_, ?_, fun q hq => ?_, fun _ => ?_, fun q hq => ?_⟩
    · have hz2 : (((g : Nat) : Int) == 0) = false := by simpa using g0
      have hrow2 : lcD (.nm 5) yesB (op2 fdivD (varW 5) (varW 4)) ((qs.map f0).map .int) [.sh (.list (qs.map R)), .sh (.int (L : Nat)), x, .sh (.list ((qs.map f0).map .int)), .sh (.int (g : Nat)), .un] s = .ok ((qs.map fun q => f0 q / g).map .int) s := by
        have key := lcD_map (i := 5) (ge := op2 fdivD (varW 5) (varW 4)) (fun d => match d with | .int a => .int (a / g) | d => d) ((qs.map f0).map .int) [.sh (.list (qs.map R)), .sh (.int (L : Nat)), x, .sh (.list ((qs.map f0).map .int)), .sh (.int (g : Nat)), .un] s (fun d hd => by
          obtain ⟨i, hi, rfl⟩ := List.mem_map.mp hd
          simp -implicitDefEqProofs [fdivD_int hg1 hgz, fdiv_nat_dvd g0])
        rw [key, List.map_map, List.map_map, List.map_map]
        rfl
      simp -implicitDefEqProofs [-List.map_map, hz2, hline]
      rw [hrow2]
      simp -implicitDefEqProofs [-List.map_map]
    · rw [Rat.div_def]
      exact Rat.mul_pos Lpos (Rat.inv_pos.mpr gpos)
    · have e := f0_eq q hq
      have e2 : ((g : Int) : Rat) * ((f0 q / g : Int) : Rat) = (f0 q : Rat) := by rw [← Rat.intCast_mul, hmul q hq]
      have e3 : ((g : Int) : Rat) = (g : Rat) := by norm_cast
      rw [e3, e] at e2
      have : ((f0 q / g : Int) : Rat) = (L : Rat) / g * q := by grind
      exact this
    · have e : (qs.map f0) = (qs.map fun q => f0 q / g).map fun i => (g : Int) * i := by
        rw [List.map_map]
        exact List.map_congr_left fun q hq => (hmul q hq).symm
      have := gcdL_mul g (qs.map fun q => f0 q / g) 0
      rw [← e, Nat.mul_zero, hG] at this
      have h1 : g * gcdL 0 (qs.map fun q => f0 q / g) = g * 1 := by omega
      exact Nat.eq_of_mul_eq_mul_left (Nat.pos_of_ne_zero g0) h1
    · exact Nat.lt_of_le_of_lt (Int.natAbs_ediv_le_natAbs _ _) (f0_sz q hq)
end NW
end

section
set_option linter.all false
set_option maxRecDepth 100000
set_option autoImplicit false
namespace NW
open PySem
open DS

def g__law_part : Ev → LS → SOut := (seqD (setD 1 (asSh (callG m__law_pick (consG (varX 0) (consG (asSh (asLst (lstG (consG (cD (.int 3)) (consG (cD (.int 30)) (consG (cD (.int 10000)) (consG (cD (.int 1000000000000)) nilG))))))) nilG)))))
  (retD (callG m__law_fr (consG (asSh (op2 subD (callG m__law_take (consG (varX 0) (consG (asSh (op2 addD (op2 mulD (cD (.int 2)) (varW 1)) (cD (.int 1)))) nilG))) (varW 1))) (consG (asSh (op2 addD (cD (.int 1)) (callG m__law_take (consG (varX 0) (consG (asSh (callG m__law_pick (consG (varX 0) (consG (asSh (asLst (lstG (consG (cD (.int 1)) (consG (cD (.int 6)) (consG (cD (.int 5000)) nilG)))))) nilG)))) nilG))))) nilG)))))
def m__law_part : List EV → LS → Out D := run 2 g__law_part
def g__law_gcd : Ev → LS → SOut := (seqD (par2 0 1 (asSh (callB absF (consG (varW 0) nilG))) (asSh (callB absF (consG (varW 1) nilG))))
  (seqD (forG (.nm 2) (rng1 (cD (.int 400))) (seqD (ifD (tst2 eqD (varW 1) (cD (.int 0))) brkD nopD)
  (par2 0 1 (asSh (varD 1)) (asSh (op2 modD (callB intF (consG (varW 0) nilG)) (varW 1))))))
  (retD (varD 0))))
def m__law_gcd : List EV → LS → Out D := run 3 g__law_gcd
def g__law_gcd_of : Ev → LS → SOut := (seqD (setD 1 (asSh (cD (.int 0))))
  (seqD (forG (.nm 2) (itemG (varD 0)) (setD 1 (asSh (callG m__law_gcd (consG (varX 1) (consG (varX 2) nilG))))))
  (retD (varD 1))))
def m__law_gcd_of : List EV → LS → Out D := run 3 g__law_gcd_of
def g__law_is : Ev → LS → SOut := (seqD (ifD (orB (notB (tst (isiG isTup (varW 0)))) (tst2 neD (callB lenF (consG (varW 0) nilG)) (cD (.int 2)))) (retD (cD (.bool false))) nopD)
  (seqD (ifD (tst2 gtD (callB lenF (consG (asLst (lcG (.nm 1) [1] (itemG (varD 0)) (orB (notB (tst (isiG isInt (varW 1)))) (tst (isiG isBool (varW 1)))) (varD 1))) nilG)) (cD (.int 0))) (retD (cD (.bool false))) nopD)
  (retD (andD (op2 gtD (op2 ixD (varW 0) (cD (.int 1))) (cD (.int 0))) (op2 eqD (callG m__law_gcd (consG (asSh (op2 ixD (varW 0) (cD (.int 0)))) (consG (asSh (op2 ixD (varW 0) (cD (.int 1)))) nilG))) (cD (.int 1)))))))
def m__law_is : List EV → LS → Out D := run 2 g__law_is
def g_law : Ev → LS → SOut := (seqD (par3 2 3 4 (asSh (callG m__law_part (consG (varX 1) nilG))) (asSh (callG m__law_part (consG (varX 1) nilG))) (asSh (callG m__law_part (consG (varX 1) nilG))))
  (seqD (par2 5 6 (asSh (op2 subD (callG m__law_take (consG (varX 1) (consG (asSh (cD (.int 2001))) nilG))) (cD (.int 1000)))) (asSh (op2 subD (callG m__law_take (consG (varX 1) (consG (asSh (cD (.int 2001))) nilG))) (cD (.int 1000)))))
  (seqD (ifD (orB (tst2 neD (callG m_divisor (consG (varX 5) (consG (varX 6) nilG))) (callG m__law_gcd (consG (varX 5) (consG (varX 6) nilG)))) (orB (tst2 neD (callG m_divisor (consG (asSh (cD (.int 0))) (consG (asSh (cD (.int 0))) nilG))) (cD (.int 0))) (orB (andB (tst2 neD (varW 6) (cD (.int 0))) (tst2 neD (callG m_part (consG (varX 5) (consG (varX 6) nilG))) (callG m__law_fr (consG (varX 5) (consG (varX 6) nilG))))) (tst2 neD (callG m_part (consG (asSh (cD (.int 0))) (consG (asSh (cD (.int 7))) nilG))) (tupG (consG (cD (.int 0)) (consG (cD (.int 1)) nilG))))))) (retD (cD (.bool false))) nopD)
  (seqD (ifD (orB (tst2 neD (callG m_plus (consG (varX 2) (consG (varX 3) nilG))) (callG m__law_add (consG (varX 2) (consG (varX 3) nilG)))) (orB (tst2 neD (callG m_minus (consG (varX 2) (consG (varX 3) nilG))) (callG m__law_sub (consG (varX 2) (consG (varX 3) nilG)))) (tst2 neD (callG m_times (consG (varX 2) (consG (varX 3) nilG))) (callG m__law_mul (consG (varX 2) (consG (varX 3) nilG)))))) (retD (cD (.bool false))) nopD)
  (seqD (ifD (andB (tst2 neD (op2 ixD (varW 3) (cD (.int 0))) (cD (.int 0))) (tst2 neD (callG m_over (consG (varX 2) (consG (varX 3) nilG))) (callG m__law_mul (consG (varX 2) (consG (asSh (callG m__law_fr (consG (asSh (op2 ixD (varW 3) (cD (.int 1)))) (consG (asSh (op2 ixD (varW 3) (cD (.int 0)))) nilG)))) nilG))))) (retD (cD (.bool false))) nopD)
  (seqD (ifD (orB (tst2 neD (callG m_is_less (consG (varX 2) (consG (varX 3) nilG))) (op2 ltD (callG m__law_sign (consG (varX 2) (consG (varX 3) nilG))) (cD (.int 0)))) (orB (tst2 isntD (callG m_is_less (consG (varX 2) (consG (varX 2) nilG))) (cD (.bool false))) (tst2 isntD (callG m_is_less (consG (varX 2) (consG (asSh (callG m__law_add (consG (varX 2) (consG (asSh (tupG (consG (cD (.int 1)) (consG (cD (.int 1000000)) nilG)))) nilG)))) nilG))) (cD (.bool true))))) (retD (cD (.bool false))) nopD)
  (seqD (frzA 7 (setD 7 (asOw (lcG (.nm 8) [8] (rng1 (callG m__law_take (consG (varX 1) (consG (asSh (cD (.int 6))) nilG)))) yesB (callG m__law_part (consG (varX 1) nilG))))))
  (seqD (unpD (.tp [9, 10]) (tupG (consG (tupG (consG (cD (.int 0)) (consG (cD (.int 1)) nilG))) (consG (cD .none) nilG))))
  (seqD (forG (.nm 11) (itemG (varD 7)) (seqD (setD 9 (asSh (callG m__law_add (consG (varX 9) (consG (varX 11) nilG)))))
  (setD 10 (asSh (ifG (orB (tst2 isD (varW 10) (cD .none)) (tst2 ltD (callG m__law_sign (consG (varX 11) (consG (varX 10) nilG))) (cD (.int 0)))) (varD 11) (varD 10))))))
  (seqD (ifD (orB (tst2 neD (callG m_total (consG (asSh (asLst (lcG (.nm 11) [11] (itemG (varD 7)) yesB (varD 11)))) nilG)) (varW 9)) (tst2 neD (callG m_least_of (consG (asSh (asLst (lcG (.nm 11) [11] (itemG (varD 7)) yesB (varD 11)))) nilG)) (varW 10))) (retD (cD (.bool false))) nopD)
  (seqD (par2 12 13 (asSh (callG m_whole_below (consG (varX 2) nilG))) (asSh (callG m_whole_above (consG (varX 2) nilG))))
  (seqD (ifD (orB (tst2 gtD (op2 mulD (varW 12) (op2 ixD (varW 2) (cD (.int 1)))) (op2 ixD (varW 2) (cD (.int 0)))) (orB (tst2 leD (op2 mulD (op2 addD (varW 12) (cD (.int 1))) (op2 ixD (varW 2) (cD (.int 1)))) (op2 ixD (varW 2) (cD (.int 0)))) (orB (tst2 ltD (op2 mulD (varW 13) (op2 ixD (varW 2) (cD (.int 1)))) (op2 ixD (varW 2) (cD (.int 0)))) (tst2 geD (op2 mulD (op2 subD (varW 13) (cD (.int 1))) (op2 ixD (varW 2) (cD (.int 1)))) (op2 ixD (varW 2) (cD (.int 0))))))) (retD (cD (.bool false))) nopD)
  (seqD (ifD (orB (tst2 neD (callG m_is_whole_part (consG (varX 2) nilG)) (op2 eqD (op2 ixD (varW 2) (cD (.int 1))) (cD (.int 1)))) (orB (tst2 isntD (callG m_is_whole_part (consG (asSh (tupG (consG (varD 5) (consG (cD (.int 1)) nilG)))) nilG)) (cD (.bool true))) (tst2 isntD (callG m_is_whole_part (consG (asSh (tupG (consG (cD (.int 1)) (consG (cD (.int 2)) nilG)))) nilG)) (cD (.bool false))))) (retD (cD (.bool false))) nopD)
  (seqD (setD 14 (asSh (callG m_scaled (consG (asSh (asLst (lcG (.nm 11) [11] (itemG (varD 7)) yesB (varD 11)))) nilG))))
  (seqD (ifD (orB (tst2 neD (callB lenF (consG (varW 14) nilG)) (callB lenF (consG (varW 7) nilG))) (andB (tst2 gtD (callB lenF (consG (varW 7) nilG)) (cD (.int 0))) (andB (tst2 gtD (callB maxF (consG (asLst (lcG (.nm 11) [11] (itemG (varD 7)) yesB (callB absF (consG (op2 ixD (varW 11) (cD (.int 0))) nilG)))) nilG)) (cD (.int 0))) (tst2 neD (callG m__law_gcd_of (consG (varX 14) nilG)) (cD (.int 1)))))) (retD (cD (.bool false))) nopD)
  (seqD (forG (.nm 8) (rng1 (callB lenF (consG (varW 7) nilG))) (forG (.nm 15) (rng1 (callB lenF (consG (varW 7) nilG))) (ifD (orB (tst2 neD (callG m__law_mul (consG (asSh (tupG (consG (op2 ixD (varW 14) (varD 8)) (consG (cD (.int 1)) nilG)))) (consG (asSh (op2 ixD (varW 7) (varD 15))) nilG))) (callG m__law_mul (consG (asSh (tupG (consG (op2 ixD (varW 14) (varD 15)) (consG (cD (.int 1)) nilG)))) (consG (asSh (op2 ixD (varW 7) (varD 8))) nilG)))) (orB (tst2 neD (op2 gtD (op2 ixD (varW 14) (varD 8)) (cD (.int 0))) (op2 gtD (op2 ixD (op2 ixD (varW 7) (varD 8)) (cD (.int 0))) (cD (.int 0)))) (tst2 neD (op2 ltD (op2 ixD (varW 14) (varD 8)) (cD (.int 0))) (op2 ltD (op2 ixD (op2 ixD (varW 7) (varD 8)) (cD (.int 0))) (cD (.int 0)))))) (retD (cD (.bool false))) nopD)))
  (seqD (frzA 16 (setD 16 (asOw (lcG (.nm 11) [11] (itemG (varD 7)) yesB (op2 subD (callG m__law_take (consG (varX 1) (consG (asSh (cD (.int 21))) nilG))) (cD (.int 10)))))))
  (seqD (setD 17 (asSh (tupG (consG (cD (.int 0)) (consG (cD (.int 1)) nilG)))))
  (seqD (forG (.nm 8) (rng1 (callB lenF (consG (varW 7) nilG))) (setD 17 (asSh (callG m__law_add (consG (varX 17) (consG (asSh (callG m__law_mul (consG (asSh (tupG (consG (op2 ixD (varW 16) (varD 8)) (consG (cD (.int 1)) nilG)))) (consG (asSh (op2 ixD (varW 7) (varD 8))) nilG)))) nilG))))))
  (seqD (ifD (tst2 neD (callG m_dot (consG (asSh (asLst (lcG (.nm 11) [11] (itemG (varD 16)) yesB (varD 11)))) (consG (asSh (asLst (lcG (.nm 11) [11] (itemG (varD 7)) yesB (varD 11)))) nilG))) (varW 17)) (retD (cD (.bool false))) nopD)
  (seqD (forG (.nm 18) (itemG (asLst (lstG (consG (varD 2) (consG (asLst (listG (varW 2))) (consG (op2 addD (varW 2) (tupG (consG (cD (.int 1)) nilG))) (consG (tupG (consG (op2 ixD (varW 2) (cD (.int 0))) (consG (op2 subD (cD (.int 0)) (op2 ixD (varW 2) (cD (.int 1)))) nilG))) (consG (tupG (consG (op2 addD (op2 mulD (cD (.int 2)) (op2 ixD (varW 2) (cD (.int 0)))) (cD (.int 2))) (consG (cD (.int 2)) nilG))) (consG (tupG (consG (varD 5) (consG (cD (.int 0)) nilG))) (consG (tupG (consG (cD (.bool true)) (consG (cD (.int 1)) nilG))) (consG (tupG (consG (cD (.int 1)) (consG (cD (.bool true)) nilG))) (consG (tupG (consG (cD (.int 0)) (consG (cD (.int 2)) nilG))) (consG (tupG (consG (cD (.int 0)) (consG (cD (.int 1)) nilG))) (consG (cD .none) (consG (cD (.int 3)) (consG (tupG (consG (cD (.str (PySem.Str.ofString "1"))) (consG (cD (.int 2)) nilG))) (consG (tupG (consG (varD 5) (consG (cD (.int 1)) nilG))) (consG (tupG nilG) nilG)))))))))))))))))) (ifD (tst2 neD (callG m_is_part (consG (varX 18) nilG)) (callG m__law_is (consG (varX 18) nilG))) (retD (cD (.bool false))) nopD))
  (seqD (setD 19 (asSh (callB tupF (consG (varW 7) nilG))))
  (seqD (forG (.nm 18) (itemG (asLst (lstG (consG (varD 19) (consG (asLst (listG (varW 19))) (consG (op2 addD (varW 19) (tupG (consG (cD .none) nilG))) (consG (op2 addD (varW 19) (tupG (consG (tupG (consG (cD (.int 2)) (consG (cD (.int 4)) nilG))) nilG))) (consG (op2 addD (varW 19) (tupG (consG (varD 2) nilG))) (consG (cD .none) (consG (tupG nilG) (consG (tupG (consG (varD 2) (consG (varD 3) (consG (varD 4) nilG)))) nilG))))))))))) (forG (.nm 20) (itemG (tupG (consG (callB lenF (consG (varW 19) nilG)) (consG (cD (.int 3)) nilG)))) (ifD (tst2 neD (callG m_are_parts (consG (varX 18) (consG (varX 20) nilG))) (andD (isiG isTup (varW 18)) (andD (op2 eqD (callB lenF (consG (varW 18) nilG)) (varW 20)) (op2 eqD (callB lenF (consG (asLst (lcG (.nm 11) [11] (itemG (varD 18)) (notB (tst (callG m__law_is (consG (varX 11) nilG)))) (varD 11))) nilG)) (cD (.int 0)))))) (retD (cD (.bool false))) nopD)))
  (retD (cD (.bool true))))))))))))))))))))))))))
def m_law : List EV → LS → Out D := run 21 g_law
end NW
end

section
set_option linter.all false
set_option autoImplicit false
namespace NW
open PySem hiding run
open DS
/-! ## law k09: parts -/
def Bq (q : Rat) : Prop := q.num.natAbs < 2 ^ 40 ∧ q.den < 2 ^ 13
theorem Bq.sz {q : Rat} (h : Bq q) : Sz 40 q := ⟨h.1, Nat.lt_trans h.2 (by decide)⟩
theorem part09 {s : LS} (h : WFS s) : ∃ q s', m__law_part [.st] s = .ok (R q) s' ∧ WFS s' ∧ Bq q := by
  obtain ⟨x1, s1, e1, w1, hx1⟩ := pick_ok h (xs := [.int 3, .int 30, .int 10000, .int 1000000000000]) (by simp) (by decide)
  obtain ⟨top, rfl, ht0, ht1⟩ : ∃ top : Int, x1 = .int top ∧ 3 ≤ top ∧ top ≤ 1000000000000 := by
    simp only [List.mem_cons, List.not_mem_nil, or_false] at hx1
    rcases hx1 with rfl | rfl | rfl | rfl
    · exact ⟨3, rfl, by decide, by decide⟩
    · exact ⟨30, rfl, by decide, by decide⟩
    · exact ⟨10000, rfl, by decide, by decide⟩
    · exact ⟨1000000000000, rfl, by decide, by decide⟩
  obtain ⟨r1, s2, e2, w2, hr0, hr1⟩ := take_ok w1 (most := 2 * top + 1) (by omega) (by omega)
  obtain ⟨x2, s3, e3, w3, hx2⟩ := pick_ok w2 (xs := [.int 1, .int 6, .int 5000]) (by simp) (by decide)
  obtain ⟨low, rfl, hl0, hl1⟩ : ∃ low : Int, x2 = .int low ∧ 1 ≤ low ∧ low ≤ 5000 := by
    simp only [List.mem_cons, List.not_mem_nil, or_false] at hx2
    rcases hx2 with rfl | rfl | rfl
    · exact ⟨1, rfl, by decide, by decide⟩
    · exact ⟨6, rfl, by decide, by decide⟩
    · exact ⟨5000, rfl, by decide, by decide⟩
  obtain ⟨r2, s4, e4, w4, hq0, hq1⟩ := take_ok w3 (most := low) (by omega) (by omega)
  have hb : (1 + r2 : Int) ≠ 0 := by omega
  have hbz : (1 + r2 : Int).natAbs < 2 ^ 13 := by omega
  have haz : (r1 - top : Int).natAbs < 2 ^ 40 := by omega
  refine ⟨Rat.divInt (r1 - top) (1 + r2), s4, ?_, w4, Nat.lt_of_le_of_lt (num_divInt_le _ hb).1 haz, Nat.lt_of_le_of_lt (num_divInt_le _ hb).2 hbz⟩
  have e5 := m__law_fr_eq (r1 - top) (1 + r2) s4 hb (Nat.lt_of_lt_of_le hbz (Nat.pow_le_pow_right (by decide) (by decide)))
  have hm : mulD (.int 2) (.int top) = some (.int (2 * top)) := mulD_int (.inl ⟨by decide, by decide⟩)
  unfold m__law_part g__law_part
  simp -implicitDefEqProofs [e1, e2, e3, e4, e5, hm]
/-! ### Euclid of 400 turns -/
abbrev gcBody : Ev → LS → SOut := seqD (ifD (tst2 eqD (varW 1) (cD (.int 0))) brkD nopD) (par2 0 1 (asSh (varD 1)) (asSh (op2 modD (callB intF (consG (varW 0) nilG)) (varW 1))))
theorem gcBody_zero (x2 : EV) (a : Nat) (s : LS) : gcBody [.sh (.int a), .sh (.int 0), x2] s = .bk [.sh (.int a), .sh (.int 0), x2] s := by
  simp -implicitDefEqProofs [gcBody]
theorem gcBody_pos (x2 : EV) (a b : Nat) (hb : b ≠ 0) (s : LS) : gcBody [.sh (.int a), .sh (.int b), x2] s = .nx [.sh (.int b), .sh (.int (a % b : Nat)), x2] s := by
  have h1 : ((b : Int) == 0) = false := by simpa using hb
  have h2 : (b : Int) ≠ 0 := by omega
  simp -implicitDefEqProofs only [gcBody, seqD_def, ifD_def, tst2_def, op2_def, varW_def, cD_def, List.getElem?_cons_succ, List.getElem?_cons_zero, bind_ok, eqD_int, h1, lift_some, asB_bool, evS_ok, Bool.false_eq_true, if_false, nopD_def, par2_def, asSh_def, varD_def, callB_def, consG_def, nilG_def, intF_int, modD_int h2, fmod_nat, List.set_cons_zero, List.set_cons_succ]
theorem forD_bk {t : Tg} {gb : Ev → LS → SOut} {d : D} {ds : List D} {env env1 e : Ev} {s s' : LS} (h1 : t.asg d env = some env1) (h2 : gb env1 s = .bk e s') : forD t gb (d :: ds) env s = .nx e s' := by
  rw [forD_cons, h1]
  simp only [h2]
theorem euclid_gc : ∀ (m a b : Nat) (ds : List D) (x2 : EV) (s : LS), b < 2 ^ m → 2 * m ≤ ds.length →
    ∃ x, forD (.nm 2) gcBody ds [.sh (.int a), .sh (.int b), x2] s = .nx [.sh (.int (a.gcd b : Nat)), .sh (.int 0), x] s := by
  have zero : ∀ (a : Nat) (ds : List D) (x2 : EV) (s : LS), ∃ x, forD (.nm 2) gcBody ds [.sh (.int a), .sh (.int 0), x2] s = .nx [.sh (.int a), .sh (.int 0), x] s := by
    intro a ds x2 s
    cases ds with
    | nil => exact ⟨_, rfl⟩
    | cons d ds => exact ⟨.sh d, forD_bk (env1 := [.sh (.int a), .sh (.int 0), .sh d]) rfl (gcBody_zero _ _ _)⟩
  intro m
  induction m with
  | zero =>
    intro a b ds x2 s hb _
    have : b = 0 := by simpa using hb
    subst this
    rw [Nat.gcd_zero_right]
    exact zero a ds x2 s
  | succ m ih =>
    intro a b ds x2 s hb hl
    by_cases h0 : b = 0
    · subst h0
      rw [Nat.gcd_zero_right]
      exact zero a ds x2 s
    · match ds, hl with
      | d1 :: d2 :: ds, hl =>
        rw [forD_nx (env1 := [.sh (.int a), .sh (.int b), .sh d1]) rfl (gcBody_pos _ _ _ h0 s)]
        by_cases hr : a % b = 0
        · obtain ⟨x, hx⟩ := zero b (d2 :: ds) (.sh d1) s
          refine ⟨x, ?_⟩
          rw [hr, ← gcd_step, hr, Nat.gcd_zero_right]
          exact hx
        · obtain ⟨x, hx⟩ := ih (a % b) (b % (a % b)) ds (.sh d2) s (half_two hb hr h0) (by simp only [List.length_cons] at hl; omega)
          refine ⟨x, ?_⟩
          rw [forD_nx (env1 := [.sh (.int b), .sh (.int (a % b : Nat)), .sh d2]) rfl (gcBody_pos _ _ _ hr s)]
          rw [← gcd_step a b, ← gcd_step b (a % b)]
          exact hx
theorem m__law_gcd_eq (a b : Int) (hb : b.natAbs < 2 ^ 200) (s : LS) : m__law_gcd [.sh (.int a), .sh (.int b)] s = .ok (.int (a.gcd b : Nat)) s := by
  obtain ⟨x, hx⟩ := euclid_gc 200 a.natAbs b.natAbs (rangeL 0 400) .un s hb (by rw [rangeL_length]; decide)
  have hr : rngB 400 := rngB_small (by decide) (by decide)
  unfold m__law_gcd g__law_gcd
  refine run_rt ?_
  rw [seqD_nx (e := [.sh (.int (a.natAbs : Nat)), .sh (.int (b.natAbs : Nat)), .un]) (s1 := s) (by simp -implicitDefEqProofs)]
  rw [seqD_nx (e := [.sh (.int (a.gcd b : Nat)), .sh (.int 0), x]) (s1 := s)]
  · simp -implicitDefEqProofs
  · rw [forG_def, rng1_def]
    simp -implicitDefEqProofs only [cD_def, bind_ok, if_pos hr, evS_ok]
    exact hx
theorem gcd_of_loop (s : LS) (x0 : EV) (ns : List Int) : ∀ (n : Nat) (x2 : EV), (∀ i ∈ ns, i.natAbs < 2 ^ 200) →
    ∃ x, forD (.nm 2) (setD 1 (asSh (callG m__law_gcd (consG (varX 1) (consG (varX 2) nilG))))) (ns.map .int) [x0, .sh (.int (n : Nat)), x2] s = .nx [x0, .sh (.int (gcdL n ns : Nat)), x] s := by
  induction ns with
  | nil => exact fun n x2 _ => ⟨x2, rfl⟩
  | cons i ns ih =>
    intro n x2 h
    obtain ⟨x, hx⟩ := ih (n.gcd i.natAbs) (.sh (.int i)) fun j hj => h j (List.mem_cons_of_mem _ hj)
    refine ⟨x, ?_⟩
    have e := m__law_gcd_eq (n : Int) i (h i List.mem_cons_self) s
    have e2 : (((n : Int).gcd i : Nat)) = n.gcd i.natAbs := rfl
    rw [e2] at e
    rw [List.map_cons, forD_nx (env1 := [x0, .sh (.int (n : Nat)), .sh (.int i)]) (e := [x0, .sh (.int (n.gcd i.natAbs : Nat)), .sh (.int i)]) (s' := s) rfl (by simp -implicitDefEqProofs [e])]
    exact hx
theorem m__law_gcd_of_eq (ns : List Int) (h : ∀ i ∈ ns, i.natAbs < 2 ^ 200) (s : LS) : m__law_gcd_of [.sh (.tuple (ns.map .int))] s = .ok (.int (gcdL 0 ns : Nat)) s := by
  obtain ⟨x, hx⟩ := gcd_of_loop s (.sh (.tuple (ns.map .int))) ns 0 .un h
  unfold m__law_gcd_of g__law_gcd_of
  refine run_rt ?_
  rw [seqD_nx (e := [.sh (.tuple (ns.map .int)), .sh (.int (0 : Nat)), .un]) (s1 := s) (by simp -implicitDefEqProofs)]
  rw [seqD_nx (e := [.sh (.tuple (ns.map .int)), .sh (.int (gcdL 0 ns : Nat)), x]) (s1 := s)]
  · simp -implicitDefEqProofs
  · rw [forG_def]
    simp -implicitDefEqProofs only [itemG_def, varD_def, List.getElem?_cons_zero, bind_ok, listF_tuple, lift_some, evS_ok]
    exact hx
/-! ### the law's own look at parts -/
def fit (d : D) : Prop := ∀ a b : Int, d = .tuple [.int a, .int b] → b.natAbs < 2 ^ 200
theorem m__law_is_eq (d : D) (hd : small d) (hf : fit d) (s : LS) : m__law_is [.sh d] s = .ok (.bool (isPartD d)) s := by
  unfold m__law_is g__law_is
  refine run_rt ?_
  have hno : ∀ d, isTup d = false → isPartD d = false := fun d h => by cases d <;> simp [isTup] at h <;> rfl
  cases hT : isTup d with
  | false => rw [seqD_rt (d := .bool false) (s1 := s) (by simp -implicitDefEqProofs [hT]), hno d hT]
  | true =>
    cases d with
    | tuple ds =>
      have hlen := hd ds rfl
      by_cases h2 : ds.length = 2
      · match ds, h2 with
        | [x, y], _ =>
          rw [seqD_nx (e := [.sh (.tuple [x, y]), .un]) (s1 := s) (by simp -implicitDefEqProofs [isTup])]
          have hl : lcD (.nm 1) (orB (notB (tst (isiG isInt (varW 1)))) (tst (isiG isBool (varW 1)))) (varD 1) [x, y] [.sh (.tuple [x, y]), .un] s = .ok (([x, y].filter fun d => !plainInt d).map id) s := by
            refine lcD_filter _ _ _ _ _ (fun d _ => ?_) fun d _ _ => ?_
            · cases h : isInt d <;> cases h' : isBool d <;> simp -implicitDefEqProofs [plainInt, h, h']
            · simp -implicitDefEqProofs
          cases hp : (plainInt x && plainInt y) with
          | false =>
            rw [seqD_rt (d := .bool false) (s1 := s) (by
              simp -implicitDefEqProofs [hl]
              simp only [Bool.and_eq_false_iff] at hp
              cases hx : plainInt x <;> cases hy : plainInt y <;> simp [hx, hy] at hp ⊢)]
            have : isPartD (.tuple [x, y]) = false := by
              cases x <;> cases y <;> first | rfl | (simp [plainInt, isInt, isBool] at hp)
            rw [this]
          | true =>
            have hp' := Bool.and_eq_true_iff.mp hp
            obtain ⟨i, rfl⟩ := plain_cases hp'.1
            obtain ⟨j, rfl⟩ := plain_cases hp'.2
            rw [seqD_nx (e := [.sh (.tuple [.int i, .int j]), .un]) (s1 := s) (by
              simp -implicitDefEqProofs [hl, hp'.1, hp'.2])]
            by_cases hj : 0 < j
            · have hj1 : 1 ≤ j := by omega
              simp -implicitDefEqProofs [m__law_gcd_eq i j (hf i j rfl), hj, isPartD, gcd_eqD, hj1]
            · have hj1 : ¬ 1 ≤ j := by omega
              simp -implicitDefEqProofs [hj, isPartD, hj1]
      · have h2' : ((ds.length : Int) != 2) = true := by
          simp
          omega
        rw [seqD_rt (d := .bool false) (s1 := s) (by simp -implicitDefEqProofs [isTup, h2'])]
        have : isPartD (.tuple ds) = false := by
          match ds, h2 with
          | [], _ => rfl
          | [_], _ => cases ‹D› <;> rfl
          | _ :: _ :: _ :: _, _ => unfold isPartD; split <;> first | rfl | (rename_i h; cases h)
          | [_, _], h => exact absurd rfl h
        rw [this]
    | _ => cases hT
end NW
end

section
set_option linter.all false
set_option autoImplicit false
namespace DS
open PySem
variable {ga gb : Ev → LS → Out Bool} {env : Ev} {s : LS}
theorem orB_f (h1 : ga env s = .ok false s) (h2 : gb env s = .ok false s) : orB ga gb env s = .ok false s := by rw [orB_def, h1, bind_ok, if_neg (by simp), h2]
theorem andB_f (h1 : ga env s = .ok false s) : andB ga gb env s = .ok false s := by rw [andB_def, h1, bind_ok, if_neg (by simp)]
theorem andB_t (h1 : ga env s = .ok true s) {b : Bool} (h2 : gb env s = .ok b s) : andB ga gb env s = .ok b s := by rw [andB_def, h1, bind_ok, if_pos rfl, h2]
theorem if_f {g1 : Ev → LS → SOut} (h : ga env s = .ok false s) : ifD ga g1 nopD env s = .nx env s := by rw [ifD_def, h, evS_ok, if_neg (by simp)]; rfl
end DS
namespace NW
open PySem hiding run
open DS
/-! ## sums of products -/
def prodQ (ns : List Int) (qs : List Rat) (i : Nat) : Rat := (ns.getD i 0 : Rat) * qs.getD i 0
theorem getD_mem {α : Type} {l : List α} {i : Nat} {d : α} (h : i < l.length) : l.getD i d ∈ l := by
  rw [List.getD_eq_getElem?_getD, List.getElem?_eq_getElem h]
  exact List.getElem_mem h
theorem atI_map {α : Type} (f : α → D) (l : List α) (i : Nat) (d : α) (h : i < l.length) : L2.atI (l.map f) (i : Int) = some (f (l.getD i d)) := by
  rw [DS.atI_nat, List.getElem?_map, List.getD_eq_getElem?_getD, List.getElem?_eq_getElem h]
  rfl
theorem Sz.mulInt {k l : Nat} {n : Int} {q : Rat} (hn : Sz k (n : Rat)) (hq : Sz l q) : Sz (k + l) ((n : Rat) * q) := hn.mul hq
theorem rangeL_zero (n : Nat) : rangeL 0 n = (List.range n).map fun (i : Nat) => PyData.int (i : Int) := by
  unfold rangeL
  exact List.map_congr_left fun i _ => by rw [Int.zero_add]
theorem m_dot_eq {k : Nat} (ns : List Int) (qs : List Rat) (s : LS) (hl : ns.length = qs.length) (hlen : ns.length ≤ 1000) (hn : ∀ n ∈ ns, Sz 10 (n : Rat)) (hq : ∀ q ∈ qs, Sz k q) (hz : 1 + ns.length * (k + 10 + 1) + k + 10 ≤ 8999) :
    m_dot [.sh (.list (ns.map .int)), .sh (.list (qs.map R))] s = .ok (R (sumQ 0 ((List.range ns.length).map (prodQ ns qs)))) s := by
  have hrow : lcD (.nm 2) yesB (callG m_times (consG (asSh (op2 ixD (varW 1) (varD 2))) (consG (asSh (tupG (consG (op2 ixD (varW 0) (varD 2)) (consG (cD (.int 1)) nilG)))) nilG))) (rangeL 0 ns.length) [.sh (.list (ns.map .int)), .sh (.list (qs.map R)), .un] s = .ok (((List.range ns.length).map (prodQ ns qs)).map R) s := by
    have key := lcD_map (i := 2) (ge := callG m_times (consG (asSh (op2 ixD (varW 1) (varD 2))) (consG (asSh (tupG (consG (op2 ixD (varW 0) (varD 2)) (consG (cD (.int 1)) nilG)))) nilG))) (fun d => match d with | .int i => R (prodQ ns qs i.toNat) | d => d) (rangeL 0 ns.length) [.sh (.list (ns.map .int)), .sh (.list (qs.map R)), .un] s (fun d hd => by
      rw [rangeL_zero] at hd
      obtain ⟨i, hi, rfl⟩ := List.mem_map.mp hd
      have hi' : i < ns.length := List.mem_range.mp hi
      have a1 := atI_map R qs i 0 (by omega)
      have a2 := atI_map PyData.int ns i 0 hi'
      have e := m_times_eq (hq _ (getD_mem (d := 0) (show i < qs.length by omega))) (hn _ (getD_mem (d := 0) hi')) (by omega) s
      rw [R_int, Rat.mul_comm] at e
      simp -implicitDefEqProofs [-List.getD_eq_getElem?_getD, a1, a2, e, prodQ])
    rw [key, rangeL_zero, List.map_map, List.map_map]
    rfl
  have hs : ∀ q ∈ (List.range ns.length).map (prodQ ns qs), Sz (k + 10) q := fun q hq' => by
    obtain ⟨i, hi, rfl⟩ := List.mem_map.mp hq'
    have hi' : i < ns.length := List.mem_range.mp hi
    have := Sz.mul (hn _ (getD_mem (d := 0) hi')) (hq _ (getD_mem (d := 0) (show i < qs.length by omega)))
    rw [Nat.add_comm k 10]
    exact this
  have et := m_total_eq ((List.range ns.length).map (prodQ ns qs)) s hs (by rw [List.length_map, List.length_range]; omega)
  have hr : rngB (ns.length : Int) := rngB_small (by omega) (by omega)
  have hline : ns.length ≤ sizeLine := small_line (by omega)
  unfold m_dot g_dot
  refine run_rt ?_
  simp -implicitDefEqProofs [-List.map_map, hr, rangeL_length, hline]
  rw [hrow]
  simp -implicitDefEqProofs [-List.map_map, et]

end NW
end

section
set_option linter.all false
set_option autoImplicit false
namespace NW
open PySem hiding run
open DS
theorem rows_of {rs : List D} (h : ∀ y ∈ rs, ∃ q, y = R q ∧ Bq q) : ∃ qs : List Rat, rs = qs.map R ∧ ∀ q ∈ qs, Bq q := by
  induction rs with
  | nil => exact ⟨[], rfl, fun q h => by cases h⟩
  | cons y rs ih =>
    obtain ⟨qs, e, hq⟩ := ih fun z hz => h z (List.mem_cons_of_mem _ hz)
    obtain ⟨q, e1, h1⟩ := h y List.mem_cons_self
    exact ⟨q :: qs, by rw [e, e1]; rfl, fun q' hq' => by
      cases hq' with
      | head => exact h1
      | tail _ hq' => exact hq q' hq'⟩
theorem ints_of {rs : List D} {P : Int → Prop} (h : ∀ y ∈ rs, ∃ q, y = .int q ∧ P q) : ∃ qs : List Int, rs = qs.map .int ∧ ∀ q ∈ qs, P q := by
  induction rs with
  | nil => exact ⟨[], rfl, fun q h => by cases h⟩
  | cons y rs ih =>
    obtain ⟨qs, e, hq⟩ := ih fun z hz => h z (List.mem_cons_of_mem _ hz)
    obtain ⟨q, e1, h1⟩ := h y List.mem_cons_self
    exact ⟨q :: qs, by rw [e, e1]; rfl, fun q' hq' => by
      cases hq' with
      | head => exact h1
      | tail _ hq' => exact hq q' hq'⟩
def eps : Rat := ⟨1, 1000000, by decide, by decide⟩
theorem R_eps : R eps = .tuple [.int 1, .int 1000000] := rfl
theorem eps_sz : Sz 21 eps := ⟨by decide, by decide⟩
theorem lt_eps (x : Rat) : x < x + eps := by
  have : (0 : Rat) < eps := by rw [Rat.lt_iff]; decide
  grind
theorem div_zero7 : Rat.divInt 0 7 = 0 := by decide
theorem inv_eq (q : Rat) : Rat.divInt q.den q.num = q⁻¹ := by rw [← Rat.inv_divInt, Rat.num_divInt_den]
theorem sgn_neg (p q : Rat) : decide (sgn p q < 0) = decide (p < q) := by
  unfold sgn
  by_cases h : p = q
  · subst h
    rw [if_pos rfl, decide_eq_false (by decide), decide_eq_false Rat.lt_irrefl]
  · rw [if_neg h]
    by_cases h2 : q < p
    · rw [if_pos h2, decide_eq_false (by decide), decide_eq_false (by grind)]
    · rw [if_neg h2, decide_eq_true (by decide), decide_eq_true (by grind)]

/-- the first looks: two numbers, two parts -/
theorem law_c1 (x y z : Rat) (a b : Int) (ha : a.natAbs < 2 ^ 11) (hb : b.natAbs < 2 ^ 11) (s : LS) :
    (orB (tst2 neD (callG m_divisor (consG (varX 5) (consG (varX 6) nilG))) (callG m__law_gcd (consG (varX 5) (consG (varX 6) nilG)))) (orB (tst2 neD (callG m_divisor (consG (asSh (cD (.int 0))) (consG (asSh (cD (.int 0))) nilG))) (cD (.int 0))) (orB (andB (tst2 neD (varW 6) (cD (.int 0))) (tst2 neD (callG m_part (consG (varX 5) (consG (varX 6) nilG))) (callG m__law_fr (consG (varX 5) (consG (varX 6) nilG))))) (tst2 neD (callG m_part (consG (asSh (cD (.int 0))) (consG (asSh (cD (.int 7))) nilG))) (tupG (consG (cD (.int 0)) (consG (cD (.int 1)) nilG))))))) [.un, .st, (.sh (R x)), (.sh (R y)), (.sh (R z)), (.sh (.int a)), (.sh (.int b)), .un, .un, .un, .un, .un, .un, .un, .un, .un, .un, .un, .un, .un, .un] s = .ok false s := by
  have hb2 : b.natAbs < 2 ^ 200 := Nat.lt_of_lt_of_le hb (Nat.pow_le_pow_right (by decide) (by decide))
  have hb3 : b.natAbs < 2 ^ 1990 := Nat.lt_of_lt_of_le hb (Nat.pow_le_pow_right (by decide) (by decide))
  have hb4 : b.natAbs.log2 < 9000 := log2_of_lt hb (by decide) (by decide)
  refine orB_f (by simp -implicitDefEqProofs [m_divisor_eq, m__law_gcd_eq a b hb2]) (orB_f (by simp -implicitDefEqProofs [m_divisor_eq]) (orB_f ?_ ?_))
  · by_cases h0 : b = 0
    · exact andB_f (by simp -implicitDefEqProofs [h0])
    · have h1 : (b != 0) = true := by simpa using h0
      exact andB_t (by simp -implicitDefEqProofs [h1]) (by simp -implicitDefEqProofs [m_part_eq a b s h0 hb4, m__law_fr_eq a b s h0 hb3])
  · have e := m_part_eq 0 7 s (by decide) (by decide)
    rw [div_zero7] at e
    simp -implicitDefEqProofs [e, ← R_zero]
theorem law_c2 (x y z : Rat) (a b : Int) (hx : Bq x) (hy : Bq y) (s : LS) :
    (orB (tst2 neD (callG m_plus (consG (varX 2) (consG (varX 3) nilG))) (callG m__law_add (consG (varX 2) (consG (varX 3) nilG)))) (orB (tst2 neD (callG m_minus (consG (varX 2) (consG (varX 3) nilG))) (callG m__law_sub (consG (varX 2) (consG (varX 3) nilG)))) (tst2 neD (callG m_times (consG (varX 2) (consG (varX 3) nilG))) (callG m__law_mul (consG (varX 2) (consG (varX 3) nilG)))))) [.un, .st, (.sh (R x)), (.sh (R y)), (.sh (R z)), (.sh (.int a)), (.sh (.int b)), .un, .un, .un, .un, .un, .un, .un, .un, .un, .un, .un, .un, .un, .un] s = .ok false s := by
  refine orB_f ?_ (orB_f ?_ ?_)
  · simp -implicitDefEqProofs [m_plus_eq hx.sz hy.sz (by decide) s, m__law_add_eq hx.sz hy.sz (by decide) s]
  · simp -implicitDefEqProofs [m_minus_eq hx.sz hy.sz (by decide) s, m__law_sub_eq hx.sz hy.sz (by decide) s]
  · simp -implicitDefEqProofs [m_times_eq hx.sz hy.sz (by decide) s, m__law_mul_eq hx.sz hy.sz (by decide) s]
theorem law_c3 (x y z : Rat) (a b : Int) (hx : Bq x) (hy : Bq y) (s : LS) :
    (andB (tst2 neD (op2 ixD (varW 3) (cD (.int 0))) (cD (.int 0))) (tst2 neD (callG m_over (consG (varX 2) (consG (varX 3) nilG))) (callG m__law_mul (consG (varX 2) (consG (asSh (callG m__law_fr (consG (asSh (op2 ixD (varW 3) (cD (.int 1)))) (consG (asSh (op2 ixD (varW 3) (cD (.int 0)))) nilG)))) nilG))))) [.un, .st, (.sh (R x)), (.sh (R y)), (.sh (R z)), (.sh (.int a)), (.sh (.int b)), .un, .un, .un, .un, .un, .un, .un, .un, .un, .un, .un, .un, .un, .un] s = .ok false s := by
  by_cases h : y = 0
  · subst h
    exact andB_f (by simp -implicitDefEqProofs [R_zero])
  · have hn := num_ne h
    have h1 : (y.num != 0) = true := by simpa using hn
    have hi : Sz 40 y⁻¹ := by
      rw [← inv_eq]
      exact Sz.divInt hn (by simpa using hy.sz.2) hy.1
    have e1 := m_over_eq hx.sz hy.sz h (by decide) s
    have e2 := m__law_fr_eq y.den y.num s hn (Nat.lt_of_lt_of_le hy.1 (Nat.pow_le_pow_right (by decide) (by decide)))
    rw [inv_eq] at e2
    have e3 := m__law_mul_eq hx.sz hi (by decide) s
    rw [← Rat.div_def] at e3
    rw [R_def y] at e1
    refine andB_t (b := false) ?_ ?_
    · rw [R_def y]
      simp -implicitDefEqProofs [h1]
    · rw [R_def y]
      simp -implicitDefEqProofs [e1, e2, e3]
theorem law_c4 (x y z : Rat) (a b : Int) (hx : Bq x) (hy : Bq y) (s : LS) :
    (orB (tst2 neD (callG m_is_less (consG (varX 2) (consG (varX 3) nilG))) (op2 ltD (callG m__law_sign (consG (varX 2) (consG (varX 3) nilG))) (cD (.int 0)))) (orB (tst2 isntD (callG m_is_less (consG (varX 2) (consG (varX 2) nilG))) (cD (.bool false))) (tst2 isntD (callG m_is_less (consG (varX 2) (consG (asSh (callG m__law_add (consG (varX 2) (consG (asSh (tupG (consG (cD (.int 1)) (consG (cD (.int 1000000)) nilG)))) nilG)))) nilG))) (cD (.bool true))))) [.un, .st, (.sh (R x)), (.sh (R y)), (.sh (R z)), (.sh (.int a)), (.sh (.int b)), .un, .un, .un, .un, .un, .un, .un, .un, .un, .un, .un, .un, .un, .un] s = .ok false s := by
  refine orB_f ?_ (orB_f ?_ ?_)
  · have e := sgn_neg x y
    simp -implicitDefEqProofs [m_is_less_eq hx.sz hy.sz (by decide) s, m__law_sign_eq hx.sz hy.sz (by decide) s, e]
  · simp -implicitDefEqProofs [m_is_less_eq hx.sz hx.sz (by decide) s, Rat.lt_irrefl]
  · have e := m__law_add_eq hx.sz eps_sz (by decide) s
    rw [R_eps] at e
    have e2 := m_is_less_eq hx.sz (hx.sz.add eps_sz) (by decide) s
    simp -implicitDefEqProofs [e, e2, lt_eps x]

end NW
end

section
set_option linter.all false
set_option autoImplicit false
namespace NW
open PySem hiding run
open DS
abbrev b9 : Ev → LS → SOut := (seqD (setD 9 (asSh (callG m__law_add (consG (varX 9) (consG (varX 11) nilG)))))
  (setD 10 (asSh (ifG (orB (tst2 isD (varW 10) (cD .none)) (tst2 ltD (callG m__law_sign (consG (varX 11) (consG (varX 10) nilG))) (cD (.int 0)))) (varD 11) (varD 10)))))

theorem loop9 (x y z : Rat) (a b : Int) (e7 : EV) (s : LS) (qs : List Rat) : ∀ (acc : Rat) (j : Nat) (o : Option Rat) (e11 : EV), (∀ q ∈ qs, Bq q) → Sz j acc → (∀ q, o = some q → Bq q) → j + qs.length * 41 + 40 ≤ 1990 →
    ∃ e, forD (.nm 11) b9 (qs.map R) [.un, .st, (.sh (R x)), (.sh (R y)), (.sh (R z)), (.sh (.int a)), (.sh (.int b)), e7, .un, (.sh (R acc)), (.sh (optD o)), e11, .un, .un, .un, .un, .un, .un, .un, .un, .un] s = .nx [.un, .st, (.sh (R x)), (.sh (R y)), (.sh (R z)), (.sh (.int a)), (.sh (.int b)), e7, .un, (.sh (R (sumQ acc qs))), (.sh (optD (qs.foldl lessQ o))), e, .un, .un, .un, .un, .un, .un, .un, .un, .un] s := by
  induction qs with
  | nil => exact fun acc j o e11 _ _ _ _ => ⟨e11, rfl⟩
  | cons q qs ih =>
    intro acc j o e11 h h0 ho hz
    rw [List.length_cons] at hz
    have hq := h q List.mem_cons_self
    have hnew : ∀ q', lessQ o q = some q' → Bq q' := fun q' e => by
      cases o with
      | none => cases e; exact hq
      | some b =>
        unfold lessQ at e
        dsimp only at e
        split at e
        · cases e; exact hq
        · cases e; exact ho _ rfl
    obtain ⟨e, he⟩ := ih (acc + q) (j + 40 + 1) (lessQ o q) (.sh (R q)) (fun q' hq => h q' (List.mem_cons_of_mem _ hq)) (h0.add hq.sz) hnew (by omega)
    refine ⟨e, ?_⟩
    have e1 := m__law_add_eq h0 hq.sz (by omega) s
    rw [List.map_cons, forD_nx (env1 := [.un, .st, (.sh (R x)), (.sh (R y)), (.sh (R z)), (.sh (.int a)), (.sh (.int b)), e7, .un, (.sh (R acc)), (.sh (optD o)), (.sh (R q)), .un, .un, .un, .un, .un, .un, .un, .un, .un]) (e := [.un, .st, (.sh (R x)), (.sh (R y)), (.sh (R z)), (.sh (.int a)), (.sh (.int b)), e7, .un, (.sh (R (acc + q))), (.sh (optD (lessQ o q))), (.sh (R q)), .un, .un, .un, .un, .un, .un, .un, .un, .un]) (s' := s) rfl ?_]
    · exact he
    · cases o with
      | none => simp -implicitDefEqProofs [e1, optD, lessQ]
      | some b =>
        have e2 := m__law_sign_eq hq.sz (ho b rfl).sz (by decide) s
        have e3 := sgn_neg q b
        by_cases c : q < b
        · rw [decide_eq_true c] at e3
          simp -implicitDefEqProofs [e1, e2, e3, optD, lessQ, isNone_R, c]
        · rw [decide_eq_false c] at e3
          simp -implicitDefEqProofs [e1, e2, e3, optD, lessQ, isNone_R, c]

theorem shaped_optD (o : Option Rat) : SeqAt.shaped (optD o) = true := by
  cases o with
  | none => rfl
  | some q => exact shaped_R q
theorem eqv_self {d : D} (h : d.canLay0 = true) : PyData.eqv d d = true := PySem.SeqAt.eqv_refl d h
theorem neD_optD (o : Option Rat) : neD (optD o) (optD o) = some (.bool false) := by
  unfold neD
  rw [if_pos ⟨shaped_optD o, shaped_optD o⟩, eqv_self (SeqAt.canLay_of_shaped (shaped_optD o))]
  rfl
theorem lcD_id {i : Nat} (ds : List D) (env : Ev) (s : LS) (hi : i < env.length) : lcD (.nm i) yesB (varD i) ds env s = .ok ds s := by
  have := lcD_map (i := i) (ge := varD i) id ds env s fun d _ => by
    rw [varD_def, List.getElem?_set_self hi]
    rfl
  rw [this, List.map_id]

theorem law_c10 (x y z : Rat) (a b : Int) (qs : List Rat) (e11 : EV) (h : ∀ q ∈ qs, Bq q) (hl : qs.length ≤ 5) (s : LS) :
    (orB (tst2 neD (callG m_total (consG (asSh (asLst (lcG (.nm 11) [11] (itemG (varD 7)) yesB (varD 11)))) nilG)) (varW 9)) (tst2 neD (callG m_least_of (consG (asSh (asLst (lcG (.nm 11) [11] (itemG (varD 7)) yesB (varD 11)))) nilG)) (varW 10))) [.un, .st, (.sh (R x)), (.sh (R y)), (.sh (R z)), (.sh (.int a)), (.sh (.int b)), (.sh (.list (qs.map R))), .un, (.sh (R (sumQ 0 qs))), (.sh (optD (qs.foldl lessQ none))), e11, .un, .un, .un, .un, .un, .un, .un, .un, .un] s = .ok false s := by
  have h40 : ∀ q ∈ qs, Sz 40 q := fun q hq => (h q hq).sz
  have e1 := m_total_eq qs s h40 (by omega)
  have e2 := m_least_of_eq (by decide) qs s h40
  have hline : qs.length ≤ sizeLine := small_line (by omega)
  refine orB_f ?_ ?_
  · simp -implicitDefEqProofs [hline]
    rw [lcD_id _ _ _ (by simp)]
    simp -implicitDefEqProofs [e1]
  · simp -implicitDefEqProofs [hline]
    rw [lcD_id _ _ _ (by simp)]
    simp -implicitDefEqProofs [e2, neD_optD]

theorem law_c12 (x y z : Rat) (a b : Int) (qs : List Rat) (e11 : EV) (hx : Bq x) (s : LS) :
    (orB (tst2 gtD (op2 mulD (varW 12) (op2 ixD (varW 2) (cD (.int 1)))) (op2 ixD (varW 2) (cD (.int 0)))) (orB (tst2 leD (op2 mulD (op2 addD (varW 12) (cD (.int 1))) (op2 ixD (varW 2) (cD (.int 1)))) (op2 ixD (varW 2) (cD (.int 0)))) (orB (tst2 ltD (op2 mulD (varW 13) (op2 ixD (varW 2) (cD (.int 1)))) (op2 ixD (varW 2) (cD (.int 0)))) (tst2 geD (op2 mulD (op2 subD (varW 13) (cD (.int 1))) (op2 ixD (varW 2) (cD (.int 1)))) (op2 ixD (varW 2) (cD (.int 0))))))) [.un, .st, (.sh (R x)), (.sh (R y)), (.sh (R z)), (.sh (.int a)), (.sh (.int b)), (.sh (.list (qs.map R))), .un, (.sh (R (sumQ 0 qs))), (.sh (optD (qs.foldl lessQ none))), e11, (.sh (.int (x.num / x.den))), (.sh (.int (-((-x.num) / x.den)))), .un, .un, .un, .un, .un, .un, .un] s = .ok false s := by
  have hd : (0 : Int) < x.den := by exact_mod_cast x.den_pos
  have hd2 : (x.den : Int) < 2 ^ 64 := by have := hx.2; omega
  have hm : ∀ i : Int, mulD (.int i) (.int x.den) = some (.int (i * x.den)) := fun i => mulD_int (.inr (.inl ⟨by omega, hd2⟩))
  have l1 : x.num / (x.den : Int) * x.den ≤ x.num := Int.ediv_mul_le _ (by omega)
  have l2 : x.num < (x.num / (x.den : Int) + 1) * x.den := Int.lt_ediv_add_one_mul_self _ hd
  have u1 : -x.num / (x.den : Int) * x.den ≤ -x.num := Int.ediv_mul_le _ (by omega)
  have u2 : -x.num < (-x.num / (x.den : Int) + 1) * x.den := Int.lt_ediv_add_one_mul_self _ hd
  generalize x.num / (x.den : Int) = lo at *
  generalize -x.num / (x.den : Int) = hi at *
  have u1' : x.num ≤ -hi * x.den := by rw [Int.neg_mul]; omega
  have u2' : (-hi - 1) * x.den < x.num := by
    have e : (-hi - 1) * (x.den : Int) = -((hi + 1) * x.den) := by rw [← Int.neg_mul]; congr 1; omega
    rw [e]; omega
  refine orB_f ?_ (orB_f ?_ (orB_f ?_ ?_))
  · simp -implicitDefEqProofs [R_def, hm, Int.not_lt.mpr l1]
  · simp -implicitDefEqProofs [R_def, hm, Int.not_le.mpr l2]
  · simp -implicitDefEqProofs [R_def, hm, Int.not_lt.mpr u1']
  · simp -implicitDefEqProofs [R_def, hm, Int.not_le.mpr u2']
theorem law_c13 (x y z : Rat) (a b : Int) (qs : List Rat) (e11 : EV) (s : LS) :
    (orB (tst2 neD (callG m_is_whole_part (consG (varX 2) nilG)) (op2 eqD (op2 ixD (varW 2) (cD (.int 1))) (cD (.int 1)))) (orB (tst2 isntD (callG m_is_whole_part (consG (asSh (tupG (consG (varD 5) (consG (cD (.int 1)) nilG)))) nilG)) (cD (.bool true))) (tst2 isntD (callG m_is_whole_part (consG (asSh (tupG (consG (cD (.int 1)) (consG (cD (.int 2)) nilG)))) nilG)) (cD (.bool false))))) [.un, .st, (.sh (R x)), (.sh (R y)), (.sh (R z)), (.sh (.int a)), (.sh (.int b)), (.sh (.list (qs.map R))), .un, (.sh (R (sumQ 0 qs))), (.sh (optD (qs.foldl lessQ none))), e11, (.sh (.int (x.num / x.den))), (.sh (.int (-((-x.num) / x.den)))), .un, .un, .un, .un, .un, .un, .un] s = .ok false s := by
  refine orB_f ?_ (orB_f ?_ ?_)
  · simp -implicitDefEqProofs [R_def, m_is_whole_part_eq]
  · simp -implicitDefEqProofs [m_is_whole_part_eq]
  · simp -implicitDefEqProofs [m_is_whole_part_eq]

end NW
end

section
set_option linter.all false
set_option autoImplicit false
namespace NW
open PySem hiding run
open DS
theorem intsOf_map : ∀ ns : List Int, intsOf (ns.map .int) = some ns
  | [] => rfl
  | n :: ns => by
    show (intsOf (ns.map .int)).map (n :: ·) = _
    rw [intsOf_map ns]
    rfl
theorem maxL_mem {ns : List Int} {M : Int} (h : maxL ns = some M) : M ∈ ns := by
  cases ns with
  | nil => cases h
  | cons n ns =>
    cases h
    rcases foldl_max_mem ns n with e | e
    · rw [e]; exact List.mem_cons_self
    · exact List.mem_cons_of_mem _ e
theorem law_c15 (x y z : Rat) (a b : Int) (qs : List Rat) (e11 : EV) (f : Rat → Int) (hl : qs.length ≤ 5) (hf : (∃ q ∈ qs, q ≠ 0) → gcdL 0 (qs.map f) = 1) (hz : ∀ q ∈ qs, (f q).natAbs < 2 ^ 200) (s : LS) :
    (orB (tst2 neD (callB lenF (consG (varW 14) nilG)) (callB lenF (consG (varW 7) nilG))) (andB (tst2 gtD (callB lenF (consG (varW 7) nilG)) (cD (.int 0))) (andB (tst2 gtD (callB maxF (consG (asLst (lcG (.nm 11) [11] (itemG (varD 7)) yesB (callB absF (consG (op2 ixD (varW 11) (cD (.int 0))) nilG)))) nilG)) (cD (.int 0))) (tst2 neD (callG m__law_gcd_of (consG (varX 14) nilG)) (cD (.int 1)))))) [.un, .st, (.sh (R x)), (.sh (R y)), (.sh (R z)), (.sh (.int a)), (.sh (.int b)), (.sh (.list (qs.map R))), .un, (.sh (R (sumQ 0 qs))), (.sh (optD (qs.foldl lessQ none))), e11, (.sh (.int (x.num / x.den))), (.sh (.int (-((-x.num) / x.den)))), (.sh (.tuple ((qs.map f).map .int))), .un, .un, .un, .un, .un, .un] s = .ok false s := by
  have hline : qs.length ≤ sizeLine := small_line (by omega)
  refine orB_f (by simp -implicitDefEqProofs) ?_
  by_cases h0 : qs = []
  · exact andB_f (by simp -implicitDefEqProofs [h0])
  · have hlen : 0 < qs.length := List.length_pos_iff.mpr h0
    refine andB_t (by simp -implicitDefEqProofs; omega) ?_
    have habs : lcD (.nm 11) yesB (callB absF (consG (op2 ixD (varW 11) (cD (.int 0))) nilG)) (qs.map R) [.un, .st, (.sh (R x)), (.sh (R y)), (.sh (R z)), (.sh (.int a)), (.sh (.int b)), (.sh (.list (qs.map R))), .un, (.sh (R (sumQ 0 qs))), (.sh (optD (qs.foldl lessQ none))), .un, (.sh (.int (x.num / x.den))), (.sh (.int (-((-x.num) / x.den)))), (.sh (.tuple ((qs.map f).map .int))), .un, .un, .un, .un, .un, .un] s = .ok ((qs.map fun q => (q.num.natAbs : Int)).map .int) s := by
      have key := lcD_map (i := 11) (ge := callB absF (consG (op2 ixD (varW 11) (cD (.int 0))) nilG)) (fun d => match d with | .tuple [.int a, .int _] => .int (a.natAbs : Int) | d => d) (qs.map R) [.un, .st, (.sh (R x)), (.sh (R y)), (.sh (R z)), (.sh (.int a)), (.sh (.int b)), (.sh (.list (qs.map R))), .un, (.sh (R (sumQ 0 qs))), (.sh (optD (qs.foldl lessQ none))), .un, (.sh (.int (x.num / x.den))), (.sh (.int (-((-x.num) / x.den)))), (.sh (.tuple ((qs.map f).map .int))), .un, .un, .un, .un, .un, .un] s (fun d hd => by
        obtain ⟨q, hq, rfl⟩ := List.mem_map.mp hd
        simp -implicitDefEqProofs [R_def])
      rw [key, List.map_map, List.map_map]
      rfl
    obtain ⟨M, hM⟩ : ∃ M, maxL (qs.map fun q => (q.num.natAbs : Int)) = some M := by
      cases qs with
      | nil => exact absurd rfl h0
      | cons q qs => exact ⟨_, rfl⟩
    have hmax : maxF [.list ((qs.map fun q => (q.num.natAbs : Int)).map PyData.int)] = some (.int M) := by
      show ((intsOf _).bind maxL).map PyData.int = _
      rw [intsOf_map, Option.bind_some, hM]
      rfl
    by_cases hM0 : 0 < M
    · refine andB_t (b := false) ?_ ?_
      · simp -implicitDefEqProofs [-List.map_map, hline]
        rw [habs]
        simp -implicitDefEqProofs [-List.map_map, hmax, hM0]
      · obtain ⟨q, hq, hqM⟩ := List.mem_map.mp (maxL_mem hM)
        have hne : q ≠ 0 := fun w => by subst w; simp at hqM; omega
        have e := m__law_gcd_of_eq (qs.map f) (fun i hi => by obtain ⟨q, hq, rfl⟩ := List.mem_map.mp hi; exact hz q hq) s
        rw [hf ⟨q, hq, hne⟩] at e
        simp -implicitDefEqProofs [-List.map_map, e]
    · refine andB_f ?_
      simp -implicitDefEqProofs [-List.map_map, hline]
      rw [habs]
      simp -implicitDefEqProofs [-List.map_map, hmax, hM0]

theorem sign_of {c q : Rat} {n : Int} (hc : 0 < c) (h : (n : Rat) = c * q) : decide (0 < n) = decide (0 < q.num) ∧ decide (n < 0) = decide (q.num < 0) := by
  have e0 : q * (q.den : Rat) = (q.num : Rat) := by
    have := Rat.div_mul_cancel (a := (q.num : Rat)) (show (q.den : Rat) ≠ 0 by exact_mod_cast q.den_nz)
    rw [← rat_eq_div q] at this
    exact this
  have hd : (0 : Rat) < q.den := by exact_mod_cast q.den_pos
  have e1 : (n : Rat) * q.den = c * q.num := by rw [h, ← e0]; grind
  have p1 : 0 < n ↔ 0 < q.num := by
    constructor
    · intro hn
      have a1 : (0 : Rat) < (n : Rat) := by exact_mod_cast hn
      have a2 : 0 < c * (q.num : Rat) := by rw [← e1]; exact Rat.mul_pos a1 hd
      have a3 : (0 : Rat) < (q.num : Rat) := by
        rcases Int.lt_trichotomy q.num 0 with w | w | w
        · exfalso
          have : (q.num : Rat) < 0 := by exact_mod_cast w
          have : 0 < c * (-(q.num : Rat)) := Rat.mul_pos hc (by grind)
          grind
        · rw [w] at a2; exfalso; simp at a2
        · exact_mod_cast w
      exact_mod_cast a3
    · intro hn
      have a1 : (0 : Rat) < (q.num : Rat) := by exact_mod_cast hn
      have a2 : 0 < (n : Rat) * (q.den : Rat) := by rw [e1]; exact Rat.mul_pos hc a1
      rcases Int.lt_trichotomy n 0 with w | w | w
      · exfalso
        have : (n : Rat) < 0 := by exact_mod_cast w
        have : 0 < (-(n : Rat)) * (q.den : Rat) := Rat.mul_pos (by grind) hd
        grind
      · rw [w] at a2; exfalso; simp at a2
      · exact w
  have p0 : n = 0 ↔ q.num = 0 := by
    constructor
    · intro w
      rw [w] at e1
      have : c * (q.num : Rat) = 0 := by rw [← e1]; simp
      rcases Rat.mul_eq_zero.mp this with v | v
      · rw [v] at hc; exact absurd hc Rat.lt_irrefl
      · exact_mod_cast v
    · intro w
      rw [w] at e1
      have : (n : Rat) * (q.den : Rat) = 0 := by rw [e1]; simp
      rcases Rat.mul_eq_zero.mp this with v | v
      · exact_mod_cast v
      · rw [v] at hd; exact absurd hd Rat.lt_irrefl
  refine ⟨decide_eq_decide.mpr p1, decide_eq_decide.mpr ?_⟩
  omega
theorem law_c16 (x y z : Rat) (a b : Int) (qs : List Rat) (e11 : EV) (f : Rat → Int) (c : Rat) (hc : 0 < c) (hl : qs.length ≤ 5) (h : ∀ q ∈ qs, Bq q) (hf : ∀ q ∈ qs, (f q : Rat) = c * q) (hz : ∀ q ∈ qs, (f q).natAbs < 2 ^ 200) (i j : Nat) (hi : i < qs.length) (hj : j < qs.length) (s : LS) :
    (orB (tst2 neD (callG m__law_mul (consG (asSh (tupG (consG (op2 ixD (varW 14) (varD 8)) (consG (cD (.int 1)) nilG)))) (consG (asSh (op2 ixD (varW 7) (varD 15))) nilG))) (callG m__law_mul (consG (asSh (tupG (consG (op2 ixD (varW 14) (varD 15)) (consG (cD (.int 1)) nilG)))) (consG (asSh (op2 ixD (varW 7) (varD 8))) nilG)))) (orB (tst2 neD (op2 gtD (op2 ixD (varW 14) (varD 8)) (cD (.int 0))) (op2 gtD (op2 ixD (op2 ixD (varW 7) (varD 8)) (cD (.int 0))) (cD (.int 0)))) (tst2 neD (op2 ltD (op2 ixD (varW 14) (varD 8)) (cD (.int 0))) (op2 ltD (op2 ixD (op2 ixD (varW 7) (varD 8)) (cD (.int 0))) (cD (.int 0)))))) [.un, .st, (.sh (R x)), (.sh (R y)), (.sh (R z)), (.sh (.int a)), (.sh (.int b)), (.sh (.list (qs.map R))), (.sh (.int (i : Int))), (.sh (R (sumQ 0 qs))), (.sh (optD (qs.foldl lessQ none))), e11, (.sh (.int (x.num / x.den))), (.sh (.int (-((-x.num) / x.den)))), (.sh (.tuple ((qs.map f).map .int))), (.sh (.int (j : Int))), .un, .un, .un, .un, .un] s = .ok false s := by
  have mi := getD_mem (d := (0 : Rat)) hi
  have mj := getD_mem (d := (0 : Rat)) hj
  have a1 := atI_map R qs i 0 hi
  have a2 := atI_map R qs j 0 hj
  have b1 : L2.atI ((qs.map f).map PyData.int) (i : Int) = some (.int (f (qs.getD i 0))) := by
    have := atI_map (fun q => PyData.int (f q)) qs i 0 hi
    rw [List.map_map]
    exact this
  have b2 : L2.atI ((qs.map f).map PyData.int) (j : Int) = some (.int (f (qs.getD j 0))) := by
    have := atI_map (fun q => PyData.int (f q)) qs j 0 hj
    rw [List.map_map]
    exact this
  generalize qs.getD i 0 = p at *
  generalize qs.getD j 0 = q at *
  have s1 : Sz 200 ((f p : Int) : Rat) := Sz_int (hz p mi) (by decide)
  have s2 : Sz 200 ((f q : Int) : Rat) := Sz_int (hz q mj) (by decide)
  have e1 := m__law_mul_eq s1 (h q mj).sz (by decide) s
  have e2 := m__law_mul_eq s2 (h p mi).sz (by decide) s
  rw [R_int] at e1 e2
  have e3 : (f p : Rat) * q = (f q : Rat) * p := by rw [hf p mi, hf q mj]; grind
  rw [e3] at e1
  obtain ⟨g1, g2⟩ := sign_of hc (hf p mi)
  refine orB_f ?_ (orB_f ?_ ?_)
  · simp -implicitDefEqProofs [-List.map_map, a1, a2, b1, b2, e1, e2]
  · simp -implicitDefEqProofs [-List.map_map, a1, b1, R_def]
    simpa using g1
  · simp -implicitDefEqProofs [-List.map_map, a1, b1, R_def]
    simpa using g2

theorem loop16 (x y z : Rat) (a b : Int) (qs : List Rat) (e8 e11 e15 : EV) (f : Rat → Int) (c : Rat) (hc : 0 < c) (hl : qs.length ≤ 5) (h : ∀ q ∈ qs, Bq q) (hf : ∀ q ∈ qs, (f q : Rat) = c * q) (hz : ∀ q ∈ qs, (f q).natAbs < 2 ^ 200) (s : LS) :
    ∃ u v, forD (.nm 8) (forG (.nm 15) (rng1 (callB lenF (consG (varW 7) nilG))) (ifD (orB (tst2 neD (callG m__law_mul (consG (asSh (tupG (consG (op2 ixD (varW 14) (varD 8)) (consG (cD (.int 1)) nilG)))) (consG (asSh (op2 ixD (varW 7) (varD 15))) nilG))) (callG m__law_mul (consG (asSh (tupG (consG (op2 ixD (varW 14) (varD 15)) (consG (cD (.int 1)) nilG)))) (consG (asSh (op2 ixD (varW 7) (varD 8))) nilG)))) (orB (tst2 neD (op2 gtD (op2 ixD (varW 14) (varD 8)) (cD (.int 0))) (op2 gtD (op2 ixD (op2 ixD (varW 7) (varD 8)) (cD (.int 0))) (cD (.int 0)))) (tst2 neD (op2 ltD (op2 ixD (varW 14) (varD 8)) (cD (.int 0))) (op2 ltD (op2 ixD (op2 ixD (varW 7) (varD 8)) (cD (.int 0))) (cD (.int 0)))))) (retD (cD (.bool false))) nopD)) (rangeL 0 qs.length) [.un, .st, (.sh (R x)), (.sh (R y)), (.sh (R z)), (.sh (.int a)), (.sh (.int b)), (.sh (.list (qs.map R))), e8, (.sh (R (sumQ 0 qs))), (.sh (optD (qs.foldl lessQ none))), e11, (.sh (.int (x.num / x.den))), (.sh (.int (-((-x.num) / x.den)))), (.sh (.tuple ((qs.map f).map .int))), e15, .un, .un, .un, .un, .un] s = .nx [.un, .st, (.sh (R x)), (.sh (R y)), (.sh (R z)), (.sh (.int a)), (.sh (.int b)), (.sh (.list (qs.map R))), u, (.sh (R (sumQ 0 qs))), (.sh (optD (qs.foldl lessQ none))), e11, (.sh (.int (x.num / x.den))), (.sh (.int (-((-x.num) / x.den)))), (.sh (.tuple ((qs.map f).map .int))), v, .un, .un, .un, .un, .un] s := by
  have hr : rngB (qs.length : Int) := rngB_small (by omega) (by omega)
  obtain ⟨e', s', h1, u, v, rfl, rfl⟩ := forD_inv (t := .nm 8) (gb := forG (.nm 15) (rng1 (callB lenF (consG (varW 7) nilG))) (ifD (orB (tst2 neD (callG m__law_mul (consG (asSh (tupG (consG (op2 ixD (varW 14) (varD 8)) (consG (cD (.int 1)) nilG)))) (consG (asSh (op2 ixD (varW 7) (varD 15))) nilG))) (callG m__law_mul (consG (asSh (tupG (consG (op2 ixD (varW 14) (varD 15)) (consG (cD (.int 1)) nilG)))) (consG (asSh (op2 ixD (varW 7) (varD 8))) nilG)))) (orB (tst2 neD (op2 gtD (op2 ixD (varW 14) (varD 8)) (cD (.int 0))) (op2 gtD (op2 ixD (op2 ixD (varW 7) (varD 8)) (cD (.int 0))) (cD (.int 0)))) (tst2 neD (op2 ltD (op2 ixD (varW 14) (varD 8)) (cD (.int 0))) (op2 ltD (op2 ixD (op2 ixD (varW 7) (varD 8)) (cD (.int 0))) (cD (.int 0)))))) (retD (cD (.bool false))) nopD)) (fun _ env s' => ∃ u v, env = [.un, .st, (.sh (R x)), (.sh (R y)), (.sh (R z)), (.sh (.int a)), (.sh (.int b)), (.sh (.list (qs.map R))), u, (.sh (R (sumQ 0 qs))), (.sh (optD (qs.foldl lessQ none))), e11, (.sh (.int (x.num / x.den))), (.sh (.int (-((-x.num) / x.den)))), (.sh (.tuple ((qs.map f).map .int))), v, .un, .un, .un, .un, .un] ∧ s' = s) (rangeL 0 qs.length) [.un, .st, (.sh (R x)), (.sh (R y)), (.sh (R z)), (.sh (.int a)), (.sh (.int b)), (.sh (.list (qs.map R))), e8, (.sh (R (sumQ 0 qs))), (.sh (optD (qs.foldl lessQ none))), e11, (.sh (.int (x.num / x.den))), (.sh (.int (-((-x.num) / x.den)))), (.sh (.tuple ((qs.map f).map .int))), e15, .un, .un, .un, .un, .un] s ⟨e8, e15, rfl, rfl⟩ (fun k d env s1 hk hp => by
    obtain ⟨u, v, rfl, rfl⟩ := hp
    rw [rangeL_zero, List.getElem?_map] at hk
    have hkl : k < qs.length := by
      by_cases w : k < qs.length
      · exact w
      · rw [List.getElem?_eq_none_iff.mpr (by rw [List.length_range]; omega)] at hk; cases hk
    rw [List.getElem?_range hkl] at hk
    cases hk
    refine ⟨[.un, .st, (.sh (R x)), (.sh (R y)), (.sh (R z)), (.sh (.int a)), (.sh (.int b)), (.sh (.list (qs.map R))), (.sh (.int (k : Int))), (.sh (R (sumQ 0 qs))), (.sh (optD (qs.foldl lessQ none))), e11, (.sh (.int (x.num / x.den))), (.sh (.int (-((-x.num) / x.den)))), (.sh (.tuple ((qs.map f).map .int))), v, .un, .un, .un, .un, .un], rfl, ?_⟩
    obtain ⟨e2, s2, h2, v2, rfl, rfl⟩ := forD_inv (t := .nm 15) (gb := ifD (orB (tst2 neD (callG m__law_mul (consG (asSh (tupG (consG (op2 ixD (varW 14) (varD 8)) (consG (cD (.int 1)) nilG)))) (consG (asSh (op2 ixD (varW 7) (varD 15))) nilG))) (callG m__law_mul (consG (asSh (tupG (consG (op2 ixD (varW 14) (varD 15)) (consG (cD (.int 1)) nilG)))) (consG (asSh (op2 ixD (varW 7) (varD 8))) nilG)))) (orB (tst2 neD (op2 gtD (op2 ixD (varW 14) (varD 8)) (cD (.int 0))) (op2 gtD (op2 ixD (op2 ixD (varW 7) (varD 8)) (cD (.int 0))) (cD (.int 0)))) (tst2 neD (op2 ltD (op2 ixD (varW 14) (varD 8)) (cD (.int 0))) (op2 ltD (op2 ixD (op2 ixD (varW 7) (varD 8)) (cD (.int 0))) (cD (.int 0)))))) (retD (cD (.bool false))) nopD) (fun _ env s' => ∃ v, env = [.un, .st, (.sh (R x)), (.sh (R y)), (.sh (R z)), (.sh (.int a)), (.sh (.int b)), (.sh (.list (qs.map R))), (.sh (.int (k : Int))), (.sh (R (sumQ 0 qs))), (.sh (optD (qs.foldl lessQ none))), e11, (.sh (.int (x.num / x.den))), (.sh (.int (-((-x.num) / x.den)))), (.sh (.tuple ((qs.map f).map .int))), v, .un, .un, .un, .un, .un] ∧ s' = s1) (rangeL 0 qs.length) [.un, .st, (.sh (R x)), (.sh (R y)), (.sh (R z)), (.sh (.int a)), (.sh (.int b)), (.sh (.list (qs.map R))), (.sh (.int (k : Int))), (.sh (R (sumQ 0 qs))), (.sh (optD (qs.foldl lessQ none))), e11, (.sh (.int (x.num / x.den))), (.sh (.int (-((-x.num) / x.den)))), (.sh (.tuple ((qs.map f).map .int))), v, .un, .un, .un, .un, .un] s1 ⟨v, rfl, rfl⟩ (fun m d2 env2 s3 hm hp2 => by
      obtain ⟨v3, rfl, rfl⟩ := hp2
      rw [rangeL_zero, List.getElem?_map] at hm
      have hml : m < qs.length := by
        by_cases w : m < qs.length
        · exact w
        · rw [List.getElem?_eq_none_iff.mpr (by rw [List.length_range]; omega)] at hm; cases hm
      rw [List.getElem?_range hml] at hm
      cases hm
      exact ⟨[.un, .st, (.sh (R x)), (.sh (R y)), (.sh (R z)), (.sh (.int a)), (.sh (.int b)), (.sh (.list (qs.map R))), (.sh (.int (k : Int))), (.sh (R (sumQ 0 qs))), (.sh (optD (qs.foldl lessQ none))), e11, (.sh (.int (x.num / x.den))), (.sh (.int (-((-x.num) / x.den)))), (.sh (.tuple ((qs.map f).map .int))), (.sh (.int (m : Int))), .un, .un, .un, .un, .un], rfl, _, _, .inl (if_f (law_c16 x y z a b qs e11 f c hc hl h hf hz k m hkl hml s3)), .sh (.int (m : Int)), rfl, rfl⟩)
    refine ⟨_, _, .inl ?_, .sh (.int (k : Int)), v2, rfl, rfl⟩
    rw [forG_def]
    simp -implicitDefEqProofs only [rng1_def, callB_def, consG_def, nilG_def, varW_def, List.getElem?_cons_succ, List.getElem?_cons_zero, bind_ok, lenF_list, lift_some, List.length_map, if_pos hr, evS_ok, Int.toNat_natCast]
    exact h2)
  exact ⟨u, v, h1⟩

end NW
end

section
set_option linter.all false
set_option autoImplicit false
namespace NW
open PySem hiding run
open DS
theorem sumQ_append (a : Rat) (l : List Rat) (x : Rat) : sumQ a (l ++ [x]) = sumQ a l + x := by
  unfold sumQ
  rw [List.foldl_append]
  rfl
theorem loop19 (x y z : Rat) (a b : Int) (qs : List Rat) (e8 e11 e15 : EV) (f : Rat → Int) (ns : List Int) (hl : qs.length ≤ 5) (hn : ns.length = qs.length) (h : ∀ q ∈ qs, Bq q) (hns : ∀ n ∈ ns, Sz 10 (n : Rat)) (s : LS) :
    ∃ u, forD (.nm 8) (setD 17 (asSh (callG m__law_add (consG (varX 17) (consG (asSh (callG m__law_mul (consG (asSh (tupG (consG (op2 ixD (varW 16) (varD 8)) (consG (cD (.int 1)) nilG)))) (consG (asSh (op2 ixD (varW 7) (varD 8))) nilG)))) nilG))))) (rangeL 0 qs.length) [.un, .st, (.sh (R x)), (.sh (R y)), (.sh (R z)), (.sh (.int a)), (.sh (.int b)), (.sh (.list (qs.map R))), e8, (.sh (R (sumQ 0 qs))), (.sh (optD (qs.foldl lessQ none))), e11, (.sh (.int (x.num / x.den))), (.sh (.int (-((-x.num) / x.den)))), (.sh (.tuple ((qs.map f).map .int))), e15, (.sh (.list (ns.map .int))), (.sh (R 0)), .un, .un, .un] s = .nx [.un, .st, (.sh (R x)), (.sh (R y)), (.sh (R z)), (.sh (.int a)), (.sh (.int b)), (.sh (.list (qs.map R))), u, (.sh (R (sumQ 0 qs))), (.sh (optD (qs.foldl lessQ none))), e11, (.sh (.int (x.num / x.den))), (.sh (.int (-((-x.num) / x.den)))), (.sh (.tuple ((qs.map f).map .int))), e15, (.sh (.list (ns.map .int))), (.sh (R (sumQ 0 ((List.range qs.length).map (prodQ ns qs))))), .un, .un, .un] s := by
  have key : ∃ e' s', forD (.nm 8) (setD 17 (asSh (callG m__law_add (consG (varX 17) (consG (asSh (callG m__law_mul (consG (asSh (tupG (consG (op2 ixD (varW 16) (varD 8)) (consG (cD (.int 1)) nilG)))) (consG (asSh (op2 ixD (varW 7) (varD 8))) nilG)))) nilG))))) (rangeL 0 qs.length) [.un, .st, (.sh (R x)), (.sh (R y)), (.sh (R z)), (.sh (.int a)), (.sh (.int b)), (.sh (.list (qs.map R))), e8, (.sh (R (sumQ 0 qs))), (.sh (optD (qs.foldl lessQ none))), e11, (.sh (.int (x.num / x.den))), (.sh (.int (-((-x.num) / x.den)))), (.sh (.tuple ((qs.map f).map .int))), e15, (.sh (.list (ns.map .int))), (.sh (R 0)), .un, .un, .un] s = .nx e' s' ∧ (∃ (u : EV) (acc : Rat), e' = [.un, .st, (.sh (R x)), (.sh (R y)), (.sh (R z)), (.sh (.int a)), (.sh (.int b)), (.sh (.list (qs.map R))), u, (.sh (R (sumQ 0 qs))), (.sh (optD (qs.foldl lessQ none))), e11, (.sh (.int (x.num / x.den))), (.sh (.int (-((-x.num) / x.den)))), (.sh (.tuple ((qs.map f).map .int))), e15, (.sh (.list (ns.map .int))), (.sh (R acc)), .un, .un, .un] ∧ s' = s ∧ Sz (1 + (rangeL 0 qs.length).length * 51) acc ∧ (rangeL 0 qs.length).length ≤ qs.length ∧ acc = sumQ 0 ((List.range (rangeL 0 qs.length).length).map (prodQ ns qs))) := by
    refine forD_inv (fun k env s' => ∃ (u : EV) (acc : Rat), env = [.un, .st, (.sh (R x)), (.sh (R y)), (.sh (R z)), (.sh (.int a)), (.sh (.int b)), (.sh (.list (qs.map R))), u, (.sh (R (sumQ 0 qs))), (.sh (optD (qs.foldl lessQ none))), e11, (.sh (.int (x.num / x.den))), (.sh (.int (-((-x.num) / x.den)))), (.sh (.tuple ((qs.map f).map .int))), e15, (.sh (.list (ns.map .int))), (.sh (R acc)), .un, .un, .un] ∧ s' = s ∧ Sz (1 + k * 51) acc ∧ k ≤ qs.length ∧ acc = sumQ 0 ((List.range k).map (prodQ ns qs))) (rangeL 0 qs.length) _ s ⟨e8, 0, rfl, rfl, Sz_zero, Nat.zero_le _, rfl⟩ (fun k d env s1 hk hp => ?_)
    obtain ⟨u, acc, rfl, rfl, hs, hle, hacc⟩ := hp
    rw [rangeL_zero, List.getElem?_map] at hk
    have hkl : k < qs.length := by
      by_cases w : k < qs.length
      · exact w
      · rw [List.getElem?_eq_none_iff.mpr (by rw [List.length_range]; omega)] at hk; cases hk
    rw [List.getElem?_range hkl] at hk
    cases hk
    have a1 := atI_map R qs k 0 hkl
    have a2 := atI_map PyData.int ns k 0 (show k < ns.length by omega)
    have s1' := hns _ (getD_mem (d := 0) (show k < ns.length by omega))
    have s2' := (h _ (getD_mem (d := 0) hkl)).sz
    have e1 := m__law_mul_eq s1' s2' (by decide) s1
    rw [R_int] at e1
    have sp : Sz (10 + 40) (prodQ ns qs k) := Sz.mul s1' s2'
    have e2 := m__law_add_eq hs sp (by omega) s1
    have ea : sumQ 0 ((List.range (k + 1)).map (prodQ ns qs)) = acc + prodQ ns qs k := by
      rw [List.range_succ, List.map_append, List.map_singleton, sumQ_append, ← hacc]
    refine ⟨[.un, .st, (.sh (R x)), (.sh (R y)), (.sh (R z)), (.sh (.int a)), (.sh (.int b)), (.sh (.list (qs.map R))), (.sh (.int (k : Int))), (.sh (R (sumQ 0 qs))), (.sh (optD (qs.foldl lessQ none))), e11, (.sh (.int (x.num / x.den))), (.sh (.int (-((-x.num) / x.den)))), (.sh (.tuple ((qs.map f).map .int))), e15, (.sh (.list (ns.map .int))), (.sh (R acc)), .un, .un, .un], rfl, _, s1, .inl ?_, .sh (.int (k : Int)), acc + prodQ ns qs k, rfl, rfl, (hs.add sp).mono (by omega), hkl, ea.symm⟩
    simp -implicitDefEqProofs [-List.getD_eq_getElem?_getD, a1, a2, e1]
    rw [show ((ns.getD k 0 : Int) : Rat) * qs.getD k 0 = prodQ ns qs k from rfl]
    simp -implicitDefEqProofs [e2]
  obtain ⟨e', s', h1, u, acc, rfl, rfl, _, _, rfl⟩ := key
  rw [rangeL_length] at h1
  exact ⟨u, h1⟩

theorem law_c20 (x y z : Rat) (a b : Int) (qs : List Rat) (e8 e11 e15 : EV) (f : Rat → Int) (ns : List Int) (hl : qs.length ≤ 5) (hn : ns.length = qs.length) (h : ∀ q ∈ qs, Bq q) (hns : ∀ n ∈ ns, Sz 10 (n : Rat)) (s : LS) :
    (tst2 neD (callG m_dot (consG (asSh (asLst (lcG (.nm 11) [11] (itemG (varD 16)) yesB (varD 11)))) (consG (asSh (asLst (lcG (.nm 11) [11] (itemG (varD 7)) yesB (varD 11)))) nilG))) (varW 17)) [.un, .st, (.sh (R x)), (.sh (R y)), (.sh (R z)), (.sh (.int a)), (.sh (.int b)), (.sh (.list (qs.map R))), e8, (.sh (R (sumQ 0 qs))), (.sh (optD (qs.foldl lessQ none))), e11, (.sh (.int (x.num / x.den))), (.sh (.int (-((-x.num) / x.den)))), (.sh (.tuple ((qs.map f).map .int))), e15, (.sh (.list (ns.map .int))), (.sh (R (sumQ 0 ((List.range qs.length).map (prodQ ns qs))))), .un, .un, .un] s = .ok false s := by
  have e := m_dot_eq (k := 40) ns qs s hn (by omega) hns (fun q hq => (h q hq).sz) (by omega)
  rw [hn] at e
  have h1 : qs.length ≤ sizeLine := small_line (by omega)
  have h2 : ns.length ≤ sizeLine := small_line (by omega)
  simp -implicitDefEqProofs [h1, h2, -List.map_map]
  rw [lcD_id _ _ _ (by simp)]
  simp -implicitDefEqProofs [h1, h2, -List.map_map]
  rw [lcD_id _ _ _ (by simp)]
  simp -implicitDefEqProofs [e, -List.map_map]

/-! ### values of other kinds -/
theorem small_R (q : Rat) : small (R q) := fun ds h => by cases h; simp
theorem fit_R {q : Rat} (h : Bq q) : fit (R q) := fun a b e => by
  cases e
  exact Nat.lt_of_lt_of_le (by simpa using h.2) (Nat.pow_le_pow_right (by decide) (by decide : 13 ≤ 200))
def vals (x : Rat) (a : Int) : List D := [R x, .list [.int x.num, .int x.den], .tuple [.int x.num, .int x.den, .int 1], .tuple [.int x.num, .int (-x.den)], .tuple [.int (2 * x.num + 2), .int 2], .tuple [.int a, .int 0], .tuple [.bool true, .int 1], .tuple [.int 1, .bool true], .tuple [.int 0, .int 2], .tuple [.int 0, .int 1], .none, .int 3, .tuple [.str (PySem.Str.ofString "1"), .int 2], .tuple [.int a, .int 1], .tuple []]
theorem vals_ok {x : Rat} (hx : Bq x) (a : Int) : ∀ d ∈ vals x a, small d ∧ fit d := by
  have hd : x.den < 2 ^ 200 := Nat.lt_of_lt_of_le hx.2 (Nat.pow_le_pow_right (by decide) (by decide))
  intro d hd'
  simp only [vals, List.mem_cons, List.not_mem_nil, or_false] at hd'
  rcases hd' with rfl | rfl | rfl | rfl | rfl | rfl | rfl | rfl | rfl | rfl | rfl | rfl | rfl | rfl | rfl
  · exact ⟨small_R x, fit_R hx⟩
  all_goals refine ⟨fun ds h => ?_, fun a b h => ?_⟩
  all_goals first | (cases h; done) | (cases h; first | decide | simpa using hd)
theorem addD_tup {xs ys : List D} (h : xs.length + ys.length ≤ 100000) : addD (.tuple xs) (.tuple ys) = some (.tuple (xs ++ ys)) := if_pos (small_line h)

theorem stage21 (x y z : Rat) (a b : Int) (qs : List Rat) (e8 e11 e15 : EV) (f : Rat → Int) (ns : List Int) (hx : Bq x) (s : LS) :
    ∃ u, forG (.nm 18) (itemG (asLst (lstG (consG (varD 2) (consG (asLst (listG (varW 2))) (consG (op2 addD (varW 2) (tupG (consG (cD (.int 1)) nilG))) (consG (tupG (consG (op2 ixD (varW 2) (cD (.int 0))) (consG (op2 subD (cD (.int 0)) (op2 ixD (varW 2) (cD (.int 1)))) nilG))) (consG (tupG (consG (op2 addD (op2 mulD (cD (.int 2)) (op2 ixD (varW 2) (cD (.int 0)))) (cD (.int 2))) (consG (cD (.int 2)) nilG))) (consG (tupG (consG (varD 5) (consG (cD (.int 0)) nilG))) (consG (tupG (consG (cD (.bool true)) (consG (cD (.int 1)) nilG))) (consG (tupG (consG (cD (.int 1)) (consG (cD (.bool true)) nilG))) (consG (tupG (consG (cD (.int 0)) (consG (cD (.int 2)) nilG))) (consG (tupG (consG (cD (.int 0)) (consG (cD (.int 1)) nilG))) (consG (cD .none) (consG (cD (.int 3)) (consG (tupG (consG (cD (.str (PySem.Str.ofString "1"))) (consG (cD (.int 2)) nilG))) (consG (tupG (consG (varD 5) (consG (cD (.int 1)) nilG))) (consG (tupG nilG) nilG)))))))))))))))))) (ifD (tst2 neD (callG m_is_part (consG (varX 18) nilG)) (callG m__law_is (consG (varX 18) nilG))) (retD (cD (.bool false))) nopD) [.un, .st, (.sh (R x)), (.sh (R y)), (.sh (R z)), (.sh (.int a)), (.sh (.int b)), (.sh (.list (qs.map R))), e8, (.sh (R (sumQ 0 qs))), (.sh (optD (qs.foldl lessQ none))), e11, (.sh (.int (x.num / x.den))), (.sh (.int (-((-x.num) / x.den)))), (.sh (.tuple ((qs.map f).map .int))), e15, (.sh (.list (ns.map .int))), (.sh (R (sumQ 0 ((List.range qs.length).map (prodQ ns qs))))), .un, .un, .un] s = .nx [.un, .st, (.sh (R x)), (.sh (R y)), (.sh (R z)), (.sh (.int a)), (.sh (.int b)), (.sh (.list (qs.map R))), e8, (.sh (R (sumQ 0 qs))), (.sh (optD (qs.foldl lessQ none))), e11, (.sh (.int (x.num / x.den))), (.sh (.int (-((-x.num) / x.den)))), (.sh (.tuple ((qs.map f).map .int))), e15, (.sh (.list (ns.map .int))), (.sh (R (sumQ 0 ((List.range qs.length).map (prodQ ns qs))))), u, .un, .un] s := by
  have hm : mulD (.int 2) (.int x.num) = some (.int (2 * x.num)) := mulD_int (.inl ⟨by decide, by decide⟩)
  have hl : lcG = lcG := rfl
  have disp : (itemG (asLst (lstG (consG (varD 2) (consG (asLst (listG (varW 2))) (consG (op2 addD (varW 2) (tupG (consG (cD (.int 1)) nilG))) (consG (tupG (consG (op2 ixD (varW 2) (cD (.int 0))) (consG (op2 subD (cD (.int 0)) (op2 ixD (varW 2) (cD (.int 1)))) nilG))) (consG (tupG (consG (op2 addD (op2 mulD (cD (.int 2)) (op2 ixD (varW 2) (cD (.int 0)))) (cD (.int 2))) (consG (cD (.int 2)) nilG))) (consG (tupG (consG (varD 5) (consG (cD (.int 0)) nilG))) (consG (tupG (consG (cD (.bool true)) (consG (cD (.int 1)) nilG))) (consG (tupG (consG (cD (.int 1)) (consG (cD (.bool true)) nilG))) (consG (tupG (consG (cD (.int 0)) (consG (cD (.int 2)) nilG))) (consG (tupG (consG (cD (.int 0)) (consG (cD (.int 1)) nilG))) (consG (cD .none) (consG (cD (.int 3)) (consG (tupG (consG (cD (.str (PySem.Str.ofString "1"))) (consG (cD (.int 2)) nilG))) (consG (tupG (consG (varD 5) (consG (cD (.int 1)) nilG))) (consG (tupG nilG) nilG)))))))))))))))))) [.un, .st, (.sh (R x)), (.sh (R y)), (.sh (R z)), (.sh (.int a)), (.sh (.int b)), (.sh (.list (qs.map R))), e8, (.sh (R (sumQ 0 qs))), (.sh (optD (qs.foldl lessQ none))), e11, (.sh (.int (x.num / x.den))), (.sh (.int (-((-x.num) / x.den)))), (.sh (.tuple ((qs.map f).map .int))), e15, (.sh (.list (ns.map .int))), (.sh (R (sumQ 0 ((List.range qs.length).map (prodQ ns qs))))), .un, .un, .un] s = .ok (vals x a) s := by
    have h15 : (15 : Nat) ≤ sizeLine := small_line (by decide)
    simp -implicitDefEqProofs [R_def, hm, addD_tup, h15, vals]
  obtain ⟨e', s', h1, u, rfl, rfl⟩ := forD_inv (t := .nm 18) (gb := ifD (tst2 neD (callG m_is_part (consG (varX 18) nilG)) (callG m__law_is (consG (varX 18) nilG))) (retD (cD (.bool false))) nopD) (fun _ env s' => ∃ u, env = [.un, .st, (.sh (R x)), (.sh (R y)), (.sh (R z)), (.sh (.int a)), (.sh (.int b)), (.sh (.list (qs.map R))), e8, (.sh (R (sumQ 0 qs))), (.sh (optD (qs.foldl lessQ none))), e11, (.sh (.int (x.num / x.den))), (.sh (.int (-((-x.num) / x.den)))), (.sh (.tuple ((qs.map f).map .int))), e15, (.sh (.list (ns.map .int))), (.sh (R (sumQ 0 ((List.range qs.length).map (prodQ ns qs))))), u, .un, .un] ∧ s' = s) (vals x a) [.un, .st, (.sh (R x)), (.sh (R y)), (.sh (R z)), (.sh (.int a)), (.sh (.int b)), (.sh (.list (qs.map R))), e8, (.sh (R (sumQ 0 qs))), (.sh (optD (qs.foldl lessQ none))), e11, (.sh (.int (x.num / x.den))), (.sh (.int (-((-x.num) / x.den)))), (.sh (.tuple ((qs.map f).map .int))), e15, (.sh (.list (ns.map .int))), (.sh (R (sumQ 0 ((List.range qs.length).map (prodQ ns qs))))), .un, .un, .un] s ⟨.un, rfl, rfl⟩ (fun k d env s1 hk hp => by
    obtain ⟨u, rfl, rfl⟩ := hp
    obtain ⟨h1, h2⟩ := vals_ok hx a d (List.mem_of_getElem? hk)
    refine ⟨[.un, .st, (.sh (R x)), (.sh (R y)), (.sh (R z)), (.sh (.int a)), (.sh (.int b)), (.sh (.list (qs.map R))), e8, (.sh (R (sumQ 0 qs))), (.sh (optD (qs.foldl lessQ none))), e11, (.sh (.int (x.num / x.den))), (.sh (.int (-((-x.num) / x.den)))), (.sh (.tuple ((qs.map f).map .int))), e15, (.sh (.list (ns.map .int))), (.sh (R (sumQ 0 ((List.range qs.length).map (prodQ ns qs))))), (.sh d), .un, .un], rfl, _, _, .inl (if_f ?_), .sh d, rfl, rfl⟩
    simp -implicitDefEqProofs [m_is_part_eq d h1, m__law_is_eq d h1 h2])
  refine ⟨u, ?_⟩
  rw [forG_def, disp, evS_ok]
  exact h1

def good (d : D) : Prop := small d ∧ ∀ ds, d = .tuple ds → ∀ x ∈ ds, small x ∧ fit x
theorem filter_none (ds : List D) : (((ds.filter fun d => !isPartD d).length : Int) == 0) = ds.all isPartD := by
  induction ds with
  | nil => rfl
  | cons d ds ih =>
    cases h : isPartD d with
    | true =>
      rw [List.filter_cons_of_neg (by simp [h]), ih, List.all_cons, h, Bool.true_and]
    | false =>
      rw [List.filter_cons_of_pos (by simp [h]), List.all_cons, h, Bool.false_and, beq_eq_false_iff_ne, List.length_cons]
      omega
theorem law_c23 (x y z : Rat) (a b : Int) (qs : List Rat) (e8 e11 e15 : EV) (f : Rat → Int) (ns : List Int) (d : D) (m : Int) (hd : good d) (s : LS) :
    (tst2 neD (callG m_are_parts (consG (varX 18) (consG (varX 20) nilG))) (andD (isiG isTup (varW 18)) (andD (op2 eqD (callB lenF (consG (varW 18) nilG)) (varW 20)) (op2 eqD (callB lenF (consG (asLst (lcG (.nm 11) [11] (itemG (varD 18)) (notB (tst (callG m__law_is (consG (varX 11) nilG)))) (varD 11))) nilG)) (cD (.int 0)))))) [.un, .st, (.sh (R x)), (.sh (R y)), (.sh (R z)), (.sh (.int a)), (.sh (.int b)), (.sh (.list (qs.map R))), e8, (.sh (R (sumQ 0 qs))), (.sh (optD (qs.foldl lessQ none))), e11, (.sh (.int (x.num / x.den))), (.sh (.int (-((-x.num) / x.den)))), (.sh (.tuple ((qs.map f).map .int))), e15, (.sh (.list (ns.map .int))), (.sh (R (sumQ 0 ((List.range qs.length).map (prodQ ns qs))))), (.sh d), (.sh (.tuple (qs.map R))), (.sh (.int m))] s = .ok false s := by
  obtain ⟨h1, h2⟩ := hd
  have e := m_are_parts_eq d m h1 (fun ds hds x hx => (h2 ds hds x hx).1) s
  have hno : ∀ d, isTup d = false → arePartsD d m = false := fun d h => by cases d <;> simp [isTup] at h <;> rfl
  cases hT : isTup d with
  | false => simp -implicitDefEqProofs [e, hT, hno d hT]
  | true =>
    cases d with
    | tuple ds =>
      have hz : ds.length ≤ sizeLine := small_line (by have := h1 ds rfl; omega)
      have hl : lcD (.nm 11) (notB (tst (callG m__law_is (consG (varX 11) nilG)))) (varD 11) ds [.un, .st, (.sh (R x)), (.sh (R y)), (.sh (R z)), (.sh (.int a)), (.sh (.int b)), (.sh (.list (qs.map R))), e8, (.sh (R (sumQ 0 qs))), (.sh (optD (qs.foldl lessQ none))), .un, (.sh (.int (x.num / x.den))), (.sh (.int (-((-x.num) / x.den)))), (.sh (.tuple ((qs.map f).map .int))), e15, (.sh (.list (ns.map .int))), (.sh (R (sumQ 0 ((List.range qs.length).map (prodQ ns qs))))), (.sh (.tuple ds)), (.sh (.tuple (qs.map R))), (.sh (.int m))] s = .ok ((ds.filter fun d => !isPartD d).map id) s := by
        refine lcD_filter _ _ _ _ _ (fun d hd' => ?_) fun d hd' _ => ?_
        · obtain ⟨g1, g2⟩ := h2 ds rfl d hd'
          simp -implicitDefEqProofs [m__law_is_eq d g1 g2]
        · simp -implicitDefEqProofs
      by_cases hm : (ds.length : Int) = m
      · have e4 := filter_none ds
        simp -implicitDefEqProofs only [tst2_def, op2_def, callG_def, consG_def, varX_def, nilG_def, List.getElem?_cons_succ, List.getElem?_cons_zero, bind_ok, List.all_cons, solid_sh, List.all_nil, Bool.and_true, Bool.and_self, if_true, e, andD_def, isiG_def, varW_def, isTup, lift_some, asB_bool, callB_def, lenF_tuple, hm, eqD_int, BEq.rfl, asLst_def, lcG_def, itemG_def, varD_def, listF_tuple, if_pos hz, wipeE_cons, wipeE_nil, List.set_cons_succ, List.set_cons_zero, hl, lenF_list, cD_def, List.map_id, e4]
        simp -implicitDefEqProofs [arePartsD, hm]
      · have hm' : ((ds.length : Int) == m) = false := by simpa using hm
        simp -implicitDefEqProofs [e, isTup, hm', arePartsD]
    | _ => cases hT

def vals2 (x y z : Rat) (qs : List Rat) : List D := [.tuple (qs.map R), .list (qs.map R), .tuple (qs.map R ++ [.none]), .tuple (qs.map R ++ [.tuple [.int 2, .int 4]]), .tuple (qs.map R ++ [R x]), .none, .tuple [], .tuple [R x, R y, R z]]
theorem vals2_ok {x y z : Rat} {qs : List Rat} (hx : Bq x) (hy : Bq y) (hz : Bq z) (hl : qs.length ≤ 5) (h : ∀ q ∈ qs, Bq q) : ∀ d ∈ vals2 x y z qs, good d := by
  have hq : ∀ d ∈ qs.map R, small d ∧ fit d := fun d hd => by
    obtain ⟨q, hq, rfl⟩ := List.mem_map.mp hd
    exact ⟨small_R q, fit_R (h q hq)⟩
  have happ : ∀ e : D, (small e ∧ fit e) → good (.tuple (qs.map R ++ [e])) := fun e he => by
    refine ⟨fun ds hds => ?_, fun ds hds d hd => ?_⟩
    · cases hds; rw [List.length_append, List.length_map, List.length_singleton]; omega
    · cases hds
      rcases List.mem_append.mp hd with w | w
      · exact hq d w
      · rw [List.mem_singleton.mp w]; exact he
  intro d hd
  simp only [vals2, List.mem_cons, List.not_mem_nil, or_false] at hd
  rcases hd with rfl | rfl | rfl | rfl | rfl | rfl | rfl | rfl
  · exact ⟨fun ds hds => by cases hds; rw [List.length_map]; omega, fun ds hds d hd => by cases hds; exact hq d hd⟩
  · exact ⟨fun ds hds => (by cases hds), fun ds hds => (by cases hds)⟩
  · exact happ _ ⟨fun ds hds => (by cases hds), fun a b hab => (by cases hab)⟩
  · exact happ _ ⟨fun ds hds => (by cases hds; decide), fun a b hab => (by cases hab; decide)⟩
  · exact happ _ ⟨small_R x, fit_R hx⟩
  · exact ⟨fun ds hds => (by cases hds), fun ds hds => (by cases hds)⟩
  · exact ⟨fun ds hds => by cases hds; decide, fun ds hds d hd => by cases hds; cases hd⟩
  · refine ⟨fun ds hds => by cases hds; simp, fun ds hds d hd => ?_⟩
    cases hds
    simp only [List.mem_cons, List.not_mem_nil, or_false] at hd
    rcases hd with rfl | rfl | rfl
    · exact ⟨small_R x, fit_R hx⟩
    · exact ⟨small_R y, fit_R hy⟩
    · exact ⟨small_R z, fit_R hz⟩
theorem stage23 (x y z : Rat) (a b : Int) (qs : List Rat) (e8 e11 e15 e18 : EV) (f : Rat → Int) (ns : List Int) (hx : Bq x) (hy : Bq y) (hz : Bq z) (hl : qs.length ≤ 5) (h : ∀ q ∈ qs, Bq q) (s : LS) :
    ∃ u v, forG (.nm 18) (itemG (asLst (lstG (consG (varD 19) (consG (asLst (listG (varW 19))) (consG (op2 addD (varW 19) (tupG (consG (cD .none) nilG))) (consG (op2 addD (varW 19) (tupG (consG (tupG (consG (cD (.int 2)) (consG (cD (.int 4)) nilG))) nilG))) (consG (op2 addD (varW 19) (tupG (consG (varD 2) nilG))) (consG (cD .none) (consG (tupG nilG) (consG (tupG (consG (varD 2) (consG (varD 3) (consG (varD 4) nilG)))) nilG))))))))))) (forG (.nm 20) (itemG (tupG (consG (callB lenF (consG (varW 19) nilG)) (consG (cD (.int 3)) nilG)))) (ifD (tst2 neD (callG m_are_parts (consG (varX 18) (consG (varX 20) nilG))) (andD (isiG isTup (varW 18)) (andD (op2 eqD (callB lenF (consG (varW 18) nilG)) (varW 20)) (op2 eqD (callB lenF (consG (asLst (lcG (.nm 11) [11] (itemG (varD 18)) (notB (tst (callG m__law_is (consG (varX 11) nilG)))) (varD 11))) nilG)) (cD (.int 0)))))) (retD (cD (.bool false))) nopD)) [.un, .st, (.sh (R x)), (.sh (R y)), (.sh (R z)), (.sh (.int a)), (.sh (.int b)), (.sh (.list (qs.map R))), e8, (.sh (R (sumQ 0 qs))), (.sh (optD (qs.foldl lessQ none))), e11, (.sh (.int (x.num / x.den))), (.sh (.int (-((-x.num) / x.den)))), (.sh (.tuple ((qs.map f).map .int))), e15, (.sh (.list (ns.map .int))), (.sh (R (sumQ 0 ((List.range qs.length).map (prodQ ns qs))))), e18, (.sh (.tuple (qs.map R))), .un] s = .nx [.un, .st, (.sh (R x)), (.sh (R y)), (.sh (R z)), (.sh (.int a)), (.sh (.int b)), (.sh (.list (qs.map R))), e8, (.sh (R (sumQ 0 qs))), (.sh (optD (qs.foldl lessQ none))), e11, (.sh (.int (x.num / x.den))), (.sh (.int (-((-x.num) / x.den)))), (.sh (.tuple ((qs.map f).map .int))), e15, (.sh (.list (ns.map .int))), (.sh (R (sumQ 0 ((List.range qs.length).map (prodQ ns qs))))), u, (.sh (.tuple (qs.map R))), v] s := by
  have disp : (itemG (asLst (lstG (consG (varD 19) (consG (asLst (listG (varW 19))) (consG (op2 addD (varW 19) (tupG (consG (cD .none) nilG))) (consG (op2 addD (varW 19) (tupG (consG (tupG (consG (cD (.int 2)) (consG (cD (.int 4)) nilG))) nilG))) (consG (op2 addD (varW 19) (tupG (consG (varD 2) nilG))) (consG (cD .none) (consG (tupG nilG) (consG (tupG (consG (varD 2) (consG (varD 3) (consG (varD 4) nilG)))) nilG))))))))))) [.un, .st, (.sh (R x)), (.sh (R y)), (.sh (R z)), (.sh (.int a)), (.sh (.int b)), (.sh (.list (qs.map R))), e8, (.sh (R (sumQ 0 qs))), (.sh (optD (qs.foldl lessQ none))), e11, (.sh (.int (x.num / x.den))), (.sh (.int (-((-x.num) / x.den)))), (.sh (.tuple ((qs.map f).map .int))), e15, (.sh (.list (ns.map .int))), (.sh (R (sumQ 0 ((List.range qs.length).map (prodQ ns qs))))), e18, (.sh (.tuple (qs.map R))), .un] s = .ok (vals2 x y z qs) s := by
    have h8 : (8 : Nat) ≤ sizeLine := small_line (by decide)
    have ha : ∀ e : D, addD (.tuple (qs.map R)) (.tuple [e]) = some (.tuple (qs.map R ++ [e])) := fun e => addD_tup (by rw [List.length_map, List.length_singleton]; omega)
    simp -implicitDefEqProofs [ha, h8, vals2]
  obtain ⟨e', s', h1, u, v, rfl, rfl⟩ := forD_inv (t := .nm 18) (gb := forG (.nm 20) (itemG (tupG (consG (callB lenF (consG (varW 19) nilG)) (consG (cD (.int 3)) nilG)))) (ifD (tst2 neD (callG m_are_parts (consG (varX 18) (consG (varX 20) nilG))) (andD (isiG isTup (varW 18)) (andD (op2 eqD (callB lenF (consG (varW 18) nilG)) (varW 20)) (op2 eqD (callB lenF (consG (asLst (lcG (.nm 11) [11] (itemG (varD 18)) (notB (tst (callG m__law_is (consG (varX 11) nilG)))) (varD 11))) nilG)) (cD (.int 0)))))) (retD (cD (.bool false))) nopD)) (fun _ env s' => ∃ u v, env = [.un, .st, (.sh (R x)), (.sh (R y)), (.sh (R z)), (.sh (.int a)), (.sh (.int b)), (.sh (.list (qs.map R))), e8, (.sh (R (sumQ 0 qs))), (.sh (optD (qs.foldl lessQ none))), e11, (.sh (.int (x.num / x.den))), (.sh (.int (-((-x.num) / x.den)))), (.sh (.tuple ((qs.map f).map .int))), e15, (.sh (.list (ns.map .int))), (.sh (R (sumQ 0 ((List.range qs.length).map (prodQ ns qs))))), u, (.sh (.tuple (qs.map R))), v] ∧ s' = s) (vals2 x y z qs) [.un, .st, (.sh (R x)), (.sh (R y)), (.sh (R z)), (.sh (.int a)), (.sh (.int b)), (.sh (.list (qs.map R))), e8, (.sh (R (sumQ 0 qs))), (.sh (optD (qs.foldl lessQ none))), e11, (.sh (.int (x.num / x.den))), (.sh (.int (-((-x.num) / x.den)))), (.sh (.tuple ((qs.map f).map .int))), e15, (.sh (.list (ns.map .int))), (.sh (R (sumQ 0 ((List.range qs.length).map (prodQ ns qs))))), e18, (.sh (.tuple (qs.map R))), .un] s ⟨e18, .un, rfl, rfl⟩ (fun k d env s1 hk hp => by
    obtain ⟨u, v, rfl, rfl⟩ := hp
    have hg := vals2_ok hx hy hz hl h d (List.mem_of_getElem? hk)
    refine ⟨[.un, .st, (.sh (R x)), (.sh (R y)), (.sh (R z)), (.sh (.int a)), (.sh (.int b)), (.sh (.list (qs.map R))), e8, (.sh (R (sumQ 0 qs))), (.sh (optD (qs.foldl lessQ none))), e11, (.sh (.int (x.num / x.den))), (.sh (.int (-((-x.num) / x.den)))), (.sh (.tuple ((qs.map f).map .int))), e15, (.sh (.list (ns.map .int))), (.sh (R (sumQ 0 ((List.range qs.length).map (prodQ ns qs))))), (.sh d), (.sh (.tuple (qs.map R))), v], rfl, ?_⟩
    obtain ⟨e2, s2, h2, v2, rfl, rfl⟩ := forD_inv (t := .nm 20) (gb := ifD (tst2 neD (callG m_are_parts (consG (varX 18) (consG (varX 20) nilG))) (andD (isiG isTup (varW 18)) (andD (op2 eqD (callB lenF (consG (varW 18) nilG)) (varW 20)) (op2 eqD (callB lenF (consG (asLst (lcG (.nm 11) [11] (itemG (varD 18)) (notB (tst (callG m__law_is (consG (varX 11) nilG)))) (varD 11))) nilG)) (cD (.int 0)))))) (retD (cD (.bool false))) nopD) (fun _ env s' => ∃ v, env = [.un, .st, (.sh (R x)), (.sh (R y)), (.sh (R z)), (.sh (.int a)), (.sh (.int b)), (.sh (.list (qs.map R))), e8, (.sh (R (sumQ 0 qs))), (.sh (optD (qs.foldl lessQ none))), e11, (.sh (.int (x.num / x.den))), (.sh (.int (-((-x.num) / x.den)))), (.sh (.tuple ((qs.map f).map .int))), e15, (.sh (.list (ns.map .int))), (.sh (R (sumQ 0 ((List.range qs.length).map (prodQ ns qs))))), (.sh d), (.sh (.tuple (qs.map R))), v] ∧ s' = s1) [.int qs.length, .int 3] [.un, .st, (.sh (R x)), (.sh (R y)), (.sh (R z)), (.sh (.int a)), (.sh (.int b)), (.sh (.list (qs.map R))), e8, (.sh (R (sumQ 0 qs))), (.sh (optD (qs.foldl lessQ none))), e11, (.sh (.int (x.num / x.den))), (.sh (.int (-((-x.num) / x.den)))), (.sh (.tuple ((qs.map f).map .int))), e15, (.sh (.list (ns.map .int))), (.sh (R (sumQ 0 ((List.range qs.length).map (prodQ ns qs))))), (.sh d), (.sh (.tuple (qs.map R))), v] s1 ⟨v, rfl, rfl⟩ (fun m d2 env2 s3 hm hp2 => by
      obtain ⟨v3, rfl, rfl⟩ := hp2
      obtain ⟨mm, rfl⟩ : ∃ mm, d2 = .int mm := by
        have := List.mem_of_getElem? hm
        simp only [List.mem_cons, List.not_mem_nil, or_false] at this
        rcases this with rfl | rfl
        · exact ⟨_, rfl⟩
        · exact ⟨_, rfl⟩
      exact ⟨[.un, .st, (.sh (R x)), (.sh (R y)), (.sh (R z)), (.sh (.int a)), (.sh (.int b)), (.sh (.list (qs.map R))), e8, (.sh (R (sumQ 0 qs))), (.sh (optD (qs.foldl lessQ none))), e11, (.sh (.int (x.num / x.den))), (.sh (.int (-((-x.num) / x.den)))), (.sh (.tuple ((qs.map f).map .int))), e15, (.sh (.list (ns.map .int))), (.sh (R (sumQ 0 ((List.range qs.length).map (prodQ ns qs))))), (.sh d), (.sh (.tuple (qs.map R))), (.sh (.int mm))], rfl, _, _, .inl (if_f (law_c23 x y z a b qs e8 e11 e15 f ns d mm hg s3)), .sh (.int mm), rfl, rfl⟩)
    refine ⟨_, _, .inl ?_, .sh d, v2, rfl, rfl⟩
    rw [forG_def]
    simp -implicitDefEqProofs only [itemG_def, tupG_def, callB_def, consG_def, nilG_def, varW_def, cD_def, List.getElem?_cons_succ, List.getElem?_cons_zero, bind_ok, lenF_tuple, lift_some, List.length_map, List.length_cons, List.length_nil, Nat.reduceAdd, if_pos line2, listF_tuple, evS_ok]
    exact h2)
  refine ⟨u, v, ?_⟩
  rw [forG_def, disp, evS_ok]
  exact h1

end NW
end

section
set_option linter.all false
set_option autoImplicit false
namespace NW
open PySem hiding run
open DS
theorem law_true (cs : List Int) (hcs : cs ≠ []) : ∃ s, g_law (env0 19) (some (0, cs)) = .rt (.bool true) s := by
  obtain ⟨x, s1, p1, w1, hx⟩ := part09 (s := some (0, cs)) ⟨0, cs, rfl, hcs⟩
  obtain ⟨y, s2, p2, w2, hy⟩ := part09 w1
  obtain ⟨z, s3, p3, w3, hz⟩ := part09 w2
  obtain ⟨r1, s4, t1, w4, r10, r11⟩ := take_ok w3 (most := 2001) (by decide) (by decide)
  obtain ⟨r2, s5, t2, w5, r20, r21⟩ := take_ok w4 (most := 2001) (by decide) (by decide)
  obtain ⟨n, s6, t3, w6, n0, n6⟩ := take_ok w5 (most := 6) (by decide) (by decide)
  unfold g_law env0
  rw [seqD_nx (e := [.un, .st, (.sh (R x)), (.sh (R y)), (.sh (R z)), .un, .un, .un, .un, .un, .un, .un, .un, .un, .un, .un, .un, .un, .un, .un, .un]) (s1 := s3) (by simp -implicitDefEqProofs [List.replicate, p1, p2, p3])]
  rw [seqD_nx (e := [.un, .st, (.sh (R x)), (.sh (R y)), (.sh (R z)), (.sh (.int (r1 - 1000))), (.sh (.int (r2 - 1000))), .un, .un, .un, .un, .un, .un, .un, .un, .un, .un, .un, .un, .un, .un]) (s1 := s5) (by simp -implicitDefEqProofs [t1, t2])]
  generalize ha : r1 - 1000 = a
  generalize hb : r2 - 1000 = b
  have ha' : a.natAbs < 2 ^ 11 := by omega
  have hb' : b.natAbs < 2 ^ 11 := by omega
  rw [seqD_nx (e := [.un, .st, (.sh (R x)), (.sh (R y)), (.sh (R z)), (.sh (.int a)), (.sh (.int b)), .un, .un, .un, .un, .un, .un, .un, .un, .un, .un, .un, .un, .un, .un]) (s1 := s5) (if_f (law_c1 x y z a b ha' hb' s5))]
  rw [seqD_nx (e := [.un, .st, (.sh (R x)), (.sh (R y)), (.sh (R z)), (.sh (.int a)), (.sh (.int b)), .un, .un, .un, .un, .un, .un, .un, .un, .un, .un, .un, .un, .un, .un]) (s1 := s5) (if_f (law_c2 x y z a b hx hy s5))]
  rw [seqD_nx (e := [.un, .st, (.sh (R x)), (.sh (R y)), (.sh (R z)), (.sh (.int a)), (.sh (.int b)), .un, .un, .un, .un, .un, .un, .un, .un, .un, .un, .un, .un, .un, .un]) (s1 := s5) (if_f (law_c3 x y z a b hx hy s5))]
  rw [seqD_nx (e := [.un, .st, (.sh (R x)), (.sh (R y)), (.sh (R z)), (.sh (.int a)), (.sh (.int b)), .un, .un, .un, .un, .un, .un, .un, .un, .un, .un, .un, .un, .un, .un]) (s1 := s5) (if_f (law_c4 x y z a b hx hy s5))]
  obtain ⟨rs, s7, d1, w7, l7, hp⟩ := lcD_draw (i := 8) (ge := callG m__law_part (consG (varX 1) nilG)) WFS (fun y => ∃ q, y = R q ∧ Bq q) (rangeL 0 n.toNat) [.un, .st, (.sh (R x)), (.sh (R y)), (.sh (R z)), (.sh (.int a)), (.sh (.int b)), .un, .un, .un, .un, .un, .un, .un, .un, .un, .un, .un, .un, .un, .un] s6 w6 (fun d _ s hs => by
    obtain ⟨q, s', e1, e2, e3⟩ := part09 hs
    exact ⟨R q, s', by simp -implicitDefEqProofs [e1], e2, q, rfl, e3⟩)
  obtain ⟨qs, rfl, h⟩ := rows_of hp
  rw [List.length_map, rangeL_length] at l7
  have hl : qs.length ≤ 5 := by omega
  have hr : rngB n := rngB_small (by omega) (by omega)
  have hline : n.toNat ≤ sizeLine := small_line (by omega)
  have d7 : (frzA 7 (setD 7 (asOw (lcG (.nm 8) [8] (rng1 (callG m__law_take (consG (varX 1) (consG (asSh (cD (.int 6))) nilG)))) yesB (callG m__law_part (consG (varX 1) nilG)))))) [.un, .st, (.sh (R x)), (.sh (R y)), (.sh (R z)), (.sh (.int a)), (.sh (.int b)), .un, .un, .un, .un, .un, .un, .un, .un, .un, .un, .un, .un, .un, .un] s5 = .nx [.un, .st, (.sh (R x)), (.sh (R y)), (.sh (R z)), (.sh (.int a)), (.sh (.int b)), (.sh (.list (qs.map R))), .un, .un, .un, .un, .un, .un, .un, .un, .un, .un, .un, .un, .un] s7 := by
    simp -implicitDefEqProofs only [frzA_def, setD_def, asOw_def, lcG_def, rng1_def, callG_def, consG_def, varX_def, asSh_def, cD_def, nilG_def, List.getElem?_cons_succ, List.getElem?_cons_zero, bind_ok, List.all_cons, List.all_nil, solid_sh, solid_st, Bool.and_self, if_true, t3, if_pos hr, rangeL_length, if_pos hline, wipeE_cons, wipeE_nil, List.set_cons_succ, List.set_cons_zero, d1, evS_ok, frz_def]
  rw [seqD_nx (e := [.un, .st, (.sh (R x)), (.sh (R y)), (.sh (R z)), (.sh (.int a)), (.sh (.int b)), (.sh (.list (qs.map R))), .un, .un, .un, .un, .un, .un, .un, .un, .un, .un, .un, .un, .un]) (s1 := s7) (d7)]
  rw [seqD_nx (e := [.un, .st, (.sh (R x)), (.sh (R y)), (.sh (R z)), (.sh (.int a)), (.sh (.int b)), (.sh (.list (qs.map R))), .un, (.sh (R 0)), (.sh (optD none)), .un, .un, .un, .un, .un, .un, .un, .un, .un, .un]) (s1 := s7) (by simp -implicitDefEqProofs [R_zero, optD])]
  obtain ⟨e11, h9⟩ := loop9 x y z a b (.sh (.list (qs.map R))) s7 qs 0 1 none .un h Sz_zero (fun q e => by cases e) (by omega)
  rw [seqD_nx (e := [.un, .st, (.sh (R x)), (.sh (R y)), (.sh (R z)), (.sh (.int a)), (.sh (.int b)), (.sh (.list (qs.map R))), .un, (.sh (R (sumQ 0 qs))), (.sh (optD (qs.foldl lessQ none))), e11, .un, .un, .un, .un, .un, .un, .un, .un, .un]) (s1 := s7) (by rw [forG_def]; simp -implicitDefEqProofs only [itemG_def, varD_def, List.getElem?_cons_succ, List.getElem?_cons_zero, bind_ok, listF_list, lift_some, evS_ok]; exact h9)]
  rw [seqD_nx (e := [.un, .st, (.sh (R x)), (.sh (R y)), (.sh (R z)), (.sh (.int a)), (.sh (.int b)), (.sh (.list (qs.map R))), .un, (.sh (R (sumQ 0 qs))), (.sh (optD (qs.foldl lessQ none))), e11, .un, .un, .un, .un, .un, .un, .un, .un, .un]) (s1 := s7) (if_f (law_c10 x y z a b qs e11 h hl s7))]
  rw [seqD_nx (e := [.un, .st, (.sh (R x)), (.sh (R y)), (.sh (R z)), (.sh (.int a)), (.sh (.int b)), (.sh (.list (qs.map R))), .un, (.sh (R (sumQ 0 qs))), (.sh (optD (qs.foldl lessQ none))), e11, (.sh (.int (x.num / x.den))), (.sh (.int (-((-x.num) / x.den)))), .un, .un, .un, .un, .un, .un, .un]) (s1 := s7) (by simp -implicitDefEqProofs [m_whole_below_eq hx.sz (by decide) s7, m_whole_above_eq hx.sz (by decide) s7])]
  rw [seqD_nx (e := [.un, .st, (.sh (R x)), (.sh (R y)), (.sh (R z)), (.sh (.int a)), (.sh (.int b)), (.sh (.list (qs.map R))), .un, (.sh (R (sumQ 0 qs))), (.sh (optD (qs.foldl lessQ none))), e11, (.sh (.int (x.num / x.den))), (.sh (.int (-((-x.num) / x.den)))), .un, .un, .un, .un, .un, .un, .un]) (s1 := s7) (if_f (law_c12 x y z a b qs e11 hx s7))]
  rw [seqD_nx (e := [.un, .st, (.sh (R x)), (.sh (R y)), (.sh (R z)), (.sh (.int a)), (.sh (.int b)), (.sh (.list (qs.map R))), .un, (.sh (R (sumQ 0 qs))), (.sh (optD (qs.foldl lessQ none))), e11, (.sh (.int (x.num / x.den))), (.sh (.int (-((-x.num) / x.den)))), .un, .un, .un, .un, .un, .un, .un]) (s1 := s7) (if_f (law_c13 x y z a b qs e11 s7))]
  obtain ⟨c, f, hsc, hc, hf, hg, hfz⟩ := m_scaled_eq (k := 13) (l := 40) qs s7 (fun q hq => ⟨(h q hq).1, (h q hq).2⟩) (by omega) (by omega)
  have hfz' : ∀ q ∈ qs, (f q).natAbs < 2 ^ 200 := fun q hq => Nat.lt_of_lt_of_le (hfz q hq) (Nat.pow_le_pow_right (by decide) (by omega))
  have hqline : qs.length ≤ sizeLine := small_line (by omega)
  have d14 : (setD 14 (asSh (callG m_scaled (consG (asSh (asLst (lcG (.nm 11) [11] (itemG (varD 7)) yesB (varD 11)))) nilG)))) [.un, .st, (.sh (R x)), (.sh (R y)), (.sh (R z)), (.sh (.int a)), (.sh (.int b)), (.sh (.list (qs.map R))), .un, (.sh (R (sumQ 0 qs))), (.sh (optD (qs.foldl lessQ none))), e11, (.sh (.int (x.num / x.den))), (.sh (.int (-((-x.num) / x.den)))), .un, .un, .un, .un, .un, .un, .un] s7 = .nx [.un, .st, (.sh (R x)), (.sh (R y)), (.sh (R z)), (.sh (.int a)), (.sh (.int b)), (.sh (.list (qs.map R))), .un, (.sh (R (sumQ 0 qs))), (.sh (optD (qs.foldl lessQ none))), e11, (.sh (.int (x.num / x.den))), (.sh (.int (-((-x.num) / x.den)))), (.sh (.tuple ((qs.map f).map .int))), .un, .un, .un, .un, .un, .un] s7 := by
    simp -implicitDefEqProofs only [setD_def, asSh_def, callG_def, consG_def, asLst_def, lcG_def, itemG_def, varD_def, nilG_def, List.getElem?_cons_succ, List.getElem?_cons_zero, bind_ok, listF_list, lift_some, List.length_map, if_pos hqline, wipeE_cons, wipeE_nil, List.set_cons_succ, List.set_cons_zero]
    rw [lcD_id _ _ _ (by simp)]
    simp -implicitDefEqProofs only [bind_ok, List.all_cons, List.all_nil, solid_sh, Bool.and_self, if_true, hsc, evS_ok, List.set_cons_succ, List.set_cons_zero]
  rw [seqD_nx (e := [.un, .st, (.sh (R x)), (.sh (R y)), (.sh (R z)), (.sh (.int a)), (.sh (.int b)), (.sh (.list (qs.map R))), .un, (.sh (R (sumQ 0 qs))), (.sh (optD (qs.foldl lessQ none))), e11, (.sh (.int (x.num / x.den))), (.sh (.int (-((-x.num) / x.den)))), (.sh (.tuple ((qs.map f).map .int))), .un, .un, .un, .un, .un, .un]) (s1 := s7) (d14)]
  rw [seqD_nx (e := [.un, .st, (.sh (R x)), (.sh (R y)), (.sh (R z)), (.sh (.int a)), (.sh (.int b)), (.sh (.list (qs.map R))), .un, (.sh (R (sumQ 0 qs))), (.sh (optD (qs.foldl lessQ none))), e11, (.sh (.int (x.num / x.den))), (.sh (.int (-((-x.num) / x.den)))), (.sh (.tuple ((qs.map f).map .int))), .un, .un, .un, .un, .un, .un]) (s1 := s7) (if_f (law_c15 x y z a b qs e11 f hl hg hfz' s7))]
  obtain ⟨e8, e15, h16⟩ := loop16 x y z a b qs .un e11 .un f c hc hl h hf hfz' s7
  have hr5 : rngB (qs.length : Int) := rngB_small (by omega) (by omega)
  rw [seqD_nx (e := [.un, .st, (.sh (R x)), (.sh (R y)), (.sh (R z)), (.sh (.int a)), (.sh (.int b)), (.sh (.list (qs.map R))), e8, (.sh (R (sumQ 0 qs))), (.sh (optD (qs.foldl lessQ none))), e11, (.sh (.int (x.num / x.den))), (.sh (.int (-((-x.num) / x.den)))), (.sh (.tuple ((qs.map f).map .int))), e15, .un, .un, .un, .un, .un]) (s1 := s7) (by rw [forG_def]; simp -implicitDefEqProofs only [rng1_def, callB_def, consG_def, nilG_def, varW_def, List.getElem?_cons_succ, List.getElem?_cons_zero, bind_ok, lenF_list, lift_some, List.length_map, if_pos hr5, evS_ok, Int.toNat_natCast]; exact h16)]
  obtain ⟨rs, s8, d2, w8, l8, hp8⟩ := lcD_draw (i := 11) (ge := op2 subD (callG m__law_take (consG (varX 1) (consG (asSh (cD (.int 21))) nilG))) (cD (.int 10))) WFS (fun y => ∃ i, y = .int i ∧ i.natAbs < 2 ^ 10) (qs.map R) [.un, .st, (.sh (R x)), (.sh (R y)), (.sh (R z)), (.sh (.int a)), (.sh (.int b)), (.sh (.list (qs.map R))), e8, (.sh (R (sumQ 0 qs))), (.sh (optD (qs.foldl lessQ none))), .un, (.sh (.int (x.num / x.den))), (.sh (.int (-((-x.num) / x.den)))), (.sh (.tuple ((qs.map f).map .int))), e15, .un, .un, .un, .un, .un] s7 w7 (fun d _ s hs => by
    obtain ⟨r, s', e1, e2, e3, e4⟩ := take_ok hs (most := 21) (by decide) (by decide)
    exact ⟨.int (r - 10), s', by simp -implicitDefEqProofs [e1], e2, _, rfl, by omega⟩)
  obtain ⟨ns, rfl, hns⟩ := ints_of hp8
  rw [List.length_map, List.length_map] at l8
  have hns' : ∀ n ∈ ns, Sz 10 (n : Rat) := fun n hn => Sz_int (hns n hn) (by decide)
  have d16 : (frzA 16 (setD 16 (asOw (lcG (.nm 11) [11] (itemG (varD 7)) yesB (op2 subD (callG m__law_take (consG (varX 1) (consG (asSh (cD (.int 21))) nilG))) (cD (.int 10))))))) [.un, .st, (.sh (R x)), (.sh (R y)), (.sh (R z)), (.sh (.int a)), (.sh (.int b)), (.sh (.list (qs.map R))), e8, (.sh (R (sumQ 0 qs))), (.sh (optD (qs.foldl lessQ none))), e11, (.sh (.int (x.num / x.den))), (.sh (.int (-((-x.num) / x.den)))), (.sh (.tuple ((qs.map f).map .int))), e15, .un, .un, .un, .un, .un] s7 = .nx [.un, .st, (.sh (R x)), (.sh (R y)), (.sh (R z)), (.sh (.int a)), (.sh (.int b)), (.sh (.list (qs.map R))), e8, (.sh (R (sumQ 0 qs))), (.sh (optD (qs.foldl lessQ none))), e11, (.sh (.int (x.num / x.den))), (.sh (.int (-((-x.num) / x.den)))), (.sh (.tuple ((qs.map f).map .int))), e15, (.sh (.list (ns.map .int))), .un, .un, .un, .un] s8 := by
    simp -implicitDefEqProofs only [frzA_def, setD_def, asOw_def, lcG_def, itemG_def, varD_def, List.getElem?_cons_succ, List.getElem?_cons_zero, bind_ok, listF_list, lift_some, List.length_map, if_pos hqline, wipeE_cons, wipeE_nil, List.set_cons_succ, List.set_cons_zero, d2, evS_ok, frz_def]
  rw [seqD_nx (e := [.un, .st, (.sh (R x)), (.sh (R y)), (.sh (R z)), (.sh (.int a)), (.sh (.int b)), (.sh (.list (qs.map R))), e8, (.sh (R (sumQ 0 qs))), (.sh (optD (qs.foldl lessQ none))), e11, (.sh (.int (x.num / x.den))), (.sh (.int (-((-x.num) / x.den)))), (.sh (.tuple ((qs.map f).map .int))), e15, (.sh (.list (ns.map .int))), .un, .un, .un, .un]) (s1 := s8) (d16)]
  rw [seqD_nx (e := [.un, .st, (.sh (R x)), (.sh (R y)), (.sh (R z)), (.sh (.int a)), (.sh (.int b)), (.sh (.list (qs.map R))), e8, (.sh (R (sumQ 0 qs))), (.sh (optD (qs.foldl lessQ none))), e11, (.sh (.int (x.num / x.den))), (.sh (.int (-((-x.num) / x.den)))), (.sh (.tuple ((qs.map f).map .int))), e15, (.sh (.list (ns.map .int))), (.sh (R 0)), .un, .un, .un]) (s1 := s8) (by simp -implicitDefEqProofs [R_zero])]
  obtain ⟨e8', h19⟩ := loop19 x y z a b qs e8 e11 e15 f ns hl l8 h hns' s8
  rw [seqD_nx (e := [.un, .st, (.sh (R x)), (.sh (R y)), (.sh (R z)), (.sh (.int a)), (.sh (.int b)), (.sh (.list (qs.map R))), e8', (.sh (R (sumQ 0 qs))), (.sh (optD (qs.foldl lessQ none))), e11, (.sh (.int (x.num / x.den))), (.sh (.int (-((-x.num) / x.den)))), (.sh (.tuple ((qs.map f).map .int))), e15, (.sh (.list (ns.map .int))), (.sh (R (sumQ 0 ((List.range qs.length).map (prodQ ns qs))))), .un, .un, .un]) (s1 := s8) (by rw [forG_def]; simp -implicitDefEqProofs only [rng1_def, callB_def, consG_def, nilG_def, varW_def, List.getElem?_cons_succ, List.getElem?_cons_zero, bind_ok, lenF_list, lift_some, List.length_map, if_pos hr5, evS_ok, Int.toNat_natCast]; exact h19)]
  rw [seqD_nx (e := [.un, .st, (.sh (R x)), (.sh (R y)), (.sh (R z)), (.sh (.int a)), (.sh (.int b)), (.sh (.list (qs.map R))), e8', (.sh (R (sumQ 0 qs))), (.sh (optD (qs.foldl lessQ none))), e11, (.sh (.int (x.num / x.den))), (.sh (.int (-((-x.num) / x.den)))), (.sh (.tuple ((qs.map f).map .int))), e15, (.sh (.list (ns.map .int))), (.sh (R (sumQ 0 ((List.range qs.length).map (prodQ ns qs))))), .un, .un, .un]) (s1 := s8) (if_f (law_c20 x y z a b qs e8' e11 e15 f ns hl l8 h hns' s8))]
  obtain ⟨e18, h21⟩ := stage21 x y z a b qs e8' e11 e15 f ns hx s8
  rw [seqD_nx (e := [.un, .st, (.sh (R x)), (.sh (R y)), (.sh (R z)), (.sh (.int a)), (.sh (.int b)), (.sh (.list (qs.map R))), e8', (.sh (R (sumQ 0 qs))), (.sh (optD (qs.foldl lessQ none))), e11, (.sh (.int (x.num / x.den))), (.sh (.int (-((-x.num) / x.den)))), (.sh (.tuple ((qs.map f).map .int))), e15, (.sh (.list (ns.map .int))), (.sh (R (sumQ 0 ((List.range qs.length).map (prodQ ns qs))))), e18, .un, .un]) (s1 := s8) (h21)]
  rw [seqD_nx (e := [.un, .st, (.sh (R x)), (.sh (R y)), (.sh (R z)), (.sh (.int a)), (.sh (.int b)), (.sh (.list (qs.map R))), e8', (.sh (R (sumQ 0 qs))), (.sh (optD (qs.foldl lessQ none))), e11, (.sh (.int (x.num / x.den))), (.sh (.int (-((-x.num) / x.den)))), (.sh (.tuple ((qs.map f).map .int))), e15, (.sh (.list (ns.map .int))), (.sh (R (sumQ 0 ((List.range qs.length).map (prodQ ns qs))))), e18, (.sh (.tuple (qs.map R))), .un]) (s1 := s8) (by simp -implicitDefEqProofs only [setD_def, asSh_def, callB_def, consG_def, nilG_def, varW_def, List.getElem?_cons_succ, List.getElem?_cons_zero, bind_ok, tupF_list, lift_some, evS_ok, List.set_cons_succ, List.set_cons_zero])]
  obtain ⟨e18', e20, h23⟩ := stage23 x y z a b qs e8' e11 e15 e18 f ns hx hy hz hl h s8
  rw [seqD_nx (e := [.un, .st, (.sh (R x)), (.sh (R y)), (.sh (R z)), (.sh (.int a)), (.sh (.int b)), (.sh (.list (qs.map R))), e8', (.sh (R (sumQ 0 qs))), (.sh (optD (qs.foldl lessQ none))), e11, (.sh (.int (x.num / x.den))), (.sh (.int (-((-x.num) / x.den)))), (.sh (.tuple ((qs.map f).map .int))), e15, (.sh (.list (ns.map .int))), (.sh (R (sumQ 0 ((List.range qs.length).map (prodQ ns qs))))), e18', (.sh (.tuple (qs.map R))), e20]) (s1 := s8) (h23)]
  exact ⟨s8, rfl⟩
end NW
end

section
set_option Elab.async false
set_option linter.all false
set_option maxRecDepth 100000
set_option autoImplicit false
namespace NW
open PySem PySem.Spec L2 DS
open PyProof.Rows hiding St

def topS (i : Nat) : Stmt := PySem.Challenge.pw_nodewright_k09_whole_parts_of_numbers.main.body.getD i (.Pass ⟨0, 0, 0, 0⟩)
structure Nm (mg : Str → Option Value) : Prop where
  z_abs : mg "abs" = none
  z_all : mg "all" = none
  z_bool : mg "bool" = none
  z_int : mg "int" = none
  z_isinstance : mg "isinstance" = none
  z_len : mg "len" = none
  z_list : mg "list" = none
  z_max : mg "max" = none
  z_range : mg "range" = none
  z_tuple : mg "tuple" = none
section
variable {P : Program} {w : World} {K : PySem.W.Frag} {mg : Str → Option Value} {base : Heap}
abbrev s_divisor : Stmt := topS 1
abbrev N_divisor : List Str := ["one", "other"]
theorem sc_divisor : FnScope ["one", "other"] ["one", "other"] (defScope s_divisor) := ⟨rfl, rfl, rfl, by decide +kernel, rfl, by decide +kernel, by decide +kernel⟩
theorem ok_divisor (Z : Nm mg) (Df : DefAt K mg "divisor" s_divisor)  : FOk P w K mg base 1 "divisor" ["one", "other"] m_divisor :=
  fn_ok (N := ["one", "other"]) Df sc_divisor (fun _ _ _ _ _ _ us hl => match us, hl with | [_, _], _ => rfl) fun f cdv A outer s H E G c =>
  (ss_cons (ss_par (i := 0) (j := 1) c rfl rfl (by decide) rfl rfl (sv_of (se_callB absC (by rfl) Z.z_abs bt_abs (sl_cons lrW (sw_var (pv 0)) (sl_nil lrW)))) (sv_of (se_callB absC (by rfl) Z.z_abs bt_abs (sl_cons lrW (sw_var (pv 1)) (sl_nil lrW)))) (by rfl))
  (ss_cons (ss_while fu_divisor_1 c (sb_cmp (neO c.u64) (sw_var (pv 1)) (sw_of se_int)) (ss_one (ss_par (i := 0) (j := 1) c rfl rfl (by decide) rfl rfl (sv_of (se_var (pv 1))) (sv_of (se_bin modO (sw_var (pv 0)) (sw_var (pv 1)))) (by rfl))))
  (ss_one (ss_ret (se_var (pv 0))))))
abbrev s_part : Stmt := topS 2
abbrev N_part : List Str := ["above", "below", "common"]
theorem sc_part : FnScope ["above", "below", "common"] ["above", "below"] (defScope s_part) := ⟨rfl, rfl, rfl, by decide +kernel, rfl, by decide +kernel, by decide +kernel⟩
theorem ok_part (Z : Nm mg) (Df : DefAt K mg "part" s_part) (h_divisor : FOk P w K mg base 1 "divisor" ["one", "other"] m_divisor) : FOk P w K mg base 2 "part" ["above", "below"] m_part :=
  fn_ok (N := ["above", "below", "common"]) Df sc_part (fun _ _ _ _ _ _ us hl => match us, hl with | [_, _], _ => rfl) fun f cdv A outer s H E G c =>
  (ss_cons (ss_if (sb_cmp ltO (sw_var (pv 1)) (sw_of se_int)) (ss_one (ss_par (i := 0) (j := 1) c rfl rfl (by decide) rfl rfl (sv_of (se_bin subO (sw_of se_int) (sw_var (pv 0)))) (sv_of (se_bin subO (sw_of se_int) (sw_var (pv 1)))) (by rfl))) ss_nil)
  (ss_cons (ss_set (i := 2) c rfl (Or.inl rfl) (sv_of (se_call c h_divisor (by decide) (by rfl) (sl_cons lrA (sx_var (pv 0)) (sl_cons lrA (sx_var (pv 1)) (sl_nil lrA))))))
  (ss_one (ss_ret (se_tup (sl_cons lrD (se_bin fdivO (sw_var (pv 0)) (sw_var (pv 2))) (sl_cons lrD (se_bin fdivO (sw_var (pv 1)) (sw_var (pv 2))) (sl_nil lrD))))))))
abbrev s_is_part : Stmt := topS 3
abbrev N_is_part : List Str := ["value", "number"]
theorem sc_is_part : FnScope ["value", "number"] ["value"] (defScope s_is_part) := ⟨rfl, rfl, rfl, by decide +kernel, rfl, by decide +kernel, by decide +kernel⟩
theorem ok_is_part (Z : Nm mg) (Df : DefAt K mg "is_part" s_is_part) (h_divisor : FOk P w K mg base 1 "divisor" ["one", "other"] m_divisor) : FOk P w K mg base 2 "is_part" ["value"] m_is_part :=
  fn_ok (N := ["value", "number"]) Df sc_is_part (fun _ _ _ _ _ _ us hl => match us, hl with | [_], _ => rfl) fun f cdv A outer s H E G c =>
  (ss_cons (ss_if (sb_w (sbw_or (sb_not (sb_of_pe (se_isi kitTup (by rfl) Z.z_isinstance bt_isinstance (sw_var (pv 0)) (by rfl) Z.z_tuple bt_tuple))) (sbw_or1 (sb_cmp (neO c.u64) (sw_of (se_callB lenC (by rfl) Z.z_len bt_len (sl_cons lrW (sw_var (pv 0)) (sl_nil lrW)))) (sw_of se_int))))) (ss_one (ss_ret se_bl)) ss_nil)
  (ss_cons (ss_if (sb_not (sb_of_pe (se_callB (allC c.calm) (by rfl) Z.z_all bt_all (sl_cons lrW (sw_of (se_of (sf_lc (own := [("number", 1)]) (t := (.nm 1)) c (si_of (se_var (pv 0))) (blkOk_by (N := N_is_part) (sc := defScope s_is_part) (by decide +kernel)) (fun bs1 bH1 _ _ bp1 => (pg_name (i := 1) (c.blk bs1 bH1 _ _ bp1).nd rfl (by first | exact Or.inl rfl | exact Or.inr rfl))) (fun _ _ _ _ _ => spt_nil) (fun bs1 bH1 _ _ bp1 => (se_and (se_isi kitInt (by rfl) Z.z_isinstance bt_isinstance (sw_var (pv 1)) (by rfl) Z.z_int bt_int) (se_one (se_not (se_isi kitBool (by rfl) Z.z_isinstance bt_isinstance (sw_var (pv 1)) (by rfl) Z.z_bool bt_bool)))))))) (sl_nil lrW))))) (ss_one (ss_ret se_bl)) ss_nil)
  (ss_one (ss_ret (se_and (se_cmp geO (sw_of (se_ix (sw_var (pv 0)) se_int)) (sw_of se_int)) (se_one (se_cmp (eqO c.u64) (sw_of (se_call c h_divisor (by decide) (by rfl) (sl_cons lrA (sx_of (se_ix (sw_var (pv 0)) se_int)) (sl_cons lrA (sx_of (se_ix (sw_var (pv 0)) se_int)) (sl_nil lrA))))) (sw_of se_int))))))))
abbrev s_plus : Stmt := topS 4
abbrev N_plus : List Str := ["one", "other"]
theorem sc_plus : FnScope ["one", "other"] ["one", "other"] (defScope s_plus) := ⟨rfl, rfl, rfl, by decide +kernel, rfl, by decide +kernel, by decide +kernel⟩
theorem ok_plus (Z : Nm mg) (Df : DefAt K mg "plus" s_plus) (h_part : FOk P w K mg base 2 "part" ["above", "below"] m_part) : FOk P w K mg base 3 "plus" ["one", "other"] m_plus :=
  fn_ok (N := ["one", "other"]) Df sc_plus (fun _ _ _ _ _ _ us hl => match us, hl with | [_, _], _ => rfl) fun f cdv A outer s H E G c =>
  (ss_one (ss_ret (se_call c h_part (by decide) (by rfl) (sl_cons lrA (sx_of (se_bin addO (sw_of (se_bin mulO (sw_of (se_ix (sw_var (pv 0)) se_int)) (sw_of (se_ix (sw_var (pv 1)) se_int)))) (sw_of (se_bin mulO (sw_of (se_ix (sw_var (pv 1)) se_int)) (sw_of (se_ix (sw_var (pv 0)) se_int)))))) (sl_cons lrA (sx_of (se_bin mulO (sw_of (se_ix (sw_var (pv 0)) se_int)) (sw_of (se_ix (sw_var (pv 1)) se_int)))) (sl_nil lrA))))))
abbrev s_minus : Stmt := topS 5
abbrev N_minus : List Str := ["one", "other"]
theorem sc_minus : FnScope ["one", "other"] ["one", "other"] (defScope s_minus) := ⟨rfl, rfl, rfl, by decide +kernel, rfl, by decide +kernel, by decide +kernel⟩
theorem ok_minus (Z : Nm mg) (Df : DefAt K mg "minus" s_minus) (h_part : FOk P w K mg base 2 "part" ["above", "below"] m_part) : FOk P w K mg base 3 "minus" ["one", "other"] m_minus :=
  fn_ok (N := ["one", "other"]) Df sc_minus (fun _ _ _ _ _ _ us hl => match us, hl with | [_, _], _ => rfl) fun f cdv A outer s H E G c =>
  (ss_one (ss_ret (se_call c h_part (by decide) (by rfl) (sl_cons lrA (sx_of (se_bin subO (sw_of (se_bin mulO (sw_of (se_ix (sw_var (pv 0)) se_int)) (sw_of (se_ix (sw_var (pv 1)) se_int)))) (sw_of (se_bin mulO (sw_of (se_ix (sw_var (pv 1)) se_int)) (sw_of (se_ix (sw_var (pv 0)) se_int)))))) (sl_cons lrA (sx_of (se_bin mulO (sw_of (se_ix (sw_var (pv 0)) se_int)) (sw_of (se_ix (sw_var (pv 1)) se_int)))) (sl_nil lrA))))))
abbrev s_times : Stmt := topS 6
abbrev N_times : List Str := ["one", "other"]
theorem sc_times : FnScope ["one", "other"] ["one", "other"] (defScope s_times) := ⟨rfl, rfl, rfl, by decide +kernel, rfl, by decide +kernel, by decide +kernel⟩
theorem ok_times (Z : Nm mg) (Df : DefAt K mg "times" s_times) (h_part : FOk P w K mg base 2 "part" ["above", "below"] m_part) : FOk P w K mg base 3 "times" ["one", "other"] m_times :=
  fn_ok (N := ["one", "other"]) Df sc_times (fun _ _ _ _ _ _ us hl => match us, hl with | [_, _], _ => rfl) fun f cdv A outer s H E G c =>
  (ss_one (ss_ret (se_call c h_part (by decide) (by rfl) (sl_cons lrA (sx_of (se_bin mulO (sw_of (se_ix (sw_var (pv 0)) se_int)) (sw_of (se_ix (sw_var (pv 1)) se_int)))) (sl_cons lrA (sx_of (se_bin mulO (sw_of (se_ix (sw_var (pv 0)) se_int)) (sw_of (se_ix (sw_var (pv 1)) se_int)))) (sl_nil lrA))))))
abbrev s_over : Stmt := topS 7
abbrev N_over : List Str := ["one", "other"]
theorem sc_over : FnScope ["one", "other"] ["one", "other"] (defScope s_over) := ⟨rfl, rfl, rfl, by decide +kernel, rfl, by decide +kernel, by decide +kernel⟩
theorem ok_over (Z : Nm mg) (Df : DefAt K mg "over" s_over) (h_part : FOk P w K mg base 2 "part" ["above", "below"] m_part) : FOk P w K mg base 3 "over" ["one", "other"] m_over :=
  fn_ok (N := ["one", "other"]) Df sc_over (fun _ _ _ _ _ _ us hl => match us, hl with | [_, _], _ => rfl) fun f cdv A outer s H E G c =>
  (ss_one (ss_ret (se_call c h_part (by decide) (by rfl) (sl_cons lrA (sx_of (se_bin mulO (sw_of (se_ix (sw_var (pv 0)) se_int)) (sw_of (se_ix (sw_var (pv 1)) se_int)))) (sl_cons lrA (sx_of (se_bin mulO (sw_of (se_ix (sw_var (pv 0)) se_int)) (sw_of (se_ix (sw_var (pv 1)) se_int)))) (sl_nil lrA))))))
abbrev s_is_less : Stmt := topS 8
abbrev N_is_less : List Str := ["one", "other"]
theorem sc_is_less : FnScope ["one", "other"] ["one", "other"] (defScope s_is_less) := ⟨rfl, rfl, rfl, by decide +kernel, rfl, by decide +kernel, by decide +kernel⟩
theorem ok_is_less (Z : Nm mg) (Df : DefAt K mg "is_less" s_is_less)  : FOk P w K mg base 1 "is_less" ["one", "other"] m_is_less :=
  fn_ok (N := ["one", "other"]) Df sc_is_less (fun _ _ _ _ _ _ us hl => match us, hl with | [_, _], _ => rfl) fun f cdv A outer s H E G c =>
  (ss_one (ss_ret (se_cmp ltO (sw_of (se_bin mulO (sw_of (se_ix (sw_var (pv 0)) se_int)) (sw_of (se_ix (sw_var (pv 1)) se_int)))) (sw_of (se_bin mulO (sw_of (se_ix (sw_var (pv 1)) se_int)) (sw_of (se_ix (sw_var (pv 0)) se_int)))))))
abbrev s_total : Stmt := topS 9
abbrev N_total : List Str := ["row", "found", "one"]
theorem sc_total : FnScope ["row", "found", "one"] ["row"] (defScope s_total) := ⟨rfl, rfl, rfl, by decide +kernel, rfl, by decide +kernel, by decide +kernel⟩
theorem ok_total (Z : Nm mg) (Df : DefAt K mg "total" s_total) (h_plus : FOk P w K mg base 3 "plus" ["one", "other"] m_plus) : FOk P w K mg base 4 "total" ["row"] m_total :=
  fn_ok (N := ["row", "found", "one"]) Df sc_total (fun _ _ _ _ _ _ us hl => match us, hl with | [_], _ => rfl) fun f cdv A outer s H E G c =>
  (ss_cons (ss_set (i := 1) c rfl (Or.inl rfl) (sv_of (se_tup (sl_cons lrD se_int (sl_cons lrD se_int (sl_nil lrD))))))
  (ss_cons (ss_for (t := (.nm 2)) c (si_of (se_var (pv 0))) (pg_name (i := 2) c.nd rfl (by first | exact Or.inl rfl | exact Or.inr rfl)) (ss_one (ss_set (i := 1) c rfl (Or.inl rfl) (sv_of (se_call c h_plus (by decide) (by rfl) (sl_cons lrA (sx_var (pv 1)) (sl_cons lrA (sx_var (pv 2)) (sl_nil lrA))))))))
  (ss_one (ss_ret (se_var (pv 1))))))
abbrev s_least_of : Stmt := topS 10
abbrev N_least_of : List Str := ["row", "best", "one"]
theorem sc_least_of : FnScope ["row", "best", "one"] ["row"] (defScope s_least_of) := ⟨rfl, rfl, rfl, by decide +kernel, rfl, by decide +kernel, by decide +kernel⟩
theorem ok_least_of (Z : Nm mg) (Df : DefAt K mg "least_of" s_least_of) (h_is_less : FOk P w K mg base 1 "is_less" ["one", "other"] m_is_less) : FOk P w K mg base 2 "least_of" ["row"] m_least_of :=
  fn_ok (N := ["row", "best", "one"]) Df sc_least_of (fun _ _ _ _ _ _ us hl => match us, hl with | [_], _ => rfl) fun f cdv A outer s H E G c =>
  (ss_cons (ss_set (i := 1) c rfl (Or.inl rfl) (sv_of se_non))
  (ss_cons (ss_for (t := (.nm 2)) c (si_of (se_var (pv 0))) (pg_name (i := 2) c.nd rfl (by first | exact Or.inl rfl | exact Or.inr rfl)) (ss_one (ss_if (sb_w (sbw_or (sb_cmp isO (sw_var (pv 1)) (sw_of se_non)) (sbw_or1 (sb_of_pe (se_call c h_is_less (by decide) (by rfl) (sl_cons lrA (sx_var (pv 2)) (sl_cons lrA (sx_var (pv 1)) (sl_nil lrA)))))))) (ss_one (ss_set (i := 1) c rfl (Or.inl rfl) (sv_of (se_var (pv 2))))) ss_nil)))
  (ss_one (ss_ret (se_var (pv 1))))))
abbrev s_whole_below : Stmt := topS 11
abbrev N_whole_below : List Str := ["one"]
theorem sc_whole_below : FnScope ["one"] ["one"] (defScope s_whole_below) := ⟨rfl, rfl, rfl, by decide +kernel, rfl, by decide +kernel, by decide +kernel⟩
theorem ok_whole_below (Z : Nm mg) (Df : DefAt K mg "whole_below" s_whole_below)  : FOk P w K mg base 1 "whole_below" ["one"] m_whole_below :=
  fn_ok (N := ["one"]) Df sc_whole_below (fun _ _ _ _ _ _ us hl => match us, hl with | [_], _ => rfl) fun f cdv A outer s H E G c =>
  (ss_one (ss_ret (se_bin fdivO (sw_of (se_ix (sw_var (pv 0)) se_int)) (sw_of (se_ix (sw_var (pv 0)) se_int)))))
abbrev s_whole_above : Stmt := topS 12
abbrev N_whole_above : List Str := ["one"]
theorem sc_whole_above : FnScope ["one"] ["one"] (defScope s_whole_above) := ⟨rfl, rfl, rfl, by decide +kernel, rfl, by decide +kernel, by decide +kernel⟩
theorem ok_whole_above (Z : Nm mg) (Df : DefAt K mg "whole_above" s_whole_above)  : FOk P w K mg base 1 "whole_above" ["one"] m_whole_above :=
  fn_ok (N := ["one"]) Df sc_whole_above (fun _ _ _ _ _ _ us hl => match us, hl with | [_], _ => rfl) fun f cdv A outer s H E G c =>
  (ss_one (ss_ret (se_bin subO (sw_of se_int) (sw_of (se_bin fdivO (sw_of (se_bin subO (sw_of se_int) (sw_of (se_ix (sw_var (pv 0)) se_int)))) (sw_of (se_ix (sw_var (pv 0)) se_int)))))))
abbrev s_is_whole_part : Stmt := topS 13
abbrev N_is_whole_part : List Str := ["one"]
theorem sc_is_whole_part : FnScope ["one"] ["one"] (defScope s_is_whole_part) := ⟨rfl, rfl, rfl, by decide +kernel, rfl, by decide +kernel, by decide +kernel⟩
theorem ok_is_whole_part (Z : Nm mg) (Df : DefAt K mg "is_whole_part" s_is_whole_part)  : FOk P w K mg base 1 "is_whole_part" ["one"] m_is_whole_part :=
  fn_ok (N := ["one"]) Df sc_is_whole_part (fun _ _ _ _ _ _ us hl => match us, hl with | [_], _ => rfl) fun f cdv A outer s H E G c =>
  (ss_one (ss_ret (se_cmp (eqO c.u64) (sw_of (se_ix (sw_var (pv 0)) se_int)) (sw_of se_int))))
abbrev s_are_parts : Stmt := topS 14
abbrev N_are_parts : List Str := ["value", "many", "one"]
theorem sc_are_parts : FnScope ["value", "many", "one"] ["value", "many"] (defScope s_are_parts) := ⟨rfl, rfl, rfl, by decide +kernel, rfl, by decide +kernel, by decide +kernel⟩
theorem ok_are_parts (Z : Nm mg) (Df : DefAt K mg "are_parts" s_are_parts) (h_is_part : FOk P w K mg base 2 "is_part" ["value"] m_is_part) : FOk P w K mg base 3 "are_parts" ["value", "many"] m_are_parts :=
  fn_ok (N := ["value", "many", "one"]) Df sc_are_parts (fun _ _ _ _ _ _ us hl => match us, hl with | [_, _], _ => rfl) fun f cdv A outer s H E G c =>
  (ss_one (ss_ret (se_and (se_isi kitTup (by rfl) Z.z_isinstance bt_isinstance (sw_var (pv 0)) (by rfl) Z.z_tuple bt_tuple) (se_and (se_cmp (eqO c.u64) (sw_of (se_callB lenC (by rfl) Z.z_len bt_len (sl_cons lrW (sw_var (pv 0)) (sl_nil lrW)))) (sw_var (pv 1))) (se_one (se_callB (allC c.calm) (by rfl) Z.z_all bt_all (sl_cons lrW (sw_of (se_of (sf_lc (own := [("one", 2)]) (t := (.nm 2)) c (si_of (se_var (pv 0))) (blkOk_by (N := N_are_parts) (sc := defScope s_are_parts) (by decide +kernel)) (fun bs2 bH2 _ _ bp2 => (pg_name (i := 2) (c.blk bs2 bH2 _ _ bp2).nd rfl (by first | exact Or.inl rfl | exact Or.inr rfl))) (fun _ _ _ _ _ => spt_nil) (fun bs2 bH2 _ _ bp2 => (se_call (c.blk bs2 bH2 _ _ bp2) h_is_part (by decide) (by rfl) (sl_cons lrA (sx_var (pv 2)) (sl_nil lrA))))))) (sl_nil lrW))))))))
abbrev s_scaled : Stmt := topS 15
abbrev N_scaled : List Str := ["row", "common", "one", "found", "shared", "number"]
theorem sc_scaled : FnScope ["row", "common", "one", "found", "shared", "number"] ["row"] (defScope s_scaled) := ⟨rfl, rfl, rfl, by decide +kernel, rfl, by decide +kernel, by decide +kernel⟩
theorem ok_scaled (Z : Nm mg) (Df : DefAt K mg "scaled" s_scaled) (h_divisor : FOk P w K mg base 1 "divisor" ["one", "other"] m_divisor) : FOk P w K mg base 2 "scaled" ["row"] m_scaled :=
  fn_ok (N := ["row", "common", "one", "found", "shared", "number"]) Df sc_scaled (fun _ _ _ _ _ _ us hl => match us, hl with | [_], _ => rfl) fun f cdv A outer s H E G c =>
  (ss_cons (ss_set (i := 1) c rfl (Or.inr rfl) (sv_of se_int))
  (ss_cons (ss_for (t := (.nm 2)) c (si_of (se_var (pv 0))) (pg_name (i := 2) c.nd rfl (by first | exact Or.inl rfl | exact Or.inr rfl)) (ss_one (ss_set (i := 1) c rfl (Or.inr rfl) (sv_of (se_bin fdivO (sw_of (se_bin mulO (sw_var (pv 1)) (sw_of (se_ix (sw_var (pv 2)) se_int)))) (sw_of (se_call c h_divisor (by decide) (by rfl) (sl_cons lrA (sx_var (pv 1)) (sl_cons lrA (sx_of (se_ix (sw_var (pv 2)) se_int)) (sl_nil lrA))))))))))
  (ss_cons (ss_post 3 (ss_setLc (i := 3) (own := [("one", 2)]) (t := (.nm 2)) c rfl rfl (sw_true rfl rfl rfl (by decide +kernel)) (si_of (se_var (pv 0))) (blkOk_by (N := N_scaled) (sc := defScope s_scaled) (by decide +kernel)) (fun bs3 bH3 _ _ bp3 => (pg_name (i := 2) (c.blk bs3 bH3 _ _ bp3).nd rfl (by first | exact Or.inl rfl | exact Or.inr rfl))) (fun _ _ _ _ _ => spt_nil) (fun bs3 bH3 _ _ bp3 => (se_bin mulO (sw_of (se_ix (sw_var (pv 2)) se_int)) (sw_of (se_bin fdivO (sw_var (pv 1)) (sw_of (se_ix (sw_var (pv 2)) se_int))))))))
  (ss_cons (ss_set (i := 4) c rfl (Or.inr rfl) (sv_of se_int))
  (ss_cons (ss_for (t := (.nm 5)) c (si_of (se_var (pv 3))) (pg_name (i := 5) c.nd rfl (by first | exact Or.inl rfl | exact Or.inr rfl)) (ss_one (ss_set (i := 4) c rfl (Or.inr rfl) (sv_of (se_call c h_divisor (by decide) (by rfl) (sl_cons lrA (sx_var (pv 4)) (sl_cons lrA (sx_var (pv 5)) (sl_nil lrA))))))))
  (ss_one (ss_ret (sg_if (sb_cmp (eqO c.u64) (sw_var (pv 4)) (sw_of se_int)) (se_callTy tupC (by rfl) Z.z_tuple bt_tuple (sl_cons lrW (sw_var (pv 3)) (sl_nil lrW))) (se_callTy tupC (by rfl) Z.z_tuple bt_tuple (sl_cons lrW (sw_of (se_of (sf_lc (own := [("number", 5)]) (t := (.nm 5)) c (si_of (se_var (pv 3))) (blkOk_by (N := N_scaled) (sc := defScope s_scaled) (by decide +kernel)) (fun bs4 bH4 _ _ bp4 => (pg_name (i := 5) (c.blk bs4 bH4 _ _ bp4).nd rfl (by first | exact Or.inl rfl | exact Or.inr rfl))) (fun _ _ _ _ _ => spt_nil) (fun bs4 bH4 _ _ bp4 => (se_bin fdivO (sw_var (pv 5)) (sw_var (pv 4))))))) (sl_nil lrW)))))))))))
abbrev s_dot : Stmt := topS 16
abbrev N_dot : List Str := ["row", "point", "k"]
theorem sc_dot : FnScope ["row", "point", "k"] ["row", "point"] (defScope s_dot) := ⟨rfl, rfl, rfl, by decide +kernel, rfl, by decide +kernel, by decide +kernel⟩
theorem ok_dot (Z : Nm mg) (Df : DefAt K mg "dot" s_dot) (h_times : FOk P w K mg base 3 "times" ["one", "other"] m_times) (h_total : FOk P w K mg base 4 "total" ["row"] m_total) : FOk P w K mg base 5 "dot" ["row", "point"] m_dot :=
  fn_ok (N := ["row", "point", "k"]) Df sc_dot (fun _ _ _ _ _ _ us hl => match us, hl with | [_, _], _ => rfl) fun f cdv A outer s H E G c =>
  (ss_one (ss_ret (se_call c h_total (by decide) (by rfl) (sl_cons lrA (sx_of (se_of (sf_lc (own := [("k", 2)]) (t := (.nm 2)) c (si_rng1 Z.z_range (se_callB lenC (by rfl) Z.z_len bt_len (sl_cons lrW (sw_var (pv 0)) (sl_nil lrW)))) (blkOk_by (N := N_dot) (sc := defScope s_dot) (by decide +kernel)) (fun bs5 bH5 _ _ bp5 => (pg_name (i := 2) (c.blk bs5 bH5 _ _ bp5).nd rfl (by first | exact Or.inl rfl | exact Or.inr rfl))) (fun _ _ _ _ _ => spt_nil) (fun bs5 bH5 _ _ bp5 => (se_call (c.blk bs5 bH5 _ _ bp5) h_times (by decide) (by rfl) (sl_cons lrA (sx_of (se_ix (sw_var (pv 1)) (se_var (pv 2)))) (sl_cons lrA (sx_of (se_tup (sl_cons lrD (se_ix (sw_var (pv 0)) (se_var (pv 2))) (sl_cons lrD se_int (sl_nil lrD))))) (sl_nil lrA)))))))) (sl_nil lrA)))))
abbrev s_law_state : Stmt := topS 18
abbrev N__law_state : List Str := ["script", "cells", "cell"]
theorem sc__law_state : FnScope ["script", "cells", "cell"] ["script"] (defScope s_law_state) := ⟨rfl, rfl, rfl, by decide +kernel, rfl, by decide +kernel, by decide +kernel⟩
abbrev s_law_take : Stmt := topS 19
abbrev N__law_take : List Str := ["state", "most", "cells", "at", "cell", "mixed"]
theorem sc__law_take : FnScope ["state", "most", "cells", "at", "cell", "mixed"] ["state", "most"] (defScope s_law_take) := ⟨rfl, rfl, rfl, by decide +kernel, rfl, by decide +kernel, by decide +kernel⟩
abbrev s_law_pick : Stmt := topS 20
abbrev N__law_pick : List Str := ["state", "row"]
theorem sc__law_pick : FnScope ["state", "row"] ["state", "row"] (defScope s_law_pick) := ⟨rfl, rfl, rfl, by decide +kernel, rfl, by decide +kernel, by decide +kernel⟩
theorem ok__law_pick (Z : Nm mg) (Df : DefAt K mg "_law_pick" s_law_pick) (h__law_take : FOk P w K mg base 1 "_law_take" ["state", "most"] m__law_take) : FOk P w K mg base 2 "_law_pick" ["state", "row"] m__law_pick :=
  fn_ok (N := ["state", "row"]) Df sc__law_pick (fun _ _ _ _ _ _ us hl => match us, hl with | [_, _], _ => rfl) fun f cdv A outer s H E G c =>
  (ss_one (ss_ret (se_ix (sw_var (pv 1)) (se_call c h__law_take (by decide) (by rfl) (sl_cons lrA (sx_var (pv 0)) (sl_cons lrA (sx_of (se_callB lenC (by rfl) Z.z_len bt_len (sl_cons lrW (sw_var (pv 1)) (sl_nil lrW)))) (sl_nil lrA)))))))
abbrev s_law_fr : Stmt := topS 21
abbrev N__law_fr : List Str := ["above", "below", "one", "other", "turn"]
theorem sc__law_fr : FnScope ["above", "below", "one", "other", "turn"] ["above", "below"] (defScope s_law_fr) := ⟨rfl, rfl, rfl, by decide +kernel, rfl, by decide +kernel, by decide +kernel⟩
theorem ok__law_fr (Z : Nm mg) (Df : DefAt K mg "_law_fr" s_law_fr)  : FOk P w K mg base 1 "_law_fr" ["above", "below"] m__law_fr :=
  fn_ok (N := ["above", "below", "one", "other", "turn"]) Df sc__law_fr (fun _ _ _ _ _ _ us hl => match us, hl with | [_, _], _ => rfl) fun f cdv A outer s H E G c =>
  (ss_cons (ss_if (sb_cmp ltO (sw_var (pv 1)) (sw_of se_int)) (ss_one (ss_par (i := 0) (j := 1) c rfl rfl (by decide) rfl rfl (sv_of (se_bin subO (sw_of se_int) (sw_var (pv 0)))) (sv_of (se_bin subO (sw_of se_int) (sw_var (pv 1)))) (by rfl))) ss_nil)
  (ss_cons (ss_par (i := 2) (j := 3) c rfl rfl (by decide) rfl rfl (sv_of (se_callB absC (by rfl) Z.z_abs bt_abs (sl_cons lrW (sw_var (pv 0)) (sl_nil lrW)))) (sv_of (se_var (pv 1))) (by rfl))
  (ss_cons (ss_for (t := (.nm 4)) c (si_rng1 Z.z_range se_int) (pg_name (i := 4) c.nd rfl (by first | exact Or.inl rfl | exact Or.inr rfl)) (ss_cons (ss_if (sb_cmp (eqO c.u64) (sw_var (pv 3)) (sw_of se_int)) (ss_one ss_break) ss_nil)
  (ss_one (ss_par (i := 2) (j := 3) c rfl rfl (by decide) rfl rfl (sv_of (se_var (pv 3))) (sv_of (se_bin modO (sw_of (se_callTy intC (by rfl) Z.z_int bt_int (sl_cons lrW (sw_var (pv 2)) (sl_nil lrW)))) (sw_var (pv 3)))) (by rfl)))))
  (ss_one (ss_ret (se_tup (sl_cons lrD (se_bin fdivO (sw_var (pv 0)) (sw_var (pv 2))) (sl_cons lrD (se_bin fdivO (sw_var (pv 1)) (sw_var (pv 2))) (sl_nil lrD)))))))))
abbrev s_law_is_fr : Stmt := topS 22
abbrev N__law_is_fr : List Str := ["value", "n"]
theorem sc__law_is_fr : FnScope ["value", "n"] ["value"] (defScope s_law_is_fr) := ⟨rfl, rfl, rfl, by decide +kernel, rfl, by decide +kernel, by decide +kernel⟩
theorem ok__law_is_fr (Z : Nm mg) (Df : DefAt K mg "_law_is_fr" s_law_is_fr) (h__law_fr : FOk P w K mg base 1 "_law_fr" ["above", "below"] m__law_fr) : FOk P w K mg base 2 "_law_is_fr" ["value"] m__law_is_fr :=
  fn_ok (N := ["value", "n"]) Df sc__law_is_fr (fun _ _ _ _ _ _ us hl => match us, hl with | [_], _ => rfl) fun f cdv A outer s H E G c =>
  (ss_cons (ss_if (sb_w (sbw_or (sb_not (sb_of_pe (se_isi kitTup (by rfl) Z.z_isinstance bt_isinstance (sw_var (pv 0)) (by rfl) Z.z_tuple bt_tuple))) (sbw_or (sb_cmp (neO c.u64) (sw_of (se_callB lenC (by rfl) Z.z_len bt_len (sl_cons lrW (sw_var (pv 0)) (sl_nil lrW)))) (sw_of se_int)) (sbw_or1 (sb_cmp gtO (sw_of (se_callB lenC (by rfl) Z.z_len bt_len (sl_cons lrW (sw_of (se_of (sf_lc (own := [("n", 1)]) (t := (.nm 1)) c (si_of (se_var (pv 0))) (blkOk_by (N := N__law_is_fr) (sc := defScope s_law_is_fr) (by decide +kernel)) (fun bs6 bH6 _ _ bp6 => (pg_name (i := 1) (c.blk bs6 bH6 _ _ bp6).nd rfl (by first | exact Or.inl rfl | exact Or.inr rfl))) (fun bs6 bH6 _ _ bp6 => spt_one (sb_w (sbw_or (sb_not (sb_of_pe (se_isi kitInt (by rfl) Z.z_isinstance bt_isinstance (sw_var (pv 1)) (by rfl) Z.z_int bt_int))) (sbw_or1 (sb_of_pe (se_isi kitBool (by rfl) Z.z_isinstance bt_isinstance (sw_var (pv 1)) (by rfl) Z.z_bool bt_bool)))))) (fun bs6 bH6 _ _ bp6 => (se_var (pv 1)))))) (sl_nil lrW)))) (sw_of se_int)))))) (ss_one (ss_ret se_bl)) ss_nil)
  (ss_one (ss_ret (se_and (se_cmp geO (sw_of (se_ix (sw_var (pv 0)) se_int)) (sw_of se_int)) (se_one (se_cmp (eqO c.u64) (sw_of (se_call c h__law_fr (by decide) (by rfl) (sl_cons lrA (sx_of (se_ix (sw_var (pv 0)) se_int)) (sl_cons lrA (sx_of (se_ix (sw_var (pv 0)) se_int)) (sl_nil lrA))))) (sw_var (pv 0))))))))
abbrev s_law_are_frs : Stmt := topS 23
abbrev N__law_are_frs : List Str := ["value", "many", "each"]
theorem sc__law_are_frs : FnScope ["value", "many", "each"] ["value", "many"] (defScope s_law_are_frs) := ⟨rfl, rfl, rfl, by decide +kernel, rfl, by decide +kernel, by decide +kernel⟩
theorem ok__law_are_frs (Z : Nm mg) (Df : DefAt K mg "_law_are_frs" s_law_are_frs) (h__law_is_fr : FOk P w K mg base 2 "_law_is_fr" ["value"] m__law_is_fr) : FOk P w K mg base 3 "_law_are_frs" ["value", "many"] m__law_are_frs :=
  fn_ok (N := ["value", "many", "each"]) Df sc__law_are_frs (fun _ _ _ _ _ _ us hl => match us, hl with | [_, _], _ => rfl) fun f cdv A outer s H E G c =>
  (ss_one (ss_ret (se_and (se_isi kitTup (by rfl) Z.z_isinstance bt_isinstance (sw_var (pv 0)) (by rfl) Z.z_tuple bt_tuple) (se_and (se_cmp (eqO c.u64) (sw_of (se_callB lenC (by rfl) Z.z_len bt_len (sl_cons lrW (sw_var (pv 0)) (sl_nil lrW)))) (sw_var (pv 1))) (se_one (se_cmp (eqO c.u64) (sw_of (se_callB lenC (by rfl) Z.z_len bt_len (sl_cons lrW (sw_of (se_of (sf_lc (own := [("each", 2)]) (t := (.nm 2)) c (si_of (se_var (pv 0))) (blkOk_by (N := N__law_are_frs) (sc := defScope s_law_are_frs) (by decide +kernel)) (fun bs7 bH7 _ _ bp7 => (pg_name (i := 2) (c.blk bs7 bH7 _ _ bp7).nd rfl (by first | exact Or.inl rfl | exact Or.inr rfl))) (fun bs7 bH7 _ _ bp7 => spt_one (sb_not (sb_of_pe (se_call (c.blk bs7 bH7 _ _ bp7) h__law_is_fr (by decide) (by rfl) (sl_cons lrA (sx_var (pv 2)) (sl_nil lrA)))))) (fun bs7 bH7 _ _ bp7 => (se_var (pv 2)))))) (sl_nil lrW)))) (sw_of se_int)))))))
abbrev s_law_add : Stmt := topS 24
abbrev N__law_add : List Str := ["one", "other"]
theorem sc__law_add : FnScope ["one", "other"] ["one", "other"] (defScope s_law_add) := ⟨rfl, rfl, rfl, by decide +kernel, rfl, by decide +kernel, by decide +kernel⟩
theorem ok__law_add (Z : Nm mg) (Df : DefAt K mg "_law_add" s_law_add) (h__law_fr : FOk P w K mg base 1 "_law_fr" ["above", "below"] m__law_fr) : FOk P w K mg base 2 "_law_add" ["one", "other"] m__law_add :=
  fn_ok (N := ["one", "other"]) Df sc__law_add (fun _ _ _ _ _ _ us hl => match us, hl with | [_, _], _ => rfl) fun f cdv A outer s H E G c =>
  (ss_one (ss_ret (se_call c h__law_fr (by decide) (by rfl) (sl_cons lrA (sx_of (se_bin addO (sw_of (se_bin mulO (sw_of (se_ix (sw_var (pv 0)) se_int)) (sw_of (se_ix (sw_var (pv 1)) se_int)))) (sw_of (se_bin mulO (sw_of (se_ix (sw_var (pv 1)) se_int)) (sw_of (se_ix (sw_var (pv 0)) se_int)))))) (sl_cons lrA (sx_of (se_bin mulO (sw_of (se_ix (sw_var (pv 0)) se_int)) (sw_of (se_ix (sw_var (pv 1)) se_int)))) (sl_nil lrA))))))
abbrev s_law_mul : Stmt := topS 25
abbrev N__law_mul : List Str := ["one", "other"]
theorem sc__law_mul : FnScope ["one", "other"] ["one", "other"] (defScope s_law_mul) := ⟨rfl, rfl, rfl, by decide +kernel, rfl, by decide +kernel, by decide +kernel⟩
theorem ok__law_mul (Z : Nm mg) (Df : DefAt K mg "_law_mul" s_law_mul) (h__law_fr : FOk P w K mg base 1 "_law_fr" ["above", "below"] m__law_fr) : FOk P w K mg base 2 "_law_mul" ["one", "other"] m__law_mul :=
  fn_ok (N := ["one", "other"]) Df sc__law_mul (fun _ _ _ _ _ _ us hl => match us, hl with | [_, _], _ => rfl) fun f cdv A outer s H E G c =>
  (ss_one (ss_ret (se_call c h__law_fr (by decide) (by rfl) (sl_cons lrA (sx_of (se_bin mulO (sw_of (se_ix (sw_var (pv 0)) se_int)) (sw_of (se_ix (sw_var (pv 1)) se_int)))) (sl_cons lrA (sx_of (se_bin mulO (sw_of (se_ix (sw_var (pv 0)) se_int)) (sw_of (se_ix (sw_var (pv 1)) se_int)))) (sl_nil lrA))))))
abbrev s_law_sub : Stmt := topS 26
abbrev N__law_sub : List Str := ["one", "other"]
theorem sc__law_sub : FnScope ["one", "other"] ["one", "other"] (defScope s_law_sub) := ⟨rfl, rfl, rfl, by decide +kernel, rfl, by decide +kernel, by decide +kernel⟩
theorem ok__law_sub (Z : Nm mg) (Df : DefAt K mg "_law_sub" s_law_sub) (h__law_add : FOk P w K mg base 2 "_law_add" ["one", "other"] m__law_add) : FOk P w K mg base 3 "_law_sub" ["one", "other"] m__law_sub :=
  fn_ok (N := ["one", "other"]) Df sc__law_sub (fun _ _ _ _ _ _ us hl => match us, hl with | [_, _], _ => rfl) fun f cdv A outer s H E G c =>
  (ss_one (ss_ret (se_call c h__law_add (by decide) (by rfl) (sl_cons lrA (sx_var (pv 0)) (sl_cons lrA (sx_of (se_tup (sl_cons lrD (se_bin subO (sw_of se_int) (sw_of (se_ix (sw_var (pv 1)) se_int))) (sl_cons lrD (se_ix (sw_var (pv 1)) se_int) (sl_nil lrD))))) (sl_nil lrA))))))
abbrev s_law_sign : Stmt := topS 27
abbrev N__law_sign : List Str := ["one", "other", "gap"]
theorem sc__law_sign : FnScope ["one", "other", "gap"] ["one", "other"] (defScope s_law_sign) := ⟨rfl, rfl, rfl, by decide +kernel, rfl, by decide +kernel, by decide +kernel⟩
theorem ok__law_sign (Z : Nm mg) (Df : DefAt K mg "_law_sign" s_law_sign)  : FOk P w K mg base 1 "_law_sign" ["one", "other"] m__law_sign :=
  fn_ok (N := ["one", "other", "gap"]) Df sc__law_sign (fun _ _ _ _ _ _ us hl => match us, hl with | [_, _], _ => rfl) fun f cdv A outer s H E G c =>
  (ss_cons (ss_set (i := 2) c rfl (Or.inl rfl) (sv_of (se_bin subO (sw_of (se_bin mulO (sw_of (se_ix (sw_var (pv 0)) se_int)) (sw_of (se_ix (sw_var (pv 1)) se_int)))) (sw_of (se_bin mulO (sw_of (se_ix (sw_var (pv 1)) se_int)) (sw_of (se_ix (sw_var (pv 0)) se_int)))))))
  (ss_one (ss_ret (sg_if (sb_cmp (eqO c.u64) (sw_var (pv 2)) (sw_of se_int)) se_int (sg_if (sb_cmp gtO (sw_var (pv 2)) (sw_of se_int)) se_int (se_neg se_int))))))
abbrev s_law_part : Stmt := topS 28
abbrev N__law_part : List Str := ["state", "top"]
theorem sc__law_part : FnScope ["state", "top"] ["state"] (defScope s_law_part) := ⟨rfl, rfl, rfl, by decide +kernel, rfl, by decide +kernel, by decide +kernel⟩
theorem ok__law_part (Z : Nm mg) (Df : DefAt K mg "_law_part" s_law_part) (h__law_fr : FOk P w K mg base 1 "_law_fr" ["above", "below"] m__law_fr) (h__law_pick : FOk P w K mg base 2 "_law_pick" ["state", "row"] m__law_pick) (h__law_take : FOk P w K mg base 1 "_law_take" ["state", "most"] m__law_take) : FOk P w K mg base 3 "_law_part" ["state"] m__law_part :=
  fn_ok (N := ["state", "top"]) Df sc__law_part (fun _ _ _ _ _ _ us hl => match us, hl with | [_], _ => rfl) fun f cdv A outer s H E G c =>
  (ss_cons (ss_set (i := 1) c rfl (Or.inl rfl) (sv_of (se_call c h__law_pick (by decide) (by rfl) (sl_cons lrA (sx_var (pv 0)) (sl_cons lrA (sx_of (se_of (sf_lst (sl_cons lrD se_int (sl_cons lrD se_int (sl_cons lrD se_int (sl_cons lrD se_int (sl_nil lrD)))))))) (sl_nil lrA))))))
  (ss_one (ss_ret (se_call c h__law_fr (by decide) (by rfl) (sl_cons lrA (sx_of (se_bin subO (sw_of (se_call c h__law_take (by decide) (by rfl) (sl_cons lrA (sx_var (pv 0)) (sl_cons lrA (sx_of (se_bin addO (sw_of (se_bin mulO (sw_of se_int) (sw_var (pv 1)))) (sw_of se_int))) (sl_nil lrA))))) (sw_var (pv 1)))) (sl_cons lrA (sx_of (se_bin addO (sw_of se_int) (sw_of (se_call c h__law_take (by decide) (by rfl) (sl_cons lrA (sx_var (pv 0)) (sl_cons lrA (sx_of (se_call c h__law_pick (by decide) (by rfl) (sl_cons lrA (sx_var (pv 0)) (sl_cons lrA (sx_of (se_of (sf_lst (sl_cons lrD se_int (sl_cons lrD se_int (sl_cons lrD se_int (sl_nil lrD))))))) (sl_nil lrA))))) (sl_nil lrA))))))) (sl_nil lrA)))))))
abbrev s_law_gcd : Stmt := topS 29
abbrev N__law_gcd : List Str := ["one", "other", "turn"]
theorem sc__law_gcd : FnScope ["one", "other", "turn"] ["one", "other"] (defScope s_law_gcd) := ⟨rfl, rfl, rfl, by decide +kernel, rfl, by decide +kernel, by decide +kernel⟩
theorem ok__law_gcd (Z : Nm mg) (Df : DefAt K mg "_law_gcd" s_law_gcd)  : FOk P w K mg base 1 "_law_gcd" ["one", "other"] m__law_gcd :=
  fn_ok (N := ["one", "other", "turn"]) Df sc__law_gcd (fun _ _ _ _ _ _ us hl => match us, hl with | [_, _], _ => rfl) fun f cdv A outer s H E G c =>
  (ss_cons (ss_par (i := 0) (j := 1) c rfl rfl (by decide) rfl rfl (sv_of (se_callB absC (by rfl) Z.z_abs bt_abs (sl_cons lrW (sw_var (pv 0)) (sl_nil lrW)))) (sv_of (se_callB absC (by rfl) Z.z_abs bt_abs (sl_cons lrW (sw_var (pv 1)) (sl_nil lrW)))) (by rfl))
  (ss_cons (ss_for (t := (.nm 2)) c (si_rng1 Z.z_range se_int) (pg_name (i := 2) c.nd rfl (by first | exact Or.inl rfl | exact Or.inr rfl)) (ss_cons (ss_if (sb_cmp (eqO c.u64) (sw_var (pv 1)) (sw_of se_int)) (ss_one ss_break) ss_nil)
  (ss_one (ss_par (i := 0) (j := 1) c rfl rfl (by decide) rfl rfl (sv_of (se_var (pv 1))) (sv_of (se_bin modO (sw_of (se_callTy intC (by rfl) Z.z_int bt_int (sl_cons lrW (sw_var (pv 0)) (sl_nil lrW)))) (sw_var (pv 1)))) (by rfl)))))
  (ss_one (ss_ret (se_var (pv 0))))))
abbrev s_law_gcd_of : Stmt := topS 30
abbrev N__law_gcd_of : List Str := ["row", "found", "n"]
theorem sc__law_gcd_of : FnScope ["row", "found", "n"] ["row"] (defScope s_law_gcd_of) := ⟨rfl, rfl, rfl, by decide +kernel, rfl, by decide +kernel, by decide +kernel⟩
theorem ok__law_gcd_of (Z : Nm mg) (Df : DefAt K mg "_law_gcd_of" s_law_gcd_of) (h__law_gcd : FOk P w K mg base 1 "_law_gcd" ["one", "other"] m__law_gcd) : FOk P w K mg base 2 "_law_gcd_of" ["row"] m__law_gcd_of :=
  fn_ok (N := ["row", "found", "n"]) Df sc__law_gcd_of (fun _ _ _ _ _ _ us hl => match us, hl with | [_], _ => rfl) fun f cdv A outer s H E G c =>
  (ss_cons (ss_set (i := 1) c rfl (Or.inl rfl) (sv_of se_int))
  (ss_cons (ss_for (t := (.nm 2)) c (si_of (se_var (pv 0))) (pg_name (i := 2) c.nd rfl (by first | exact Or.inl rfl | exact Or.inr rfl)) (ss_one (ss_set (i := 1) c rfl (Or.inl rfl) (sv_of (se_call c h__law_gcd (by decide) (by rfl) (sl_cons lrA (sx_var (pv 1)) (sl_cons lrA (sx_var (pv 2)) (sl_nil lrA))))))))
  (ss_one (ss_ret (se_var (pv 1))))))
abbrev s_law_is : Stmt := topS 31
abbrev N__law_is : List Str := ["value", "n"]
theorem sc__law_is : FnScope ["value", "n"] ["value"] (defScope s_law_is) := ⟨rfl, rfl, rfl, by decide +kernel, rfl, by decide +kernel, by decide +kernel⟩
theorem ok__law_is (Z : Nm mg) (Df : DefAt K mg "_law_is" s_law_is) (h__law_gcd : FOk P w K mg base 1 "_law_gcd" ["one", "other"] m__law_gcd) : FOk P w K mg base 2 "_law_is" ["value"] m__law_is :=
  fn_ok (N := ["value", "n"]) Df sc__law_is (fun _ _ _ _ _ _ us hl => match us, hl with | [_], _ => rfl) fun f cdv A outer s H E G c =>
  (ss_cons (ss_if (sb_w (sbw_or (sb_not (sb_of_pe (se_isi kitTup (by rfl) Z.z_isinstance bt_isinstance (sw_var (pv 0)) (by rfl) Z.z_tuple bt_tuple))) (sbw_or1 (sb_cmp (neO c.u64) (sw_of (se_callB lenC (by rfl) Z.z_len bt_len (sl_cons lrW (sw_var (pv 0)) (sl_nil lrW)))) (sw_of se_int))))) (ss_one (ss_ret se_bl)) ss_nil)
  (ss_cons (ss_if (sb_cmp gtO (sw_of (se_callB lenC (by rfl) Z.z_len bt_len (sl_cons lrW (sw_of (se_of (sf_lc (own := [("n", 1)]) (t := (.nm 1)) c (si_of (se_var (pv 0))) (blkOk_by (N := N__law_is) (sc := defScope s_law_is) (by decide +kernel)) (fun bs8 bH8 _ _ bp8 => (pg_name (i := 1) (c.blk bs8 bH8 _ _ bp8).nd rfl (by first | exact Or.inl rfl | exact Or.inr rfl))) (fun bs8 bH8 _ _ bp8 => spt_one (sb_w (sbw_or (sb_not (sb_of_pe (se_isi kitInt (by rfl) Z.z_isinstance bt_isinstance (sw_var (pv 1)) (by rfl) Z.z_int bt_int))) (sbw_or1 (sb_of_pe (se_isi kitBool (by rfl) Z.z_isinstance bt_isinstance (sw_var (pv 1)) (by rfl) Z.z_bool bt_bool)))))) (fun bs8 bH8 _ _ bp8 => (se_var (pv 1)))))) (sl_nil lrW)))) (sw_of se_int)) (ss_one (ss_ret se_bl)) ss_nil)
  (ss_one (ss_ret (se_and (se_cmp gtO (sw_of (se_ix (sw_var (pv 0)) se_int)) (sw_of se_int)) (se_one (se_cmp (eqO c.u64) (sw_of (se_call c h__law_gcd (by decide) (by rfl) (sl_cons lrA (sx_of (se_ix (sw_var (pv 0)) se_int)) (sl_cons lrA (sx_of (se_ix (sw_var (pv 0)) se_int)) (sl_nil lrA))))) (sw_of se_int))))))))
abbrev s_law : Stmt := topS 32
abbrev N_law : List Str := ["script", "state", "one", "other", "third", "a", "b", "row", "k", "whole", "least", "n", "low", "high", "told", "j", "numbers", "sums", "value", "rows", "many"]
theorem sc_law : FnScope ["script", "state", "one", "other", "third", "a", "b", "row", "k", "whole", "least", "n", "low", "high", "told", "j", "numbers", "sums", "value", "rows", "many"] ["script"] (defScope s_law) := ⟨rfl, rfl, rfl, by decide +kernel, rfl, by decide +kernel, by decide +kernel⟩
theorem body_law (Z : Nm mg) (h__law_add : FOk P w K mg base 2 "_law_add" ["one", "other"] m__law_add) (h__law_fr : FOk P w K mg base 1 "_law_fr" ["above", "below"] m__law_fr) (h__law_gcd : FOk P w K mg base 1 "_law_gcd" ["one", "other"] m__law_gcd) (h__law_gcd_of : FOk P w K mg base 2 "_law_gcd_of" ["row"] m__law_gcd_of) (h__law_is : FOk P w K mg base 2 "_law_is" ["value"] m__law_is) (h__law_mul : FOk P w K mg base 2 "_law_mul" ["one", "other"] m__law_mul) (h__law_part : FOk P w K mg base 3 "_law_part" ["state"] m__law_part) (h__law_sign : FOk P w K mg base 1 "_law_sign" ["one", "other"] m__law_sign) (h__law_sub : FOk P w K mg base 3 "_law_sub" ["one", "other"] m__law_sub) (h__law_take : FOk P w K mg base 1 "_law_take" ["state", "most"] m__law_take) (h_are_parts : FOk P w K mg base 3 "are_parts" ["value", "many"] m_are_parts) (h_divisor : FOk P w K mg base 1 "divisor" ["one", "other"] m_divisor) (h_dot : FOk P w K mg base 5 "dot" ["row", "point"] m_dot) (h_is_less : FOk P w K mg base 1 "is_less" ["one", "other"] m_is_less) (h_is_part : FOk P w K mg base 2 "is_part" ["value"] m_is_part) (h_is_whole_part : FOk P w K mg base 1 "is_whole_part" ["one"] m_is_whole_part) (h_least_of : FOk P w K mg base 2 "least_of" ["row"] m_least_of) (h_minus : FOk P w K mg base 3 "minus" ["one", "other"] m_minus) (h_over : FOk P w K mg base 3 "over" ["one", "other"] m_over) (h_part : FOk P w K mg base 2 "part" ["above", "below"] m_part) (h_plus : FOk P w K mg base 3 "plus" ["one", "other"] m_plus) (h_scaled : FOk P w K mg base 2 "scaled" ["row"] m_scaled) (h_times : FOk P w K mg base 3 "times" ["one", "other"] m_times) (h_total : FOk P w K mg base 4 "total" ["row"] m_total) (h_whole_above : FOk P w K mg base 1 "whole_above" ["one"] m_whole_above) (h_whole_below : FOk P w K mg base 1 "whole_below" ["one"] m_whole_below) (f : Addr) (cdv : Value) (A : Around) (outer : List Env) (s : Shared) (H : Hp) (E : XK) (G : Gh) (c : Cc (cxOf CX0 P w K mg base ["script", "state", "one", "other", "third", "a", "b", "row", "k", "whole", "least", "n", "low", "high", "told", "j", "numbers", "sums", "value", "rows", "many"] "law" (defScope s_law) f cdv A outer s H E).nox W0 5) :
  SSs (cxOf CX0 P w K mg base ["script", "state", "one", "other", "third", "a", "b", "row", "k", "whole", "least", "n", "low", "high", "told", "j", "numbers", "sums", "value", "rows", "many"] "law" (defScope s_law) f cdv A outer s H E).nox W0 G (defBody s_law).tail g_law :=
  (ss_cons (ss_par3 (i := 2) (j := 3) (l := 4) c rfl rfl rfl (by decide) (by decide) (by decide) rfl rfl rfl (sv_of (se_call c h__law_part (by decide) (by rfl) (sl_cons lrA (sx_var (pv 1)) (sl_nil lrA)))) (sv_of (se_call c h__law_part (by decide) (by rfl) (sl_cons lrA (sx_var (pv 1)) (sl_nil lrA)))) (sv_of (se_call c h__law_part (by decide) (by rfl) (sl_cons lrA (sx_var (pv 1)) (sl_nil lrA)))) (by rfl))
  (ss_cons (ss_par (i := 5) (j := 6) c rfl rfl (by decide) rfl rfl (sv_of (se_bin subO (sw_of (se_call c h__law_take (by decide) (by rfl) (sl_cons lrA (sx_var (pv 1)) (sl_cons lrA (sx_of se_int) (sl_nil lrA))))) (sw_of se_int))) (sv_of (se_bin subO (sw_of (se_call c h__law_take (by decide) (by rfl) (sl_cons lrA (sx_var (pv 1)) (sl_cons lrA (sx_of se_int) (sl_nil lrA))))) (sw_of se_int))) (by rfl))
  (ss_cons (ss_if (sb_w (sbw_or (sb_cmp (neO c.u64) (sw_of (se_call c h_divisor (by decide) (by rfl) (sl_cons lrA (sx_var (pv 5)) (sl_cons lrA (sx_var (pv 6)) (sl_nil lrA))))) (sw_of (se_call c h__law_gcd (by decide) (by rfl) (sl_cons lrA (sx_var (pv 5)) (sl_cons lrA (sx_var (pv 6)) (sl_nil lrA)))))) (sbw_or (sb_cmp (neO c.u64) (sw_of (se_call c h_divisor (by decide) (by rfl) (sl_cons lrA (sx_of se_int) (sl_cons lrA (sx_of se_int) (sl_nil lrA))))) (sw_of se_int)) (sbw_or (sb_w (sbw_and (sb_cmp (neO c.u64) (sw_var (pv 6)) (sw_of se_int)) (sbw_and1 (sb_cmp (neO c.u64) (sw_of (se_call c h_part (by decide) (by rfl) (sl_cons lrA (sx_var (pv 5)) (sl_cons lrA (sx_var (pv 6)) (sl_nil lrA))))) (sw_of (se_call c h__law_fr (by decide) (by rfl) (sl_cons lrA (sx_var (pv 5)) (sl_cons lrA (sx_var (pv 6)) (sl_nil lrA))))))))) (sbw_or1 (sb_cmp (neO c.u64) (sw_of (se_call c h_part (by decide) (by rfl) (sl_cons lrA (sx_of se_int) (sl_cons lrA (sx_of se_int) (sl_nil lrA))))) (sw_of (se_tup (sl_cons lrD se_int (sl_cons lrD se_int (sl_nil lrD))))))))))) (ss_one (ss_ret se_bl)) ss_nil)
  (ss_cons (ss_if (sb_w (sbw_or (sb_cmp (neO c.u64) (sw_of (se_call c h_plus (by decide) (by rfl) (sl_cons lrA (sx_var (pv 2)) (sl_cons lrA (sx_var (pv 3)) (sl_nil lrA))))) (sw_of (se_call c h__law_add (by decide) (by rfl) (sl_cons lrA (sx_var (pv 2)) (sl_cons lrA (sx_var (pv 3)) (sl_nil lrA)))))) (sbw_or (sb_cmp (neO c.u64) (sw_of (se_call c h_minus (by decide) (by rfl) (sl_cons lrA (sx_var (pv 2)) (sl_cons lrA (sx_var (pv 3)) (sl_nil lrA))))) (sw_of (se_call c h__law_sub (by decide) (by rfl) (sl_cons lrA (sx_var (pv 2)) (sl_cons lrA (sx_var (pv 3)) (sl_nil lrA)))))) (sbw_or1 (sb_cmp (neO c.u64) (sw_of (se_call c h_times (by decide) (by rfl) (sl_cons lrA (sx_var (pv 2)) (sl_cons lrA (sx_var (pv 3)) (sl_nil lrA))))) (sw_of (se_call c h__law_mul (by decide) (by rfl) (sl_cons lrA (sx_var (pv 2)) (sl_cons lrA (sx_var (pv 3)) (sl_nil lrA)))))))))) (ss_one (ss_ret se_bl)) ss_nil)
  (ss_cons (ss_if (sb_w (sbw_and (sb_cmp (neO c.u64) (sw_of (se_ix (sw_var (pv 3)) se_int)) (sw_of se_int)) (sbw_and1 (sb_cmp (neO c.u64) (sw_of (se_call c h_over (by decide) (by rfl) (sl_cons lrA (sx_var (pv 2)) (sl_cons lrA (sx_var (pv 3)) (sl_nil lrA))))) (sw_of (se_call c h__law_mul (by decide) (by rfl) (sl_cons lrA (sx_var (pv 2)) (sl_cons lrA (sx_of (se_call c h__law_fr (by decide) (by rfl) (sl_cons lrA (sx_of (se_ix (sw_var (pv 3)) se_int)) (sl_cons lrA (sx_of (se_ix (sw_var (pv 3)) se_int)) (sl_nil lrA))))) (sl_nil lrA))))))))) (ss_one (ss_ret se_bl)) ss_nil)
  (ss_cons (ss_if (sb_w (sbw_or (sb_cmp (neO c.u64) (sw_of (se_call c h_is_less (by decide) (by rfl) (sl_cons lrA (sx_var (pv 2)) (sl_cons lrA (sx_var (pv 3)) (sl_nil lrA))))) (sw_of (se_cmp ltO (sw_of (se_call c h__law_sign (by decide) (by rfl) (sl_cons lrA (sx_var (pv 2)) (sl_cons lrA (sx_var (pv 3)) (sl_nil lrA))))) (sw_of se_int)))) (sbw_or (sb_cmp isntO (sw_of (se_call c h_is_less (by decide) (by rfl) (sl_cons lrA (sx_var (pv 2)) (sl_cons lrA (sx_var (pv 2)) (sl_nil lrA))))) (sw_of se_bl)) (sbw_or1 (sb_cmp isntO (sw_of (se_call c h_is_less (by decide) (by rfl) (sl_cons lrA (sx_var (pv 2)) (sl_cons lrA (sx_of (se_call c h__law_add (by decide) (by rfl) (sl_cons lrA (sx_var (pv 2)) (sl_cons lrA (sx_of (se_tup (sl_cons lrD se_int (sl_cons lrD se_int (sl_nil lrD))))) (sl_nil lrA))))) (sl_nil lrA))))) (sw_of se_bl)))))) (ss_one (ss_ret se_bl)) ss_nil)
  (ss_cons (ss_post 7 (ss_setLc (i := 7) (own := [("k", 8)]) (t := (.nm 8)) c rfl rfl (sw_true rfl rfl rfl (by decide +kernel)) (si_rng1 Z.z_range (se_call c h__law_take (by decide) (by rfl) (sl_cons lrA (sx_var (pv 1)) (sl_cons lrA (sx_of se_int) (sl_nil lrA))))) (blkOk_by (N := N_law) (sc := defScope s_law) (by decide +kernel)) (fun bs9 bH9 _ _ bp9 => (pg_name (i := 8) (c.blk bs9 bH9 _ _ bp9).nd rfl (by first | exact Or.inl rfl | exact Or.inr rfl))) (fun _ _ _ _ _ => spt_nil) (fun bs9 bH9 _ _ bp9 => (se_call (c.blk bs9 bH9 _ _ bp9) h__law_part (by decide) (by rfl) (sl_cons lrA (sx_var (pv 1)) (sl_nil lrA))))))
  (ss_cons (ss_unp (t := (.tp [9, 10])) (se_tup (sl_cons lrD (se_tup (sl_cons lrD se_int (sl_cons lrD se_int (sl_nil lrD)))) (sl_cons lrD se_non (sl_nil lrD)))) (pg_tup c.calm (pgs_cons (pg_name (i := 9) c.nd rfl (by first | exact Or.inl rfl | exact Or.inr rfl)) (pgs_cons (pg_name (i := 10) c.nd rfl (by first | exact Or.inl rfl | exact Or.inr rfl)) pgs_nil))))
  (ss_cons (ss_for (t := (.nm 11)) c (si_of (se_var (pv 7))) (pg_name (i := 11) c.nd rfl (by first | exact Or.inl rfl | exact Or.inr rfl)) (ss_cons (ss_set (i := 9) c rfl (Or.inl rfl) (sv_of (se_call c h__law_add (by decide) (by rfl) (sl_cons lrA (sx_var (pv 9)) (sl_cons lrA (sx_var (pv 11)) (sl_nil lrA))))))
  (ss_one (ss_set (i := 10) c rfl (Or.inl rfl) (sv_of (sg_if (sb_w (sbw_or (sb_cmp isO (sw_var (pv 10)) (sw_of se_non)) (sbw_or1 (sb_cmp ltO (sw_of (se_call c h__law_sign (by decide) (by rfl) (sl_cons lrA (sx_var (pv 11)) (sl_cons lrA (sx_var (pv 10)) (sl_nil lrA))))) (sw_of se_int))))) (se_var (pv 11)) (se_var (pv 10))))))))
  (ss_cons (ss_if (sb_w (sbw_or (sb_cmp (neO c.u64) (sw_of (se_call c h_total (by decide) (by rfl) (sl_cons lrA (sx_of (se_of (sf_lc (own := [("n", 11)]) (t := (.nm 11)) c (si_of (se_var (pv 7))) (blkOk_by (N := N_law) (sc := defScope s_law) (by decide +kernel)) (fun bs10 bH10 _ _ bp10 => (pg_name (i := 11) (c.blk bs10 bH10 _ _ bp10).nd rfl (by first | exact Or.inl rfl | exact Or.inr rfl))) (fun _ _ _ _ _ => spt_nil) (fun bs10 bH10 _ _ bp10 => (se_var (pv 11)))))) (sl_nil lrA)))) (sw_var (pv 9))) (sbw_or1 (sb_cmp (neO c.u64) (sw_of (se_call c h_least_of (by decide) (by rfl) (sl_cons lrA (sx_of (se_of (sf_lc (own := [("n", 11)]) (t := (.nm 11)) c (si_of (se_var (pv 7))) (blkOk_by (N := N_law) (sc := defScope s_law) (by decide +kernel)) (fun bs11 bH11 _ _ bp11 => (pg_name (i := 11) (c.blk bs11 bH11 _ _ bp11).nd rfl (by first | exact Or.inl rfl | exact Or.inr rfl))) (fun _ _ _ _ _ => spt_nil) (fun bs11 bH11 _ _ bp11 => (se_var (pv 11)))))) (sl_nil lrA)))) (sw_var (pv 10)))))) (ss_one (ss_ret se_bl)) ss_nil)
  (ss_cons (ss_par (i := 12) (j := 13) c rfl rfl (by decide) rfl rfl (sv_of (se_call c h_whole_below (by decide) (by rfl) (sl_cons lrA (sx_var (pv 2)) (sl_nil lrA)))) (sv_of (se_call c h_whole_above (by decide) (by rfl) (sl_cons lrA (sx_var (pv 2)) (sl_nil lrA)))) (by rfl))
  (ss_cons (ss_if (sb_w (sbw_or (sb_cmp gtO (sw_of (se_bin mulO (sw_var (pv 12)) (sw_of (se_ix (sw_var (pv 2)) se_int)))) (sw_of (se_ix (sw_var (pv 2)) se_int))) (sbw_or (sb_cmp leO (sw_of (se_bin mulO (sw_of (se_bin addO (sw_var (pv 12)) (sw_of se_int))) (sw_of (se_ix (sw_var (pv 2)) se_int)))) (sw_of (se_ix (sw_var (pv 2)) se_int))) (sbw_or (sb_cmp ltO (sw_of (se_bin mulO (sw_var (pv 13)) (sw_of (se_ix (sw_var (pv 2)) se_int)))) (sw_of (se_ix (sw_var (pv 2)) se_int))) (sbw_or1 (sb_cmp geO (sw_of (se_bin mulO (sw_of (se_bin subO (sw_var (pv 13)) (sw_of se_int))) (sw_of (se_ix (sw_var (pv 2)) se_int)))) (sw_of (se_ix (sw_var (pv 2)) se_int)))))))) (ss_one (ss_ret se_bl)) ss_nil)
  (ss_cons (ss_if (sb_w (sbw_or (sb_cmp (neO c.u64) (sw_of (se_call c h_is_whole_part (by decide) (by rfl) (sl_cons lrA (sx_var (pv 2)) (sl_nil lrA)))) (sw_of (se_cmp (eqO c.u64) (sw_of (se_ix (sw_var (pv 2)) se_int)) (sw_of se_int)))) (sbw_or (sb_cmp isntO (sw_of (se_call c h_is_whole_part (by decide) (by rfl) (sl_cons lrA (sx_of (se_tup (sl_cons lrD (se_var (pv 5)) (sl_cons lrD se_int (sl_nil lrD))))) (sl_nil lrA)))) (sw_of se_bl)) (sbw_or1 (sb_cmp isntO (sw_of (se_call c h_is_whole_part (by decide) (by rfl) (sl_cons lrA (sx_of (se_tup (sl_cons lrD se_int (sl_cons lrD se_int (sl_nil lrD))))) (sl_nil lrA)))) (sw_of se_bl)))))) (ss_one (ss_ret se_bl)) ss_nil)
  (ss_cons (ss_set (i := 14) c rfl (Or.inl rfl) (sv_of (se_call c h_scaled (by decide) (by rfl) (sl_cons lrA (sx_of (se_of (sf_lc (own := [("n", 11)]) (t := (.nm 11)) c (si_of (se_var (pv 7))) (blkOk_by (N := N_law) (sc := defScope s_law) (by decide +kernel)) (fun bs12 bH12 _ _ bp12 => (pg_name (i := 11) (c.blk bs12 bH12 _ _ bp12).nd rfl (by first | exact Or.inl rfl | exact Or.inr rfl))) (fun _ _ _ _ _ => spt_nil) (fun bs12 bH12 _ _ bp12 => (se_var (pv 11)))))) (sl_nil lrA)))))
  (ss_cons (ss_if (sb_w (sbw_or (sb_cmp (neO c.u64) (sw_of (se_callB lenC (by rfl) Z.z_len bt_len (sl_cons lrW (sw_var (pv 14)) (sl_nil lrW)))) (sw_of (se_callB lenC (by rfl) Z.z_len bt_len (sl_cons lrW (sw_var (pv 7)) (sl_nil lrW))))) (sbw_or1 (sb_w (sbw_and (sb_cmp gtO (sw_of (se_callB lenC (by rfl) Z.z_len bt_len (sl_cons lrW (sw_var (pv 7)) (sl_nil lrW)))) (sw_of se_int)) (sbw_and (sb_cmp gtO (sw_of (se_callB (maxC c.calm) (by rfl) Z.z_max bt_max (sl_cons lrW (sw_of (se_of (sf_lc (own := [("n", 11)]) (t := (.nm 11)) c (si_of (se_var (pv 7))) (blkOk_by (N := N_law) (sc := defScope s_law) (by decide +kernel)) (fun bs13 bH13 _ _ bp13 => (pg_name (i := 11) (c.blk bs13 bH13 _ _ bp13).nd rfl (by first | exact Or.inl rfl | exact Or.inr rfl))) (fun _ _ _ _ _ => spt_nil) (fun bs13 bH13 _ _ bp13 => (se_callB absC (by rfl) Z.z_abs bt_abs (sl_cons lrW (sw_of (se_ix (sw_var (pv 11)) se_int)) (sl_nil lrW))))))) (sl_nil lrW)))) (sw_of se_int)) (sbw_and1 (sb_cmp (neO c.u64) (sw_of (se_call c h__law_gcd_of (by decide) (by rfl) (sl_cons lrA (sx_var (pv 14)) (sl_nil lrA)))) (sw_of se_int))))))))) (ss_one (ss_ret se_bl)) ss_nil)
  (ss_cons (ss_for (t := (.nm 8)) c (si_rng1 Z.z_range (se_callB lenC (by rfl) Z.z_len bt_len (sl_cons lrW (sw_var (pv 7)) (sl_nil lrW)))) (pg_name (i := 8) c.nd rfl (by first | exact Or.inl rfl | exact Or.inr rfl)) (ss_one (ss_for (t := (.nm 15)) c (si_rng1 Z.z_range (se_callB lenC (by rfl) Z.z_len bt_len (sl_cons lrW (sw_var (pv 7)) (sl_nil lrW)))) (pg_name (i := 15) c.nd rfl (by first | exact Or.inl rfl | exact Or.inr rfl)) (ss_one (ss_if (sb_w (sbw_or (sb_cmp (neO c.u64) (sw_of (se_call c h__law_mul (by decide) (by rfl) (sl_cons lrA (sx_of (se_tup (sl_cons lrD (se_ix (sw_var (pv 14)) (se_var (pv 8))) (sl_cons lrD se_int (sl_nil lrD))))) (sl_cons lrA (sx_of (se_ix (sw_var (pv 7)) (se_var (pv 15)))) (sl_nil lrA))))) (sw_of (se_call c h__law_mul (by decide) (by rfl) (sl_cons lrA (sx_of (se_tup (sl_cons lrD (se_ix (sw_var (pv 14)) (se_var (pv 15))) (sl_cons lrD se_int (sl_nil lrD))))) (sl_cons lrA (sx_of (se_ix (sw_var (pv 7)) (se_var (pv 8)))) (sl_nil lrA)))))) (sbw_or (sb_cmp (neO c.u64) (sw_of (se_cmp gtO (sw_of (se_ix (sw_var (pv 14)) (se_var (pv 8)))) (sw_of se_int))) (sw_of (se_cmp gtO (sw_of (se_ix (sw_of (se_ix (sw_var (pv 7)) (se_var (pv 8)))) se_int)) (sw_of se_int)))) (sbw_or1 (sb_cmp (neO c.u64) (sw_of (se_cmp ltO (sw_of (se_ix (sw_var (pv 14)) (se_var (pv 8)))) (sw_of se_int))) (sw_of (se_cmp ltO (sw_of (se_ix (sw_of (se_ix (sw_var (pv 7)) (se_var (pv 8)))) se_int)) (sw_of se_int)))))))) (ss_one (ss_ret se_bl)) ss_nil)))))
  (ss_cons (ss_post 16 (ss_setLc (i := 16) (own := [("n", 11)]) (t := (.nm 11)) c rfl rfl (sw_true rfl rfl rfl (by decide +kernel)) (si_of (se_var (pv 7))) (blkOk_by (N := N_law) (sc := defScope s_law) (by decide +kernel)) (fun bs14 bH14 _ _ bp14 => (pg_name (i := 11) (c.blk bs14 bH14 _ _ bp14).nd rfl (by first | exact Or.inl rfl | exact Or.inr rfl))) (fun _ _ _ _ _ => spt_nil) (fun bs14 bH14 _ _ bp14 => (se_bin subO (sw_of (se_call (c.blk bs14 bH14 _ _ bp14) h__law_take (by decide) (by rfl) (sl_cons lrA (sx_var (pv 1)) (sl_cons lrA (sx_of se_int) (sl_nil lrA))))) (sw_of se_int)))))
  (ss_cons (ss_set (i := 17) c rfl (Or.inl rfl) (sv_of (se_tup (sl_cons lrD se_int (sl_cons lrD se_int (sl_nil lrD))))))
  (ss_cons (ss_for (t := (.nm 8)) c (si_rng1 Z.z_range (se_callB lenC (by rfl) Z.z_len bt_len (sl_cons lrW (sw_var (pv 7)) (sl_nil lrW)))) (pg_name (i := 8) c.nd rfl (by first | exact Or.inl rfl | exact Or.inr rfl)) (ss_one (ss_set (i := 17) c rfl (Or.inl rfl) (sv_of (se_call c h__law_add (by decide) (by rfl) (sl_cons lrA (sx_var (pv 17)) (sl_cons lrA (sx_of (se_call c h__law_mul (by decide) (by rfl) (sl_cons lrA (sx_of (se_tup (sl_cons lrD (se_ix (sw_var (pv 16)) (se_var (pv 8))) (sl_cons lrD se_int (sl_nil lrD))))) (sl_cons lrA (sx_of (se_ix (sw_var (pv 7)) (se_var (pv 8)))) (sl_nil lrA))))) (sl_nil lrA))))))))
  (ss_cons (ss_if (sb_cmp (neO c.u64) (sw_of (se_call c h_dot (by decide) (by rfl) (sl_cons lrA (sx_of (se_of (sf_lc (own := [("n", 11)]) (t := (.nm 11)) c (si_of (se_var (pv 16))) (blkOk_by (N := N_law) (sc := defScope s_law) (by decide +kernel)) (fun bs15 bH15 _ _ bp15 => (pg_name (i := 11) (c.blk bs15 bH15 _ _ bp15).nd rfl (by first | exact Or.inl rfl | exact Or.inr rfl))) (fun _ _ _ _ _ => spt_nil) (fun bs15 bH15 _ _ bp15 => (se_var (pv 11)))))) (sl_cons lrA (sx_of (se_of (sf_lc (own := [("n", 11)]) (t := (.nm 11)) c (si_of (se_var (pv 7))) (blkOk_by (N := N_law) (sc := defScope s_law) (by decide +kernel)) (fun bs16 bH16 _ _ bp16 => (pg_name (i := 11) (c.blk bs16 bH16 _ _ bp16).nd rfl (by first | exact Or.inl rfl | exact Or.inr rfl))) (fun _ _ _ _ _ => spt_nil) (fun bs16 bH16 _ _ bp16 => (se_var (pv 11)))))) (sl_nil lrA))))) (sw_var (pv 17))) (ss_one (ss_ret se_bl)) ss_nil)
  (ss_cons (ss_for (t := (.nm 18)) c (si_of (se_of (sf_lst (sl_cons lrD (se_var (pv 2)) (sl_cons lrD (se_of (sf_list (by rfl) Z.z_list bt_list (sw_var (pv 2)))) (sl_cons lrD (se_bin addO (sw_var (pv 2)) (sw_of (se_tup (sl_cons lrD se_int (sl_nil lrD))))) (sl_cons lrD (se_tup (sl_cons lrD (se_ix (sw_var (pv 2)) se_int) (sl_cons lrD (se_bin subO (sw_of se_int) (sw_of (se_ix (sw_var (pv 2)) se_int))) (sl_nil lrD)))) (sl_cons lrD (se_tup (sl_cons lrD (se_bin addO (sw_of (se_bin mulO (sw_of se_int) (sw_of (se_ix (sw_var (pv 2)) se_int)))) (sw_of se_int)) (sl_cons lrD se_int (sl_nil lrD)))) (sl_cons lrD (se_tup (sl_cons lrD (se_var (pv 5)) (sl_cons lrD se_int (sl_nil lrD)))) (sl_cons lrD (se_tup (sl_cons lrD se_bl (sl_cons lrD se_int (sl_nil lrD)))) (sl_cons lrD (se_tup (sl_cons lrD se_int (sl_cons lrD se_bl (sl_nil lrD)))) (sl_cons lrD (se_tup (sl_cons lrD se_int (sl_cons lrD se_int (sl_nil lrD)))) (sl_cons lrD (se_tup (sl_cons lrD se_int (sl_cons lrD se_int (sl_nil lrD)))) (sl_cons lrD se_non (sl_cons lrD se_int (sl_cons lrD (se_tup (sl_cons lrD se_str (sl_cons lrD se_int (sl_nil lrD)))) (sl_cons lrD (se_tup (sl_cons lrD (se_var (pv 5)) (sl_cons lrD se_int (sl_nil lrD)))) (sl_cons lrD (se_tup (sl_nil lrD)) (sl_nil lrD))))))))))))))))))) (pg_name (i := 18) c.nd rfl (by first | exact Or.inl rfl | exact Or.inr rfl)) (ss_one (ss_if (sb_cmp (neO c.u64) (sw_of (se_call c h_is_part (by decide) (by rfl) (sl_cons lrA (sx_var (pv 18)) (sl_nil lrA)))) (sw_of (se_call c h__law_is (by decide) (by rfl) (sl_cons lrA (sx_var (pv 18)) (sl_nil lrA))))) (ss_one (ss_ret se_bl)) ss_nil)))
  (ss_cons (ss_set (i := 19) c rfl (Or.inl rfl) (sv_of (se_callTy tupC (by rfl) Z.z_tuple bt_tuple (sl_cons lrW (sw_var (pv 7)) (sl_nil lrW)))))
  (ss_cons (ss_for (t := (.nm 18)) c (si_of (se_of (sf_lst (sl_cons lrD (se_var (pv 19)) (sl_cons lrD (se_of (sf_list (by rfl) Z.z_list bt_list (sw_var (pv 19)))) (sl_cons lrD (se_bin addO (sw_var (pv 19)) (sw_of (se_tup (sl_cons lrD se_non (sl_nil lrD))))) (sl_cons lrD (se_bin addO (sw_var (pv 19)) (sw_of (se_tup (sl_cons lrD (se_tup (sl_cons lrD se_int (sl_cons lrD se_int (sl_nil lrD)))) (sl_nil lrD))))) (sl_cons lrD (se_bin addO (sw_var (pv 19)) (sw_of (se_tup (sl_cons lrD (se_var (pv 2)) (sl_nil lrD))))) (sl_cons lrD se_non (sl_cons lrD (se_tup (sl_nil lrD)) (sl_cons lrD (se_tup (sl_cons lrD (se_var (pv 2)) (sl_cons lrD (se_var (pv 3)) (sl_cons lrD (se_var (pv 4)) (sl_nil lrD))))) (sl_nil lrD)))))))))))) (pg_name (i := 18) c.nd rfl (by first | exact Or.inl rfl | exact Or.inr rfl)) (ss_one (ss_for (t := (.nm 20)) c (si_of (se_tup (sl_cons lrD (se_callB lenC (by rfl) Z.z_len bt_len (sl_cons lrW (sw_var (pv 19)) (sl_nil lrW))) (sl_cons lrD se_int (sl_nil lrD))))) (pg_name (i := 20) c.nd rfl (by first | exact Or.inl rfl | exact Or.inr rfl)) (ss_one (ss_if (sb_cmp (neO c.u64) (sw_of (se_call c h_are_parts (by decide) (by rfl) (sl_cons lrA (sx_var (pv 18)) (sl_cons lrA (sx_var (pv 20)) (sl_nil lrA))))) (sw_of (se_and (se_isi kitTup (by rfl) Z.z_isinstance bt_isinstance (sw_var (pv 18)) (by rfl) Z.z_tuple bt_tuple) (se_and (se_cmp (eqO c.u64) (sw_of (se_callB lenC (by rfl) Z.z_len bt_len (sl_cons lrW (sw_var (pv 18)) (sl_nil lrW)))) (sw_var (pv 20))) (se_one (se_cmp (eqO c.u64) (sw_of (se_callB lenC (by rfl) Z.z_len bt_len (sl_cons lrW (sw_of (se_of (sf_lc (own := [("n", 11)]) (t := (.nm 11)) c (si_of (se_var (pv 18))) (blkOk_by (N := N_law) (sc := defScope s_law) (by decide +kernel)) (fun bs17 bH17 _ _ bp17 => (pg_name (i := 11) (c.blk bs17 bH17 _ _ bp17).nd rfl (by first | exact Or.inl rfl | exact Or.inr rfl))) (fun bs17 bH17 _ _ bp17 => spt_one (sb_not (sb_of_pe (se_call (c.blk bs17 bH17 _ _ bp17) h__law_is (by decide) (by rfl) (sl_cons lrA (sx_var (pv 11)) (sl_nil lrA)))))) (fun bs17 bH17 _ _ bp17 => (se_var (pv 11)))))) (sl_nil lrW)))) (sw_of se_int))))))) (ss_one (ss_ret se_bl)) ss_nil)))))
  (ss_one (ss_ret se_bl)))))))))))))))))))))))))
end
end NW
end

section
set_option Elab.async false
set_option linter.all false
set_option maxRecDepth 100000
set_option maxHeartbeats 0
namespace NWE
open PySem PySem.Spec L2 DS
open NW hiding R
open PyProof.Rows hiding St
section
variable {P : Program} {w : World} {K : PySem.W.Frag} {mg : Str → Option Value} {base : Heap}
theorem ok__law_take (Z : Nm mg) (Df : DefAt K mg "_law_take" s_law_take) : FOk P w K mg base 1 "_law_take" ["state", "most"] m__law_take := by
  obtain ⟨f, fd, hm, F⟩ := Df.ex
  refine ⟨f, fd, hm, F.kp, bindsH F (fun _ _ _ _ _ _ us hl => match us, hl with | [_, _], _ => rfl), F.ok sc__law_take (fun vs H Q E h => h.1) fun cdv A outer s H vs Q E hr h => ⟨t_take K, ?_, take_pure rfl h⟩⟩
  exact pss_cons (ps_if (pt_cmpR op_lt (pv 1) pe_int (nomark _)) (pss_one (ps_ret pe_int)) pss_nil)
    (pss_cons (ps_set (i := 2) sc__law_take.nd rfl (.inl rfl) (pe_ix ix_list (pv 0) pe_int (fun _ _ => rfl)))
    (pss_cons (ps_set (i := 3) sc__law_take.nd rfl (.inl rfl) (pe_op op_modN (pe_callTy call_int1 (by rfl) Z.z_int bt_int (pa_cons (pe_ix ix_list (pv 0) pe_int (fun _ _ => rfl)) pa_nil)) (pe_callB call_len (by rfl) Z.z_len bt_len (pa_cons (pv 2) pa_nil))))
    (pss_cons (ps_set (i := 4) sc__law_take.nd rfl (.inl rfl) (pe_ix ix_list (pv 2) (pv 3) (fun _ _ => rfl)))
    (pss_cons (ps_if (pt_cmpR op_ge (pv 4) pe_int (nomark _)) (pss_cons (ps_asg (pe_op op_fdivA (pv 4) (pv 1)) (pg_sub (pv 2) (pv 3) set_list)) (pss_one (ps_ret (pe_op op_modN (pe_callTy call_int1 (by rfl) Z.z_int bt_int (pa_cons (pv 4) pa_nil)) (pv 1))))) pss_nil)
    (pss_cons (ps_asg (pe_op op_add (pe_ix ix_list (pv 0) pe_int (fun _ _ => rfl)) pe_int) (pg_sub (pv 0) pe_int set_list))
    (pss_cons (ps_set (i := 5) sc__law_take.nd rfl (.inl rfl) (pe_op op_modN (pe_callTy call_int1 (by rfl) Z.z_int bt_int (pa_cons (pe_op op_add (pe_op op_mulA (pv 4) pe_int) (pe_op op_mulA (pe_ix ix_list (pv 0) pe_int (fun _ _ => rfl)) pe_int)) pa_nil)) pe_int))
    (pss_cons (ps_set (i := 5) sc__law_take.nd rfl (.inl rfl) (pe_op op_modN (pe_callTy call_int1 (by rfl) Z.z_int bt_int (pa_cons (pe_op op_add (pe_op op_mulA (pv 5) pe_int) (pe_op op_mulA (pe_ix ix_list (pv 0) pe_int (fun _ _ => rfl)) pe_int)) pa_nil)) pe_int))
    (pss_one (ps_ret (pe_op op_modN (pe_callTy call_int1 (by rfl) Z.z_int bt_int (pa_cons (pe_op op_fdivA (pv 5) pe_int) pa_nil)) (pv 1)))))))))))
theorem ok__law_state (Z : Nm mg) {f : Addr} {fd : FuncData} (F : FunD K "_law_state" "_law_state" (defArgs s_law_state) (defBody s_law_state) (defScope s_law_state) [] [] f fd) : FnOk P w K mg base (L2.CX P w) 1 f fd ["script"] (spState K) := by
  refine F.ok sc__law_state (fun vs H Q E h => by obtain ⟨a, ns, rfl, _⟩ := h; rfl) fun cdv A outer s H vs Q E hr h => ⟨t_state K, ?_, state_pure rfl h⟩
  exact pss_cons (ps_setLc (i := 1) (own := [("cell", 2)]) (g := gName 2) (tt := tYes) rfl sc__law_state.nd rfl rfl (sw_true rfl rfl rfl (by decide +kernel)) (pi_list (pe_slice sl_list (pv 0) po_none (po_some pe_int))) (blkOk_by (N := N__law_state) (sc := defScope s_law_state) (by decide +kernel)) (fun _ _ _ _ _ => pg_name (i := 2) sc__law_state.nd rfl (Or.inl rfl)) (fun _ _ _ _ _ => pts_nil) (fun _ _ _ _ _ => pe_callB call_abs (by rfl) Z.z_abs bt_abs (pa_cons (pv 2) pa_nil)))
    (pss_cons (ps_if (pt_cmp (pc_eqI (pe_callB call_len (by rfl) Z.z_len bt_len (pa_cons (pv 1) pa_nil)) pe_int)) (pss_one (ps_set (i := 1) sc__law_state.nd rfl (.inl rfl) (pe_lst (pa_cons pe_int pa_nil)))) pss_nil)
    (pss_one (ps_ret (pe_lst (pa_cons pe_int (pa_cons (pv 1) pa_nil))))))
theorem ok_law (Z : Nm mg) (D__law_state : DefAt K mg "_law_state" s_law_state) (D__law_take : DefAt K mg "_law_take" s_law_take) (D_divisor : DefAt K mg "divisor" s_divisor) (D_part : DefAt K mg "part" s_part) (D_is_part : DefAt K mg "is_part" s_is_part) (D_plus : DefAt K mg "plus" s_plus) (D_minus : DefAt K mg "minus" s_minus) (D_times : DefAt K mg "times" s_times) (D_over : DefAt K mg "over" s_over) (D_is_less : DefAt K mg "is_less" s_is_less) (D_total : DefAt K mg "total" s_total) (D_least_of : DefAt K mg "least_of" s_least_of) (D_whole_below : DefAt K mg "whole_below" s_whole_below) (D_whole_above : DefAt K mg "whole_above" s_whole_above) (D_is_whole_part : DefAt K mg "is_whole_part" s_is_whole_part) (D_are_parts : DefAt K mg "are_parts" s_are_parts) (D_scaled : DefAt K mg "scaled" s_scaled) (D_dot : DefAt K mg "dot" s_dot) (D__law_pick : DefAt K mg "_law_pick" s_law_pick) (D__law_fr : DefAt K mg "_law_fr" s_law_fr) (D__law_is_fr : DefAt K mg "_law_is_fr" s_law_is_fr) (D__law_are_frs : DefAt K mg "_law_are_frs" s_law_are_frs) (D__law_add : DefAt K mg "_law_add" s_law_add) (D__law_mul : DefAt K mg "_law_mul" s_law_mul) (D__law_sub : DefAt K mg "_law_sub" s_law_sub) (D__law_sign : DefAt K mg "_law_sign" s_law_sign) (D__law_part : DefAt K mg "_law_part" s_law_part) (D__law_gcd : DefAt K mg "_law_gcd" s_law_gcd) (D__law_gcd_of : DefAt K mg "_law_gcd_of" s_law_gcd_of) (D__law_is : DefAt K mg "_law_is" s_law_is) (hlaw : ∀ cs : List Int, cs ≠ [] → ∃ s, g_law (env0 19) (some (0, cs)) = .rt (.bool true) s)
    {f : Addr} {fd : FuncData} (F : FunD K "law" "law" (defArgs s_law) (defBody s_law) (defScope s_law) [] [] f fd) : FnOk P w K mg base CX0 6 f fd ["script"] (spLaw K) := by
  have h__law_take : FOk P w K mg base 1 "_law_take" ["state", "most"] m__law_take := ok__law_take Z D__law_take
  have h_divisor : FOk P w K mg base 1 "divisor" ["one", "other"] m_divisor := ok_divisor Z D_divisor 
  have h_part : FOk P w K mg base 2 "part" ["above", "below"] m_part := ok_part Z D_part h_divisor
  have h_is_part : FOk P w K mg base 2 "is_part" ["value"] m_is_part := ok_is_part Z D_is_part h_divisor
  have h_plus : FOk P w K mg base 3 "plus" ["one", "other"] m_plus := ok_plus Z D_plus h_part
  have h_minus : FOk P w K mg base 3 "minus" ["one", "other"] m_minus := ok_minus Z D_minus h_part
  have h_times : FOk P w K mg base 3 "times" ["one", "other"] m_times := ok_times Z D_times h_part
  have h_over : FOk P w K mg base 3 "over" ["one", "other"] m_over := ok_over Z D_over h_part
  have h_is_less : FOk P w K mg base 1 "is_less" ["one", "other"] m_is_less := ok_is_less Z D_is_less 
  have h_total : FOk P w K mg base 4 "total" ["row"] m_total := ok_total Z D_total h_plus
  have h_least_of : FOk P w K mg base 2 "least_of" ["row"] m_least_of := ok_least_of Z D_least_of h_is_less
  have h_whole_below : FOk P w K mg base 1 "whole_below" ["one"] m_whole_below := ok_whole_below Z D_whole_below 
  have h_whole_above : FOk P w K mg base 1 "whole_above" ["one"] m_whole_above := ok_whole_above Z D_whole_above 
  have h_is_whole_part : FOk P w K mg base 1 "is_whole_part" ["one"] m_is_whole_part := ok_is_whole_part Z D_is_whole_part 
  have h_are_parts : FOk P w K mg base 3 "are_parts" ["value", "many"] m_are_parts := ok_are_parts Z D_are_parts h_is_part
  have h_scaled : FOk P w K mg base 2 "scaled" ["row"] m_scaled := ok_scaled Z D_scaled h_divisor
  have h_dot : FOk P w K mg base 5 "dot" ["row", "point"] m_dot := ok_dot Z D_dot h_times h_total
  have h__law_pick : FOk P w K mg base 2 "_law_pick" ["state", "row"] m__law_pick := ok__law_pick Z D__law_pick h__law_take
  have h__law_fr : FOk P w K mg base 1 "_law_fr" ["above", "below"] m__law_fr := ok__law_fr Z D__law_fr 
  have h__law_is_fr : FOk P w K mg base 2 "_law_is_fr" ["value"] m__law_is_fr := ok__law_is_fr Z D__law_is_fr h__law_fr
  have h__law_are_frs : FOk P w K mg base 3 "_law_are_frs" ["value", "many"] m__law_are_frs := ok__law_are_frs Z D__law_are_frs h__law_is_fr
  have h__law_add : FOk P w K mg base 2 "_law_add" ["one", "other"] m__law_add := ok__law_add Z D__law_add h__law_fr
  have h__law_mul : FOk P w K mg base 2 "_law_mul" ["one", "other"] m__law_mul := ok__law_mul Z D__law_mul h__law_fr
  have h__law_sub : FOk P w K mg base 3 "_law_sub" ["one", "other"] m__law_sub := ok__law_sub Z D__law_sub h__law_add
  have h__law_sign : FOk P w K mg base 1 "_law_sign" ["one", "other"] m__law_sign := ok__law_sign Z D__law_sign 
  have h__law_part : FOk P w K mg base 3 "_law_part" ["state"] m__law_part := ok__law_part Z D__law_part h__law_fr h__law_pick h__law_take
  have h__law_gcd : FOk P w K mg base 1 "_law_gcd" ["one", "other"] m__law_gcd := ok__law_gcd Z D__law_gcd 
  have h__law_gcd_of : FOk P w K mg base 2 "_law_gcd_of" ["row"] m__law_gcd_of := ok__law_gcd_of Z D__law_gcd_of h__law_gcd
  have h__law_is : FOk P w K mg base 2 "_law_is" ["value"] m__law_is := ok__law_is Z D__law_is h__law_gcd
  obtain ⟨fS, fdS, gS, FS⟩ := D__law_state.ex
  have GS : FnOk P w K mg base (L2.CX P w) 1 fS fdS ["script"] (spState K) := ok__law_state Z FS
  have bS : Binds K fdS ["script"] [] := bindsH FS (fun _ _ _ _ _ _ us hl => match us, hl with | [_], _ => rfl)
  refine F.ok sc_law (fun vs H Q E h => by obtain ⟨a, ns, rfl, _⟩ := h; rfl) fun cdv A outer s H vs Q E hr h => ⟨t_law K mg W0 g_law, PSs.nox ?_, law_pure rfl hlaw h⟩
  have cc : Cc (cxOf CX0 P w K mg base N_law "law" (defScope s_law) f cdv A outer s H E).nox W0 5 := ⟨takes0, hr, rfl, sc_law.nd, PassesOwn.never⟩
  exact pss_cons (ps_set (i := 1) sc_law.nd rfl (by first | exact Or.inl rfl | exact Or.inr rfl) (pe_call GS (hr.mono (by decide)) (by rfl) gS FS.kp bS .nil passL (pa_cons (pv 0) pa_nil)))
    (pss_ex fun G => body_law Z h__law_add h__law_fr h__law_gcd h__law_gcd_of h__law_is h__law_mul h__law_part h__law_sign h__law_sub h__law_take h_are_parts h_divisor h_dot h_is_less h_is_part h_is_whole_part h_least_of h_minus h_over h_part h_plus h_scaled h_times h_total h_whole_above h_whole_below f cdv A outer s H E G cc)
end
def d__law_state : He.DefD := ⟨("_law_state", none), "_law_state", "_law_state", defArgs s_law_state, defBody s_law_state, defScope s_law_state, [], []⟩
def d__law_take : He.DefD := ⟨("_law_take", none), "_law_take", "_law_take", defArgs s_law_take, defBody s_law_take, defScope s_law_take, [], []⟩
def d_divisor : He.DefD := ⟨("divisor", none), "divisor", "divisor", defArgs s_divisor, defBody s_divisor, defScope s_divisor, [], []⟩
def d_part : He.DefD := ⟨("part", none), "part", "part", defArgs s_part, defBody s_part, defScope s_part, [], []⟩
def d_is_part : He.DefD := ⟨("is_part", none), "is_part", "is_part", defArgs s_is_part, defBody s_is_part, defScope s_is_part, [], []⟩
def d_plus : He.DefD := ⟨("plus", none), "plus", "plus", defArgs s_plus, defBody s_plus, defScope s_plus, [], []⟩
def d_minus : He.DefD := ⟨("minus", none), "minus", "minus", defArgs s_minus, defBody s_minus, defScope s_minus, [], []⟩
def d_times : He.DefD := ⟨("times", none), "times", "times", defArgs s_times, defBody s_times, defScope s_times, [], []⟩
def d_over : He.DefD := ⟨("over", none), "over", "over", defArgs s_over, defBody s_over, defScope s_over, [], []⟩
def d_is_less : He.DefD := ⟨("is_less", none), "is_less", "is_less", defArgs s_is_less, defBody s_is_less, defScope s_is_less, [], []⟩
def d_total : He.DefD := ⟨("total", none), "total", "total", defArgs s_total, defBody s_total, defScope s_total, [], []⟩
def d_least_of : He.DefD := ⟨("least_of", none), "least_of", "least_of", defArgs s_least_of, defBody s_least_of, defScope s_least_of, [], []⟩
def d_whole_below : He.DefD := ⟨("whole_below", none), "whole_below", "whole_below", defArgs s_whole_below, defBody s_whole_below, defScope s_whole_below, [], []⟩
def d_whole_above : He.DefD := ⟨("whole_above", none), "whole_above", "whole_above", defArgs s_whole_above, defBody s_whole_above, defScope s_whole_above, [], []⟩
def d_is_whole_part : He.DefD := ⟨("is_whole_part", none), "is_whole_part", "is_whole_part", defArgs s_is_whole_part, defBody s_is_whole_part, defScope s_is_whole_part, [], []⟩
def d_are_parts : He.DefD := ⟨("are_parts", none), "are_parts", "are_parts", defArgs s_are_parts, defBody s_are_parts, defScope s_are_parts, [], []⟩
def d_scaled : He.DefD := ⟨("scaled", none), "scaled", "scaled", defArgs s_scaled, defBody s_scaled, defScope s_scaled, [], []⟩
def d_dot : He.DefD := ⟨("dot", none), "dot", "dot", defArgs s_dot, defBody s_dot, defScope s_dot, [], []⟩
def d__law_pick : He.DefD := ⟨("_law_pick", none), "_law_pick", "_law_pick", defArgs s_law_pick, defBody s_law_pick, defScope s_law_pick, [], []⟩
def d__law_fr : He.DefD := ⟨("_law_fr", none), "_law_fr", "_law_fr", defArgs s_law_fr, defBody s_law_fr, defScope s_law_fr, [], []⟩
def d__law_is_fr : He.DefD := ⟨("_law_is_fr", none), "_law_is_fr", "_law_is_fr", defArgs s_law_is_fr, defBody s_law_is_fr, defScope s_law_is_fr, [], []⟩
def d__law_are_frs : He.DefD := ⟨("_law_are_frs", none), "_law_are_frs", "_law_are_frs", defArgs s_law_are_frs, defBody s_law_are_frs, defScope s_law_are_frs, [], []⟩
def d__law_add : He.DefD := ⟨("_law_add", none), "_law_add", "_law_add", defArgs s_law_add, defBody s_law_add, defScope s_law_add, [], []⟩
def d__law_mul : He.DefD := ⟨("_law_mul", none), "_law_mul", "_law_mul", defArgs s_law_mul, defBody s_law_mul, defScope s_law_mul, [], []⟩
def d__law_sub : He.DefD := ⟨("_law_sub", none), "_law_sub", "_law_sub", defArgs s_law_sub, defBody s_law_sub, defScope s_law_sub, [], []⟩
def d__law_sign : He.DefD := ⟨("_law_sign", none), "_law_sign", "_law_sign", defArgs s_law_sign, defBody s_law_sign, defScope s_law_sign, [], []⟩
def d__law_part : He.DefD := ⟨("_law_part", none), "_law_part", "_law_part", defArgs s_law_part, defBody s_law_part, defScope s_law_part, [], []⟩
def d__law_gcd : He.DefD := ⟨("_law_gcd", none), "_law_gcd", "_law_gcd", defArgs s_law_gcd, defBody s_law_gcd, defScope s_law_gcd, [], []⟩
def d__law_gcd_of : He.DefD := ⟨("_law_gcd_of", none), "_law_gcd_of", "_law_gcd_of", defArgs s_law_gcd_of, defBody s_law_gcd_of, defScope s_law_gcd_of, [], []⟩
def d__law_is : He.DefD := ⟨("_law_is", none), "_law_is", "_law_is", defArgs s_law_is, defBody s_law_is, defScope s_law_is, [], []⟩
def d_law : He.DefD := ⟨("law", none), "law", "law", defArgs s_law, defBody s_law, defScope s_law, [], []⟩
def fnL : List He.DefD := [d__law_state, d__law_take, d_divisor, d_part, d_is_part, d_plus, d_minus, d_times, d_over, d_is_less, d_total, d_least_of, d_whole_below, d_whole_above, d_is_whole_part, d_are_parts, d_scaled, d_dot, d__law_pick, d__law_fr, d__law_is_fr, d__law_are_frs, d__law_add, d__law_mul, d__law_sub, d__law_sign, d__law_part, d__law_gcd, d__law_gcd_of, d__law_is, d_law]
def faL : List He.Fa := ([.glo "_law_state", .glo "_law_take", .glo "divisor", .glo "part", .glo "is_part", .glo "plus", .glo "minus", .glo "times", .glo "over", .glo "is_less", .glo "total", .glo "least_of", .glo "whole_below", .glo "whole_above", .glo "is_whole_part", .glo "are_parts", .glo "scaled", .glo "dot", .glo "_law_pick", .glo "_law_fr", .glo "_law_is_fr", .glo "_law_are_frs", .glo "_law_add", .glo "_law_mul", .glo "_law_sub", .glo "_law_sign", .glo "_law_part", .glo "_law_gcd", .glo "_law_gcd_of", .glo "_law_is", .glo "law", .free "abs", .free "all", .free "bool", .free "int"] : List He.Fa) ++ ([.free "isinstance", .free "len", .free "list", .free "max", .free "range", .free "tuple"] : List He.Fa)
def looseL : List PySem.Str := (["_law_state", "_law_take", "divisor", "part", "is_part", "plus", "minus", "times", "over", "is_less", "total", "least_of", "whole_below", "whole_above", "is_whole_part", "are_parts", "scaled", "dot", "_law_pick", "_law_fr", "_law_is_fr", "_law_are_frs", "_law_add", "_law_mul", "_law_sub", "_law_sign", "_law_part", "_law_gcd", "_law_gcd_of", "_law_is"] : List PySem.Str)
abbrev R : PySem.W.OpenRow := PySem.W.OpenLaw.row PySem.Challenge.rw_nodewright_k09_whole_parts_of_numbers
abbrev hk : PySem.W.Hook := He.hookD 4 faL fnL
def ob (s : PySem.W.SharedT) : He.AlD := He.obsDG 4 faL fnL (HandSHeadRun.getT s)
theorem ob_eq (s : PySem.W.SharedT) : ob s = hk.obs s.abs := He.obsDG_eq (HandSHeadRun.getT_eq s)
theorem runH (w : World) : HandSHeadRun.RunEq R (PySem.W.view R.prog [32]) hk ob 6000 looseL w := by
  intro os
  kernel_rfl
theorem facts {P : Program} {w : World} {K : PySem.W.Frag} {h : Heap} {mg : Str → Option Value} {f : Addr} (X : K.In h) (G : h.Ns mainGlobals mg) (hfa : mg ("law" : Str) = some (.ref f)) (c : He.SaysD faL fnL K) (hlaw : ∀ cs : List Int, cs ≠ [] → ∃ s, g_law (env0 19) (some (0, cs)) = .rt (.bool true) s) :
    ∃ fd : FuncData, (∀ (s : Shared) (v : Value), BindsTo s fd ⟨[v], []⟩ [("script", v)]) ∧ ∀ base : Heap, K.In base → base.Ns mainGlobals mg → FnOk P w K mg base CX0 6 f fd ["script"] (spLaw K) := by
  have D__law_state : DefAt K mg "_law_state" s_law_state := by
    obtain ⟨fd, F⟩ := c.def_ 0 (d := d__law_state) rfl
    exact ⟨_, fd, He.glo_ok X G (c.fact 0 (f := .glo "_law_state") rfl), F⟩
  have D__law_take : DefAt K mg "_law_take" s_law_take := by
    obtain ⟨fd, F⟩ := c.def_ 1 (d := d__law_take) rfl
    exact ⟨_, fd, He.glo_ok X G (c.fact 1 (f := .glo "_law_take") rfl), F⟩
  have D_divisor : DefAt K mg "divisor" s_divisor := by
    obtain ⟨fd, F⟩ := c.def_ 2 (d := d_divisor) rfl
    exact ⟨_, fd, He.glo_ok X G (c.fact 2 (f := .glo "divisor") rfl), F⟩
  have D_part : DefAt K mg "part" s_part := by
    obtain ⟨fd, F⟩ := c.def_ 3 (d := d_part) rfl
    exact ⟨_, fd, He.glo_ok X G (c.fact 3 (f := .glo "part") rfl), F⟩
  have D_is_part : DefAt K mg "is_part" s_is_part := by
    obtain ⟨fd, F⟩ := c.def_ 4 (d := d_is_part) rfl
    exact ⟨_, fd, He.glo_ok X G (c.fact 4 (f := .glo "is_part") rfl), F⟩
  have D_plus : DefAt K mg "plus" s_plus := by
    obtain ⟨fd, F⟩ := c.def_ 5 (d := d_plus) rfl
    exact ⟨_, fd, He.glo_ok X G (c.fact 5 (f := .glo "plus") rfl), F⟩
  have D_minus : DefAt K mg "minus" s_minus := by
    obtain ⟨fd, F⟩ := c.def_ 6 (d := d_minus) rfl
    exact ⟨_, fd, He.glo_ok X G (c.fact 6 (f := .glo "minus") rfl), F⟩
  have D_times : DefAt K mg "times" s_times := by
    obtain ⟨fd, F⟩ := c.def_ 7 (d := d_times) rfl
    exact ⟨_, fd, He.glo_ok X G (c.fact 7 (f := .glo "times") rfl), F⟩
  have D_over : DefAt K mg "over" s_over := by
    obtain ⟨fd, F⟩ := c.def_ 8 (d := d_over) rfl
    exact ⟨_, fd, He.glo_ok X G (c.fact 8 (f := .glo "over") rfl), F⟩
  have D_is_less : DefAt K mg "is_less" s_is_less := by
    obtain ⟨fd, F⟩ := c.def_ 9 (d := d_is_less) rfl
    exact ⟨_, fd, He.glo_ok X G (c.fact 9 (f := .glo "is_less") rfl), F⟩
  have D_total : DefAt K mg "total" s_total := by
    obtain ⟨fd, F⟩ := c.def_ 10 (d := d_total) rfl
    exact ⟨_, fd, He.glo_ok X G (c.fact 10 (f := .glo "total") rfl), F⟩
  have D_least_of : DefAt K mg "least_of" s_least_of := by
    obtain ⟨fd, F⟩ := c.def_ 11 (d := d_least_of) rfl
    exact ⟨_, fd, He.glo_ok X G (c.fact 11 (f := .glo "least_of") rfl), F⟩
  have D_whole_below : DefAt K mg "whole_below" s_whole_below := by
    obtain ⟨fd, F⟩ := c.def_ 12 (d := d_whole_below) rfl
    exact ⟨_, fd, He.glo_ok X G (c.fact 12 (f := .glo "whole_below") rfl), F⟩
  have D_whole_above : DefAt K mg "whole_above" s_whole_above := by
    obtain ⟨fd, F⟩ := c.def_ 13 (d := d_whole_above) rfl
    exact ⟨_, fd, He.glo_ok X G (c.fact 13 (f := .glo "whole_above") rfl), F⟩
  have D_is_whole_part : DefAt K mg "is_whole_part" s_is_whole_part := by
    obtain ⟨fd, F⟩ := c.def_ 14 (d := d_is_whole_part) rfl
    exact ⟨_, fd, He.glo_ok X G (c.fact 14 (f := .glo "is_whole_part") rfl), F⟩
  have D_are_parts : DefAt K mg "are_parts" s_are_parts := by
    obtain ⟨fd, F⟩ := c.def_ 15 (d := d_are_parts) rfl
    exact ⟨_, fd, He.glo_ok X G (c.fact 15 (f := .glo "are_parts") rfl), F⟩
  have D_scaled : DefAt K mg "scaled" s_scaled := by
    obtain ⟨fd, F⟩ := c.def_ 16 (d := d_scaled) rfl
    exact ⟨_, fd, He.glo_ok X G (c.fact 16 (f := .glo "scaled") rfl), F⟩
  have D_dot : DefAt K mg "dot" s_dot := by
    obtain ⟨fd, F⟩ := c.def_ 17 (d := d_dot) rfl
    exact ⟨_, fd, He.glo_ok X G (c.fact 17 (f := .glo "dot") rfl), F⟩
  have D__law_pick : DefAt K mg "_law_pick" s_law_pick := by
    obtain ⟨fd, F⟩ := c.def_ 18 (d := d__law_pick) rfl
    exact ⟨_, fd, He.glo_ok X G (c.fact 18 (f := .glo "_law_pick") rfl), F⟩
  have D__law_fr : DefAt K mg "_law_fr" s_law_fr := by
    obtain ⟨fd, F⟩ := c.def_ 19 (d := d__law_fr) rfl
    exact ⟨_, fd, He.glo_ok X G (c.fact 19 (f := .glo "_law_fr") rfl), F⟩
  have D__law_is_fr : DefAt K mg "_law_is_fr" s_law_is_fr := by
    obtain ⟨fd, F⟩ := c.def_ 20 (d := d__law_is_fr) rfl
    exact ⟨_, fd, He.glo_ok X G (c.fact 20 (f := .glo "_law_is_fr") rfl), F⟩
  have D__law_are_frs : DefAt K mg "_law_are_frs" s_law_are_frs := by
    obtain ⟨fd, F⟩ := c.def_ 21 (d := d__law_are_frs) rfl
    exact ⟨_, fd, He.glo_ok X G (c.fact 21 (f := .glo "_law_are_frs") rfl), F⟩
  have D__law_add : DefAt K mg "_law_add" s_law_add := by
    obtain ⟨fd, F⟩ := c.def_ 22 (d := d__law_add) rfl
    exact ⟨_, fd, He.glo_ok X G (c.fact 22 (f := .glo "_law_add") rfl), F⟩
  have D__law_mul : DefAt K mg "_law_mul" s_law_mul := by
    obtain ⟨fd, F⟩ := c.def_ 23 (d := d__law_mul) rfl
    exact ⟨_, fd, He.glo_ok X G (c.fact 23 (f := .glo "_law_mul") rfl), F⟩
  have D__law_sub : DefAt K mg "_law_sub" s_law_sub := by
    obtain ⟨fd, F⟩ := c.def_ 24 (d := d__law_sub) rfl
    exact ⟨_, fd, He.glo_ok X G (c.fact 24 (f := .glo "_law_sub") rfl), F⟩
  have D__law_sign : DefAt K mg "_law_sign" s_law_sign := by
    obtain ⟨fd, F⟩ := c.def_ 25 (d := d__law_sign) rfl
    exact ⟨_, fd, He.glo_ok X G (c.fact 25 (f := .glo "_law_sign") rfl), F⟩
  have D__law_part : DefAt K mg "_law_part" s_law_part := by
    obtain ⟨fd, F⟩ := c.def_ 26 (d := d__law_part) rfl
    exact ⟨_, fd, He.glo_ok X G (c.fact 26 (f := .glo "_law_part") rfl), F⟩
  have D__law_gcd : DefAt K mg "_law_gcd" s_law_gcd := by
    obtain ⟨fd, F⟩ := c.def_ 27 (d := d__law_gcd) rfl
    exact ⟨_, fd, He.glo_ok X G (c.fact 27 (f := .glo "_law_gcd") rfl), F⟩
  have D__law_gcd_of : DefAt K mg "_law_gcd_of" s_law_gcd_of := by
    obtain ⟨fd, F⟩ := c.def_ 28 (d := d__law_gcd_of) rfl
    exact ⟨_, fd, He.glo_ok X G (c.fact 28 (f := .glo "_law_gcd_of") rfl), F⟩
  have D__law_is : DefAt K mg "_law_is" s_law_is := by
    obtain ⟨fd, F⟩ := c.def_ 29 (d := d__law_is) rfl
    exact ⟨_, fd, He.glo_ok X G (c.fact 29 (f := .glo "_law_is") rfl), F⟩
  have Z : Nm mg := ⟨He.free_ok X G (c.fact 31 (f := .free "abs") rfl), He.free_ok X G (c.fact 32 (f := .free "all") rfl), He.free_ok X G (c.fact 33 (f := .free "bool") rfl), He.free_ok X G (c.fact 34 (f := .free "int") rfl), He.free_ok X G (c.fact 35 (f := .free "isinstance") rfl), He.free_ok X G (c.fact 36 (f := .free "len") rfl), He.free_ok X G (c.fact 37 (f := .free "list") rfl), He.free_ok X G (c.fact 38 (f := .free "max") rfl), He.free_ok X G (c.fact 39 (f := .free "range") rfl), He.free_ok X G (c.fact 40 (f := .free "tuple") rfl)⟩
  obtain ⟨fd, F⟩ := c.def_ 30 (d := d_law) rfl
  have e := hfa.symm.trans (He.glo_ok X G (c.fact 30 (f := .glo "law") rfl))
  cases e
  have b := FunD.bindsA (ps := ["script"]) F fun _ _ _ _ _ _ us hl => match us, hl with | [_], _ => rfl
  exact ⟨fd, fun s v => b s [v] rfl, fun base _ _ => ok_law Z D__law_state D__law_take D_divisor D_part D_is_part D_plus D_minus D_times D_over D_is_less D_total D_least_of D_whole_below D_whole_above D_is_whole_part D_are_parts D_scaled D_dot D__law_pick D__law_fr D__law_is_fr D__law_are_frs D__law_add D__law_mul D__law_sub D__law_sign D__law_part D__law_gcd D__law_gcd_of D__law_is hlaw F⟩
end NWE
open PySem PySem.W PySem.Calls PyProof.Rows
theorem PySem.Challenge.cw_nodewright_k09_whole_parts_of_numbers_holds : PySem.Challenge.rw_nodewright_k09_whole_parts_of_numbers.Holds := by
  w_on; o_law
  refine HandSHeadRun.head_any (r := OpenLaw.row PySem.Challenge.rw_nodewright_k09_whole_parts_of_numbers) (q := view (OpenLaw.row PySem.Challenge.rw_nodewright_k09_whole_parts_of_numbers).prog [32]) (H := NWE.hk) (ob := NWE.ob) (M := 6000) (loose := NWE.looseL) (d := HandSHeadRun.topDef (OpenLaw.row PySem.Challenge.rw_nodewright_k09_whole_parts_of_numbers).prog 32) (kwd := []) NWE.ob_eq
    (by kernel_rfl) (fun s => by kernel_rfl) NWE.runH (by kernel_rfl) (by kernel_rfl) (by kernel_rfl) (by rfl) (by first | assumption | decide +kernel) (by decide +kernel) ⟨rfl, rfl, rfl, rfl, rfl, by decide +kernel⟩ ?hw ?hc
  case hw => w_witness2
  case hc =>
    refine L2.walk_ofE (l := PySem.Challenge.rw_nodewright_k09_whole_parts_of_numbers) (n := 63) (k := 6) (x := "script") (CX := L2.CX0) rfl (by decide) (by kernel_rfl) ⟨rfl, by decide, by decide⟩ ?F (fun _ _ _ _ z => z)
    intro w mg fa h Y G hmg0
    obtain ⟨K, KX, c⟩ := Y
    have hmg : mg ("law" : PySem.Str) = some (.ref fa) := by
      have e : (HandSHeadRun.topDef (OpenLaw.row PySem.Challenge.rw_nodewright_k09_whole_parts_of_numbers).prog 32).name = ("law" : PySem.Str) := by kernel_rfl
      rw [← e]
      exact hmg0
    obtain ⟨fd, hb, hF⟩ := NWE.facts (P := (PySem.Challenge.rw_nodewright_k09_whole_parts_of_numbers).prog) (w := w) KX G hmg c NW.law_true
    exact ⟨K, fd, DS.spLaw K, KX, hb, fun H a ns hl _ hS => ⟨a, ns, rfl, hS, hl, fun _ => rfl⟩, hF⟩
end
