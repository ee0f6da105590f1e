import PyProof.Rows.All
import Wide.All
import OpenK.AllK
import Wide.FinOn
import HandS.ForMost
import HandS.Deep
import HandS.TupAny
import HandS.StrMore
import HandS.IsInst
import HandS.Exc
import HandS.ExcOwn
import HandS.WordsExc
import HandS.Comp
import HandS.Hot
import HandS.HotCalls
import HandS.List
import HandS.More
import HandS.Text
import HandS.Dict
import HandS.Flow
import HandS.ExcField
import HandS.ExcInit
import KE.KExcIs
import HandS.CallSlots
import HandS.Rev
import KE.KIndexOf
import KE.DataFind
import PyProof.ListNew
import HandS.Conv
import HandS.TryMany
import HandS.ExcCtx
import KE.KExcSuper
import HandS.ExcSuper
import HandS.Defaults
import HandS.HeadHook1
import HandS.HeadHook2
import KE.KStateDown
import HandS.Head0
import HandS.Head1
import HandS.Head2
import HandS.HeadEnd
import Lean
import PySem.Challenge.RW_bridgeward_k05_ways_walks_and_prices
set_option Elab.async false
set_option linter.all false
set_option maxRecDepth 100000
set_option maxHeartbeats 0
/-! Mp1: data, owned and frozen, and its relation to the layer's abstract heap. -/
namespace Mp
open PySem L2

/-- a text by its code points -/
abbrev tx (l : List Nat) : Str := ⟨l.toArray⟩
inductive D where
  | non | bl (b : Bool) | int (i : Int) | str (s : Str)
  | tup (l : List D) | lst (l : List D) | dct (ks : List Key) (vs : List D) | ins (C : Str) (fs : List Str) (vs : List D)

/-- an exception: its class, the fields of its dict -/
structure Xn where
  C : Str
  fs : List Str
  vs : List D
/-- a slot: frozen data, a thing that this slot alone owns, the exception that an except suite holds -/
inductive S where
  | val (d : D) | own (d : D) | exn (x : Xn)
abbrev En := List (Option S)
/-- the module's names, the exception that is handled -/
structure MG where
  f : Str → Option Value
  xa : Option (Addr × Value × Option Addr)
instance : CoeFun MG fun _ => Str → Option Value := ⟨MG.f⟩
def pinX : List (Addr × Obj) → Option (Addr × Value × Option Addr)
  | p :: _ => match p.2.data with
    | .fields _ => some (p.1, p.2.cls, p.2.dict)
    | _ => none
  | [] => none
abbrev _root_.L2.Cx.mG (X : L2.Cx) : MG := ⟨X.mg, cond X.calm none (pinX X.pn)⟩
/-- an expression's value: frozen data, a new thing, the thing that a slot owns -/
inductive Rv where
  | val (d : D) | tmp (d : D) | brw (i : Nat)
inductive Out (α : Type) where
  | ok (a : α) (ρ : En)
  | er (x : Xn) (ρ : En)
  | bad
def Out.bind {α β : Type} (o : Out α) (f : α → En → Out β) : Out β :=
  match o with
  | .ok a ρ => f a ρ
  | .er x ρ => .er x ρ
  | .bad => .bad

/-- a tuple, a list of the written part -/
def TupK (K : PySem.W.Frag) (a : Addr) (xs : List V) : Prop :=
  ∃ (o : Obj) (its : Array Value) (n : Nat), K.lookup a = some o ∧ o.cls = .type "tuple" ∧ o.data = .seq its n ∧ its.size ≤ sizeLine ∧ Vals xs its.toList
def LstK (K : PySem.W.Frag) (a : Addr) (xs : List V) : Prop :=
  ∃ (o : Obj) (its : Array Value) (n : Nat), K.lookup a = some o ∧ o.cls = .type "list" ∧ o.dict = none ∧ o.data = .seq its n ∧ its.size ≤ sizeLine ∧ Vals xs its.toList
/-- a tuple: its object is known to have no dict of its own -/
def FT (K : PySem.W.Frag) (F : Hp) (a : Addr) (xs : List V) : Prop := (∃ o : Obj, o.dict = none ∧ F a = some (.frz o (.tup xs))) ∨ (TupK K a xs ∧ ∀ o, K.lookup a = some o → o.dict = none)
def FL (K : PySem.W.Frag) (F : Hp) (a : Addr) (xs : List V) : Prop := F a = some (.lst xs) ∨ LstK K a xs
mutual
inductive RelD (K : PySem.W.Frag) (mg : MG) (F : Hp) : V → D → Prop
  | non : RelD K mg F .non .non
  | bl (b : Bool) : RelD K mg F (.bl b) (.bl b)
  | int (i : Int) : RelD K mg F (.int i) (.int i)
  | str (x : Str) : RelD K mg F (.str x) (.str x)
  | tup {a : Addr} {xs : List V} {ds : List D} : FT K F a xs → RelL K mg F xs ds → RelD K mg F (.ref a) (.tup ds)
  | lst {a : Addr} {xs : List V} {ds : List D} : FL K F a xs → RelL K mg F xs ds → RelD K mg F (.ref a) (.lst ds)
  | dct {a : Addr} {kvs : List (Key × V)} {ks : List Key} {ds : List D} : F a = some (.dK kvs) → kvs.map (·.1) = ks → RelL K mg F (kvs.map (·.2)) ds → RelD K mg F (.ref a) (.dct ks ds)
  | ins {a Ca dx : Addr} {C : Str} {fs : List (Str × V)} {ns : List Str} {ds : List D} : mg C = some (.ref Ca) → F a = some (.ins Ca dx fs) → fs.map (·.1) = ns → RelL K mg F (fs.map (·.2)) ds → RelD K mg F (.ref a) (.ins C ns ds)
inductive RelL (K : PySem.W.Frag) (mg : MG) (F : Hp) : List V → List D → Prop
  | nil : RelL K mg F [] []
  | cons {v : V} {vs : List V} {d : D} {ds : List D} : RelD K mg F v d → RelL K mg F vs ds → RelL K mg F (v :: vs) (d :: ds)
end

/-- lists and dicts alone may be locked -/
def lockable : HO → Prop
  | .lst _ => True
  | .dK _ => True
  | _ => False
def Sub (F H : Hp) : Prop := ∀ a o, F a = some o → H a = some o ∨ (lockable o ∧ ∃ ob, H a = some (.frz ob o))
theorem Sub.rd {F H : Hp} (h : Sub F H) {a : Addr} {o : HO} (e : F a = some o) : Rd H a o := (h a o e).imp id fun z => z.2
theorem Sub.tup {F H : Hp} (h : Sub F H) {a : Addr} {o : Obj} {xs : List V} (e : F a = some (.frz o (.tup xs))) : H a = some (.frz o (.tup xs)) := (h a _ e).elim id fun z => z.1.elim
theorem Sub.ins {F H : Hp} (h : Sub F H) {a C dx : Addr} {fs : List (Str × V)} (e : F a = some (.ins C dx fs)) : H a = some (.ins C dx fs) := (h a _ e).elim id fun z => z.1.elim
theorem Sub.xd {F H : Hp} (h : Sub F H) {a : Addr} {fs : List (Str × V)} (e : F a = some (.xd fs)) : H a = some (.xd fs) := (h a _ e).elim id fun z => z.1.elim
def Le (F F' : Hp) : Prop := ∀ a o, F a = some o → F' a = some o
theorem Le.refl {F : Hp} : Le F F := fun _ _ e => e
theorem Le.trans {F F' F'' : Hp} (h : Le F F') (k : Le F' F'') : Le F F'' := fun a o e => k a o (h a o e)

/-- an owned thing, at p -/
def OwnAt (K : PySem.W.Frag) (mg : MG) (F H : Hp) (p : Addr) : D → Prop
  | .lst ds => ∃ xs, H p = some (.lst xs) ∧ RelL K mg F xs ds
  | .dct ks ds => ∃ kvs, H p = some (.dK kvs) ∧ kvs.map (·.1) = ks ∧ RelL K mg F (kvs.map (·.2)) ds
  | .ins C ns ds => ∃ Ca dx fs, mg C = some (.ref Ca) ∧ H p = some (.ins Ca dx fs) ∧ fs.map (·.1) = ns ∧ RelL K mg F (fs.map (·.2)) ds
  | _ => False

def En.at (ρ : En) (i : Nat) : Option S := (ρ[i]?).join
def stAt (σ : St) (i : Nat) : Option V := (σ[i]?).join
/-- the addresses that the slots own -/
def Own (σ : St) (ρ : En) (p : Addr) : Prop := ∃ i d, ρ.at i = some (.own d) ∧ stAt σ i = some (.ref p)
def XnR (K : PySem.W.Frag) (mg : MG) (F : Hp) (c : Value) (d : Option Addr) (x : Xn) : Prop :=
  mg x.C = some c ∧ ∃ (dd : Addr) (fs : List (Str × V)), d = some dd ∧ F dd = some (.xd fs) ∧ fs.map (·.1) = x.fs ∧ RelL K mg F (fs.map (·.2)) x.vs
structure EnvR (K : PySem.W.Frag) (mg : MG) (F H : Hp) (σ : St) (ρ : En) : Prop where
  len : σ.length = ρ.length
  sub : Sub F H
  val : ∀ i d, ρ.at i = some (.val d) → ∃ v, stAt σ i = some v ∧ RelD K mg F v d
  own : ∀ i d, ρ.at i = some (.own d) → ∃ p, stAt σ i = some (.ref p) ∧ F p = none ∧ OwnAt K mg F H p d
  inj : ∀ i j d d' p, ρ.at i = some (.own d) → ρ.at j = some (.own d') → stAt σ i = some (.ref p) → stAt σ j = some (.ref p) → i = j
  exn : ∀ i x, ρ.at i = some (.exn x) → ∃ a c d, mg.xa = some (a, c, d) ∧ stAt σ i = some (.ref a) ∧ XnR K mg F c d x
/-- from F, H to F', H': what is frozen stays; what is tracked stays but for P -/
structure Stp (F H : Hp) (P : Addr → Prop) (F' H' : Hp) : Prop where
  mono : Le F F'
  keep : ∀ a o, H a = some o → ¬ P a → H' a = some o ∧ (F a = none → F' a = none)
  al : ∀ a, H' a = none → H a = none
structure Po (K : PySem.W.Frag) (mg : MG) (F H : Hp) (σ : St) (ρ : En) (F' H' : Hp) (ρ' : En) : Prop where
  st : Stp F H (Own σ ρ) F' H'
  en : EnvR K mg F' H' σ ρ'
  ow : ∀ p, Own σ ρ' p → Own σ ρ p
  fil : ∀ i s, ρ.at i = some s → ∃ s', ρ'.at i = some s'
/-- a value of an expression that began at H0 -/
def RvR (K : PySem.W.Frag) (mg : MG) (H0 F H : Hp) (σ : St) (ρ : En) (v : V) : Rv → Prop
  | .val d => RelD K mg F v d
  | .tmp d => ∃ p, v = .ref p ∧ H0 p = none ∧ F p = none ∧ OwnAt K mg F H p d ∧ ¬ Own σ ρ p
  | .brw i => stAt σ i = some v ∧ ∃ s, ρ.at i = some s
/-- the end of an expression (a test, a list of arguments) that began at F0, H0, ρ0 -/
def Fin {α β : Type} (K : PySem.W.Frag) (mg : MG) (W : Value → Option Addr → St → Hp → Prop) (R : Hp → Hp → En → β → α → Prop) (F0 H0 : Hp) (σ : St) (ρ0 : En) (Q : β → Hp → Prop) : Out α → Prop
  | .ok a ρ => ∀ b F H, Po K mg F0 H0 σ ρ0 F H ρ → R F H ρ b a → Q b H
  | .er x ρ => ∀ c d F H, Po K mg F0 H0 σ ρ0 F H ρ → XnR K mg F c d x → W c d σ H
  | .bad => False

/-! ### what stays -/
section
variable {K : PySem.W.Frag} {mg : MG} {F F' H H' : Hp} {σ : St} {ρ ρ' : En}
theorem FT.mono {a : Addr} {xs : List V} (h : FT K F a xs) (k : Le F F') : FT K F' a xs := h.imp (fun ⟨o, d, e⟩ => ⟨o, d, k _ _ e⟩) id
theorem FL.mono {a : Addr} {xs : List V} (h : FL K F a xs) (k : Le F F') : FL K F' a xs := h.imp (k _ _) id
theorem FT.sq {a : Addr} {xs : List V} (h : FT K F a xs) (k : Sub F H) : SqT K H a xs := h.imp (fun ⟨o, d, e⟩ => .inr ⟨o, k.tup e⟩) fun z => z.1
theorem FL.sq {a : Addr} {xs : List V} (h : FL K F a xs) (k : Sub F H) : SqL K H a xs := h.imp k.rd id
mutual
theorem RelD.mono (k : Le F F') : ∀ {v : V} {d : D}, RelD K mg F v d → RelD K mg F' v d
  | _, _, .non => .non
  | _, _, .bl b => .bl b
  | _, _, .int i => .int i
  | _, _, .str x => .str x
  | _, _, .tup h r => .tup (h.mono k) (RelL.mono k r)
  | _, _, .lst h r => .lst (h.mono k) (RelL.mono k r)
  | _, _, .dct h e r => .dct (k _ _ h) e (RelL.mono k r)
  | _, _, .ins c h e r => .ins c (k _ _ h) e (RelL.mono k r)
theorem RelL.mono (k : Le F F') : ∀ {vs : List V} {ds : List D}, RelL K mg F vs ds → RelL K mg F' vs ds
  | _, _, .nil => .nil
  | _, _, .cons h r => .cons (RelD.mono k h) (RelL.mono k r)
end
theorem RelL.length : ∀ {vs : List V} {ds : List D}, RelL K mg F vs ds → vs.length = ds.length
  | _, _, .nil => rfl
  | _, _, .cons _ r => by simp [r.length]
theorem RelL.append : ∀ {vs ws : List V} {ds es : List D}, RelL K mg F vs ds → RelL K mg F ws es → RelL K mg F (vs ++ ws) (ds ++ es)
  | _, _, _, _, .nil, s => s
  | _, _, _, _, .cons h r, s => .cons h (r.append s)
theorem RelL.get : ∀ {vs : List V} {ds : List D} {i : Nat} {d : D}, RelL K mg F vs ds → ds[i]? = some d → ∃ v, vs[i]? = some v ∧ RelD K mg F v d
  | _, _, _, _, .nil, e => by simp at e
  | _, _, 0, _, .cons h _, e => by simp at e; subst e; exact ⟨_, rfl, h⟩
  | _, _, i + 1, d, .cons _ r, e => by
    obtain ⟨v, h1, h2⟩ := RelL.get (i := i) (d := d) r (by simpa using e)
    exact ⟨v, by simpa using h1, h2⟩
theorem RelL.drop : ∀ {vs : List V} {ds : List D} (n : Nat), RelL K mg F vs ds → RelL K mg F (vs.drop n) (ds.drop n)
  | _, _, 0, r => r
  | _, _, _ + 1, .nil => .nil
  | _, _, n + 1, .cons _ r => r.drop n
theorem RelL.take : ∀ {vs : List V} {ds : List D} (n : Nat), RelL K mg F vs ds → RelL K mg F (vs.take n) (ds.take n)
  | _, _, 0, _ => .nil
  | _, _, _ + 1, .nil => .nil
  | _, _, n + 1, .cons h r => .cons h (r.take n)
theorem RelL.set : ∀ {vs : List V} {ds : List D} (n : Nat) {v : V} {d : D}, RelD K mg F v d → RelL K mg F vs ds → RelL K mg F (vs.set n v) (ds.set n d)
  | _, _, _, _, _, _, .nil => .nil
  | _, _, 0, _, _, h, .cons _ r => .cons h r
  | _, _, n + 1, _, _, h, .cons k r => .cons k (RelL.set n h r)
theorem RelL.eraseIdx : ∀ {vs : List V} {ds : List D} (n : Nat), RelL K mg F vs ds → RelL K mg F (vs.eraseIdx n) (ds.eraseIdx n)
  | _, _, _, .nil => .nil
  | _, _, 0, .cons _ r => r
  | _, _, n + 1, .cons h r => .cons h (r.eraseIdx n)
theorem RelL.reverse {vs : List V} {ds : List D} (r : RelL K mg F vs ds) : RelL K mg F vs.reverse ds.reverse := by
  have : ∀ {vs : List V} {ds : List D} {ws : List V} {es : List D}, RelL K mg F vs ds → RelL K mg F ws es → RelL K mg F (vs.reverseAux ws) (ds.reverseAux es) := by
    intro vs
    induction vs with
    | nil => intro ds ws es h k; cases h; exact k
    | cons v vs ih => intro ds ws es h k; cases h with | cons h t => exact ih (ds := _) (ws := _ :: _) (es := _ :: _) t (.cons h k)
  exact this r .nil
theorem RelL.dropLast {vs : List V} {ds : List D} (r : RelL K mg F vs ds) : RelL K mg F vs.dropLast ds.dropLast := by
  rw [List.dropLast_eq_take, List.dropLast_eq_take, r.length]
  exact r.take _
theorem OwnAt.at {p : Addr} {d : D} (h : OwnAt K mg F H p d) (k : Le F F') (e : H' p = H p) : OwnAt K mg F' H' p d := by
  cases d with
  | lst ds => obtain ⟨xs, h1, h2⟩ := h; exact ⟨xs, e.trans h1, h2.mono k⟩
  | dct ks ds => obtain ⟨xs, h1, h2, h3⟩ := h; exact ⟨xs, e.trans h1, h2, h3.mono k⟩
  | ins C ns ds => obtain ⟨Ca, dx, fs, h1, h2, h3, h4⟩ := h; exact ⟨Ca, dx, fs, h1, e.trans h2, h3, h4.mono k⟩
  | _ => exact h.elim
/-- the object of an owned thing -/
theorem OwnAt.obj {p : Addr} {d : D} (h : OwnAt K mg F H p d) : ∃ o, H p = some o := by
  cases d with
  | lst ds => obtain ⟨xs, h1, h2⟩ := h; exact ⟨_, h1⟩
  | dct ks ds => obtain ⟨xs, h1, h2, h3⟩ := h; exact ⟨_, h1⟩
  | ins C ns ds => obtain ⟨Ca, dx, fs, h1, h2, h3, h4⟩ := h; exact ⟨_, h2⟩
  | _ => exact h.elim
/-- an owned thing, frozen -/
theorem OwnAt.frz {p : Addr} {d : D} (h : OwnAt K mg F H p d) (k : Le F F') (e : F' p = H p) : RelD K mg F' (.ref p) d := by
  cases d with
  | lst ds => obtain ⟨xs, h1, h2⟩ := h; exact .lst (.inl (e.trans h1)) (h2.mono k)
  | dct ks ds => obtain ⟨xs, h1, h2, h3⟩ := h; exact .dct (e.trans h1) h2 (h3.mono k)
  | ins C ns ds => obtain ⟨Ca, dx, fs, h1, h2, h3, h4⟩ := h; exact .ins h1 (e.trans h2) h3 (h4.mono k)
  | _ => exact h.elim
theorem Stp.refl {P : Addr → Prop} : Stp F H P F H := ⟨Le.refl, fun _ _ e _ => ⟨e, id⟩, fun _ e => e⟩
theorem Stp.trans {P P' : Addr → Prop} {F1 H1 F2 H2 : Hp} (h : Stp F H P F1 H1) (k : Stp F1 H1 P' F2 H2) (hP : ∀ a o, H a = some o → P' a → P a) : Stp F H P F2 H2 := by
  refine ⟨h.mono.trans k.mono, fun a o e n => ?_, fun a e => h.al a (k.al a e)⟩
  obtain ⟨e1, f1⟩ := h.keep a o e n
  obtain ⟨e2, f2⟩ := k.keep a o e1 fun z => n (hP a o e z)
  exact ⟨e2, fun f => f2 (f1 f)⟩
theorem Po.refl (h : EnvR K mg F H σ ρ) : Po K mg F H σ ρ F H ρ := ⟨.refl, h, fun _ z => z, fun _ s e => ⟨s, e⟩⟩
theorem Po.trans {F1 H1 F2 H2 : Hp} {ρ1 ρ2 : En} (h : Po K mg F H σ ρ F1 H1 ρ1) (k : Po K mg F1 H1 σ ρ1 F2 H2 ρ2) : Po K mg F H σ ρ F2 H2 ρ2 :=
  ⟨h.st.trans k.st fun a _ _ z => h.ow a z, k.en, fun p z => h.ow p (k.ow p z), fun i s e => let ⟨s1, e1⟩ := h.fil i s e; k.fil i s1 e1⟩
/-- a value stays -/
theorem RvR.stay {H0 F1 H1 : Hp} {ρ1 : En} {v : V} {r : Rv} (h : RvR K mg H0 F H σ ρ v r) (p : Po K mg F H σ ρ F1 H1 ρ1) : RvR K mg H0 F1 H1 σ ρ1 v r := by
  cases r with
  | val d => exact RelD.mono p.st.mono h
  | tmp d =>
    obtain ⟨q, e, h0, f, o, n⟩ := h
    obtain ⟨u, hu⟩ := o.obj
    obtain ⟨e1, f1⟩ := p.st.keep q u hu n
    exact ⟨q, e, h0, f1 f, o.at p.st.mono (e1.trans hu.symm), fun z => n (p.ow q z)⟩
  | brw i => obtain ⟨e, s, hs⟩ := h; exact ⟨e, p.fil i s hs⟩
/-- new things alone: what is tracked stays, what was not frozen isn't -/
structure Grow (F H F' H' : Hp) : Prop where
  mono : Le F F'
  keep : Le H H'
  no : ∀ a o, H a = some o → F a = none → F' a = none
  sub : Sub F' H'
theorem Grow.refl (h : Sub F H) : Grow F H F H := ⟨.refl, .refl, fun _ _ _ e => e, h⟩
theorem Sub.none (h : Sub F H) {p : Addr} (e : H p = .none) : F p = .none := by
  cases q : F p with
  | none => rfl
  | some o => rcases h p o q with z | ⟨_, _, z⟩ <;> rw [e] at z <;> cases z
theorem le_upd {p : Addr} {o : HO} (e : H p = .none) : Le H (upd H p o) := fun a u q => by rw [upd_ne (ne_of_none q e)]; exact q
/-- a new frozen thing -/
theorem Grow.frz {p : Addr} {o : HO} (h : Sub F H) (e : H p = .none) : Grow F H (upd F p o) (upd H p o) := by
  refine ⟨le_upd (h.none e), le_upd e, fun a u q f => ?_, fun a u q => ?_⟩
  · rw [upd_ne (ne_of_none q e)]; exact f
  · by_cases z : a = p
    · subst z; rw [upd_same] at q; cases q; exact .inl upd_same
    · rw [upd_ne z] at q
      rcases h a u q with w | ⟨lk, ob, w⟩
      · exact .inl (by rw [upd_ne z]; exact w)
      · exact .inr ⟨lk, ob, by rw [upd_ne z]; exact w⟩
/-- a new thing, owned -/
theorem Grow.tmp {p : Addr} {o : HO} (h : Sub F H) (e : H p = .none) : Grow F H F (upd H p o) := by
  refine ⟨.refl, le_upd e, fun a u q f => f, fun a u q => ?_⟩
  have z : a ≠ p := by intro z; subst z; rw [h.none e] at q; cases q
  rcases h a u q with w | ⟨lk, ob, w⟩
  · exact .inl (by rw [upd_ne z]; exact w)
  · exact .inr ⟨lk, ob, by rw [upd_ne z]; exact w⟩
theorem XnR.mono {c : Value} {d : Option Addr} {x : Xn} (h : XnR K mg F c d x) (k : Le F F') : XnR K mg F' c d x := by
  obtain ⟨h1, dd, fs, h2, h3, h4, h5⟩ := h
  exact ⟨h1, dd, fs, h2, k _ _ h3, h4, h5.mono k⟩
theorem EnvR.exnM (en : EnvR K mg F H σ ρ) (k : Le F F') : ∀ i x, ρ.at i = some (.exn x) → ∃ a c d, mg.xa = some (a, c, d) ∧ stAt σ i = some (.ref a) ∧ XnR K mg F' c d x := fun i x e =>
  let ⟨a, c, d, h1, h2, h3⟩ := en.exn i x e
  ⟨a, c, d, h1, h2, h3.mono k⟩
theorem at_setc {ρ : En} {i j : Nat} {s : Option S} : En.at (ρ.set i s) j = some z → (i = j ∧ s = some z) ∨ (i ≠ j ∧ ρ.at j = some z) := by
  unfold En.at
  rw [List.getElem?_set]
  split
  · rename_i h
    split
    · intro e; exact .inl ⟨h, by simpa using e⟩
    · intro e; simp at e
  · rename_i h
    intro e; exact .inr ⟨h, e⟩
theorem stAt_setne {σ : St} {i j : Nat} {v : Option V} (h : i ≠ j) : stAt (σ.set i v) j = stAt σ j := by
  unfold stAt
  rw [List.getElem?_set_ne h]
theorem EnvR.exnSet (en : EnvR K mg F H σ ρ) (k : Le F F') {i : Nat} {s : Option S} (hs : ∀ x, s ≠ some (.exn x)) : ∀ j x, En.at (ρ.set i s) j = some (.exn x) → ∃ a c d, mg.xa = some (a, c, d) ∧ stAt σ j = some (.ref a) ∧ XnR K mg F' c d x := fun j x e => by
  rcases at_setc e with ⟨_, z⟩ | ⟨_, z⟩
  · exact absurd z (hs x)
  · exact en.exnM k j x z
theorem EnvR.exnSet2 (en : EnvR K mg F H σ ρ) (k : Le F F') {i : Nat} {s : Option S} {v : Option V} (hs : ∀ x, s ≠ some (.exn x)) : ∀ j x, En.at (ρ.set i s) j = some (.exn x) → ∃ a c d, mg.xa = some (a, c, d) ∧ stAt (σ.set i v) j = some (.ref a) ∧ XnR K mg F' c d x := fun j x e => by
  rcases at_setc e with ⟨_, z⟩ | ⟨n, z⟩
  · exact absurd z (hs x)
  · obtain ⟨a, c, d, h1, h2, h3⟩ := en.exnM k j x z
    exact ⟨a, c, d, h1, (stAt_setne n).trans h2, h3⟩
theorem Grow.po {F0 H0 : Hp} {ρ0 : En} (g : Grow F H F' H') (p : Po K mg F0 H0 σ ρ0 F H ρ) : Po K mg F0 H0 σ ρ0 F' H' ρ := by
  refine ⟨⟨p.st.mono.trans g.mono, fun a o e n => ?_, fun a e => ?_⟩, ⟨p.en.len, g.sub, fun i d e => ?_, fun i d e => ?_, p.en.inj, p.en.exnM g.mono⟩, p.ow, p.fil⟩
  · obtain ⟨e1, f1⟩ := p.st.keep a o e n
    exact ⟨g.keep a o e1, fun f => g.no a o e1 (f1 f)⟩
  · refine p.st.al a ?_
    cases q : H a with
    | none => rfl
    | some o => rw [g.keep a o q] at e; cases e
  · obtain ⟨v, e1, r⟩ := p.en.val i d e
    exact ⟨v, e1, r.mono g.mono⟩
  · obtain ⟨q, e1, f, o⟩ := p.en.own i d e
    obtain ⟨u, hu⟩ := o.obj
    exact ⟨q, e1, g.no q u hu f, o.at g.mono ((g.keep q u hu).trans hu.symm)⟩
/-- a value's content, whoever owns it -/
def Vw (K : PySem.W.Frag) (mg : MG) (F H : Hp) (v : V) (d : D) : Prop := RelD K mg F v d ∨ ∃ p, v = .ref p ∧ F p = .none ∧ OwnAt K mg F H p d
def view (ρ : En) : Rv → Option D
  | .val d => some d
  | .tmp d => some d
  | .brw i => match ρ.at i with
    | some (.val d) => some d
    | some (.own d) => some d
    | _ => .none
theorem RvR.vw {H0 : Hp} {v : V} {r : Rv} {d : D} (en : EnvR K mg F H σ ρ) (h : RvR K mg H0 F H σ ρ v r) (e : view ρ r = some d) : Vw K mg F H v d := by
  cases r with
  | val d' => cases e; exact .inl h
  | tmp d' => cases e; obtain ⟨p, z, _, f, o, _⟩ := h; exact .inr ⟨p, z, f, o⟩
  | brw i =>
    obtain ⟨hv, s, hs⟩ := h
    simp only [view, hs] at e
    cases s with
    | val d' =>
      cases e
      obtain ⟨v', e1, r⟩ := en.val i _ hs
      rw [hv] at e1; cases e1
      exact .inl r
    | own d' =>
      cases e
      obtain ⟨p, e1, f, o⟩ := en.own i _ hs
      rw [hv] at e1; cases e1
      exact .inr ⟨p, rfl, f, o⟩
    | exn x => cases e
theorem Vw.int {v : V} {i : Int} (h : Vw K mg F H v (.int i)) : v = .int i := by
  rcases h with h | ⟨_, _, _, o⟩
  · cases h; rfl
  · exact o.elim
theorem Vw.bl {v : V} {i : Bool} (h : Vw K mg F H v (.bl i)) : v = .bl i := by
  rcases h with h | ⟨_, _, _, o⟩
  · cases h; rfl
  · exact o.elim
theorem Vw.str {v : V} {i : Str} (h : Vw K mg F H v (.str i)) : v = .str i := by
  rcases h with h | ⟨_, _, _, o⟩
  · cases h; rfl
  · exact o.elim
theorem Vw.non {v : V} (h : Vw K mg F H v .non) : v = .non := by
  rcases h with h | ⟨_, _, _, o⟩
  · cases h; rfl
  · exact o.elim
theorem Vw.tup {v : V} {ds : List D} (s : Sub F H) (h : Vw K mg F H v (.tup ds)) : ∃ a xs, v = .ref a ∧ SqT K H a xs ∧ RelL K mg F xs ds := by
  rcases h with h | ⟨_, _, _, o⟩
  · cases h with | tup h r => exact ⟨_, _, rfl, h.sq s, r⟩
  · exact o.elim
theorem Vw.lst {v : V} {ds : List D} (s : Sub F H) (h : Vw K mg F H v (.lst ds)) : ∃ a xs, v = .ref a ∧ SqL K H a xs ∧ RelL K mg F xs ds := by
  rcases h with h | ⟨p, e, _, xs, h, r⟩
  · cases h with | lst h r => exact ⟨_, _, rfl, h.sq s, r⟩
  · exact ⟨p, xs, e, .of h, r⟩
theorem Vw.dct {v : V} {ks : List Key} {ds : List D} (s : Sub F H) (h : Vw K mg F H v (.dct ks ds)) : ∃ a kvs, v = .ref a ∧ Rd H a (.dK kvs) ∧ kvs.map (·.1) = ks ∧ RelL K mg F (kvs.map (·.2)) ds := by
  rcases h with h | ⟨p, e, _, xs, h, e2, r⟩
  · cases h with | dct h e r => exact ⟨_, _, rfl, s.rd h, e, r⟩
  · exact ⟨p, xs, e, .inl h, e2, r⟩
theorem Vw.ins {v : V} {C : Str} {ns : List Str} {ds : List D} (s : Sub F H) (h : Vw K mg F H v (.ins C ns ds)) :
    ∃ a Ca dx fs, v = .ref a ∧ mg C = some (.ref Ca) ∧ H a = some (.ins Ca dx fs) ∧ fs.map (·.1) = ns ∧ RelL K mg F (fs.map (·.2)) ds := by
  rcases h with h | ⟨p, e, _, Ca, dx, fs, c, h, e2, r⟩
  · cases h with | ins c h e r => exact ⟨_, _, _, _, rfl, c, s.ins h, e, r⟩
  · exact ⟨p, Ca, dx, fs, e, c, h, e2, r⟩
inductive VwL (K : PySem.W.Frag) (mg : MG) (F H : Hp) : List V → List D → Prop
  | nil : VwL K mg F H [] []
  | cons {v : V} {vs : List V} {d : D} {ds : List D} : Vw K mg F H v d → VwL K mg F H vs ds → VwL K mg F H (v :: vs) (d :: ds)
inductive Rr where
  | val (d : D) | tmp (d : D)
/-- what an operation gives: frozen data, or a new thing -/
def GOut (K : PySem.W.Frag) (mg : MG) (F H : Hp) (Q : V → Hp → Prop) : Option Rr → Prop
  | some (.val d) => ∀ v F' H', Grow F H F' H' → RelD K mg F' v d → Q v H'
  | some (.tmp d) => ∀ p F' H', Grow F H F' H' → H p = .none → F' p = .none → OwnAt K mg F' H' p d → Q (.ref p) H'
  | .none => False
def lift (ρ : En) : Option Rr → Out Rv
  | some (.val d) => .ok (.val d) ρ
  | some (.tmp d) => .ok (.tmp d) ρ
  | .none => .bad
abbrev FinE (K : PySem.W.Frag) (mg : MG) (W : Value → Option Addr → St → Hp → Prop) (F0 H0 : Hp) (σ : St) (ρ0 : En) (Q : V → Hp → Prop) (o : Out Rv) : Prop :=
  Fin K mg W (fun F H ρ v r => RvR K mg H0 F H σ ρ v r) F0 H0 σ ρ0 Q o
theorem FinE.gout {W : Value → Option Addr → St → Hp → Prop} {F0 H0 : Hp} {ρ0 : En} {Q : V → Hp → Prop} {g : Option Rr} (p : Po K mg F0 H0 σ ρ0 F H ρ) (h : FinE K mg W F0 H0 σ ρ0 Q (lift ρ g)) : GOut K mg F H Q g := by
  cases g with
  | none => exact h
  | some r =>
    cases r with
    | val d => exact fun v F' H' g r => h v F' H' (g.po p) r
    | tmp d =>
      intro q F' H' g e f o
      refine h (.ref q) F' H' (g.po p) ⟨q, rfl, p.st.al q e, f, o, fun ⟨i, d', e1, e2⟩ => ?_⟩
      obtain ⟨q', e3, _, o'⟩ := p.en.own i d' e1
      rw [e2] at e3; cases e3
      obtain ⟨u, hu⟩ := o'.obj
      rw [e] at hu; cases hu
end
end Mp

/-! Mp2: operations on data, and that the machine's operations do them. -/
namespace Mp
open PySem L2 PyProof.Rows

def lim : Nat := 16777216
theorem lim_eq : lim = sizeLine := sizeLine_eq.symm

/-! ### the operations -/
mutual
def D.py : D → Option PyData
  | .non => some .none
  | .bl b => some (.bool b)
  | .int i => some (.int i)
  | .str s => some (.str s)
  | .tup l => (D.pys l).map .tuple
  | .lst l => (D.pys l).map .list
  | .dct _ _ => none
  | .ins _ _ _ => none
def D.pys : List D → Option (List PyData)
  | [] => some []
  | d :: l => match d.py, D.pys l with
    | some x, some y => some (x :: y)
    | _, _ => none
end
def D.sc : D → D → Bool
  | .non, .non => true
  | .non, .int _ => true
  | .int _, .non => true
  | .non, .bl _ => true
  | .bl _, .non => true
  | .non, .str _ => true
  | .str _, .non => true
  | .int _, .int _ => true
  | .bl _, .bl _ => true
  | .str _, .str _ => true
  | .int _, .str _ => true
  | .str _, .int _ => true
  | .bl _, .str _ => true
  | .str _, .bl _ => true
  | _, _ => false
def D.flat : D → Bool
  | .non => true
  | .bl _ => true
  | .int _ => true
  | .str _ => true
  | _ => false
def D.eqf : D → D → Bool
  | .non, .non => true
  | .bl a, .bl b => a == b
  | .bl a, .int b => (if a then 1 else 0) == b
  | .int a, .bl b => a == (if b then 1 else 0)
  | .int a, .int b => a == b
  | .str a, .str b => a == b
  | _, _ => false
/-- equal: scalars of the same kind, or what a text of them tells -/
def cEq (a b : D) : Option Bool := if D.sc a b = true then some (D.eqf a b) else match a.py, b.py with
  | some x, some y => if (SeqAt.shaped x && SeqAt.shaped y) = true then some (PyData.eqv x y) else none
  | _, _ => none
def D.key : D → Option Key
  | .int i => some (.inl i)
  | .str s => some (.inr s)
  | _ => none
def dGet : List Key → List D → Key → Option D
  | k :: ks, d :: ds, x => if k = x then some d else dGet ks ds x
  | _, _, _ => none
def dPut (ks : List Key) (ds : List D) (x : Key) (e : D) : List Key × List D :=
  if (ks.any fun k => decide (k = x)) = true then (ks, (ks.zip ds).map fun p => if p.1 = x then e else p.2) else (ks ++ [x], ds ++ [e])
def cIn (a b : D) : Option Bool := match b with
  | .lst l => if (a.flat && l.all D.flat) = true then some (l.any fun y => D.eqf y a) else match a.py, D.pys l with
    | some x, some ys => if (SeqAt.shaped x && SeqAt.shaped (.list ys)) = true then some (ys.any fun z => PyData.eqv z x) else none
    | _, _ => none
  | .tup l => if (a.flat && l.all D.flat) = true then some (l.any fun y => D.eqf y a) else match a.py, D.pys l with
    | some x, some ys => if (SeqAt.shaped x && SeqAt.shaped (.tuple ys)) = true then some (ys.any fun z => PyData.eqv z x) else none
    | _, _ => none
  | .dct ks ds => a.key.map fun k => (dGet ks ds k).isSome
  | .str z => match a with
    | .str x => match x.cps.toList with
      | [c] => some (decide (c ∈ z.cps.toList))
      | _ => none
    | _ => none
  | _ => none
inductive Bo where
  | add | sub | mul | fdiv | mod | pow
def Bo.op : Bo → Operator
  | .add => .Add
  | .sub => .Sub
  | .mul => .Mult
  | .fdiv => .FloorDiv
  | .mod => .Mod
  | .pow => .Pow
def Bo.ap : Bo → D → D → Option Rr
  | .add, .int i, .int j => some (.val (.int (i + j)))
  | .add, .str a, .str b => if a.length + b.length ≤ lim then some (.val (.str (a ++ b))) else none
  | .add, .tup a, .tup b => if a.length + b.length ≤ lim then some (.val (.tup (a ++ b))) else none
  | .add, .lst a, .lst b => if a.length + b.length ≤ lim then some (.tmp (.lst (a ++ b))) else none
  | .sub, .int i, .int j => some (.val (.int (i - j)))
  | .mul, .int i, .int j => if (-(2 ^ 64) < i ∧ ¬ 2 ^ 64 ≤ i) ∨ (-(2 ^ 64) < j ∧ ¬ 2 ^ 64 ≤ j) then some (.val (.int (i * j))) else none
  | .mul, .str a, .int j => if -(2 ^ 31) ≤ j ∧ ¬ 2 ^ 31 ≤ j ∧ a.length ≤ lim ∧ a.length * j.toNat ≤ lim then some (.val (.str (Txt.mul a j))) else none
  | .fdiv, .int i, .int j => if j ≠ 0 ∧ j.natAbs < 1073741824 then some (.val (.int (i.fdiv j))) else none
  | .mod, .int i, .int j => if j ≠ 0 then some (.val (.int (i.fmod j))) else none
  | .pow, .int i, .int j => if 0 ≤ j ∧ j ≤ 1000000 ∧ i.natAbs < 2 ^ 64 then some (.val (.int (i ^ j.toNat))) else none
  | _, _, _ => none
inductive Co where
  | eq | ne | lt | le | gt | ge | isin | notin
def Co.op : Co → CmpOp
  | .eq => .Eq
  | .ne => .NotEq
  | .lt => .Lt
  | .le => .LtE
  | .gt => .Gt
  | .ge => .GtE
  | .isin => .In
  | .notin => .NotIn
def bR (o : Option Bool) : Option Rr := o.map fun b => .val (.bl b)
def Co.ap : Co → D → D → Option Rr
  | .eq, a, b => bR (cEq a b)
  | .ne, a, b => bR ((cEq a b).map not)
  | .lt, .int i, .int j => bR (some (decide (i < j)))
  | .le, .int i, .int j => bR (some (decide (i ≤ j)))
  | .gt, .int i, .int j => bR (some (decide (j < i)))
  | .ge, .int i, .int j => bR (some (decide (j ≤ i)))
  | .isin, a, b => bR (cIn a b)
  | .notin, a, b => bR ((cIn a b).map not)
  | _, _, _ => none
def truth : D → Option Bool
  | .non => some false
  | .bl b => some b
  | .int i => some (i != 0)
  | .str s => if s.length ≤ lim then some ((s.length : Int) != 0) else none
  | .tup l => some (!l.isEmpty)
  | .lst l => some (!l.isEmpty)
  | _ => none

/-! ### what they are of values -/
section
variable {K : PySem.W.Frag} {mg : MG} {F F' H H' : Hp} {σ : L2.St} {ρ ρ' : En}
mutual
theorem RelD.dp (s : Sub F H) : ∀ {v : V} {d : D} {p : PyData}, RelD K mg F v d → d.py = some p → Dp K H v p
  | _, _, _, .non, e => by simp only [D.py] at e; cases e; exact .non
  | _, _, _, .bl b, e => by simp only [D.py] at e; cases e; exact .bl b
  | _, _, _, .int b, e => by simp only [D.py] at e; cases e; exact .int b
  | _, _, _, .str b, e => by simp only [D.py] at e; cases e; exact .str b
  | _, .tup ds, _, .tup h r, e => by
    simp only [D.py] at e
    cases q : D.pys ds with
    | none => rw [q] at e; cases e
    | some ps => rw [q] at e; cases e; exact .tup (h.sq s) (RelL.dp s r q)
  | _, .lst ds, _, .lst h r, e => by
    simp only [D.py] at e
    cases q : D.pys ds with
    | none => rw [q] at e; cases e
    | some ps => rw [q] at e; cases e; exact .lst (h.sq s) (RelL.dp s r q)
  | _, _, _, .dct _ _ _, e => by simp only [D.py] at e; cases e
  | _, _, _, .ins _ _ _ _, e => by simp only [D.py] at e; cases e
theorem RelL.dp (s : Sub F H) : ∀ {vs : List V} {ds : List D} {ps : List PyData}, RelL K mg F vs ds → D.pys ds = some ps → DpAll K H vs ps
  | _, _, _, .nil, e => by simp only [D.pys] at e; cases e; exact .nil
  | _, d :: ds, _, .cons h r, e => by
    simp only [D.pys] at e
    cases q : d.py with
    | none => rw [q] at e; cases e
    | some p =>
      cases q2 : D.pys ds with
      | none => rw [q, q2] at e; cases e
      | some ps => rw [q, q2] at e; cases e; exact .cons (RelD.dp s h q) (RelL.dp s r q2)
end
theorem Vw.dp (s : Sub F H) {v : V} {d : D} {p : PyData} (h : Vw K mg F H v d) (e : d.py = some p) : Dp K H v p := by
  rcases h with h | ⟨a, ea, f, o⟩
  · exact h.dp s e
  · subst ea
    cases d with
    | lst ds =>
      obtain ⟨xs, h, r⟩ := o
      simp only [D.py] at e
      cases q : D.pys ds with
      | none => rw [q] at e; cases e
      | some ps => rw [q] at e; cases e; exact .lst (.of h) (RelL.dp s r q)
    | dct ks ds => simp only [D.py] at e; cases e
    | ins ks ds => simp only [D.py] at e; cases e
    | _ => exact o.elim
def D.fv : D → V
  | .non => .non
  | .bl b => .bl b
  | .int i => .int i
  | .str s => .str s
  | _ => .non
theorem RelD.fv {v : V} {d : D} (h : RelD K mg F v d) (f : d.flat = true) : v = d.fv := by
  cases h <;> first | rfl | cases f
theorem Vw.fv {v : V} {d : D} (h : Vw K mg F H v d) (f : d.flat = true) : v = d.fv := by
  rcases h with h | ⟨a, ea, _, o⟩
  · exact h.fv f
  · cases d <;> first | exact o.elim | cases f
theorem RelL.fv : ∀ {vs : List V} {ds : List D}, RelL K mg F vs ds → ds.all D.flat = true → vs = ds.map D.fv
  | _, _, .nil, _ => rfl
  | _, _, .cons h r, e => by
    simp only [List.all_cons, Bool.and_eq_true] at e
    rw [h.fv e.1, r.fv e.2]; rfl
theorem flat_fv {d : D} (f : d.flat = true) : flatV d.fv = true := by cases d <;> first | rfl | cases f
theorem eqf_fv {d e : D} (f : d.flat = true) (g : e.flat = true) : eqV d.fv e.fv = D.eqf d e := by cases d <;> first | (cases f; done) | (cases e <;> first | (cases g; done) | rfl)
theorem all_fv {ds : List D} (h : ds.all D.flat = true) : (ds.map D.fv).all flatV = true := by
  rw [List.all_map, List.all_eq_true] at *
  exact fun d m => flat_fv (h d m)
theorem any_fv {ds : List D} {a : D} (h : ds.all D.flat = true) (f : a.flat = true) : inV a.fv (ds.map D.fv) = ds.any fun y => D.eqf y a := by
  unfold inV
  rw [List.any_map]
  rw [List.all_eq_true] at h
  induction ds with
  | nil => rfl
  | cons d ds ih =>
    rw [List.any_cons, List.any_cons, ih fun x m => h x (List.mem_cons_of_mem _ m)]
    congr 1
    exact eqf_fv (h d List.mem_cons_self) f

/-- a two-place operation by data -/
def rO (K : PySem.W.Frag) (mg : MG) (g : D → D → Option Rr) : R2 := fun x y H Q => ∃ F d1 d2, Sub F H ∧ Vw K mg F H x d1 ∧ Vw K mg F H y d2 ∧ GOut K mg F H Q (g d1 d2)
theorem GOut.bl {Q : V → Hp → Prop} {b : Bool} (s : Sub F H) (h : GOut K mg F H Q (some (.val (.bl b)))) : Q (.bl b) H := h _ F H (.refl s) (.bl b)
theorem GOut.int {Q : V → Hp → Prop} {b : Int} (s : Sub F H) (h : GOut K mg F H Q (some (.val (.int b)))) : Q (.int b) H := h _ F H (.refl s) (.int b)
theorem GOut.str {Q : V → Hp → Prop} {b : Str} (s : Sub F H) (h : GOut K mg F H Q (some (.val (.str b)))) : Q (.str b) H := h _ F H (.refl s) (.str b)
theorem GOut.non {Q : V → Hp → Prop} (s : Sub F H) (h : GOut K mg F H Q (some (.val .non))) : Q .non H := h _ F H (.refl s) .non
theorem GOut.d {Q : V → Hp → Prop} {d : D} {v : V} (s : Sub F H) (h : GOut K mg F H Q (some (.val d))) (r : RelD K mg F v d) : Q v H := h _ F H (.refl s) r
/-- a new tuple -/
theorem GOut.tup {Q : V → Hp → Prop} {ds : List D} {xs : List V} (s : Sub F H) (h : GOut K mg F H Q (some (.val (.tup ds)))) (r : RelL K mg F xs ds) : ∀ p ob, H p = none → ob.dict = none → Q (.ref p) (upd H p (.frz ob (.tup xs))) := fun p ob e d =>
  h _ _ _ (.frz s e) (.tup (.inl ⟨ob, d, upd_same⟩) (r.mono (le_upd (s.none e))))
/-- a new list -/
theorem GOut.lst {Q : V → Hp → Prop} {ds : List D} {xs : List V} (s : Sub F H) (h : GOut K mg F H Q (some (.tmp (.lst ds)))) (r : RelL K mg F xs ds) : ∀ p, H p = none → Q (.ref p) (upd H p (.lst xs)) := fun p e =>
  h _ _ _ (.tmp s e) e (s.none e) ⟨xs, upd_same, r⟩
end

section
variable {X : Cx}
theorem op_catL : OpR X (binaryOp .Add) (fun x y H Q => ∃ l b xs zs, x = .ref l ∧ y = .ref b ∧ SqL X.K H l xs ∧ SqL X.K H b zs ∧ xs.length + zs.length ≤ sizeLine ∧ ∀ p, H p = none → Q (.ref p) (upd H p (.lst (xs ++ zs)))) := by
  intro pins s σ H x y v u Q I rx ry h
  obtain ⟨l, b, xs, zs, rfl, rfl, hH, hB, hz, q⟩ := h
  cases rx
  cases ry
  obtain ⟨its, r, ⟨⟨cls, dd, data, sl⟩, n, e, hc, hd, hdt⟩, hl⟩ := I.list hH
  obtain ⟨its2, r2, ⟨⟨cls2, dd2, data2, sl2⟩, n2, e2, hc2, hd2, hdt2⟩, hl2⟩ := I.list hB
  simp only at hc hd hdt hc2 hd2 hdt2
  subst hc hd hdt hc2 hd2 hdt2
  have e1 := r.length
  have e3 := r2.length
  have ea : its.toArray ++ its2.toArray = (its ++ its2).toArray := by simp
  refine concat_meets (T := "list") ⟨_, e, rfl⟩ ⟨_, e2, rfl⟩ noFill_list_add seq_list_add F.slot_list_add F.entry_list_add
    (F.args_list_add_2 _ _) (list_addW l b its.toArray its2.toArray n n2 none none sl sl2 (by simp; omega)) ⟨e, e2, ?_⟩
  rw [ea]
  exact ⟨.ref _, _, I.lnew (t' := s.toks) (r.append r2) (by rw [List.length_append]; omega), rfl, q _ I.fresh⟩
/-- t + u of tuples: what is new has no dict -/
theorem op_catX : OpR X (binaryOp .Add) (fun x y H Q => ∃ a b xs ys, x = .ref a ∧ y = .ref b ∧ SqT X.K H a xs ∧ SqT X.K H b ys ∧ xs.length + ys.length ≤ sizeLine ∧ (xs = [] → Q (.ref b) H) ∧ (xs ≠ [] → ys = [] → Q (.ref a) H) ∧
    (xs ≠ [] → ys ≠ [] → ∀ p ob, H p = none → ob.dict = none → Q (.ref p) (upd H p (.frz ob (.tup (xs ++ ys)))))) := fun pins s σ H x y v u Q I rx ry ⟨a, b, xs, ys, ea, eb, ha, hb, hz, c0, c1, c2⟩ => by
  subst ea; subst eb
  cases rx
  cases ry
  obtain ⟨its, r1, t1, _⟩ := I.tuple ha
  obtain ⟨its2, r2, t2, _⟩ := I.tuple hb
  by_cases h0 : xs = []
  · subst h0
    cases r1
    exact cat_tup0 t1 t2 ⟨.ref b, H, I, rfl, c0 rfl⟩
  · refine HT.cat_tup t1 t2 (fun z => h0 (r1.nil_iff.mp z)) (fun z => ⟨.ref a, H, I, rfl, c1 h0 (r2.nil_iff.mp z)⟩) (fun z => ?_) (by rw [← r1.length, ← r2.length]; exact hz)
    have fr := I.hok.fresh (Nat.le_refl s.heap.objs.size)
    exact ⟨.ref s.heap.objs.size, _, I.laid (t' := s.toks) (o := .frz _ (.tup (xs ++ ys))) (fun b ob q => Heap.get?_push_of_some _ q) (Nat.le_refl _) ⟨Heap.get?_push_size _ rfl, by rw [List.length_append]; exact hz, _, r1.append r2, IsTup.new _ _⟩, rfl, c2 h0 (fun w => z (r2.nil_iff.mpr w)) _ _ fr rfl⟩
theorem op_mul_str : OpR X (binaryOp .Mult) (fun x y H Q => ∃ a j, x = .str a ∧ y = .int j ∧ MulOk a j ∧ Q (.str (Txt.mul a j)) H) := by
  intro pins s σ H x y v u Q I rx ry h
  obtain ⟨a, j, rfl, rfl, hc, q⟩ := h
  obtain ⟨t, rfl⟩ := rx
  obtain ⟨t', rfl⟩ := ry
  exact SB.mul hc fun t2 k => ⟨.str (Txt.mul a j), H, I.tok _, ⟨_, rfl⟩, q⟩
theorem mulOk_of {a : Str} {j : Int} (c : -(2 ^ 31) ≤ j ∧ ¬ 2 ^ 31 ≤ j ∧ a.length ≤ lim ∧ a.length * j.toNat ≤ lim) : MulOk a j := by
  obtain ⟨c1, c2, c3, c4⟩ := c
  unfold lim at c3 c4
  refine ⟨?_, fun h1 _ => ?_, fun h1 _ => ?_⟩
  · rw [Bool.or_eq_false_iff]
    exact ⟨decide_eq_false (by omega), decide_eq_false (by omega)⟩
  · have h0 : (0 : Int) < j := by omega
    have : (2 ^ 31 : Int) ≤ (2 ^ 63 - 1) / j := by
      rw [Int.le_ediv_iff_mul_le h0]
      have : (2 ^ 31 : Int) * j ≤ 2 ^ 31 * (2 ^ 31 - 1) := Int.mul_le_mul_of_nonneg_left (by omega) (by decide)
      omega
    omega
  · unfold Builtin.Str.tooLong
    refine decide_eq_false ?_
    rw [sizeLine_eq]
    omega
theorem OpR.or {f : Value → Value → Sem Value} {r r' : R2} (h : OpR X f r) (h' : OpR X f r') : OpR X f (fun x y H Q => r x y H Q ∨ r' x y H Q) := by
  intro pins s σ H x y v u Q I rx ry q
  rcases q with q | q
  · exact h pins s σ H x y v u Q I rx ry q
  · exact h' pins s σ H x y v u Q I rx ry q
theorem bo_ok (o : Bo) : OpR X (binaryOp o.op) (rO X.K X.mG o.ap) := by
  intro pins s σ H x y v u Q I rx ry h
  obtain ⟨F, d1, d2, sb, v1, v2, g⟩ := h
  have no : ∀ {P : Prop}, GOut X.K X.mG F H Q none → P := fun z => z.elim
  cases o with
  | add =>
    cases d1 with
    | int i =>
      cases d2 with
      | int j => exact op_add pins s σ H x y v u Q I rx ry ⟨i, j, v1.int, v2.int, g.int sb⟩
      | _ => exact no g
    | str a =>
      cases d2 with
      | str b =>
        simp only [Bo.ap] at g
        split at g
        · rename_i c
          exact op_add_str pins s σ H x y v u Q I rx ry ⟨a, b, v1.str, v2.str, by rw [← lim_eq]; exact c, g.str sb⟩
        · exact no g
      | _ => exact no g
    | tup a =>
      cases d2 with
      | tup b =>
        simp only [Bo.ap] at g
        split at g
        · rename_i c
          obtain ⟨p, xs, e1, q1, r1⟩ := v1.tup sb
          obtain ⟨q, ys, e2, q2, r2⟩ := v2.tup sb
          have l1 := r1.length
          have l2 := r2.length
          refine op_catX pins s σ H x y v u Q I rx ry ⟨p, q, xs, ys, e1, e2, q1, q2, by rw [← lim_eq]; omega, fun z => ?_, fun z z2 => ?_, fun z z2 => g.tup sb (r1.append r2)⟩
          · subst z
            have ea : a = [] := List.length_eq_zero_iff.mp (by simpa using l1.symm)
            subst ea
            rcases v2 with w | ⟨_, _, _, w⟩
            · exact e2 ▸ g.d sb w
            · exact w.elim
          · subst z2
            have ea : b = [] := List.length_eq_zero_iff.mp (by simpa using l2.symm)
            subst ea
            rw [List.append_nil] at g
            rcases v1 with w | ⟨_, _, _, w⟩
            · exact e1 ▸ g.d sb w
            · exact w.elim
        · exact no g
      | _ => exact no g
    | lst a =>
      cases d2 with
      | lst b =>
        simp only [Bo.ap] at g
        split at g
        · rename_i c
          obtain ⟨p, xs, e1, q1, r1⟩ := v1.lst sb
          obtain ⟨q, ys, e2, q2, r2⟩ := v2.lst sb
          have l1 := r1.length
          have l2 := r2.length
          exact op_catL pins s σ H x y v u Q I rx ry ⟨p, q, xs, ys, e1, e2, q1, q2, by rw [← lim_eq]; omega, g.lst sb (r1.append r2)⟩
        · exact no g
      | _ => exact no g
    | _ => exact no g
  | sub =>
    cases d1 with
    | int i =>
      cases d2 with
      | int j => exact op_sub pins s σ H x y v u Q I rx ry ⟨i, j, v1.int, v2.int, g.int sb⟩
      | _ => exact no g
    | _ => exact no g
  | mul =>
    cases d1 with
    | int i =>
      cases d2 with
      | int j =>
        simp only [Bo.ap] at g
        split at g
        · rename_i c
          exact op_mul pins s σ H x y v u Q I rx ry ⟨i, j, v1.int, v2.int, c.imp (fun z => ⟨z.1, Int.not_le.mp z.2⟩) (fun z => ⟨z.1, Int.not_le.mp z.2⟩), g.int sb⟩
        · exact no g
      | _ => exact no g
    | str a =>
      cases d2 with
      | int j =>
        simp only [Bo.ap] at g
        split at g
        · rename_i c
          exact op_mul_str pins s σ H x y v u Q I rx ry ⟨a, j, v1.str, v2.int, mulOk_of c, g.str sb⟩
        · exact no g
      | _ => exact no g
    | _ => exact no g
  | fdiv =>
    cases d1 with
    | int i =>
      cases d2 with
      | int j =>
        simp only [Bo.ap] at g
        split at g
        · rename_i c
          exact op_fdivN pins s σ H x y v u Q I rx ry ⟨i, j, v1.int, v2.int, c, g.int sb⟩
        · exact no g
      | _ => exact no g
    | _ => exact no g
  | mod =>
    cases d1 with
    | int i =>
      cases d2 with
      | int j =>
        simp only [Bo.ap] at g
        split at g
        · rename_i c
          exact op_modN pins s σ H x y v u Q I rx ry ⟨i, j, v1.int, v2.int, c, g.int sb⟩
        · exact no g
      | _ => exact no g
    | _ => exact no g
  | pow =>
    cases d1 with
    | int i =>
      cases d2 with
      | int j =>
        simp only [Bo.ap] at g
        split at g
        · rename_i c
          exact op_pow pins s σ H x y v u Q I rx ry ⟨i, j, v1.int, v2.int, c, g.int sb⟩
        · exact no g
      | _ => exact no g
    | _ => exact no g
theorem key_v {K : PySem.W.Frag} {mg : MG} {F H : Hp} {x : V} {d : D} {k : Key} (h : Vw K mg F H x d) (e : d.key = some k) : x = kV k := by
  cases d <;> cases e
  · exact h.int
  · exact h.str
theorem dget_some {K : PySem.W.Frag} {mg : MG} {F : Hp} {x : Key} : ∀ {kvs : List (Key × V)} {ds : List D}, RelL K mg F (kvs.map (·.2)) ds → (valV kvs x).isSome = (dGet (kvs.map (·.1)) ds x).isSome
  | [], _, .nil => rfl
  | (k, v) :: kvs, _, .cons _ t => by
    simp only [List.map_cons, dGet]
    by_cases q : k = x
    · rw [if_pos q, valV_pos q]; rfl
    · rw [if_neg q, ← dget_some t, valV_neg q]
theorem ci_ok (neg : Bool) (hu : X.A.units + 65 < cLine) : OpR X (compareOp (if neg then .NotIn else .In)) (rO X.K X.mG fun a b => bR ((cIn a b).map (Bool.xor neg))) := by
  intro pins s σ H x y v u Q I rx ry h
  obtain ⟨F, d1, d2, sb, v1, v2, g⟩ := h
  have no : ∀ {P : Prop}, GOut X.K X.mG F H Q none → P := fun z => z.elim
  have flat : ∀ (p : Addr) (l : List D) (xs : List V), (d1.flat && l.all D.flat) = true → y = .ref p → (SqL X.K H p xs ∨ SqT X.K H p xs) → RelL X.K X.mG F xs l →
      GOut X.K X.mG F H Q (bR (some (Bool.xor neg (l.any fun y => D.eqf y d1)))) →
      wpAny (model X.prog X.w) X.A (compareOp (if neg then .NotIn else .In) v u) (EP X pins σ Q) X.xe s := by
    intro p l xs c e q r g
    simp only [Bool.and_eq_true] at c
    have ex := v1.fv c.1
    have el := r.fv c.2
    have ev : inV x xs = l.any fun y => D.eqf y d1 := by rw [ex, el]; exact any_fv c.2 c.1
    cases neg with
    | false => exact op_in_seq pins s σ H x y v u Q I rx ry ⟨p, xs, e, q, by rw [ex]; exact flat_fv c.1, by rw [el]; exact all_fv c.2, by rw [ev]; simpa using g.bl sb⟩
    | true => exact op_notIn_seq pins s σ H x y v u Q I rx ry ⟨p, xs, e, q, by rw [ex]; exact flat_fv c.1, by rw [el]; exact all_fv c.2, by rw [ev]; simpa using g.bl sb⟩
  cases d2 with
  | lst l =>
    simp only [cIn] at g
    split at g
    · rename_i c
      obtain ⟨p, xs, e1, q1, r1⟩ := v2.lst sb
      exact flat p l xs c e1 (.inl q1) r1 g
    · split at g
      · rename_i x' ys ex ey
        split at g
        · rename_i c
          simp only [Bool.and_eq_true] at c
          have h1 := v1.dp sb ex
          have h2 : Dp X.K H y (.list ys) := v2.dp sb (by simp only [D.py, ey]; rfl)
          cases neg with
          | false => exact op_inD hu pins s σ H x y v u Q I rx ry ⟨x', ys, h1, h2, c.1, c.2, by simpa using g.bl sb⟩
          | true => exact op_notInD hu pins s σ H x y v u Q I rx ry ⟨x', ys, h1, h2, c.1, c.2, by simpa using g.bl sb⟩
        · exact no g
      · exact no g
  | tup l =>
    simp only [cIn] at g
    split at g
    · rename_i c
      obtain ⟨p, xs, e1, q1, r1⟩ := v2.tup sb
      exact flat p l xs c e1 (.inr q1) r1 g
    · split at g
      · rename_i x' ys ex ey
        split at g
        · rename_i c
          simp only [Bool.and_eq_true] at c
          have h1 := v1.dp sb ex
          have h2 : Dp X.K H y (.tuple ys) := v2.dp sb (by simp only [D.py, ey]; rfl)
          obtain ⟨as, r1⟩ := Dp.reads I x' x v h1 rx
          obtain ⟨bs, r2⟩ := Dp.reads I (.tuple ys) y u h2 ry
          cases neg with
          | false => exact SeqAt.in_tuple_reads r2 r1 (SeqAt.canLay_of_shaped c.2) (SeqAt.canLay_of_shaped c.1) (room_in_shaped c.1 hu) ⟨.bl _, H, I, rfl, by simpa using g.bl sb⟩
          | true => exact SeqAt.notIn_tuple_reads r2 r1 (SeqAt.canLay_of_shaped c.2) (SeqAt.canLay_of_shaped c.1) (room_in_shaped c.1 hu) ⟨.bl _, H, I, rfl, by simpa using g.bl sb⟩
        · exact no g
      · exact no g
  | dct ks ds =>
    simp only [cIn] at g
    cases ek : d1.key with
    | none => rw [ek] at g; exact no g
    | some k =>
      rw [ek] at g
      obtain ⟨p, kvs, e, hq, e2, rl⟩ := v2.dct sb
      subst e; subst e2
      obtain rfl : u = Value.ref p := ry
      have ex : x = kV k := key_v v1 ek
      have dg : DGet H p x (valV kvs k) := .inl ⟨kvs, k, hq, ex, rfl⟩
      have es : (valV kvs k).isSome = (dGet (kvs.map (·.1)) ds k).isSome := dget_some rl
      cases neg with
      | false => exact d_in (by omega) I dg rx fun s' I' => ⟨.bl _, H, I', rfl, by rw [es]; simpa [bR] using g.bl sb⟩
      | true => exact d_notIn (by omega) I dg rx fun s' I' => ⟨.bl _, H, I', rfl, by rw [es]; simpa [bR] using g.bl sb⟩
  | str z =>
    cases d1 with
    | str a =>
      simp only [cIn] at g
      split at g
      · rename_i c ec
        have ea : a = ⟨#[c]⟩ := by
          cases a with | mk w =>
          have : w.toList = [c] := ec
          congr 1
          exact Array.toList_inj.mp (by simpa using this)
        subst ea
        cases neg with
        | false => exact op_in_sign pins s σ H x y v u Q I rx ry ⟨c, z, v1.str, v2.str, by simpa using g.bl sb⟩
        | true => exact op_notIn_sign pins s σ H x y v u Q I rx ry ⟨c, z, v1.str, v2.str, by simpa using g.bl sb⟩
      · exact no g
    | _ => exact no g
  | _ => exact no g
theorem sc_ok {K : PySem.W.Frag} {mg : MG} {F H : Hp} {x y : V} {a b : D} (h : Vw K mg F H x a) (k : Vw K mg F H y b) (c : D.sc a b = true) : scal x y = true ∧ decide (x = y) = D.eqf a b ∧ True := by
  cases a <;> cases b <;> first
    | (cases c; done)
    | (rw [h.fv rfl, k.fv rfl]
       refine ⟨rfl, ?_, trivial⟩
       first
         | rfl
         | exact dec_int
         | exact dec_bl
         | exact dec_str
         | exact decide_eq_false (by simp [D.fv]))
theorem co_ok (o : Co) (hu : X.A.units + 65 < cLine) : OpR X (compareOp o.op) (rO X.K X.mG o.ap) := by
  cases o with
  | isin =>
    intro pins s σ H x y v u Q I rx ry h
    obtain ⟨F, d1, d2, sb, v1, v2, g⟩ := h
    have e : Bool.xor false = id := by funext b; cases b <;> rfl
    exact ci_ok false hu pins s σ H x y v u Q I rx ry ⟨F, d1, d2, sb, v1, v2, by rw [e, Option.map_id]; exact g⟩
  | notin =>
    intro pins s σ H x y v u Q I rx ry h
    obtain ⟨F, d1, d2, sb, v1, v2, g⟩ := h
    have e : Bool.xor true = not := by funext b; cases b <;> rfl
    exact ci_ok true hu pins s σ H x y v u Q I rx ry ⟨F, d1, d2, sb, v1, v2, by rw [e]; exact g⟩
  | eq =>
    intro pins s σ H x y v u Q I rx ry h
    obtain ⟨F, d1, d2, sb, v1, v2, g⟩ := h
    simp only [Co.ap, cEq] at g
    split at g
    · rename_i c
      obtain ⟨e1, e2, e3⟩ := sc_ok v1 v2 c
      refine op_eq pins s σ H x y v u Q I rx ry ⟨e1, ?_⟩
      rw [e2]
      exact g.bl sb
    · split at g
      · rename_i x' y' ex ey
        split at g
        · rename_i c
          simp only [Bool.and_eq_true] at c
          exact op_eqD (by omega) pins s σ H x y v u Q I rx ry ⟨x', y', v1.dp sb ex, v2.dp sb ey, c.1, c.2, g.bl sb⟩
        · exact g.elim
      · exact g.elim
  | ne =>
    intro pins s σ H x y v u Q I rx ry h
    obtain ⟨F, d1, d2, sb, v1, v2, g⟩ := h
    simp only [Co.ap, cEq] at g
    split at g
    · rename_i c
      obtain ⟨e1, e2, e3⟩ := sc_ok v1 v2 c
      refine op_ne pins s σ H x y v u Q I rx ry ⟨e1, ?_⟩
      rw [e2]
      exact g.bl sb
    · split at g
      · rename_i x' y' ex ey
        split at g
        · rename_i c
          simp only [Bool.and_eq_true] at c
          exact op_neD (by omega) pins s σ H x y v u Q I rx ry ⟨x', y', v1.dp sb ex, v2.dp sb ey, c.1, c.2, g.bl sb⟩
        · exact g.elim
      · exact g.elim
  | lt =>
    intro pins s σ H x y v u Q I rx ry h
    obtain ⟨F, d1, d2, sb, v1, v2, g⟩ := h
    cases d1 with
    | int i =>
      cases d2 with
      | int j => exact op_lt pins s σ H x y v u Q I rx ry ⟨i, j, v1.int, v2.int, g.bl sb⟩
      | _ => exact g.elim
    | _ => exact g.elim
  | le =>
    intro pins s σ H x y v u Q I rx ry h
    obtain ⟨F, d1, d2, sb, v1, v2, g⟩ := h
    cases d1 with
    | int i =>
      cases d2 with
      | int j => exact op_le pins s σ H x y v u Q I rx ry ⟨i, j, v1.int, v2.int, g.bl sb⟩
      | _ => exact g.elim
    | _ => exact g.elim
  | gt =>
    intro pins s σ H x y v u Q I rx ry h
    obtain ⟨F, d1, d2, sb, v1, v2, g⟩ := h
    cases d1 with
    | int i =>
      cases d2 with
      | int j => exact op_gt pins s σ H x y v u Q I rx ry ⟨i, j, v1.int, v2.int, g.bl sb⟩
      | _ => exact g.elim
    | _ => exact g.elim
  | ge =>
    intro pins s σ H x y v u Q I rx ry h
    obtain ⟨F, d1, d2, sb, v1, v2, g⟩ := h
    cases d1 with
    | int i =>
      cases d2 with
      | int j => exact op_ge pins s σ H x y v u Q I rx ry ⟨i, j, v1.int, v2.int, g.bl sb⟩
      | _ => exact g.elim
    | _ => exact g.elim
theorem truth_ok {F H : Hp} {x : V} {d : D} {b : Bool} (sb : Sub F H) (v : Vw X.K X.mG F H x d) (e : truth d = some b) : TruV X.K x H b := by
  cases d with
  | non => cases e; rw [v.non]; rfl
  | bl b => cases e; rw [v.bl]; rfl
  | int b => cases e; rw [v.int]; rfl
  | str z =>
    simp only [truth] at e
    split at e
    · rename_i c
      cases e
      rw [v.str]
      exact ⟨by rw [← lim_eq]; exact c, rfl⟩
    · cases e
  | tup l =>
    cases e
    obtain ⟨p, xs, rfl, q, r⟩ := v.tup sb
    refine .inr (.inl ⟨xs, q, ?_⟩)
    cases r <;> rfl
  | lst l =>
    cases e
    obtain ⟨p, xs, rfl, q, r⟩ := v.lst sb
    refine .inl ⟨xs, q, ?_⟩
    cases r <;> rfl
  | dct _ _ => cases e
  | ins _ _ _ => cases e
end
end Mp

/-! Mp3: the small language, its evaluator. -/
namespace Mp
open PySem L2

inductive Ty where
  | b (n : String) | c (C : Str)
/-- built-in functions -/
inductive Bi where
  | len | int | abs | tuple | list | sum | all | any | max2 | min2 | str | sorted | max1 | min1
/-- what may be called where an exception is handled -/
def Bi.cool : Bi → Bool
  | .len => true
  | .int => true
  | .abs => true
  | .str => true
  | .sum => true
  | _ => false
/-- methods that change nothing -/
inductive Me where
  | join | strip
/-- questions to a list or a tuple -/
inductive Qm where
  | index | count
/-- methods that change the thing of a slot -/
inductive Mu where
  | append | pop | popAt | reverse | clear
mutual
inductive Ex where
  | var (i : Nat)
  | con (d : D)
  | gl (k : Nat)
  | bin (o : Bo) (a b : Ex)
  | cmp (o : Co) (a b : Ex)
  | chn (o o2 : Co) (a b c : Ex)
  | isn (neg : Bool) (a : Ex)
  | neg (a : Ex)
  | not (a : Ex)
  | and (l : Exs)
  | or (l : Exs)
  | ife (c : Te) (a b : Ex)
  | tup (l : Exs)
  | lst (l : Exs)
  | ix (a b : Ex)
  | sl (a : Ex) (lo hi : Oe)
  | fld (a : Ex) (f : Str)
  | cal (f : Nat) (l : Exs)
  | met (C : Str) (f : Nat) (a : Ex) (l : Exs)
  | mak (C : Str) (f : Nat) (l : Exs)
  | bi (b : Bi) (l : Exs)
  | isi (a : Ex) (ts : List Ty) (one : Bool)
  | me (m : Me) (a : Ex) (l : Exs)
  | mu (m : Mu) (i : Nat) (l : Exs)
  | lc (e : Ex) (own : List (Str × Nat)) (it : It) (tg : List Nat) (one : Bool) (ifs : Ot)
  /-- of the exception that slot i holds: a field, isinstance -/
  | xf (i : Nat) (f : Str)
  | xi (i : Nat) (ts : List Str) (one : Bool)
  /-- a def called with the exception that slot i holds -/
  | calx (f : Nat) (i : Nat)
  /-- [e for x in a], a a tuple, where an exception is handled -/
  | lch (e : Ex) (own : List (Str × Nat)) (a : Ex) (i : Nat)
  /-- a dict's display -/
  | dd (ks : List Key) (l : Exs)
  /-- a.index(e), a.count(e), a a list or a tuple -/
  | qme (m : Qm) (a e : Ex)
  /-- list(reversed(a)), tuple(reversed(a)), a a list -/
  | rev (t : Bool) (a : Ex)
  /-- list(range(a)), list(range(a, b)) -/
  | lrg1 (b : Ex)
  | lrg2 (a b : Ex)
  /-- what is not served -/
  | bad
/-- a test -/
inductive Te where
  | va (e : Ex)
  | no (t : Te)
  | an (l : Tes)
  | or (l : Tes)
inductive Tes where
  | nil
  | cons (t : Te) (l : Tes)
inductive Ot where
  | no
  | so (t : Te)
inductive Exs where
  | nil
  | cons (e : Ex) (l : Exs)
inductive Oe where
  | no
  | so (e : Ex)
inductive It where
  | one (a : Ex)
  | rng1 (a : Ex)
  | rng2 (a b : Ex)
  | zip (a b : Ex)
  | enu (a : Ex)
end
/-- targets of a store -/
inductive Tg where
  | nm (i : Nat)
  | tu (l : List Nat)
  | ix (i : Nat) (b : Ex)
  | kx (i : Nat) (b : Ex)
  | fl (i : Nat) (f : Str)
mutual
inductive St where
  | asg (t : Tg) (e : Ex)
  | aug (i : Nat) (o : Bo) (e : Ex)
  | par (i j : Nat) (a b : Ex)
  | exp (e : Ex)
  | ret (e : Ex)
  | retN
  | ifs (c : Te) (a b : Sts)
  | wh (c : Te) (b : Sts)
  | fo (tg : List Nat) (one : Bool) (it : It) (b : Sts)
  | pas
  | brk
  | cnt
  | rai (C : Str) (l : Exs)
  | tr (b : Sts) (hs : Hds)
  | agf (i : Nat) (f : Str) (o : Bo) (e : Ex)
  | agx (i : Nat) (b : Ex) (o : Bo) (e : Ex)
  /-- return sum([e for x in ..]), e may raise -/
  | rsm (e : Ex) (own : List (Str × Nat)) (it : It) (i : Nat)
  | bad
inductive Hds where
  | nil
  | cons (C : Str) (i : Option Nat) (s : Sts) (l : Hds)
inductive Sts where
  | nil
  | cons (s : St) (l : Sts)
end
/-- a def: its name, its class (or none), its parameters, its names by slots, which parameters it may change, its body -/
structure Fd where
  nm : Str
  cl : Option Str
  ps : List Str
  N : List Str
  mu : List Bool
  bd : Sts
/-- a class of exceptions: its name, its fields in the order of its parameters, the classes that it stands under -/
structure Xd where
  C : Str
  fs : List Str
  sup : List Str
/-- the text: its defs, its classes -/
structure Gs where
  fd : List Fd
  /-- classes of our own -/
  cls : List Str
  /-- a class, a name that none of its classes has -/
  na : List (Str × Str)
  /-- built-in names that the text leaves alone -/
  free : List Str
  /-- constants of the top -/
  con : List (Str × D)
  /-- classes of exceptions, the classes that an except clause or an isinstance names -/
  xc : List Xd
  xn : List Str
def Gs.xd (g : Gs) (C : Str) : Option Xd := g.xc.find? fun x => x.C == C
/-- whether an exception of the class C is of the class B -/
def Gs.xm (g : Gs) (C B : Str) : Option Bool := match g.xd C with
  | some x => if B ∈ g.xn then some (decide (B ∈ x.sup)) else none
  | none => none
def Gs.xms (g : Gs) (C : Str) : List Str → Option Bool
  | [] => some false
  | B :: Bs => match g.xm C B with
    | some true => some true
    | some false => g.xms C Bs
    | none => none
/-- a call's end: the value, the parameters as they are left -/
inductive CO where
  | ok (r : S) (ss : List S)
  | er (x : Xn) (ss : List S)
  | bad

/-! ### helpers -/
def fz (ρ : En) : Rv → Option (D × En)
  | .val d => some (d, ρ)
  | .tmp d => some (d, ρ)
  | .brw i => match ρ.at i with
    | some (.val d) => some (d, ρ)
    | some (.own d) => some (d, ρ.set i (some (.val d)))
    | _ => none
def fzs (ρ : En) : List Rv → Option (List D × En)
  | [] => some ([], ρ)
  | r :: rs => match fz ρ r with
    | some (d, ρ1) => match fzs ρ1 rs with
      | some (ds, ρ2) => some (d :: ds, ρ2)
      | none => none
    | none => none
def views (ρ : En) : List Rv → Option (List D)
  | [] => some []
  | r :: rs => match view ρ r, views ρ rs with
    | some d, some ds => some (d :: ds)
    | _, _ => none
def op2 (g : D → D → Option Rr) (r1 r2 : Rv) (ρ : En) : Out Rv := match view ρ r1, view ρ r2 with
  | some a, some b => lift ρ (g a b)
  | _, _ => .bad
def op1 (g : D → Option Rr) (r1 : Rv) (ρ : En) : Out Rv := match view ρ r1 with
  | some a => lift ρ (g a)
  | _ => .bad
def opL (g : List D → Option Rr) (rs : List Rv) (ρ : En) : Out Rv := match views ρ rs with
  | some ds => lift ρ (g ds)
  | _ => .bad
def tr1 (r : Rv) (ρ : En) : Out Bool := match view ρ r with
  | some d => match truth d with
    | some b => .ok b ρ
    | none => .bad
  | none => .bad
def atD (l : List D) (i : Int) : Option D := atI l i
def ixD : D → D → Option Rr
  | .lst l, .int i => (atD l i).map .val
  | .tup l, .int i => (atD l i).map .val
  | .str z, .int i => if z.length ≤ lim then (atI z.cps.toList i).map fun c => .val (.str ⟨#[c]⟩) else none
  | .dct ks ds, .int i => (dGet ks ds (.inl i)).map .val
  | .dct ks ds, .str i => (dGet ks ds (.inr i)).map .val
  | _, _ => none
def cutD {α : Type} (xs : List α) (lo hi : Option Int) : List α := (xs.drop (HT.sIx xs.length 0 lo)).take (HT.sIx xs.length xs.length hi - HT.sIx xs.length 0 lo)
def slD : D → Option Int → Option Int → Option Rr
  | .lst l, lo, hi => some (.tmp (.lst (cutD l lo hi)))
  | .tup l, lo, hi => some (.val (.tup (cutD l lo hi)))
  | .str z, lo, hi => if z.length ≤ lim then some (.val (.str (cutS z lo hi))) else none
  | _, _, _ => none
def fldD (na : List (Str × Str)) : D → Str → Option Rr
  | .ins C ns ds, f => if (C, f) ∈ na then ((ns.zip ds).lookup f).map .val else none
  | _, _ => none
def dInts : List D → Option (List Int)
  | [] => some []
  | .int i :: l => (dInts l).map (i :: ·)
  | _ => none
def dBls : List D → Option (List Bool)
  | [] => some []
  | .bl i :: l => (dBls l).map (i :: ·)
  | _ => none
def dStrs : List D → Option (List Str)
  | [] => some []
  | .str i :: l => (dStrs l).map (i :: ·)
  | _ => none
/-- ints in ascending order -/
def insI (x : Int) : List Int → List Int
  | [] => [x]
  | y :: l => if x ≤ y then x :: y :: l else y :: insI x l
def sortI : List Int → List Int
  | [] => []
  | x :: l => insI x (sortI l)
def maxI : Int → List Int → Int
  | x, [] => x
  | x, y :: l => maxI (if y ≤ x then x else y) l
def minI : Int → List Int → Int
  | x, [] => x
  | x, y :: l => minI (if x ≤ y then x else y) l
def Bi.ap : Bi → List D → Option Rr
  | .len, [.lst l] => some (.val (.int l.length))
  | .len, [.tup l] => some (.val (.int l.length))
  | .len, [.str z] => if z.length ≤ lim then some (.val (.int z.length)) else none
  | .int, [.int i] => some (.val (.int i))
  | .int, [.bl b] => some (.val (.int (if b then 1 else 0)))
  | .int, [.str a] => if a.length ≤ 640 then (intText? a).map fun n => .val (.int n) else none
  | .str, [.int i] => if i.natAbs.log2 < 1920 then some (.val (.str (Str.ofString (toString i)))) else none
  | .abs, [.int i] => some (.val (.int (if i < 0 then -i else i)))
  | .tuple, [.lst l] => some (.val (.tup l))
  | .tuple, [.tup l] => some (.val (.tup l))
  | .list, [.lst l] => some (.tmp (.lst l))
  | .list, [.tup l] => some (.tmp (.lst l))
  | .list, [.dct ks _] => some (.tmp (.lst (ks.map fun k => match k with | .inl i => .int i | .inr s => .str s)))
  | .max2, [.int i, .int j] => some (.val (.int (if j > i then j else i)))
  | .min2, [.int i, .int j] => some (.val (.int (if j < i then j else i)))
  | .sum, [.lst l] => (dInts l).map fun ns => .val (.int ns.sum)
  | .all, [.lst l] => (dBls l).map fun ns => .val (.bl (ns.all id))
  | .any, [.lst l] => (dBls l).map fun ns => .val (.bl (ns.any id))
  | .sorted, [.lst l] => match dInts l with
    | some ns => if ns.length < 64 then some (.tmp (.lst ((sortI ns).map .int))) else none
    | none => none
  | .max1, [.lst l] => match dInts l with
    | some (n :: ns) => some (.val (.int (maxI n ns)))
    | _ => none
  | .min1, [.lst l] => match dInts l with
    | some (n :: ns) => some (.val (.int (minI n ns)))
    | _ => none
  | _, _ => none
def Me.ap : Me → Str → List D → Option Rr
  | .join, a, [.lst l] => match dStrs l with
    | some ys => if (ys.map (·.length)).sum + ys.length * a.length ≤ 16777216 then some (.val (.str (Txt.join a ys))) else none
    | none => none
  | .strip, a, [.str b] => if a.length ≤ lim then some (.val (.str (Txt.stripChars a b))) else none
  | _, _, _ => none
/-- texts in a row, a text -/
def Qm.on : Qm → List D → D → Option Rr
  | .index, l, .str k => match dStrs l with
    | some ys => if k ∈ ys then some (.val (.int (ys.idxOf k : Nat))) else none
    | none => none
  | .count, l, .str k => match dStrs l with
    | some ys => if ys.length ≤ 1000 then some (.val (.int (ys.count k : Nat))) else none
    | none => none
  | _, _, _ => none
def Qm.apT (m : Qm) : D → D → Option Rr
  | .tup l, d => m.on l d
  | _, _ => none
def Qm.apL (m : Qm) : D → D → Option Rr
  | .lst l, d => m.on l d
  | _, _ => none
def revD (t : Bool) : D → Option Rr
  | .lst l => some (if t = true then .val (.tup l.reverse) else .tmp (.lst l.reverse))
  | _ => none
def Mu.ap : Mu → D → List D → Option (D × D)
  | .append, .lst l, [d] => if l.length < lim then some (.lst (l ++ [d]), .non) else none
  | .pop, .lst l, [] => match l[l.length - 1]? with
    | some d => some (.lst l.dropLast, d)
    | none => none
  | .popAt, .lst l, [.int i] => if -(2 ^ 63) ≤ i ∧ i < 2 ^ 63 then match seqIndex? i l.length with
      | some k => match l[k]? with
        | some d => some (.lst (l.eraseIdx k), d)
        | none => none
      | none => none
    else none
  | .reverse, .lst l, [] => some (.lst l.reverse, .non)
  | .clear, .lst l, [] => some (.lst [], .non)
  | _, _, _ => none
def D.isNon : D → Bool
  | .non => true
  | _ => false
def D.tyn : D → Option String
  | .non => some "NoneType"
  | .bl _ => some "bool"
  | .int _ => some "int"
  | .str _ => some "str"
  | .tup _ => some "tuple"
  | .lst _ => some "list"
  | .dct _ _ => some "dict"
  | .ins _ _ _ => none
def tyNames : List String := ["int", "str", "bool", "tuple", "list"]
def D.isA (cls : List Str) (d : D) : Ty → Option Bool
  | .b n => if n ∈ tyNames then match d with
    | .ins C _ _ => if C ∈ cls then some false else none
    | .non => some false
    | .dct _ _ => some false
    | .bl _ => some (n == "bool" || n == "int")
    | .int _ => some (n == "int")
    | .str _ => some (n == "str")
    | .tup _ => some (n == "tuple")
    | .lst _ => some (n == "list")
    else none
  | .c C => if C ∈ cls then match d with
    | .ins C' _ _ => if C = C' then some true else none
    | _ => some false
    else none
def D.isAny (cls : List Str) (d : D) : List Ty → Option Bool
  | [] => some false
  | t :: ts => match d.isA cls t with
    | some true => some true
    | some false => d.isAny cls ts
    | none => none
/-! ### calls -/
def prep : List Bool → List Rv → En → Option (List S × En)
  | [], [], ρ => some ([], ρ)
  | false :: ms, r :: rs, ρ => match fz ρ r with
    | some (d, ρ1) => match prep ms rs ρ1 with
      | some (ss, ρ2) => some (.val d :: ss, ρ2)
      | none => none
    | none => none
  | true :: ms, .tmp d :: rs, ρ => match prep ms rs ρ with
    | some (ss, ρ2) => some (.own d :: ss, ρ2)
    | none => none
  | true :: ms, .brw i :: rs, ρ => match prep ms rs ρ with
    | some (ss, ρ2) => match ρ2.at i with
      | some (.own d) => some (.own d :: ss, ρ2)
      | _ => none
    | none => none
  | _, _, _ => none
/-- the slots that a call may change -/
def lent : List Bool → List Rv → List Nat
  | true :: ms, .brw i :: rs => i :: lent ms rs
  | _ :: ms, _ :: rs => lent ms rs
  | _, _ => []
def back : List Bool → List Rv → List S → En → En
  | true :: ms, .brw i :: rs, s :: ss, ρ => (back ms rs ss ρ).set i (some s)
  | _ :: ms, _ :: rs, _ :: ss, ρ => back ms rs ss ρ
  | _, _, _, ρ => ρ
structure Cc where
  call : Nat → List S → CO
  callH : Nat → List S → CO
  g : Gs
  fu : Nat
  hot : Bool
/-- where an exception is handled -/
def Cc.heat (c : Cc) : Cc := { c with call := c.callH, hot := true }
def Cc.mus (c : Cc) (f : Nat) : List Bool := match c.g.fd[f]? with
  | some d => d.mu
  | none => []
def Cc.nmOf (c : Cc) (f : Nat) : Str := match c.g.fd[f]? with
  | some d => d.nm
  | none => ⟨#[]⟩
def callR (c : Cc) (f : Nat) (rs : List Rv) (ρ : En) : Out Rv :=
  match prep (c.mus f) rs ρ with
  | some (ss, ρ1) => if (lent (c.mus f) rs).Nodup then match c.call f ss with
      | .ok (.val d) ss' => .ok (.val d) (back (c.mus f) rs ss' ρ1)
      | .ok (.own d) ss' => .ok (.tmp d) (back (c.mus f) rs ss' ρ1)
      | .er x ss' => .er x (back (c.mus f) rs ss' ρ1)
      | _ => .bad
    else .bad
  | none => .bad
/-- a new instance: __init__ upon an empty one -/
def makeR (c : Cc) (C : Str) (f : Nat) (rs : List Rv) (ρ : En) : Out Rv :=
  match c.mus f with
  | true :: ms => match prep ms rs ρ with
    | some (ss, ρ1) => if (lent ms rs).Nodup then match c.call f (.own (.ins C [] []) :: ss) with
        | .ok (.val .non) (.own d :: ss') => .ok (.tmp d) (back ms rs ss' ρ1)
        | .er x (_ :: ss') => .er x (back ms rs ss' ρ1)
        | _ => .bad
      else .bad
    | none => .bad
  | _ => .bad
def muR (m : Mu) (i : Nat) (rs : List Rv) (ρ : En) : Out Rv :=
  match fzs ρ rs with
  | some (ds, ρ1) => match ρ1.at i with
    | some (.own d) => match m.ap d ds with
      | some (d', r) => .ok (.val r) (ρ1.set i (some (.own d')))
      | none => .bad
    | _ => .bad
  | none => .bad
/-! ### what is walked -/
/-- written data, or the list that a slot owns, as it stands at each turn -/
inductive Sr where
  | fix (l : List D)
  | dyn (i : Nat)
def signs (z : Str) : List D := z.cps.toList.map fun c => .str ⟨#[c]⟩
def srOf (ρ : En) : Rv → Option Sr
  | .brw i => match ρ.at i with
    | some (.val (.lst l)) => some (.fix l)
    | some (.val (.tup l)) => some (.fix l)
    | some (.val (.str l)) => some (.fix (signs l))
    | some (.own (.lst l)) => some (.dyn i)
    | _ => none
  | .val (.lst l) => some (.fix l)
  | .val (.tup l) => some (.fix l)
  | .val (.str l) => some (.fix (signs l))
  | .tmp (.lst l) => some (.fix l)
  | _ => none
/-- what a comprehension walks is frozen -/
def frzS : Sr → En → Out Sr
  | .fix l, ρ => .ok (.fix l) ρ
  | .dyn i, ρ => match fz ρ (.brw i) with
    | some (.lst l, ρ') => .ok (.fix l) ρ'
    | _ => .bad
def seqOf (ρ : En) (r : Rv) : Option (List D) := match view ρ r with
  | some (.lst l) => some l
  | some (.tup l) => some l
  | some (.str l) => some (signs l)
  | _ => none
def rngD (lo hi : Int) : List D := (List.range (hi - lo).toNat).map fun k => .int (lo + (k : Nat))
/-- written so that the kernel is soon stuck at a symbolic number -/
def big62 (i : Int) : Bool := decide (-(2 ^ 62) ≤ i) && !decide (2 ^ 62 ≤ i)
theorem big62_iff {i : Int} : big62 i = true ↔ -(2 ^ 62) ≤ i ∧ i < 2 ^ 62 := by
  simp only [big62, Bool.and_eq_true, decide_eq_true_eq, Bool.not_eq_true', decide_eq_false_iff_not, Int.not_le]
/-- small bounds, a small number of ints -/
def rgOkB (i j : Int) : Bool := big62 i && big62 j && decide ((j - i).toNat ≤ 16777216)
def wipeE (ρ : En) : List Nat → En
  | [] => ρ
  | v :: vs => (wipeE ρ vs).set v none
/-- a turn's target -/
def bindT (one : Bool) (tg : List Nat) (d : D) (ρ : En) : Option En :=
  if one then match tg with
    | [i] => some (ρ.set i (some (.val d)))
    | _ => none
  else match d with
    | .tup l => if l.length = tg.length then some ((tg.zip l).foldl (fun ρ p => ρ.set p.1 (some (.val p.2))) ρ) else none
    | .lst l => if l.length = tg.length then some ((tg.zip l).foldl (fun ρ p => ρ.set p.1 (some (.val p.2))) ρ) else none
    | _ => none
/-- the turns over what is written -/
def turns {α : Type} (f : D → α → Out α) (g : α → En) : List D → α → Out α
  | [], a => .ok a (g a)
  | d :: l, a => match f d a with
    | .ok a' _ => turns f g l a'
    | .er x ρ => .er x ρ
    | .bad => .bad
/-- the slots of the block as the frame has them -/
def mend (vs : List Nat) (ρ0 ρ : En) : En := vs.foldr (fun i r => r.set i (ρ0[i]?).join) ρ
mutual
def ev (c : Cc) : Ex → En → Out Rv
  | .var i, ρ => match ρ.at i with
    | some (.val d) => .ok (.val d) ρ
    | some (.own _) => .ok (.brw i) ρ
    | _ => .bad
  | .con d, ρ => .ok (.val d) ρ
  | .gl k, ρ => match c.g.con[k]? with
    | some p => .ok (.val p.2) ρ
    | none => .bad
  | .bin o a b, ρ => (ev c a ρ).bind fun x ρ => (ev c b ρ).bind fun y ρ => op2 o.ap x y ρ
  | .cmp o a b, ρ => (ev c a ρ).bind fun x ρ => (ev c b ρ).bind fun y ρ => op2 o.ap x y ρ
  | .chn o o2 a b e, ρ => (ev c a ρ).bind fun x ρ => (ev c b ρ).bind fun y ρ => match op2 o.ap x y ρ with
    | .ok (.val (.bl true)) ρ => (ev c e ρ).bind fun z ρ => op2 o2.ap y z ρ
    | .ok (.val (.bl false)) ρ => .ok (.val (.bl false)) ρ
    | _ => .bad
  | .isn neg a, ρ => (ev c a ρ).bind fun x ρ => op1 (fun d => some (.val (.bl (Bool.xor neg d.isNon)))) x ρ
  | .neg a, ρ => (ev c a ρ).bind fun x ρ => op1 (fun d => match d with | .int i => some (.val (.int (-i))) | _ => none) x ρ
  | .not a, ρ => (ev c a ρ).bind fun x ρ => op1 (fun d => (truth d).map fun b => .val (.bl (!b))) x ρ
  | .and l, ρ => evA c true l ρ
  | .or l, ρ => evA c false l ρ
  | .ife t a b, ρ => (evT c t ρ).bind fun k ρ => if k then ev c a ρ else ev c b ρ
  | .tup l, ρ => (evs c l ρ).bind fun rs ρ => match fzs ρ rs with
    | some (ds, ρ) => if ds.length ≤ lim then .ok (.val (.tup ds)) ρ else .bad
    | none => .bad
  | .lst l, ρ => (evs c l ρ).bind fun rs ρ => match fzs ρ rs with
    | some (ds, ρ) => if ds.length ≤ lim then .ok (.tmp (.lst ds)) ρ else .bad
    | none => .bad
  | .ix a b, ρ => (ev c a ρ).bind fun x ρ => (ev c b ρ).bind fun y ρ => op2 ixD x y ρ
  | .sl a lo hi, ρ => (ev c a ρ).bind fun x ρ => (evO c lo ρ).bind fun l ρ => (evO c hi ρ).bind fun h ρ => op1 (fun d => slD d l h) x ρ
  | .fld a f, ρ => (ev c a ρ).bind fun x ρ => op1 (fun d => fldD c.g.na d f) x ρ
  | .cal f l, ρ => (evs c l ρ).bind fun rs ρ => callR c f rs ρ
  | .met C f a l, ρ => if c.hot = true then .bad else (ev c a ρ).bind fun x ρ => match view ρ x with
    | some (.ins C' ns _) => if C' = C ∧ c.nmOf f ∉ ns then (evs c l ρ).bind fun rs ρ => callR c f (x :: rs) ρ else .bad
    | _ => .bad
  | .mak C f l, ρ => if c.hot = true then .bad else (evs c l ρ).bind fun rs ρ => makeR c C f rs ρ
  | .bi b l, ρ => if (c.hot && !b.cool) = true then .bad else (evs c l ρ).bind fun rs ρ => opL b.ap rs ρ
  | .isi a ts _, ρ => (ev c a ρ).bind fun x ρ => op1 (fun d => (d.isAny c.g.cls ts).map fun b => .val (.bl b)) x ρ
  | .me m a l, ρ => (ev c a ρ).bind fun x ρ => match x with
    | .val (.str z) => (evs c l ρ).bind fun rs ρ => opL (m.ap z) rs ρ
    | _ => .bad
  | .mu m i l, ρ => match ρ.at i with
    | some (.own (.lst _)) => (evs c l ρ).bind fun rs ρ => muR m i rs ρ
    | _ => .bad
  | .lc e own it tg one ifs, ρ => if c.hot = true then .bad else ((evI c it ρ).bind frzS).bind fun s ρ => match s with
    | .fix l => match turns (fun d (a : List D × En) => match bindT one tg d (wipeE a.2 (own.map (·.2))) with
        | some ρ1 => (evF c ifs ρ1).bind fun k ρ2 => if k then (ev c e ρ2).bind fun r ρ3 => match fz ρ3 r with
            | some (x, ρ4) => if a.1.length < lim then .ok (a.1 ++ [x], mend (own.map (·.2)) ρ ρ4) ρ4 else .bad
            | none => .bad
          else .ok (a.1, mend (own.map (·.2)) ρ ρ2) ρ2
        | none => .bad) (·.2) l ([], ρ) with
      | .ok a ρ => .ok (.tmp (.lst a.1)) ρ
      | .er _ _ => .bad
      | .bad => .bad
    | .dyn _ => .bad
  | .xf i f, ρ => match ρ.at i with
    | some (.exn x) => match (x.fs.zip x.vs).lookup f with
      | some d => if (match c.g.xd x.C with | some xd => decide (f ∈ xd.fs) | none => false) = true then .ok (.val d) ρ else .bad
      | none => .bad
    | _ => .bad
  | .xi i ts _, ρ => match ρ.at i with
    | some (.exn x) => match c.g.xms x.C ts with
      | some b => .ok (.val (.bl b)) ρ
      | none => .bad
    | _ => .bad
  | .calx f i, ρ => match ρ.at i with
    | some (.exn x) => if c.hot = true then match c.call f [.exn x] with
        | .ok (.val d) _ => .ok (.val d) ρ
        | .ok (.own d) _ => .ok (.tmp d) ρ
        | _ => .bad
      else .bad
    | _ => .bad
  | .lch e own a i, ρ => if c.hot = true then ((ev c a ρ).bind fun x ρ => match x with | .val (.tup l) => .ok (Sr.fix l) ρ | _ => .bad).bind fun s ρ => match s with
    | .fix l => match turns (fun d (a : List D × En) => match bindT true [i] d (wipeE a.2 (own.map (·.2))) with
        | some ρ1 => (Out.ok true ρ1).bind fun k ρ2 => if k then (ev c e ρ2).bind fun r ρ3 => match fz ρ3 r with
            | some (x, ρ4) => if a.1.length < lim then .ok (a.1 ++ [x], mend (own.map (·.2)) ρ ρ4) ρ4 else .bad
            | none => .bad
          else .ok (a.1, mend (own.map (·.2)) ρ ρ2) ρ2
        | none => .bad) (·.2) l ([], ρ) with
      | .ok a ρ => .ok (.tmp (.lst a.1)) ρ
      | .er _ _ => .bad
      | .bad => .bad
    | .dyn _ => .bad
    else .bad
  | .dd ks l, ρ => (evs c l ρ).bind fun rs ρ => match fzs ρ rs with
    | some (ds, ρ) => if ks.Nodup ∧ ks.length = ds.length ∧ ks.length ≤ 15 then .ok (.tmp (.dct ks ds)) ρ else .bad
    | none => .bad
  | .qme m a e, ρ => (ev c a ρ).bind fun x ρ => match view ρ x with
    | some (.tup _) => (ev c e ρ).bind fun y ρ => op2 m.apT x y ρ
    | some (.lst _) => (ev c e ρ).bind fun y ρ => op2 m.apL x y ρ
    | _ => .bad
  | .rev t a, ρ => if c.hot = true then .bad else (ev c a ρ).bind fun x ρ => op1 (revD t) x ρ
  | .lrg1 b, ρ => if c.hot = true then .bad else (ev c b ρ).bind fun y ρ => match y with
    | .val (.int j) => cond (rgOkB 0 j) (.ok (.tmp (.lst (rngD 0 j))) ρ) .bad
    | _ => .bad
  | .lrg2 a b, ρ => if c.hot = true then .bad else (ev c a ρ).bind fun x ρ => (ev c b ρ).bind fun y ρ => match x, y with
    | .val (.int i), .val (.int j) => cond (rgOkB i j) (.ok (.tmp (.lst (rngD i j))) ρ) .bad
    | _, _ => .bad
  | .bad, _ => .bad
def evT (c : Cc) : Te → En → Out Bool
  | .va e, ρ => (ev c e ρ).bind fun x ρ => tr1 x ρ
  | .no a, ρ => (evT c a ρ).bind fun b ρ => .ok (!b) ρ
  | .an l, ρ => evW c true l ρ
  | .or l, ρ => evW c false l ρ
def evs (c : Cc) : Exs → En → Out (List Rv)
  | .nil, ρ => .ok [] ρ
  | .cons e l, ρ => (ev c e ρ).bind fun x ρ => (evs c l ρ).bind fun xs ρ => .ok (x :: xs) ρ
/-- and, or as a value: all but the last are bools -/
def evA (c : Cc) (k : Bool) : Exs → En → Out Rv
  | .nil, _ => .bad
  | .cons e l, ρ => (ev c e ρ).bind fun x ρ => match l with
    | .nil => .ok x ρ
    | .cons _ _ => match x with
      | .val (.bl b) => if b = k then evA c k l ρ else .ok (.val (.bl b)) ρ
      | _ => .bad
/-- and, or as a test -/
def evW (c : Cc) (k : Bool) : Tes → En → Out Bool
  | .nil, _ => .bad
  | .cons e l, ρ => (evT c e ρ).bind fun b ρ => match l with
    | .nil => .ok b ρ
    | .cons _ _ => if b = k then evW c k l ρ else .ok b ρ
def evO (c : Cc) : Oe → En → Out (Option Int)
  | .no, ρ => .ok none ρ
  | .so e, ρ => (ev c e ρ).bind fun x ρ => match x with
    | .val (.int i) => .ok (some i) ρ
    | _ => .bad
def evF (c : Cc) : Ot → En → Out Bool
  | .no, ρ => .ok true ρ
  | .so e, ρ => evT c e ρ
def evI (c : Cc) : It → En → Out Sr
  | .one a, ρ => (ev c a ρ).bind fun x ρ => match srOf ρ x with
    | some s => .ok s ρ
    | none => .bad
  | .rng1 a, ρ => (ev c a ρ).bind fun x ρ => match x with
    | .val (.int i) => cond (big62 i) (.ok (.fix (rngD 0 i)) ρ) .bad
    | _ => .bad
  | .rng2 a b, ρ => (ev c a ρ).bind fun x ρ => (ev c b ρ).bind fun y ρ => match x, y with
    | .val (.int i), .val (.int j) => cond (big62 i && big62 j) (.ok (.fix (rngD i j)) ρ) .bad
    | _, _ => .bad
  | .zip a b, ρ => (ev c a ρ).bind fun x ρ => (ev c b ρ).bind fun y ρ => match seqOf ρ x, seqOf ρ y with
    | some l, some m => .ok (.fix ((l.zip m).map fun p => .tup [p.1, p.2])) ρ
    | _, _ => .bad
  | .enu a, ρ => (ev c a ρ).bind fun x ρ => match seqOf ρ x with
    | some l => .ok (.fix ((l.zipIdx).map fun p => .tup [.int p.2, p.1])) ρ
    | _ => .bad
end
/-! ### statements -/
inductive So where
  | nx (ρ : En)
  | rt (r : Rv) (ρ : En)
  | bk (ρ : En)
  | ct (ρ : En)
  | er (x : Xn) (ρ : En)
  | bad
def Out.then {α : Type} (o : Out α) (f : α → En → So) : So := match o with
  | .ok a ρ => f a ρ
  | .er x ρ => .er x ρ
  | .bad => .bad
def So.then (o : So) (f : En → So) : So := match o with
  | .nx ρ => f ρ
  | r => r
/-- a name's store -/
def asgR (i : Nat) (r : Rv) (ρ : En) : So := match r with
  | .val d => .nx (ρ.set i (some (.val d)))
  | .tmp d => .nx (ρ.set i (some (.own d)))
  | .brw j => match fz ρ (.brw j) with
    | some (d, ρ') => .nx (ρ'.set i (some (.val d)))
    | none => .bad
def tupR (tg : List Nat) (r : Rv) (ρ : En) : So := match fz ρ r with
  | some (d, ρ1) => match bindT false tg d ρ1 with
    | some ρ' => .nx ρ'
    | none => .bad
  | none => .bad
def ixR (i : Nat) (v k : Rv) (ρ : En) : So := match fz ρ v with
  | some (d, ρ1) => match k with
    | .val (.int z) => match ρ1.at i with
      | some (.own (.lst l)) => match ixN l.length z with
          | some j => .nx (ρ1.set i (some (.own (.lst (l.set j d)))))
          | none => .bad
      | _ => .bad
    | _ => .bad
  | none => .bad
def kxR (i : Nat) (v k : Rv) (ρ : En) : So := match fz ρ v with
  | some (d, ρ1) => match k with
    | .val kd => match kd.key with
      | some x => match ρ1.at i with
        | some (.own (.dct ks ds)) => if ks.length < 1000000 then .nx (ρ1.set i (some (.own (.dct (dPut ks ds x d).1 (dPut ks ds x d).2)))) else .bad
        | _ => .bad
      | none => .bad
    | _ => .bad
  | none => .bad
/-- a field's store, in the order of the fields -/
def fPut : List Str → List D → Str → D → List Str × List D
  | k :: ks, d :: ds, x, e => if k = x then (k :: ks, e :: ds) else (k :: (fPut ks ds x e).1, d :: (fPut ks ds x e).2)
  | _, _, x, e => ([x], [e])
def flR (na : List (Str × Str)) (i : Nat) (f : Str) (v : Rv) (ρ : En) : So := match fz ρ v with
  | some (d, ρ1) => match ρ1.at i with
    | some (.own (.ins C ns ds)) => if (C, f) ∈ na ∧ ns.length < 1000 then .nx (ρ1.set i (some (.own (.ins C (fPut ns ds f d).1 (fPut ns ds f d).2)))) else .bad
    | _ => .bad
  | none => .bad
/-- an exception is made -/
def raiR (g : Gs) (C : Str) (rs : List Rv) (ρ : En) : So := match fzs ρ rs with
  | some (ds, ρ1) => match g.xd C with
    | some x => if ds.length = x.fs.length ∧ ds.length ≤ 1000 then .er ⟨C, x.fs.reverse, ds.reverse⟩ ρ1 else .bad
    | none => .bad
  | none => .bad
def augI : Bo → Int → Int → Option Int
  | .add, x, y => some (x + y)
  | .sub, x, y => some (x - y)
  | _, _, _ => none
/-- o.f += e: the field as it was read ahead of e -/
def agfR (na : List (Str × Str)) (i : Nat) (C f : Str) (o : Bo) (x : Int) (r : Rv) (ρ : En) : So := match r with
  | .val (.int y) => match augI o x y with
    | some z => match ρ.at i with
      | some (.own (.ins C' _ _)) => if C' = C then flR na i f (.val (.int z)) ρ else .bad
      | _ => .bad
    | none => .bad
  | _ => .bad
def agxR (i : Nat) (z : Int) (o : Bo) (x : Int) (r : Rv) (ρ : En) : So := match r with
  | .val (.int y) => match augI o x y with
    | some w => ixR i (.val (.int w)) (.val (.int z)) ρ
    | none => .bad
  | _ => .bad
def cleanE (ρ : En) : Bool := ρ.all fun s => match s with
  | some (.exn _) => false
  | _ => true
def wipe1 : Option Nat → En → En
  | none, ρ => ρ
  | some j, ρ => ρ.set j none
/-- behind a suite -/
def fixS (j : Option Nat) : So → So
  | .nx ρ => if cleanE (wipe1 j ρ) = true then .nx (wipe1 j ρ) else .bad
  | .bk ρ => if cleanE (wipe1 j ρ) = true then .bk (wipe1 j ρ) else .bad
  | .ct ρ => if cleanE (wipe1 j ρ) = true then .ct (wipe1 j ρ) else .bad
  | .rt (.val d) ρ => if cleanE (wipe1 j ρ) = true then .rt (.val d) (wipe1 j ρ) else .bad
  | .rt (.tmp d) ρ => if cleanE (wipe1 j ρ) = true then .rt (.tmp d) (wipe1 j ρ) else .bad
  | _ => .bad
def forL (f : D → En → So) : List D → En → So
  | [], ρ => .nx ρ
  | d :: l, ρ => match f d ρ with
    | .nx ρ' => forL f l ρ'
    | .ct ρ' => forL f l ρ'
    | .bk ρ' => .nx ρ'
    | r => r
def dynL (f : D → En → So) (i : Nat) : Nat → Nat → En → So
  | 0, _, _ => .bad
  | fu + 1, k, ρ => match view ρ (.brw i) with
    | some (.lst l) => match l[k]? with
      | some d => match f d ρ with
        | .nx ρ' => dynL f i fu (k + 1) ρ'
        | .ct ρ' => dynL f i fu (k + 1) ρ'
        | .bk ρ' => .nx ρ'
        | r => r
      | none => .nx ρ
    | _ => .bad
def whL (t : En → Out Bool) (f : En → So) : Nat → En → So
  | 0, _ => .bad
  | fu + 1, ρ => (t ρ).then fun b ρ1 => if b then match f ρ1 with
      | .nx ρ' => whL t f fu ρ'
      | .ct ρ' => whL t f fu ρ'
      | .bk ρ' => .nx ρ'
      | r => r
    else .nx ρ1
def turnB (f : En → So) (one : Bool) (tg : List Nat) (d : D) (ρ : En) : So := match bindT one tg d ρ with
  | some ρ1 => f ρ1
  | none => .bad
/-- a turn of a comprehension whose item may raise -/
def stepLc (ee : En → Out Rv) (vs : List Nat) (i : Nat) (ρ0 : En) (d : D) (a : List D × En) : Out (List D × En) := match bindT true [i] d (wipeE a.2 vs) with
  | some ρ1 => (ee ρ1).bind fun r ρ3 => match fz ρ3 r with
    | some (x, ρ4) => if a.1.length < lim then .ok (a.1 ++ [x], mend vs ρ0 ρ4) ρ4 else .bad
    | none => .bad
  | none => .bad
def lcE (ei : En → Out Sr) (ee : En → Out Rv) (vs : List Nat) (i : Nat) (ρ : En) : Out Rv := (ei ρ).bind fun s ρ => match s with
  | .fix l => match turns (stepLc ee vs i ρ) (·.2) l ([], ρ) with
    | .ok a ρ => .ok (.tmp (.lst a.1)) ρ
    | .er x ρ2 => .er x (mend vs ρ ρ2)
    | .bad => .bad
  | .dyn _ => .bad
def It.isVar : It → Nat → Bool
  | .one (.var j), i => j == i
  | _, _ => false
mutual
def ex (c : Cc) : St → En → So
  | .asg t e, ρ => match t with
    | .nm i => (ev c e ρ).then fun r ρ => asgR i r ρ
    | .tu l => if c.hot = true then .bad else (ev c e ρ).then fun r ρ => tupR l r ρ
    | .ix i b => (ev c e ρ).then fun r ρ => match ρ.at i with
      | some (.own _) => (ev c b ρ).then fun k ρ => ixR i r k ρ
      | _ => .bad
    | .kx i b => (ev c e ρ).then fun r ρ => match ρ.at i with
      | some (.own _) => (ev c b ρ).then fun k ρ => kxR i r k ρ
      | _ => .bad
    | .fl i f => (ev c e ρ).then fun r ρ => flR c.g.na i f r ρ
  | .aug i o e, ρ => match ρ.at i with
    | some (.val (.int x)) => (ev c e ρ).then fun r ρ => match r with
      | .val (.int y) => match o with
        | .add => .nx (ρ.set i (some (.val (.int (x + y)))))
        | .sub => .nx (ρ.set i (some (.val (.int (x - y)))))
        | _ => .bad
      | _ => .bad
    | _ => .bad
  | .par i j a b, ρ => if c.hot = true then .bad else (ev c a ρ).then fun x ρ => (ev c b ρ).then fun y ρ => match x, y with
    | .val d, .val e => .nx ((ρ.set i (some (.val d))).set j (some (.val e)))
    | _, _ => .bad
  | .exp e, ρ => (ev c e ρ).then fun _ ρ => .nx ρ
  | .ret e, ρ => (ev c e ρ).then fun r ρ => .rt r ρ
  | .retN, ρ => .rt (.val .non) ρ
  | .ifs t a b, ρ => (evT c t ρ).then fun k ρ => if k then exs c a ρ else exs c b ρ
  | .wh t b, ρ => whL (evT c t) (exs c b) c.fu ρ
  | .fo tg one it b, ρ => if c.hot = true then .bad else (evI c it ρ).then fun s ρ => match s with
    | .fix l => forL (turnB (exs c b) one tg) l ρ
    | .dyn i => if it.isVar i = true then dynL (turnB (exs c b) one tg) i c.fu 0 ρ else .bad
  | .pas, ρ => .nx ρ
  | .brk, ρ => .bk ρ
  | .cnt, ρ => .ct ρ
  | .rai C l, ρ => if c.hot = true then .bad else (evs c l ρ).then fun rs ρ => raiR c.g C rs ρ
  | .tr b hs, ρ => if c.hot = true then .bad else match exs c b ρ with
    | .er x ρ1 => exh c hs x ρ1
    | r => r
  | .agf i f o e, ρ => match ρ.at i with
    | some (.own (.ins C ns ds)) => if (C, f) ∈ c.g.na then match (ns.zip ds).lookup f with
        | some (.int x) => (ev c e ρ).then fun r ρ => agfR c.g.na i C f o x r ρ
        | _ => .bad
      else .bad
    | _ => .bad
  | .agx i b o e, ρ => match ρ.at i with
    | some (.own (.lst _)) => (ev c b ρ).then fun k ρ => match k, ρ.at i with
      | .val (.int z), some (.own (.lst l)) => match atD l z with
        | some (.int x) => (ev c e ρ).then fun r ρ => agxR i z o x r ρ
        | _ => .bad
      | _, _ => .bad
    | _ => .bad
  | .rsm e own it i, ρ => if c.hot = true then .bad else ((lcE (fun ρ => (evI c it ρ).bind frzS) (ev c e) (own.map (·.2)) i ρ).bind fun r ρ => opL Bi.sum.ap [r] ρ).then fun r ρ => .rt r ρ
  | .bad, _ => .bad
/-- the clauses -/
def exh (c : Cc) : Hds → Xn → En → So
  | .nil, x, ρ => .er x ρ
  | .cons C i s l, x, ρ => match c.g.xm x.C C with
    | some true => match i with
      | none => fixS none (exs c.heat s ρ)
      | some j => fixS (some j) (exs c.heat s (ρ.set j (some (.exn x))))
    | some false => exh c l x ρ
    | none => .bad
def exs (c : Cc) : Sts → En → So
  | .nil, ρ => .nx ρ
  | .cons s l, ρ => (ex c s ρ).then fun ρ => exs c l ρ
end
/-! ### defs -/
def parm : List Bool → List S → En → Nat → List S
  | m :: ms, s :: ss, ρ, k => (if m then (ρ.at k).getD s else s) :: parm ms ss ρ (k + 1)
  | _, ss, _, _ => ss
def modes : List Bool → List S → Bool
  | [], [] => true
  | true :: ms, .own _ :: ss => modes ms ss
  | false :: ms, .val _ :: ss => modes ms ss
  | false :: ms, .exn _ :: ss => modes ms ss
  | _, _ => false
/-- the slots that the def may change are owned still -/
def muOwn : List Bool → En → Nat → Bool
  | [], _, _ => true
  | m :: ms, ρ, k => (if m then match ρ.at k with | some (.own _) => true | _ => false else true) && muOwn ms ρ (k + 1)
def endR (mu : List Bool) (ss : List S) : So → CO
  | .nx ρ => .ok (.val .non) (parm mu ss ρ 0)
  | .rt r ρ => match r with
    | .val d => .ok (.val d) (parm mu ss ρ 0)
    | .tmp d => .ok (.own d) (parm mu ss ρ 0)
    | .brw i => if mu[i]? = some true then match fz ρ (.brw i) with
        | some (d, ρ') => .ok (.val d) (parm mu ss ρ' 0)
        | none => .bad
      else match ρ.at i with
        | some (.own d) => if muOwn mu ρ 0 = true then .ok (.own d) (parm mu ss ρ 0) else .bad
        | some (.val d) => .ok (.val d) (parm mu ss ρ 0)
        | _ => .bad
  | .er x ρ => .er x (parm mu ss ρ 0)
  | _ => .bad
def coolO : CO → CO
  | .er _ _ => .bad
  | r => r
/-- hot: where an exception is handled; nothing is raised there -/
def runH (g : Gs) (fu : Nat) : Nat → Nat → List S → CO
  | 0, _, _ => .bad
  | n + 1, f, ss => match g.fd[f]? with
    | some d => if modes d.mu ss = true then coolO (endR d.mu ss (exs ⟨runH g fu n, runH g fu n, g, fu, true⟩ d.bd (ss.map some ++ List.replicate (d.N.length - ss.length) none))) else .bad
    | none => .bad
def run (g : Gs) (fu : Nat) : Nat → Nat → List S → CO
  | 0, _, _ => .bad
  | n + 1, f, ss => match g.fd[f]? with
    | some d => if modes d.mu ss = true then endR d.mu ss (exs ⟨run g fu n, runH g fu n, g, fu, false⟩ d.bd (ss.map some ++ List.replicate (d.N.length - ss.length) none)) else .bad
    | none => .bad
/-! ### for the proofs over the evaluator -/
def CC (g : Gs) (fu n : Nat) : Cc := ⟨run g fu n, runH g fu n, g, fu, false⟩
def CH (g : Gs) (fu n : Nat) : Cc := ⟨runH g fu n, runH g fu n, g, fu, true⟩
section
variable {g : Gs} {fu n f : Nat}
theorem CC_call : (CC g fu n).call = run g fu n := rfl
theorem CC_g : (CC g fu n).g = g := rfl
theorem CC_fu : (CC g fu n).fu = fu := rfl
theorem CC_hot : (CC g fu n).hot = false := rfl
theorem CC_heat : (CC g fu n).heat = CH g fu n := rfl
theorem CH_call : (CH g fu n).call = runH g fu n := rfl
theorem CH_g : (CH g fu n).g = g := rfl
theorem CH_fu : (CH g fu n).fu = fu := rfl
theorem CH_hot : (CH g fu n).hot = true := rfl
theorem run_at {d : Fd} {ss : List S} (e : g.fd[f]? = some d) (h : modes d.mu ss = true) : run g fu (n + 1) f ss = endR d.mu ss (exs (CC g fu n) d.bd (ss.map some ++ List.replicate (d.N.length - ss.length) none)) := by
  simp only [run, e, h, if_true]
  rfl
end
end Mp

/-! Mp4: what the evaluator says of an expression is what the machine does. -/
namespace Mp
open PySem L2 PyProof.Rows

/-! ### syntax -/
def nost : Expr → Bool
  | .Starred _ _ => false
  | _ => true
def noslice : Expr → Bool
  | .Slice _ _ _ _ => false
  | _ => true
def noset : Expr → Bool
  | .Set _ _ _ => false
  | _ => true
/-- an expression whose test is its value's truth -/
def plainT : Expr → Bool
  | .UnaryOp .Not _ _ => false
  | .BoolOp _ _ _ => false
  | .IfExp _ _ _ _ => false
  | .Compare _ _ _ _ => false
  | _ => true
def nocall0 : Expr → Bool
  | .Call _ [] _ _ => false
  | _ => true
theorem star_of {e : Expr} {es : List Expr} {env : Env} (h : nost e = true) : starEach (e :: es) env = (false, eval e env) :: starEach es env := by
  cases e <;> first | rfl | cases h
theorem any_of {env : Env} {pos : Pos} : ∀ {es : List Expr}, es.all nost = true → (backTo pos (starEach es env)).any (·.1) = false
  | [], _ => rfl
  | e :: es, h => by
    simp only [List.all_cons, Bool.and_eq_true] at h
    rw [star_of h.1]
    exact any_of h.2
theorem plainIx_of {e : Expr} (h : noslice e = true) : PlainIx e := by
  cases e <;> first | exact fun _ _ => rfl | cases h
theorem nomarks_of {o : CmpOp} {e : Expr} (h : noset e = true) : behindInMarks o e = false := by
  cases e <;> first | rfl | cases h
theorem lastmarks_of {o o2 : CmpOp} {e e2 : Expr} (h2 : noset e2 = true) : lastMarks [o, o2] [e, e2] = false := by
  cases e2 <;> first | rfl | cases h2
theorem plainT_of {e : Expr} {env : Env} (h : plainT e = true) (whole : Sem Value) : isTrue e env whole = (do let v ← whole; standAt e.pos; holding [v] (truthy v)) := by
  cases e <;> first | rfl | cases h | (rename_i o _ _; cases o <;> first | rfl | cases h)
theorem base_of {o : Expr} {m : Str} {env : Env} {w : Sem Value} (h : nocall0 o = true) : attributeBase o m env w = w := by
  cases o with
  | Call f as kws p =>
    cases as with
    | nil => cases h
    | cons a as => cases f <;> rfl
  | _ => rfl
def visB (sc : Scope) (x : Str) : Bool := sc.names.lookup x == some .local || sc.names.lookup x == some .cell || sc.names.lookup x == some .free
def glB (sc : Scope) (x : Str) : Bool := sc.names.lookup x == some .globalImplicit
theorem vis_of {sc : Scope} {x : Str} (h : visB sc x = true) : Vis sc x := by
  unfold visB at h
  simp only [Bool.or_eq_true, beq_iff_eq] at h
  rcases h with (h | h) | h
  · exact .inl h
  · exact .inr (.inl h)
  · exact .inr (.inr h)
def dbgB (x : Str) : Bool := !(x == ("__debug__" : Str)) && !(x == ("__classdict__" : Str)) && !(x == ("__name__" : Str))
def ckC : D → Const → Bool
  | .non, .none => true
  | .bl a, .bool b => a == b
  | .int a, .int b => a == b
  | .str a, .str b => a == b
  | _, _ => false

/-! ### readings -/
abbrev WW := Value → Option Addr → L2.St → Hp → Prop
section
variable {K : PySem.W.Frag} {mg : MG} {W : WW} {F0 H0 F H : Hp} {σ : L2.St} {ρ0 ρ : En}
/-- an expression's reading by its evaluator -/
def tev (K : PySem.W.Frag) (mg : MG) (W : WW) (e : En → Out Rv) : TE := fun σ H Q => ∃ F ρ, EnvR K mg F H σ ρ ∧ FinE K mg W F H σ ρ Q (e ρ)
abbrev FinB (K : PySem.W.Frag) (mg : MG) (W : WW) (F0 H0 : Hp) (σ : L2.St) (ρ0 : En) (Q : Bool → Hp → Prop) (o : Out Bool) : Prop := Fin K mg W (fun _ _ _ (b : Bool) (a : Bool) => b = a) F0 H0 σ ρ0 Q o
def ttv (K : PySem.W.Frag) (mg : MG) (W : WW) (e : En → Out Bool) : TT := fun σ H Q => ∃ F ρ, EnvR K mg F H σ ρ ∧ FinB K mg W F H σ ρ Q (e ρ)
def tmpA : V → Rv → Option Addr
  | .ref p, .tmp _ => some p
  | _, _ => none
def tmps : List V → List Rv → List Addr
  | v :: vs, r :: rs => (match tmpA v r with | some p => [p] | none => []) ++ tmps vs rs
  | _, _ => []
def RvRs (K : PySem.W.Frag) (mg : MG) (H0 F H : Hp) (σ : L2.St) (ρ : En) : List V → List Rv → Prop
  | [], [] => True
  | v :: vs, r :: rs => RvR K mg H0 F H σ ρ v r ∧ RvRs K mg H0 F H σ ρ vs rs ∧ ∀ p, tmpA v r = some p → p ∉ tmps vs rs
  | _, _ => False
abbrev FinL (K : PySem.W.Frag) (mg : MG) (W : WW) (F0 H0 : Hp) (σ : L2.St) (ρ0 : En) (Q : List V → Hp → Prop) (o : Out (List Rv)) : Prop := Fin K mg W (fun F H ρ b a => RvRs K mg H0 F H σ ρ b a) F0 H0 σ ρ0 Q o
def tev' (K : PySem.W.Frag) (mg : MG) (W : WW) (e : En → Out (List Rv)) : TA := fun σ H Q => ∃ F ρ, EnvR K mg F H σ ρ ∧ FinL K mg W F H σ ρ Q (e ρ)
theorem Stp.alP {P : Addr → Prop} {F' H' : Hp} (h : Stp F H P F' H') {a : Addr} (e : H' a = none) : H a = none := h.al a e
theorem RvR.base {H1 : Hp} {v : V} {r : Rv} (h : RvR K mg H1 F H σ ρ v r) (k : ∀ a, H1 a = none → H0 a = none) : RvR K mg H0 F H σ ρ v r := by
  cases r with
  | val d => exact h
  | tmp d => obtain ⟨p, e, h0, r⟩ := h; exact ⟨p, e, k p h0, r⟩
  | brw i => exact h
theorem RvRs.base {H1 : Hp} : ∀ {v : List V} {r : List Rv}, RvRs K mg H1 F H σ ρ v r → (∀ a, H1 a = none → H0 a = none) → RvRs K mg H0 F H σ ρ v r
  | [], [], _, _ => trivial
  | _ :: _, _ :: _, ⟨h, t, n⟩, k => ⟨h.base k, t.base k, n⟩
theorem RvRs.stay {F1 H1 : Hp} {ρ1 : En} : ∀ {v : List V} {r : List Rv}, RvRs K mg H0 F H σ ρ v r → Po K mg F H σ ρ F1 H1 ρ1 → RvRs K mg H0 F1 H1 σ ρ1 v r
  | [], [], _, _ => trivial
  | _ :: _, _ :: _, ⟨h, t, n⟩, p => ⟨h.stay p, t.stay p, n⟩
/-- one expression, then the rest -/
theorem bindE {α β : Type} {R : Hp → Hp → En → β → α → Prop} {Q : β → Hp → Prop} {e : En → Out Rv} {k : Rv → En → Out α} (p : Po K mg F0 H0 σ ρ0 F H ρ) (h : Fin K mg W R F0 H0 σ ρ0 Q ((e ρ).bind k))
    {Q1 : V → Hp → Prop} (f : ∀ x F1 H1 ρ1 r, Po K mg F H σ ρ F1 H1 ρ1 → Po K mg F0 H0 σ ρ0 F1 H1 ρ1 → RvR K mg H0 F1 H1 σ ρ1 x r → Fin K mg W R F0 H0 σ ρ0 Q (k r ρ1) → Q1 x H1) : tev K mg W e σ H Q1 := by
  refine ⟨F, ρ, p.en, ?_⟩
  cases q : e ρ with
  | ok r ρ1 =>
    rw [q] at h
    exact fun x F1 H1 p1 r1 => f x F1 H1 ρ1 r p1 (p.trans p1) (r1.base p.st.al) h
  | er x ρ1 =>
    rw [q] at h
    exact fun c d F1 H1 p1 x1 => h c d F1 H1 (p.trans p1) x1
  | bad =>
    rw [q] at h
    exact h.elim
theorem bindB {α β : Type} {R : Hp → Hp → En → β → α → Prop} {Q : β → Hp → Prop} {e : En → Out Bool} {k : Bool → En → Out α} (p : Po K mg F0 H0 σ ρ0 F H ρ) (h : Fin K mg W R F0 H0 σ ρ0 Q ((e ρ).bind k))
    {Q1 : Bool → Hp → Prop} (f : ∀ r F1 H1 ρ1, Po K mg F H σ ρ F1 H1 ρ1 → Po K mg F0 H0 σ ρ0 F1 H1 ρ1 → Fin K mg W R F0 H0 σ ρ0 Q (k r ρ1) → Q1 r H1) : ttv K mg W e σ H Q1 := by
  refine ⟨F, ρ, p.en, ?_⟩
  cases q : e ρ with
  | ok r ρ1 =>
    rw [q] at h
    intro x F1 H1 p1 e1
    subst e1
    exact f x F1 H1 ρ1 p1 (p.trans p1) h
  | er x ρ1 =>
    rw [q] at h
    exact fun c d F1 H1 p1 x1 => h c d F1 H1 (p.trans p1) x1
  | bad =>
    rw [q] at h
    exact h.elim
theorem bindL {α β : Type} {R : Hp → Hp → En → β → α → Prop} {Q : β → Hp → Prop} {e : En → Out (List Rv)} {k : List Rv → En → Out α} (p : Po K mg F0 H0 σ ρ0 F H ρ) (h : Fin K mg W R F0 H0 σ ρ0 Q ((e ρ).bind k))
    {Q1 : List V → Hp → Prop} (f : ∀ x F1 H1 ρ1 r, Po K mg F H σ ρ F1 H1 ρ1 → Po K mg F0 H0 σ ρ0 F1 H1 ρ1 → RvRs K mg H0 F1 H1 σ ρ1 x r → Fin K mg W R F0 H0 σ ρ0 Q (k r ρ1) → Q1 x H1) : tev' K mg W e σ H Q1 := by
  refine ⟨F, ρ, p.en, ?_⟩
  cases q : e ρ with
  | ok r ρ1 =>
    rw [q] at h
    exact fun x F1 H1 p1 r1 => f x F1 H1 ρ1 r p1 (p.trans p1) (r1.base p.st.al) h
  | er x ρ1 =>
    rw [q] at h
    exact fun c d F1 H1 p1 x1 => h c d F1 H1 (p.trans p1) x1
  | bad =>
    rw [q] at h
    exact h.elim
theorem op2_of {g : D → D → Option Rr} {r1 r2 : Rv} {x y : V} {Q : V → Hp → Prop} (p : Po K mg F0 H0 σ ρ0 F H ρ) (h : FinE K mg W F0 H0 σ ρ0 Q (op2 g r1 r2 ρ)) (v1 : RvR K mg H0 F H σ ρ x r1) (v2 : RvR K mg H0 F H σ ρ y r2) : rO K mg g x y H Q := by
  unfold op2 at h
  split at h
  · rename_i d1 d2 e1 e2
    exact ⟨F, d1, d2, p.en.sub, v1.vw p.en e1, v2.vw p.en e2, FinE.gout p h⟩
  · exact h.elim
theorem op1_of {g : D → Option Rr} {r1 : Rv} {x : V} {Q : V → Hp → Prop} (p : Po K mg F0 H0 σ ρ0 F H ρ) (h : FinE K mg W F0 H0 σ ρ0 Q (op1 g r1 ρ)) (v1 : RvR K mg H0 F H σ ρ x r1) : ∃ F d1, Sub F H ∧ Vw K mg F H x d1 ∧ GOut K mg F H Q (g d1) := by
  unfold op1 at h
  split at h
  · rename_i d1 e1
    exact ⟨F, d1, p.en.sub, v1.vw p.en e1, FinE.gout p h⟩
  · exact h.elim
theorem views_of {ρ : En} (en : EnvR K mg F H σ ρ) : ∀ {vs : List V} {rs : List Rv} {ds : List D}, RvRs K mg H0 F H σ ρ vs rs → views ρ rs = some ds → VwL K mg F H vs ds
  | [], [], ds, _, e => by cases e; exact .nil
  | v :: vs, r :: rs, ds, ⟨h, t, _⟩, e => by
    simp only [views] at e
    split at e
    · rename_i d ds' e1 e2
      cases e
      exact .cons (h.vw en e1) (views_of en t e2)
    · cases e
theorem opL_of {g : List D → Option Rr} {rs : List Rv} {xs : List V} {Q : V → Hp → Prop} (p : Po K mg F0 H0 σ ρ0 F H ρ) (h : FinE K mg W F0 H0 σ ρ0 Q (opL g rs ρ)) (v : RvRs K mg H0 F H σ ρ xs rs) : ∃ F ds, Sub F H ∧ VwL K mg F H xs ds ∧ GOut K mg F H Q (g ds) := by
  unfold opL at h
  split at h
  · rename_i ds e
    exact ⟨F, ds, p.en.sub, views_of p.en v e, FinE.gout p h⟩
  · exact h.elim
theorem at_set_same {ρ : En} {i : Nat} {s s' : S} (h : ρ.at i = some s) : En.at (ρ.set i (some s')) i = some s' := by
  unfold En.at at *
  have hi : i < ρ.length := by
    rcases Nat.lt_or_ge i ρ.length with z | z
    · exact z
    · rw [List.getElem?_eq_none z] at h; cases h
  rw [List.getElem?_set_self hi]
  rfl
theorem at_set_ne {ρ : En} {i j : Nat} {s' : Option S} (h : i ≠ j) : En.at (ρ.set i s') j = ρ.at j := by
  unfold En.at
  rw [List.getElem?_set_ne h]
/-- a thing at p becomes frozen data -/
theorem Sub.frz (s : Sub F H) {p : Addr} {d : D} (o : OwnAt K mg F H p d) : ∃ F', Le F F' ∧ Sub F' H ∧ F' p = H p ∧ ∀ a, a ≠ p → F' a = F a := by
  obtain ⟨u, hu⟩ := o.obj
  have nf : ∀ ob w, u ≠ .frz ob w := fun ob w z => by
    subst z
    cases d with
    | lst ds => obtain ⟨xs, h1, _⟩ := o; rw [hu] at h1; cases h1
    | dct ks ds => obtain ⟨xs, h1, _⟩ := o; rw [hu] at h1; cases h1
    | ins C ns ds => obtain ⟨Ca, dx, fs, _, h1, _⟩ := o; rw [hu] at h1; cases h1
    | _ => exact o.elim
  cases e : F p with
  | none =>
    refine ⟨upd F p u, fun a w q => ?_, fun a w q => ?_, upd_same.trans hu.symm, fun a z => upd_ne z⟩
    · rw [upd_ne (ne_of_none q e)]; exact q
    · by_cases z : a = p
      · subst z; rw [upd_same] at q; cases q; exact .inl hu
      · rw [upd_ne z] at q; exact s a w q
  | some w =>
    refine ⟨F, .refl, s, ?_, fun _ _ => rfl⟩
    rcases s p w e with z | ⟨_, ob, z⟩
    · exact e.trans z.symm
    · rw [hu] at z; cases z; exact absurd rfl (nf ob w)
/-- a value, its new thing perhaps frozen by now -/
def RvW (K : PySem.W.Frag) (mg : MG) (H0 F H : Hp) (σ : L2.St) (ρ : En) (v : V) : Rv → Prop
  | .val d => RelD K mg F v d
  | .tmp d => ∃ p, v = .ref p ∧ H0 p = none ∧ OwnAt K mg F H p d ∧ ¬ Own σ ρ p
  | .brw i => stAt σ i = some v ∧ ∃ s, ρ.at i = some s
def RvWs (K : PySem.W.Frag) (mg : MG) (H0 F H : Hp) (σ : L2.St) (ρ : En) : List V → List Rv → Prop
  | [], [] => True
  | v :: vs, r :: rs => RvW K mg H0 F H σ ρ v r ∧ RvWs K mg H0 F H σ ρ vs rs
  | _, _ => False
theorem RvR.w {v : V} {r : Rv} (h : RvR K mg H0 F H σ ρ v r) : RvW K mg H0 F H σ ρ v r := by
  cases r with
  | val d => exact h
  | tmp d => obtain ⟨p, e, h0, _, r⟩ := h; exact ⟨p, e, h0, r⟩
  | brw i => exact h
theorem RvRs.w : ∀ {v : List V} {r : List Rv}, RvRs K mg H0 F H σ ρ v r → RvWs K mg H0 F H σ ρ v r
  | [], [], _ => trivial
  | _ :: _, _ :: _, ⟨h, t, _⟩ => ⟨h.w, t.w⟩
/-- a step that freezes alone -/
structure Fzn (σ : L2.St) (F : Hp) (ρ : En) (F' : Hp) (ρ' : En) : Prop where
  le : Le F F'
  ow : ∀ p, Own σ ρ' p → Own σ ρ p
  fil : ∀ i s, ρ.at i = some s → ∃ s', ρ'.at i = some s'
theorem Fzn.refl : Fzn σ F ρ F ρ := ⟨.refl, fun _ z => z, fun _ s e => ⟨s, e⟩⟩
theorem Fzn.trans {F1 F2 : Hp} {ρ1 ρ2 : En} (a : Fzn σ F ρ F1 ρ1) (b : Fzn σ F1 ρ1 F2 ρ2) : Fzn σ F ρ F2 ρ2 :=
  ⟨a.le.trans b.le, fun p z => a.ow p (b.ow p z), fun i s e => let ⟨s1, e1⟩ := a.fil i s e; b.fil i s1 e1⟩
theorem RvW.fzn {F' : Hp} {ρ' : En} {v : V} {r : Rv} (h : RvW K mg H0 F H σ ρ v r) (k : Fzn σ F ρ F' ρ') : RvW K mg H0 F' H σ ρ' v r := by
  cases r with
  | val d => exact RelD.mono k.le h
  | tmp d => obtain ⟨p, e, h0, o, n⟩ := h; exact ⟨p, e, h0, o.at k.le rfl, fun z => n (k.ow p z)⟩
  | brw i => obtain ⟨e, s, hs⟩ := h; exact ⟨e, k.fil i s hs⟩
theorem RvWs.fzn {F' : Hp} {ρ' : En} : ∀ {v : List V} {r : List Rv}, RvWs K mg H0 F H σ ρ v r → Fzn σ F ρ F' ρ' → RvWs K mg H0 F' H σ ρ' v r
  | [], [], _, _ => trivial
  | _ :: _, _ :: _, ⟨h, t⟩, k => ⟨h.fzn k, t.fzn k⟩
theorem fz_of {v : V} {r : Rv} {d : D} {ρ' : En} (p : Po K mg F0 H0 σ ρ0 F H ρ) (h : RvW K mg H0 F H σ ρ v r) (e : fz ρ r = some (d, ρ')) : ∃ F', Po K mg F0 H0 σ ρ0 F' H ρ' ∧ Fzn σ F ρ F' ρ' ∧ RelD K mg F' v d := by
  cases r with
  | val d' => cases e; exact ⟨F, p, .refl, h⟩
  | tmp d' =>
    cases e
    obtain ⟨q, e, h0, o, n⟩ := h
    subst e
    obtain ⟨F', le, sb, same, other⟩ := p.en.sub.frz o
    refine ⟨F', ⟨⟨p.st.mono.trans le, fun a u e na => ?_, p.st.al⟩, ⟨p.en.len, sb, fun i d e => ?_, fun i d e => ?_, p.en.inj, p.en.exnM le⟩, p.ow, p.fil⟩, ⟨le, fun _ z => z, fun _ s e => ⟨s, e⟩⟩, o.frz le same⟩
    · obtain ⟨k1, k2⟩ := p.st.keep a u e na
      refine ⟨k1, fun f => ?_⟩
      rw [other a (by intro z; subst z; rw [h0] at e; cases e)]
      exact k2 f
    · obtain ⟨w, e1, r⟩ := p.en.val i d e
      exact ⟨w, e1, r.mono le⟩
    · obtain ⟨q', e1, f, o'⟩ := p.en.own i d e
      refine ⟨q', e1, ?_, o'.at le rfl⟩
      rw [other q' (by intro z; subst z; exact n ⟨i, d, e, e1⟩)]
      exact f
  | brw i =>
    obtain ⟨hv, s, hs⟩ := h
    simp only [fz, hs] at e
    cases s with
    | val d' =>
      cases e
      obtain ⟨w, e1, r⟩ := p.en.val i _ hs
      rw [hv] at e1; cases e1
      exact ⟨F, p, .refl, r⟩
    | own d' =>
      cases e
      obtain ⟨q, e1, f, o⟩ := p.en.own i _ hs
      rw [hv] at e1; cases e1
      obtain ⟨F', le, sb, same, other⟩ := p.en.sub.frz o
      have own' : ∀ b, Own σ (ρ.set i (some (.val d))) b → Own σ ρ b := fun b ⟨j, d2, e2, e3⟩ => by
        by_cases z : i = j
        · subst z; rw [at_set_same hs] at e2; cases e2
        · rw [at_set_ne z] at e2; exact ⟨j, d2, e2, e3⟩
      have fil' : ∀ j s, ρ.at j = some s → ∃ s', En.at (ρ.set i (some (.val d))) j = some s' := fun j s e => by
        by_cases z : i = j
        · subst z; exact ⟨_, at_set_same hs⟩
        · rw [at_set_ne z]; exact ⟨s, e⟩
      refine ⟨F', ⟨⟨p.st.mono.trans le, fun a u e na => ?_, p.st.al⟩, ⟨by rw [List.length_set]; exact p.en.len, sb, fun j d2 e => ?_, fun j d2 e => ?_, fun j k d2 d3 b e2 e3 e4 e5 => ?_, p.en.exnSet le (fun x z => by cases z)⟩, fun b z => p.ow b (own' b z), fun j s e => ?_⟩, ⟨le, own', fil'⟩, o.frz le same⟩
      · obtain ⟨k1, k2⟩ := p.st.keep a u e na
        refine ⟨k1, fun f => ?_⟩
        rw [other a (by intro z; subst z; exact na (p.ow _ ⟨i, _, hs, hv⟩))]
        exact k2 f
      · by_cases z : i = j
        · subst z
          rw [at_set_same hs] at e; cases e
          exact ⟨_, hv, o.frz le same⟩
        · rw [at_set_ne z] at e
          obtain ⟨w, e1, r⟩ := p.en.val j d2 e
          exact ⟨w, e1, r.mono le⟩
      · by_cases z : i = j
        · subst z; rw [at_set_same hs] at e; cases e
        · rw [at_set_ne z] at e
          obtain ⟨q', e1, f', o'⟩ := p.en.own j d2 e
          refine ⟨q', e1, ?_, o'.at le rfl⟩
          rw [other q' (by intro w; subst w; exact z (p.en.inj i j _ _ _ hs e hv e1))]
          exact f'
      · by_cases z : i = j
        · subst z; rw [at_set_same hs] at e2; cases e2
        · by_cases z' : i = k
          · subst z'; rw [at_set_same hs] at e3; cases e3
          · rw [at_set_ne z] at e2; rw [at_set_ne z'] at e3
            exact p.en.inj j k _ _ _ e2 e3 e4 e5
      · obtain ⟨s1, e1⟩ := p.fil j s e
        exact fil' j s1 e1
    | exn x => cases e
theorem fzs_of : ∀ {vs : List V} {rs : List Rv} {ds : List D} {F : Hp} {ρ ρ' : En}, Po K mg F0 H0 σ ρ0 F H ρ → RvWs K mg H0 F H σ ρ vs rs → fzs ρ rs = some (ds, ρ') → ∃ F', Po K mg F0 H0 σ ρ0 F' H ρ' ∧ Fzn σ F ρ F' ρ' ∧ RelL K mg F' vs ds
  | [], [], ds, F, ρ, ρ', p, _, e => by cases e; exact ⟨F, p, .refl, .nil⟩
  | v :: vs, r :: rs, ds, F, ρ, ρ', p, ⟨h, t⟩, e => by
    simp only [fzs] at e
    split at e
    · rename_i d ρ1 e1
      obtain ⟨F1, p1, k1, r1⟩ := fz_of p h e1
      split at e
      · rename_i ds' ρ2 e2
        cases e
        obtain ⟨F2, p2, k2, r2⟩ := fzs_of p1 (t.fzn k1) e2
        exact ⟨F2, p2, k1.trans k2, .cons (r1.mono k2.le) r2⟩
      · cases e
    · cases e
end
end Mp

/-! Mp28: walks, comprehensions and sum where an exception is handled. -/
namespace Mp
open PySem L2 PyProof.Rows HotX
section
variable {prog : Program} {w : World} {A : Around} {E : Value → Shared → Prop} {s : Shared}
theorem pyNext_list_end_hot {it l x1 : Addr} {i : Nat} {items : Array Value} {Q : Option Value → Shared → Prop} (hot : HotAt A x1 s.heap) (hne : x1 ≠ it) (hit : s.heap.IsListIter it l i) (hl : s.heap.IsList l items) (hx : items[i]? = none)
    (hQ : ∀ h', Heap.ExtBut it s.heap h' → Q none { s with heap := h' }) : wpAny (model prog w) A (pyNext (.ref it)) Q E s := by
  obtain ⟨hh, o1, vs1, h1, d1, c1⟩ := hot
  obtain ⟨o, ho, hc, hd⟩ := id hit
  obtain ⟨ol, hol, _, nl, hdl⟩ := hl
  unfold pyNext
  refine wpAny_bind (wpAny_attempt (wpAny_callSpecial?_slot (name := Str.ofString "__next__") hit.typeIs slot_listiter_next
    (wpAny_call_entry slot_listiter_next hit.typeIs entry_listiter_next ?_ (args_listiter_next _))))
  show wpAny _ _ (field (.ref it) 0 >>= _) _ _ s
  refine wpAny_bind (wpAny_field ho hd (x := .ref l) rfl ?_)
  show wpAny _ _ (if (Value.ref l == Value.none) = true then _ else _) _ _ s
  rw [if_neg (show ¬ ((Value.ref l == Value.none) = true) from Bool.false_ne_true)]
  show wpAny _ _ (field (.ref it) 1 >>= _) _ _ s
  refine wpAny_bind (wpAny_field ho hd (x := .int i 0) rfl ?_)
  show wpAny _ _ (seqItems? (.ref l) >>= _) _ _ s
  refine wpAny_bind (wpAny_seqItems hol hdl ?_)
  simp only [Int.toNat_natCast, hx]
  refine wpAny_bind (wpAny_rule (wpAny_bind (wpAny_setField ho hd (by simp) ?_)))
  show wpAny _ _ (newExc (.type "StopIteration") [] >>= _) _ _ _
  refine wpAny_bind ?_
  simp only [newExc, newTuple]
  refine wpAny_bind (wpAny_newObj_type ?_ (by size_fits))
  refine wpAny_bind (m := firstArgMember _ _) (wpAny_of_eq (a := Value.none) (by first | rfl | (simp only [firstArgMember]; rfl)) ?_)
  refine wpAny_newObj_type ?_ (by size_fits)
  have up : ∀ {f : Obj → Obj} {b : Addr} {o : Obj}, b ≠ it → s.heap.get? b = some o → (s.heap.update it f).get? b = some o := fun hb e => (Heap.get?_update_other _ _ (Ne.symm hb)).trans e
  refine raiseNew_hot ⟨hh, o1, vs1, Heap.get?_push_of_some _ (Heap.get?_push_of_some _ (up hne h1)), d1, c1⟩ (Nat.ne_of_lt (Heap.lt_size (Heap.get?_push_of_some _ (up hne h1)))) (Heap.get?_push_size _ rfl) rfl (by first | (simp; done) | (simp; omega) | (simp only [Array.size_append]; simp; omega)) ?_
  refine wpAny_bind (wpAny_isInstance (T := "StopIteration") (b := true) ⟨_, Heap.get?_update_self _ (Heap.get?_push_size _ rfl) rfl, rfl⟩ isSubtype_stop ?_)
  refine wpAny_pure (hQ _ fun b o hb e => ?_)
  rw [Heap.get?_update_other _ _ (Nat.ne_of_gt (Heap.lt_size (Heap.get?_push_of_some _ (up hb e))))]
  exact Heap.get?_push_of_some _ (Heap.get?_push_of_some _ (up hb e))
theorem pyNext_tuple_end_hot {it t x1 : Addr} {i : Nat} {items : Array Value} {Q : Option Value → Shared → Prop} (hot : HotAt A x1 s.heap) (hne : x1 ≠ it) (hit : s.heap.IsTupleIter it t i) (ht : s.heap.IsTuple t items) (hx : items[i]? = none)
    (hQ : ∀ h', Heap.ExtBut it s.heap h' → Q none { s with heap := h' }) : wpAny (model prog w) A (pyNext (.ref it)) Q E s := by
  obtain ⟨hh, o1, vs1, h1, d1, c1⟩ := hot
  obtain ⟨o, ho, hc, hd⟩ := id hit
  obtain ⟨ol, hol, _, nl, hdl⟩ := ht
  unfold pyNext
  refine wpAny_bind (wpAny_attempt (wpAny_callSpecial?_slot (name := Str.ofString "__next__") hit.typeIs F.slot_tuple_iterator_next
    (wpAny_call_entry F.slot_tuple_iterator_next hit.typeIs F.entry_tuple_iterator_next ?_ (F.args_tuple_iterator_next_1 _))))
  show wpAny _ _ (field (.ref it) 0 >>= _) _ _ s
  refine wpAny_bind (wpAny_field ho hd (x := .ref t) rfl ?_)
  show wpAny _ _ (if (Value.ref t == Value.none) = true then _ else _) _ _ s
  rw [if_neg (show ¬ ((Value.ref t == Value.none) = true) from Bool.false_ne_true)]
  show wpAny _ _ (field (.ref it) 1 >>= _) _ _ s
  refine wpAny_bind (wpAny_field ho hd (x := .int i 0) rfl ?_)
  show wpAny _ _ (seqItems? (.ref t) >>= _) _ _ s
  refine wpAny_bind (wpAny_seqItems hol hdl ?_)
  simp only [Int.toNat_natCast, hx]
  refine wpAny_bind (wpAny_rule (wpAny_bind (wpAny_setField ho hd (by simp) ?_)))
  show wpAny _ _ (newExc (.type "StopIteration") [] >>= _) _ _ _
  refine wpAny_bind ?_
  simp only [newExc, newTuple]
  refine wpAny_bind (wpAny_newObj_type ?_ (by size_fits))
  refine wpAny_bind (m := firstArgMember _ _) (wpAny_of_eq (a := Value.none) (by first | rfl | (simp only [firstArgMember]; rfl)) ?_)
  refine wpAny_newObj_type ?_ (by size_fits)
  have up : ∀ {f : Obj → Obj} {b : Addr} {o : Obj}, b ≠ it → s.heap.get? b = some o → (s.heap.update it f).get? b = some o := fun hb e => (Heap.get?_update_other _ _ (Ne.symm hb)).trans e
  refine raiseNew_hot ⟨hh, o1, vs1, Heap.get?_push_of_some _ (Heap.get?_push_of_some _ (up hne h1)), d1, c1⟩ (Nat.ne_of_lt (Heap.lt_size (Heap.get?_push_of_some _ (up hne h1)))) (Heap.get?_push_size _ rfl) rfl (by first | (simp; done) | (simp; omega) | (simp only [Array.size_append]; simp; omega)) ?_
  refine wpAny_bind (wpAny_isInstance (T := "StopIteration") (b := true) ⟨_, Heap.get?_update_self _ (Heap.get?_push_size _ rfl) rfl, rfl⟩ isSubtype_stop ?_)
  refine wpAny_pure (hQ _ fun b o hb e => ?_)
  rw [Heap.get?_update_other _ _ (Nat.ne_of_gt (Heap.lt_size (Heap.get?_push_of_some _ (up hb e))))]
  exact Heap.get?_push_of_some _ (Heap.get?_push_of_some _ (up hb e))
theorem walks_listH {x1 : Addr} {o1 : Obj} {vs1 : Array Value} (hh : A.handled = some (.ref x1)) (d1 : o1.data = .fields vs1) (c1 : vs1[2]? = some .none) (I ax : Addr) (hne : ax ≠ I) (hx : x1 ≠ I) (items : Array Value) :
    Walks prog w A I [I, ax, x1] [I] items.size (fun i v => items[i]? = some v) (fun i h => (h.IsListIter I ax i ∧ h.IsList ax items) ∧ h.get? x1 = some o1) where
  sub := fun b hb => by simp at hb; simp [hb]
  frame := fun _ _ _ st hk => ⟨⟨st.1.1.at fun o e => hk I (by simp) o e, st.1.2.at fun o e => hk ax (by simp) o e⟩, hk x1 (by simp) o1 st.2⟩
  item := fun i s Q E hi st hQ => by
    refine wpAny_pyNext_list_item st.1.1 st.1.2 (x := items[i]) (by simp [hi]) fun h' hit' hs' => ?_
    exact hQ _ h' s.toks (by simp [hi]) ⟨⟨hit', st.1.2.extBut hs'.extBut hne⟩, hs'.extBut x1 o1 hx st.2⟩ fun b o hb e => hs'.extBut b o (fun h => hb (by simp [h])) e
  done := fun s Q E st hQ => pyNext_list_end_hot ⟨hh, o1, vs1, st.2, d1, c1⟩ hx st.1.1 st.1.2 (by simp) fun h' he' => hQ h' s.toks fun b o hb e => he' b o (fun h => hb (by simp [h])) e
  self := fun _ _ _ _ st hQ => wpAny_pyIter_listiter st.1.1 hQ
theorem sum_rawH {x1 l : Addr} {its : List Value} {ns : List Int} {Q : Value → Shared → Prop} (hot : HotAt A x1 s.heap) (hl : s.heap.IsList l its.toArray) (hi : IntsAre its ns)
    (h : ∀ h' tk t', (∀ b o, s.heap.get? b = some o → h'.get? b = some o) → Q (.int ns.sum t') { s with heap := h', toks := tk }) : wpAny (model prog w) A (call (.builtin "sum") [.ref l]) Q E s := by
  obtain ⟨hh, o1, vs1, h1, d1, c1⟩ := hot
  obtain ⟨xs, e⟩ := hi.allInts.items
  have hn : numsOf (intItems xs).toList = ns := by rw [← e]; exact hi.numsOf
  rw [nums_intItems] at hn
  rw [e] at hl
  refine call_sum_walkG (iter_intList hl fun s₂ e2 st hfp hlI => ?_)
  subst e2
  refine ⟨_, _, _, _, _, _, numAt xs, rfl, walks_listH (A := A.in1) hh d1 c1 _ l hlI (Nat.ne_of_lt (Heap.lt_size h1)) (intItems xs), ⟨st, Heap.get?_push_of_some _ h1⟩, fun b hb => ?_, (fun _ _ => intItems_at), fun h' tk t' hk => ?_⟩
  · simp only [List.mem_cons, List.not_mem_nil, or_false] at hb
    rcases hb with hb | hb | hb
    · exact hfp b (by simp [hb])
    · exact hfp b (by simp [hb])
    · subst hb; exact Heap.lt_size (Heap.get?_push_of_some _ h1)
  · have := h h' tk t' (old_kept hk)
    have e3 : (intItems xs).size = xs.size := by simp [intItems]
    rw [e3, preSum_eq, List.take_of_length_le (by simp), hn]
    exact this
end
section
variable {X : Cx}
theorem cr_sumH (hc : L2H.HotC X) : CallR X (.builtin "sum") (rSum X.K) := by
  intro pins s σ H vs us Q I r h
  obtain ⟨a, ns, rfl, hs, q⟩ := h
  obtain ⟨its, rv, hl, _⟩ := I.list hs
  obtain ⟨x1, hot⟩ := hc.at I
  rw [Vals.ref1 r]
  exact sum_rawH hot hl.isList rv.ints fun h' tk t' hk => ⟨.int _, H, I.kept hk, ⟨_, rfl⟩, q⟩
end
theorem turn_tupleH {P : Program} {w : World} {K : PySem.W.Frag} {tg : Expr} (a it : Addr) : L2H.TurnH P w K tg (Itt K a) [it] it (fun i h => h.IsTupleIter it a i) where
  mem := by simp
  obj := fun i h st b hb => by
    have e : b = it := by simpa using hb
    subst e
    obtain ⟨o, e, c, d⟩ := st
    exact ⟨o, e, fun v z => by rw [d] at z; cases z⟩
  keep := fun i h h' st k => st.at fun o e => k it (by simp) o e
  item := by
    intro X hP hw hK hc i pins s σ H E I hf st hg
    subst hP hw hK
    obtain ⟨xs, x, hq, hx⟩ := hg
    obtain ⟨its, rv, p, hz⟩ := I.tuple hq
    obtain ⟨u, hu, ru⟩ := rv.get hx
    obtain ⟨f0, f1, f2, f3, f4, f5⟩ := hf it (by simp)
    refine wpAny_pyNext_tuple_item st (show s.heap.IsTuple a its.toArray from p) (x := u) (by simpa using hu) fun h' st' sb => ?_
    have I1 : Inv X pins σ H { s with heap := h' } := I.turned (t' := s.toks) (fun b o hb e => (sb.2 b hb).trans e) f0 f1 f3 f4 f5
    obtain ⟨o, e, c, d⟩ := id st'
    exact ⟨u, rfl, go_of (s := { s with heap := h' }) e c d (by decide) ⟨x, H, I1, ru, ⟨rfl, fun ys hy => by rw [I.tuple_inj hy hq]; exact hx⟩, st', fun b hb => (hf b hb).1⟩⟩
  done := by
    intro X hP hw hK hc i pins s σ H E I hf st hg
    subst hP hw hK
    obtain ⟨xs, hq, hx⟩ := hg
    obtain ⟨its, rv, p, hz⟩ := I.tuple hq
    obtain ⟨f0, f1, f2, f3, f4, f5⟩ := hf it (by simp)
    have hl := rv.length
    obtain ⟨q, ⟨hh, v1, e1, c1⟩, hp⟩ := hc
    exact pyNext_tuple_end_hot ⟨hh, q.2, v1, (I.pin q (List.mem_append_left _ hp)).1, e1, c1⟩ (f5 q (List.mem_append_left _ hp)) st (show s.heap.IsTuple a its.toArray from p) (by simp; omega)
      fun h' eb => ⟨rfl, I.turned (t' := s.toks) (fun b o hb e => eb b o hb e) f0 f1 f3 f4 f5⟩
  self := fun _ _ _ _ _ st h => wpAny_pyIter_tupleiter st h
/-! ### a comprehension -/
/-- the block's context, the handled exception pinned -/
abbrev blkH (X : Cx) (s : Shared) (H : Hp) (scope : Scope) (cenv : Env) (fp : List Addr) : Cx := { X.blk s H scope cenv fp with pn := X.pn }
section
variable {X : Cx} {pins : List (Addr × Obj)} {σ : L2.St} {H : Hp} {s : Shared}
theorem block_startH {scope : Scope} {own : List (Str × Nat)} {fp : List Addr} (I : Inv X pins σ H s) (ok : BlkOk X.N X.env.scope scope own) (hN : X.N.Nodup) (hfp : ∀ b ∈ fp, FpOk X pins H b ∧ b < s.heap.objs.size) :
    Inv (blkH X s H scope (compEnvC scope (cellsFrom (s.heap.objs.size + 1) scope.names (cloFrom X.env.cells scope.names [])) s.heap.objs.size X.env) fp) [] (wipe σ (own.map (·.2))) H { s with heap := pushCells (s.heap.push { cls := .type "dict", data := .dict #[] }) scope.names } := by
  have J := block_start I ok hN hfp
  have k : ∀ b o, s.heap.get? b = some o → (pushCells (s.heap.push { cls := .type "dict", data := .dict #[] }) scope.names).get? b = some o := fun b o e => pushCells_keeps _ _ _ _ (Heap.get?_push_of_some _ e)
  refine ⟨⟨J.ok.mod, J.ok.kind, J.ok.glob, J.ok.blt, J.ok.above, J.ok.inj, J.ok.has, J.ok.cab, J.ok.hd, J.ok.frames, J.ok.stk, J.ok.exf, J.ok.bs, J.ok.bsz, J.ok.noex, J.ok.exfs, J.ok.funs, J.ok.frf⟩, J.os, J.bare, J.base, J.loc, J.cell, J.free, J.freeC, fun p hp => ?_, J.hok, J.len⟩
  have hp' : p ∈ X.pn := by
    have hp : p ∈ X.pn ++ ([] : List (Addr × Obj)) := hp
    simpa using hp
  have P1 := I.pin p (List.mem_append_left _ hp')
  exact ⟨k _ _ P1.1, P1.2.1, Nat.ne_of_lt (Heap.lt_size P1.1), fun hm => (List.mem_cons.mp (I.stkSub p.1 hm)).elim P1.2.2.1 P1.2.2.2.1, P1.2.2.2.2⟩
end
section
variable {X : Cx} {elt tg iter : Expr} {scope : Scope} {own : List (Str × Nat)} {pos : Pos} {g : TG} {ta te : TE} {tt : TT} {wi : TI}
/-- [elt for tg in iter], iter a tuple, where an exception is handled: the iterator lies at `it`, the new list behind it, the block's frame behind both -/
theorem pe_lch (hot : L2H.HotC X) (nd : X.N.Nodup) (ha : PE X iter ta) (bo : BlkOk X.N X.env.scope scope own) (pg : ∀ (s : Shared) (H : Hp) (C : Addr) (cl : List (Str × Addr)) (fp : List Addr), PG (blkH X s H scope (compEnvC scope cl C X.env) fp) tg g)
    (pt : ∀ (s : Shared) (H : Hp) (C : Addr) (cl : List (Str × Addr)) (fp : List Addr), PTs (blkH X s H scope (compEnvC scope cl C X.env) fp) [] tt) (hw : ∀ σ H R, wi σ H R → iTup X.K ta σ H R)
    (pe : ∀ (s : Shared) (H : Hp) (C : Addr) (cl : List (Str × Addr)) (fp : List Addr), PE (blkH X s H scope (compEnvC scope cl C X.env) fp) elt te) (nf : ∀ x, foldedSetIterable iter X.env x = pure x) :
    PE X (.ListComp elt [⟨tg, iter, [], 0⟩] scope pos) (tLc wi g tt te (own.map (·.2))) := ⟨fun pins s σ H Q I h => by
  have h := hw _ _ _ h
  have caps : ∀ y ∈ scope.names, y.2 = .free → ∃ c, X.env.cells.lookup y.1 = some c := fun y m e => I.ok.has _ (bo.free y m e)
  rw [eval_ListComp]
  refine wpAny_comprehension_free rfl nf (closure_ok caps) bo.kind (fun y m e => (bo.uniq y m).trans (congrArg some e)) (thn (ha.run pins s σ H _ I h) fun u s1 ⟨x, H1, I1, rx, a, ex, ⟨xs, hq⟩, q⟩ => ?_)
  subst ex
  cases rx
  obtain ⟨its, rv, tp, _⟩ := I1.tuple hq
  -- the iterator
  refine thn (Q := fun v s2 => ∃ it, v = .ref it ∧ Inv X pins σ H1 s2 ∧ s2.heap.IsTupleIter it a 0 ∧ FpOk X pins H1 it ∧ it < s2.heap.objs.size) (wpAny_pyIter_tuple (show s1.heap.IsTuple a its.toArray from tp) ⟨s1.heap.objs.size, rfl, I1.kept (t' := s1.toks) fun b o e => Heap.get?_push_of_some _ e,
    ⟨_, Heap.get?_push_size _ rfl, rfl, rfl⟩, I1.fpOk (Nat.le_refl _) (I1.hok.fresh (Nat.le_refl _)), by
      show _ < (s1.heap.push _).objs.size
      rw [Heap.size_push]; exact Nat.lt_succ_self _⟩) fun v s2 ⟨it, ev, I2, at2, ok2, lt2⟩ => ?_
  subst ev
  -- the new list
  refine wpAny_newObj_type (newEnv_comp ?_) (Nat.zero_le _)
  obtain ⟨D, eD⟩ : ∃ D, D = s2.heap.objs.size := ⟨_, rfl⟩
  have nD : H1 D = none := I2.hok.fresh (Nat.le_of_eq eD.symm)
  have itD : it < D := by rw [eD]; exact lt2
  obtain ⟨W, ⟨m0, w0⟩, go⟩ := q D nD
  rw [← eD]
  generalize e3 : ({ s2 with heap := s2.heap.push { cls := .type "list", data := .seq ([] : List Value).toArray } } : Shared) = s3
  have h3 : s3.heap = s2.heap.push { cls := .type "list", data := .seq ([] : List Value).toArray } := by rw [← e3]
  have I3 : Inv X pins σ (upd H1 D (.lst [])) s3 := by
    rw [← e3]
    exact I2.laid (t' := s2.toks) (fun b o e => Heap.get?_push_of_some _ e) (Nat.le_of_eq eD.symm) ⟨Nat.zero_le _, [], 0, .nil, by rw [eD]; exact Heap.get?_push_size _ rfl⟩
  generalize eH : upd H1 D (.lst []) = H3 at I3 w0
  have ok3 : FpOk X pins H3 it := ⟨by rw [← eH, upd_ne (Nat.ne_of_lt itD)]; exact ok2.1, ok2.2⟩
  have all3 : ∀ b ∈ [it], FpOk X pins H3 b ∧ b < s3.heap.objs.size := fun b m => by
    cases List.mem_singleton.mp m
    exact ⟨ok3, by rw [h3, Heap.size_push, ← eD]; exact Nat.lt_succ_of_lt itD⟩
  have I4 := block_startH I3 bo nd all3
  -- the block's frame
  obtain ⟨C, eC⟩ : ∃ C, C = s3.heap.objs.size := ⟨_, rfl⟩
  obtain ⟨B, eB⟩ : ∃ B, B = compEnvC scope (cellsFrom (s3.heap.objs.size + 1) scope.names (cloFrom X.env.cells scope.names [])) s3.heap.objs.size X.env := ⟨_, rfl⟩
  have tgB : PG (blkH X s3 H3 scope B [it]) tg g := by rw [eB]; exact pg _ _ _ _ _
  have tsB : PTs (blkH X s3 H3 scope B [it]) [] tt := by rw [eB]; exact pt _ _ _ _ _
  have elB : PE (blkH X s3 H3 scope B [it]) elt te := by rw [eB]; exact pe _ _ _ _ _
  have BC : B.locals = C := by rw [eB, eC]; rfl
  rw [← eB] at I4
  show codeAny _ _ (.compStart (.ListComp elt [⟨tg, iter, [], 0⟩] scope pos) 0 (.ref it) (.ref D) (compEnvC scope (cellsFrom (s3.heap.objs.size + 1) scope.names (cloFrom X.env.cells scope.names [])) s3.heap.objs.size X.env)) (compPost (model X.prog X.w) X.A X.xe none (EP X pins σ Q) (.ref D) s3.heap.objs.size) _
  rw [← eB, ← eC]
  generalize e4 : ({ s3 with heap := pushCells (s3.heap.push { cls := .type "dict", data := .dict #[] }) scope.names } : Shared) = s4 at I4 ⊢
  have at4 : s4.heap.IsTupleIter it a 0 := at2.at fun o e => by
    rw [← e4]
    exact pushCells_keeps _ _ _ _ (Heap.get?_push_of_some _ (by rw [h3]; exact Heap.get?_push_of_some _ e))
  have T := turn_tupleH (P := X.prog) (w := X.w) (K := X.K) (tg := tg) a it
  have hotB : L2H.HotC (blkH X s3 H3 scope B [it]) := hot
  have fine : ∀ {σ' : L2.St} {H' : Hp} {s' : Shared}, Inv (blkH X s3 H3 scope B [it]) [] σ' H' s' → H' it = none → ∀ b ∈ [it], FpOk (blkH X s3 H3 scope B [it]) [] H' b := fun J n b m => by
    cases List.mem_singleton.mp m
    have w := J.ok.exf it List.mem_cons_self
    exact ⟨n, w.1, J.ok.exfs it List.mem_cons_self, .inl List.mem_cons_self, w.2, fun p hp => ok3.2.2.2.2.2 p (List.mem_append_left _ ((List.append_nil X.pn) ▸ hp))⟩
  -- the loop: the iterator stands at i
  have loop : codeAny (model X.prog X.w) X.A (.compLoop (.ListComp elt [⟨tg, iter, [], 0⟩] scope pos) 0 (.ref it) (.ref D) B) (compPost (model X.prog X.w) X.A X.xe none (EP X pins σ Q) (.ref D) C) s4 := by
    refine compLoop_any (fun m s' => ∃ i H', Inv (blkH X s3 H3 scope B [it]) [] (wipe σ (own.map (·.2))) H' s' ∧ s'.heap.IsTupleIter it a i ∧ H' it = none ∧ W i m H') (fun m s5 ⟨i, H5, J5, at5, n5, w5⟩ => ?_) m0 ⟨0, H3, I4, at4, ok3.1, w0⟩
    rcases go i m H5 w5 with ⟨stop, hQ⟩ | ⟨more, Nx, dec, body⟩
    · -- it has ended
      refine thnF (T.done (blkH X s3 H3 scope B [it]) rfl rfl rfl hotB i [] s5 _ H5 (fun _ _ => False) J5 (fine J5 n5) at5 stop) fun r s6 ⟨er, J6⟩ => ?_
      subst er
      have K6 : Inv X pins σ H5 s6 := I3.call' (ch := [it]) J6.os J6.base J6.hok J6.bare fun b m => by
        cases List.mem_singleton.mp m
        exact ⟨ok3.2.2.2.1, ok3.2.1, ok3.2.2.2.2.1, ok3.2.2.2.2.2⟩
      obtain ⟨mp, ns, _⟩ := J6.loc
      have nC : H5 C = none := by rw [← BC]; exact J6.free
      have okC : FpOk X pins H5 C := I3.fpOk (by rw [eC]; exact Nat.le_refl _) nC
      have ns : s6.heap.Ns B.locals mp := ns
      rw [BC] at ns
      refine ⟨mp, ns, fun h' sb => ⟨.ref D, H5, ?_, rfl, hQ⟩⟩
      exact K6.turned (t' := s6.toks) (fun b o hb e => (sb.2 b hb).trans e) okC.1 okC.2.1 okC.2.2.2.1 okC.2.2.2.2.1 okC.2.2.2.2.2
    · -- one more
      refine thnF (T.item (blkH X s3 H3 scope B [it]) rfl rfl rfl hotB i [] s5 _ H5 (fun _ _ => False) J5 (fine J5 n5) at5 more) fun r s6 ⟨u, er, z6⟩ => ?_
      subst er
      refine thnF z6 fun _ s7 ⟨y, H7, J7, ry, hy, at7, n7⟩ => ?_
      have n7' := n7 it List.mem_cons_self
      have P7 := J7.pinned (fine J7 n7') (T.obj _ _ at7)
      refine thnF (tgB.run _ s7 _ H7 y u _ P7 ry (body y H7 hy)) fun _ s8 ⟨σ8, H8, J8, hw, q8⟩ => ?_
      refine thnF (tsB.run _ s8 σ8 H8 _ J8 q8) fun b s9 ⟨H9, J9, q9⟩ => ?_
      obtain ⟨o7, g7, _⟩ := T.obj _ _ at7 it List.mem_cons_self
      -- behind the turn
      have next : ∀ {s' : Shared} {H' : Hp}, Inv (blkH X s3 H3 scope B [it]) ([] ++ pinsAt [it] s7.heap) σ8 H' s' → Nx H' → ∃ k, k < m ∧ ∃ i H', Inv (blkH X s3 H3 scope B [it]) [] (wipe σ (own.map (·.2))) H' s' ∧ s'.heap.IsTupleIter it a i ∧ H' it = none ∧ W i k H' := fun {s' H'} J' nx => by
        obtain ⟨k, lt, wk⟩ := dec H' nx
        have pn := J'.pin (it, o7) (List.mem_append_right _ (List.mem_append_right _ (mem_pinsAt List.mem_cons_self g7)))
        refine ⟨k, lt, i + 1, H', (J'.unpinned (pins := [])).weak (by rw [← hw, wipe_length]) (fun j v e => ?_), at7.at fun o e => ?_, pn.2.1, wk⟩
        · rw [← hw] at e
          exact (wipe_some e).1
        · rw [g7] at e
          cases e
          exact pn.1
      cases b with
      | false => exact next J9 q9
      | true => exact thnF (elB.run _ s9 σ8 H9 _ J9 q9) fun z s10 ⟨yv, H10, J10, r10, acc, hD, hz, nx⟩ => app_ok (X := blkH X s3 H3 scope B [it]) J10 hD hz r10 fun s11 J11 => next J11 nx
  exact codeAny_compStart_list loop (T.self X.A 0 _ _ _ at4 loop)⟩
end
end Mp

/-! Mp5: calls. -/
namespace Mp
open PySem L2 PyProof.Rows
section
variable {K : PySem.W.Frag} {mg : MG} {W : WW} {F0 H0 F H : Hp} {σ : L2.St} {ρ0 ρ : En}
theorem RvRs.tmps_new : ∀ {vs : List V} {rs : List Rv}, RvRs K mg H0 F H σ ρ vs rs → ∀ q ∈ tmps vs rs, H0 q = none
  | [], [], _, _, m => by cases m
  | v :: vs, r :: rs, ⟨h, t, _⟩, q, m => by
    simp only [tmps, List.mem_append] at m
    rcases m with m | m
    · cases r with
      | tmp d =>
        obtain ⟨p, e, h0, _⟩ := h
        subst e
        simp only [tmpA, List.mem_singleton] at m
        subst m; exact h0
      | val d => cases v <;> simp [tmpA] at m
      | brw d => cases v <;> simp [tmpA] at m
    · exact t.tmps_new q m
/-- the list of one more -/
theorem RvRs.cons' {H1 : Hp} {v : V} {vs : List V} {r : Rv} {rs : List Rv} (h : RvR K mg H0 F H σ ρ v r) (t : RvRs K mg H1 F H σ ρ vs rs) (k : ∀ a, H1 a = none → H0 a = none) (ex : ∀ p, tmpA v r = some p → H1 p ≠ none) : RvRs K mg H0 F H σ ρ (v :: vs) (r :: rs) :=
  ⟨h, t.base k, fun p e m => ex p e (t.tmps_new p m)⟩
theorem RvR.tmp_old {v : V} {r : Rv} (h : RvR K mg H0 F H σ ρ v r) {p : Addr} (e : tmpA v r = some p) : H p ≠ none := by
  cases r with
  | tmp d =>
    obtain ⟨q, e2, _, _, o, _⟩ := h
    subst e2
    simp only [tmpA] at e; cases e
    obtain ⟨u, hu⟩ := o.obj
    rw [hu]; exact fun z => nomatch z
  | val d => cases v <;> simp [tmpA] at e
  | brw d => cases v <;> simp [tmpA] at e

/-- a step that freezes things at T and things of slots alone -/
structure Fzt (T : List Addr) (σ : L2.St) (F : Hp) (ρ : En) (F' : Hp) (ρ' : En) : Prop where
  fz : Fzn σ F ρ F' ρ'
  no : ∀ a, F a = none → a ∉ T → ¬ Own σ ρ a → F' a = none
theorem fz_of' {v : V} {r : Rv} {d : D} {ρ' : En} (p : Po K mg F0 H0 σ ρ0 F H ρ) (h : RvR K mg H0 F H σ ρ v r) (e : fz ρ r = some (d, ρ')) :
    ∃ F', Po K mg F0 H0 σ ρ0 F' H ρ' ∧ Fzt (match tmpA v r with | some p => [p] | none => []) σ F ρ F' ρ' ∧ RelD K mg F' v d := by
  obtain ⟨F', p', k, r'⟩ := fz_of p h.w e
  cases r with
  | val d' => cases e; exact ⟨F, p, ⟨.refl, fun _ z _ _ => z⟩, h⟩
  | tmp d' =>
    cases e
    obtain ⟨q, e, h0, f, o, n⟩ := id h
    subst e
    obtain ⟨G, le, sb, same, other⟩ := p.en.sub.frz o
    refine ⟨G, ⟨⟨p.st.mono.trans le, fun a u e na => ?_, p.st.al⟩, ⟨p.en.len, sb, fun i d e => ?_, fun i d e => ?_, p.en.inj, p.en.exnM le⟩, p.ow, p.fil⟩, ⟨⟨le, fun _ z => z, fun _ s e => ⟨s, e⟩⟩, fun a z nt _ => ?_⟩, o.frz le same⟩
    · obtain ⟨k1, k2⟩ := p.st.keep a u e na
      refine ⟨k1, fun f => ?_⟩
      rw [other a (by intro z; subst z; rw [h0] at e; cases e)]
      exact k2 f
    · obtain ⟨w, e1, r⟩ := p.en.val i d e
      exact ⟨w, e1, r.mono le⟩
    · obtain ⟨q', e1, f, o'⟩ := p.en.own i d e
      refine ⟨q', e1, ?_, o'.at le rfl⟩
      rw [other q' (by intro z; subst z; exact n ⟨i, d, e, e1⟩)]
      exact f
    · rw [other a (by intro w; subst w; simp [tmpA] at nt)]; exact z
  | brw i =>
    obtain ⟨hv, s, hs⟩ := h
    simp only [Mp.fz, hs] at e
    cases s with
    | val d' =>
      cases e
      obtain ⟨w, e1, r⟩ := p.en.val i _ hs
      rw [hv] at e1; cases e1
      exact ⟨F, p, ⟨.refl, fun _ z _ _ => z⟩, r⟩
    | own d' =>
      cases e
      obtain ⟨q, e1, f, o⟩ := p.en.own i _ hs
      rw [hv] at e1; cases e1
      obtain ⟨G, le, sb, same, other⟩ := p.en.sub.frz o
      have own' : ∀ b, Own σ (ρ.set i (some (.val d))) b → Own σ ρ b := fun b ⟨j, d2, e2, e3⟩ => by
        by_cases z : i = j
        · subst z; rw [at_set_same hs] at e2; cases e2
        · rw [at_set_ne z] at e2; exact ⟨j, d2, e2, e3⟩
      have fil' : ∀ j s, ρ.at j = some s → ∃ s', En.at (ρ.set i (some (.val d))) j = some s' := fun j s e => by
        by_cases z : i = j
        · subst z; exact ⟨_, at_set_same hs⟩
        · rw [at_set_ne z]; exact ⟨s, e⟩
      refine ⟨G, ⟨⟨p.st.mono.trans le, fun a u e na => ?_, p.st.al⟩, ⟨by rw [List.length_set]; exact p.en.len, sb, fun j d2 e => ?_, fun j d2 e => ?_, fun j k d2 d3 b e2 e3 e4 e5 => ?_, p.en.exnSet le (fun x z => by cases z)⟩, fun b z => p.ow b (own' b z), fun j s e => ?_⟩, ⟨⟨le, own', fil'⟩, fun a z _ na => ?_⟩, o.frz le same⟩
      · obtain ⟨k1, k2⟩ := p.st.keep a u e na
        refine ⟨k1, fun f => ?_⟩
        rw [other a (by intro z; subst z; exact na (p.ow _ ⟨i, _, hs, hv⟩))]
        exact k2 f
      · by_cases z : i = j
        · subst z
          rw [at_set_same hs] at e; cases e
          exact ⟨_, hv, o.frz le same⟩
        · rw [at_set_ne z] at e
          obtain ⟨w, e1, r⟩ := p.en.val j d2 e
          exact ⟨w, e1, r.mono le⟩
      · by_cases z : i = j
        · subst z; rw [at_set_same hs] at e; cases e
        · rw [at_set_ne z] at e
          obtain ⟨q', e1, f', o'⟩ := p.en.own j d2 e
          refine ⟨q', e1, ?_, o'.at le rfl⟩
          rw [other q' (by intro w; subst w; exact z (p.en.inj i j _ _ _ hs e hv e1))]
          exact f'
      · by_cases z : i = j
        · subst z; rw [at_set_same hs] at e2; cases e2
        · by_cases z' : i = k
          · subst z'; rw [at_set_same hs] at e3; cases e3
          · rw [at_set_ne z] at e2; rw [at_set_ne z'] at e3
            exact p.en.inj j k _ _ _ e2 e3 e4 e5
      · obtain ⟨s1, e1⟩ := p.fil j s e
        exact fil' j s1 e1
      · rw [other a (by intro w; subst w; exact na ⟨i, _, hs, hv⟩)]; exact z
    | exn x => cases e
/-- a strong value stays through a step that freezes others -/
theorem RvR.fzt {T : List Addr} {F' : Hp} {ρ' : En} {v : V} {r : Rv} (h : RvR K mg H0 F H σ ρ v r) (k : Fzt T σ F ρ F' ρ') (n : ∀ p, tmpA v r = some p → p ∉ T) : RvR K mg H0 F' H σ ρ' v r := by
  cases r with
  | val d => exact RelD.mono k.fz.le h
  | tmp d =>
    obtain ⟨p, e, h0, f, o, no⟩ := h
    subst e
    exact ⟨p, rfl, h0, k.no p f (n p rfl) no, o.at k.fz.le rfl, fun z => no (k.fz.ow p z)⟩
  | brw i => obtain ⟨e, s, hs⟩ := h; exact ⟨e, k.fz.fil i s hs⟩
theorem mem_tmps_head {v : V} {vs : List V} {r : Rv} {rs : List Rv} {p : Addr} (e : tmpA v r = some p) : p ∈ tmps (v :: vs) (r :: rs) := by
  simp [tmps, e]
theorem mem_tmps_tail {v : V} {vs : List V} {r : Rv} {rs : List Rv} {p : Addr} (e : p ∈ tmps vs rs) : p ∈ tmps (v :: vs) (r :: rs) := by
  simp only [tmps, List.mem_append]; exact .inr e
theorem RvRs.fzt {T : List Addr} {F' : Hp} {ρ' : En} : ∀ {vs : List V} {rs : List Rv}, RvRs K mg H0 F H σ ρ vs rs → Fzt T σ F ρ F' ρ' → (∀ p ∈ tmps vs rs, p ∉ T) → RvRs K mg H0 F' H σ ρ' vs rs
  | [], [], _, _, _ => trivial
  | v :: vs, r :: rs, ⟨h, t, n⟩, k, m => ⟨h.fzt k fun p e => m p (mem_tmps_head e), t.fzt k fun p e => m p (mem_tmps_tail e), n⟩

/-- an argument as it is handed over -/
inductive ArgOk (K : PySem.W.Frag) (mg : MG) (H0 F H : Hp) (σ : L2.St) (ρ : En) : V → Bool → Rv → S → Prop
  | val {v : V} {r : Rv} {d : D} : RelD K mg F v d → ArgOk K mg H0 F H σ ρ v false r (.val d)
  | tmp {p : Addr} {d : D} : H0 p = none → F p = none → OwnAt K mg F H p d → ¬ Own σ ρ p → ArgOk K mg H0 F H σ ρ (.ref p) true (.tmp d) (.own d)
  | brw {v : V} {i : Nat} {d : D} : stAt σ i = some v → ρ.at i = some (.own d) → ArgOk K mg H0 F H σ ρ v true (.brw i) (.own d)
inductive ArgsOk (K : PySem.W.Frag) (mg : MG) (H0 F H : Hp) (σ : L2.St) (ρ : En) : List V → List Bool → List Rv → List S → Prop
  | nil : ArgsOk K mg H0 F H σ ρ [] [] [] []
  | cons {v : V} {vs : List V} {m : Bool} {ms : List Bool} {r : Rv} {rs : List Rv} {s : S} {ss : List S} : ArgOk K mg H0 F H σ ρ v m r s → ArgsOk K mg H0 F H σ ρ vs ms rs ss → ArgsOk K mg H0 F H σ ρ (v :: vs) (m :: ms) (r :: rs) (s :: ss)
theorem prep_of : ∀ {ms : List Bool} {vs : List V} {rs : List Rv} {ss : List S} {F : Hp} {ρ ρ' : En}, Po K mg F0 H0 σ ρ0 F H ρ → RvRs K mg H0 F H σ ρ vs rs → prep ms rs ρ = some (ss, ρ') →
    ∃ F', Po K mg F0 H0 σ ρ0 F' H ρ' ∧ Fzt (tmps vs rs) σ F ρ F' ρ' ∧ ArgsOk K mg H0 F' H σ ρ' vs ms rs ss
  | [], [], [], ss, F, ρ, ρ', p, _, e => by cases e; exact ⟨F, p, ⟨.refl, fun _ z _ _ => z⟩, .nil⟩
  | [], _ :: _, _ :: _, ss, F, ρ, ρ', p, _, e => by simp [prep] at e
  | false :: ms, [], [], ss, F, ρ, ρ', p, _, e => by simp [prep] at e
  | true :: ms, [], [], ss, F, ρ, ρ', p, _, e => by simp [prep] at e
  | false :: ms, v :: vs, r :: rs, ss, F, ρ, ρ', p, ⟨h, t, n⟩, e => by
    simp only [prep] at e
    split at e
    · rename_i d ρ1 e1
      obtain ⟨F1, p1, k1, r1⟩ := fz_of' p h e1
      split at e
      · rename_i ss' ρ2 e2
        cases e
        have t1 := t.fzt k1 (fun q m1 m2 => by
          split at m2
          · rename_i b eb
            simp only [List.mem_singleton] at m2
            subst m2; exact n _ eb m1
          · cases m2)
        obtain ⟨F2, p2, k2, r2⟩ := prep_of p1 t1 e2
        refine ⟨F2, p2, ⟨k1.fz.trans k2.fz, fun a z nt no => ?_⟩, .cons (.val (r1.mono k2.fz.le)) r2⟩
        simp only [tmps, List.mem_append, not_or] at nt
        exact k2.no a (k1.no a z nt.1 no) nt.2 fun w => no (k1.fz.ow a w)
      · cases e
    · cases e
  | true :: ms, v :: vs, .val d :: rs, ss, F, ρ, ρ', p, _, e => by simp [prep] at e
  | true :: ms, v :: vs, .tmp d :: rs, ss, F, ρ, ρ', p, ⟨h, t, n⟩, e => by
    simp only [prep] at e
    split at e
    · rename_i ss' ρ2 e2
      cases e
      obtain ⟨F2, p2, k2, r2⟩ := prep_of p t e2
      obtain ⟨q, ev, h0, f, o, no⟩ := h
      subst ev
      refine ⟨F2, p2, ⟨k2.fz, fun a z nt no => ?_⟩, .cons (.tmp h0 (k2.no q f (n q rfl) no) (o.at k2.fz.le rfl) fun z => no (k2.fz.ow q z)) r2⟩
      simp only [tmps, List.mem_append, not_or] at nt
      exact k2.no a z nt.2 no
    · cases e
  | true :: ms, v :: vs, .brw i :: rs, ss, F, ρ, ρ', p, ⟨h, t, n⟩, e => by
    simp only [prep] at e
    split at e
    · rename_i ss' ρ2 e2
      split at e
      · rename_i d ed
        cases e
        obtain ⟨F2, p2, k2, r2⟩ := prep_of p t e2
        obtain ⟨hv, _⟩ := h
        refine ⟨F2, p2, ⟨k2.fz, fun a z nt no => ?_⟩, .cons (.brw hv ed) r2⟩
        simp only [tmps, List.mem_append, not_or] at nt
        exact k2.no a z nt.2 no
      · cases e
    · cases e

/-! ### by places -/
theorem ArgsOk.len : ∀ {vs : List V} {ms : List Bool} {rs : List Rv} {ss : List S}, ArgsOk K mg H0 F H σ ρ vs ms rs ss → vs.length = ss.length ∧ ms.length = ss.length ∧ rs.length = ss.length
  | _, _, _, _, .nil => ⟨rfl, rfl, rfl⟩
  | _, _, _, _, .cons _ t => by obtain ⟨a, b, c⟩ := t.len; simp [a, b, c]
theorem ArgsOk.get : ∀ {vs : List V} {ms : List Bool} {rs : List Rv} {ss : List S} {k : Nat} {s : S}, ArgsOk K mg H0 F H σ ρ vs ms rs ss → ss[k]? = some s →
    ∃ v m r, vs[k]? = some v ∧ ms[k]? = some m ∧ rs[k]? = some r ∧ ArgOk K mg H0 F H σ ρ v m r s
  | _, _, _, _, _, _, .nil, e => by simp at e
  | _, _, _, _, 0, _, .cons h _, e => by simp at e; subst e; exact ⟨_, _, _, rfl, rfl, rfl, h⟩
  | _, _, _, _, k + 1, _, .cons _ t, e => by
    obtain ⟨v, m, r, h1, h2, h3, h4⟩ := t.get (k := k) (by simpa using e)
    exact ⟨v, m, r, by simpa using h1, by simpa using h2, by simpa using h3, h4⟩
theorem tmps_get : ∀ {vs : List V} {rs : List Rv} {k : Nat} {v : V} {r : Rv} {p : Addr}, vs[k]? = some v → rs[k]? = some r → tmpA v r = some p → p ∈ tmps vs rs
  | [], _, _, _, _, _, e, _, _ => by simp at e
  | _ :: _, [], _, _, _, _, _, e, _ => by simp at e
  | _ :: _, _ :: _, 0, _, _, _, e1, e2, e => by simp at e1 e2; subst e1; subst e2; exact mem_tmps_head e
  | _ :: _, _ :: _, k + 1, _, _, _, e1, e2, e => mem_tmps_tail (tmps_get (k := k) (by simpa using e1) (by simpa using e2) e)
theorem RvRs.inj : ∀ {vs : List V} {rs : List Rv} {k l : Nat} {v v' : V} {r r' : Rv} {p : Addr}, RvRs K mg H0 F H σ ρ vs rs → vs[k]? = some v → rs[k]? = some r → vs[l]? = some v' → rs[l]? = some r' → tmpA v r = some p → tmpA v' r' = some p → k = l
  | [], _, _, _, _, _, _, _, _, _, e, _, _, _, _, _ => by simp at e
  | _ :: _, [], _, _, _, _, _, _, _, h, _, _, _, _, _, _ => h.elim
  | _ :: _, _ :: _, 0, 0, _, _, _, _, _, _, _, _, _, _, _, _ => rfl
  | _ :: _, _ :: _, 0, l + 1, _, _, _, _, _, ⟨_, _, n⟩, e1, e2, e3, e4, e5, e6 => by
    simp at e1 e2; subst e1; subst e2
    exact absurd (tmps_get (k := l) (by simpa using e3) (by simpa using e4) e6) (n _ e5)
  | _ :: _, _ :: _, k + 1, 0, _, _, _, _, _, ⟨_, _, n⟩, e1, e2, e3, e4, e5, e6 => by
    simp at e3 e4; subst e3; subst e4
    exact absurd (tmps_get (k := k) (by simpa using e1) (by simpa using e2) e5) (n _ e6)
  | _ :: _, _ :: _, k + 1, l + 1, _, _, _, _, _, ⟨_, t, _⟩, e1, e2, e3, e4, e5, e6 => by
    rw [t.inj (k := k) (l := l) (by simpa using e1) (by simpa using e2) (by simpa using e3) (by simpa using e4) e5 e6]
theorem mem_lent : ∀ {ms : List Bool} {rs : List Rv} {k i : Nat}, ms[k]? = some true → rs[k]? = some (.brw i) → i ∈ lent ms rs
  | [], _, _, _, e, _ => by simp at e
  | _ :: _, [], _, _, _, e => by simp at e
  | true :: ms, .brw j :: rs, 0, i, e1, e2 => by simp at e2; subst e2; simp [lent]
  | false :: ms, r :: rs, 0, i, e1, e2 => by simp at e1
  | true :: ms, .val j :: rs, 0, i, e1, e2 => by simp at e2
  | true :: ms, .tmp j :: rs, 0, i, e1, e2 => by simp at e2
  | m :: ms, r :: rs, k + 1, i, e1, e2 => by
    have h := mem_lent (ms := ms) (rs := rs) (k := k) (i := i) (by simpa using e1) (by simpa using e2)
    cases m <;> cases r <;> simp [lent, h]
theorem lent_inj : ∀ {ms : List Bool} {rs : List Rv} {k l i : Nat}, (lent ms rs).Nodup → ms[k]? = some true → rs[k]? = some (.brw i) → ms[l]? = some true → rs[l]? = some (.brw i) → k = l
  | [], _, _, _, _, _, e, _, _, _ => by simp at e
  | _ :: _, [], _, _, _, _, _, e, _, _ => by simp at e
  | _ :: _, _ :: _, 0, 0, _, _, _, _, _, _ => rfl
  | m :: ms, r :: rs, 0, l + 1, i, n, e1, e2, e3, e4 => by
    simp at e1 e2; subst e1; subst e2
    simp only [lent, List.nodup_cons] at n
    exact absurd (mem_lent (k := l) (by simpa using e3) (by simpa using e4)) n.1
  | m :: ms, r :: rs, k + 1, 0, i, n, e1, e2, e3, e4 => by
    simp at e3 e4; subst e3; subst e4
    simp only [lent, List.nodup_cons] at n
    exact absurd (mem_lent (k := k) (by simpa using e1) (by simpa using e2)) n.1
  | m :: ms, r :: rs, k + 1, l + 1, i, n, e1, e2, e3, e4 => by
    have n' : (lent ms rs).Nodup := by
      cases m <;> cases r <;> simp only [lent] at n <;> first | exact n | exact (List.nodup_cons.mp n).2
    rw [lent_inj (k := k) (l := l) n' (by simpa using e1) (by simpa using e2) (by simpa using e3) (by simpa using e4)]
theorem back_len : ∀ (ms : List Bool) (rs : List Rv) (ss : List S) (ρ : En), (back ms rs ss ρ).length = ρ.length
  | [], _, _, _ => by simp [back]
  | m :: ms, [], _, _ => by cases m <;> simp [back]
  | m :: ms, r :: rs, [], _ => by cases m <;> cases r <;> simp [back]
  | m :: ms, r :: rs, s :: ss, ρ => by
    have h := back_len ms rs ss ρ
    cases m <;> cases r <;> simp [back, h]
theorem at_lt {ρ : En} {i : Nat} {s : S} (h : ρ.at i = some s) : i < ρ.length := by
  rcases Nat.lt_or_ge i ρ.length with z | z
  · exact z
  · unfold En.at at h; rw [List.getElem?_eq_none z] at h; cases h
theorem at_set_self {ρ : En} {i : Nat} {s : Option S} (h : i < ρ.length) : En.at (ρ.set i s) i = s := by
  unfold En.at; rw [List.getElem?_set_self h]; rfl
theorem back_not : ∀ {ms : List Bool} {rs : List Rv} {ss : List S} {ρ : En} {j : Nat}, j ∉ lent ms rs → (back ms rs ss ρ).at j = ρ.at j
  | [], _, _, _, _, _ => by simp [back]
  | m :: ms, [], _, _, _, _ => by cases m <;> simp [back]
  | m :: ms, r :: rs, [], _, _, _ => by cases m <;> cases r <;> simp [back]
  | m :: ms, r :: rs, s :: ss, ρ, j, n => by
    cases m <;> cases r <;> simp only [lent, List.mem_cons, not_or] at n <;> simp only [back] <;> first
      | exact back_not n
      | (rw [at_set_ne (Ne.symm n.1)]; exact back_not n.2)
theorem back_at : ∀ {ms : List Bool} {rs : List Rv} {ss : List S} {ρ : En} {k j : Nat} {s : S}, (lent ms rs).Nodup → j < ρ.length → ms[k]? = some true → rs[k]? = some (.brw j) → ss[k]? = some s → (back ms rs ss ρ).at j = some s
  | [], _, _, _, _, _, _, _, _, e, _, _ => by simp at e
  | _ :: _, [], _, _, _, _, _, _, _, _, e, _ => by simp at e
  | _ :: _, _ :: _, [], _, _, _, _, _, _, _, _, e => by simp at e
  | m :: ms, r :: rs, s' :: ss, ρ, 0, j, s, n, hj, e1, e2, e3 => by
    simp at e1 e2 e3; subst e1; subst e2; subst e3
    simp only [back]
    exact at_set_self (by rw [back_len]; exact hj)
  | m :: ms, r :: rs, s' :: ss, ρ, k + 1, j, s, n, hj, e1, e2, e3 => by
    have mem := mem_lent (ms := ms) (rs := rs) (k := k) (i := j) (by simpa using e1) (by simpa using e2)
    cases m <;> cases r <;> simp only [lent, List.nodup_cons] at n <;> simp only [back] <;> first
      | exact back_at (k := k) n hj (by simpa using e1) (by simpa using e2) (by simpa using e3)
      | (rw [at_set_ne (by intro z; subst z; exact n.1 mem)]
         exact back_at (k := k) n.2 hj (by simpa using e1) (by simpa using e2) (by simpa using e3))
theorem at_map {l : List S} {k : Nat} : En.at (l.map some) k = l[k]? := by
  unfold En.at
  rw [List.getElem?_map]
  cases l[k]? <;> rfl
theorem stAt_map {l : List V} {k : Nat} : stAt (l.map some) k = l[k]? := by
  unfold stAt
  rw [List.getElem?_map]
  cases l[k]? <;> rfl
end
end Mp

/-! Mp6: a call, by its arguments; operations, read off. -/
namespace Mp
open PySem L2 PyProof.Rows
def SvO : S → Rv
  | .val d => .val d
  | .own d => .tmp d
  | .exn _ => .brw 0
/-- the promise of a def, by its evaluator -/
def spC (K : PySem.W.Frag) (mg : MG) (np : Nat) (call : List S → CO) : Sp := fun vs H Q E => vs.length = np ∧ ∃ F ss, EnvR K mg F H (vs.map some) (ss.map some) ∧
  match call ss with
  | .ok r ss' => ∀ v F' H', Po K mg F H (vs.map some) (ss.map some) F' H' (ss'.map some) → RvR K mg H F' H' (vs.map some) (ss'.map some) v (SvO r) → Q v H'
  | .er x ss' => ∀ c d F' H', Po K mg F H (vs.map some) (ss.map some) F' H' (ss'.map some) → XnR K mg F' c d x → E c d H'
  | .bad => False
section
variable {K : PySem.W.Frag} {mg : MG} {W : WW} {F0 H0 F H : Hp} {σ : L2.St} {ρ0 ρ : En}
theorem args_env {vs : List V} {ms : List Bool} {rs : List Rv} {ss : List S} (en : EnvR K mg F H σ ρ) (a : ArgsOk K mg H0 F H σ ρ vs ms rs ss) (nt : ∀ (k l : Nat) (v v' : V) (r r' : Rv) (p : Addr), vs[k]? = some v → rs[k]? = some r → vs[l]? = some v' → rs[l]? = some r' → tmpA v r = some p → tmpA v' r' = some p → k = l)
    (nl : (lent ms rs).Nodup) : EnvR K mg F H (vs.map some) (ss.map some) := by
  refine ⟨by simp [a.len.1], en.sub, fun i d e => ?_, fun i d e => ?_, fun i j d d' p e1 e2 e3 e4 => ?_, fun i x e => ?_⟩
  · rw [at_map] at e
    obtain ⟨v, m, r, h1, h2, h3, h4⟩ := a.get e
    rw [stAt_map]
    cases h4 with
    | val h => exact ⟨v, h1, h⟩
  · rw [at_map] at e
    obtain ⟨v, m, r, h1, h2, h3, h4⟩ := a.get e
    rw [stAt_map]
    cases h4 with
    | tmp h0 f o n => exact ⟨_, h1, f, o⟩
    | brw hv hi =>
      obtain ⟨p, e1, f, o⟩ := en.own _ _ hi
      rw [hv] at e1; cases e1
      exact ⟨_, h1, f, o⟩
  · rw [at_map] at e1 e2
    rw [stAt_map] at e3 e4
    obtain ⟨v, m, r, h1, h2, h3, h4⟩ := a.get e1
    obtain ⟨v', m', r', h1', h2', h3', h4'⟩ := a.get e2
    rw [e3] at h1; cases h1
    rw [e4] at h1'; cases h1'
    cases h4 with
    | tmp h0 f o n =>
      cases h4' with
      | tmp h0' f' o' n' => exact nt i j _ _ _ _ _ e3 h3 e4 h3' rfl rfl
      | brw hv hi => exact absurd ⟨_, _, hi, hv⟩ n
    | brw hv hi =>
      cases h4' with
      | tmp h0' f' o' n' => exact absurd ⟨_, _, hi, hv⟩ n'
      | brw hv' hi' =>
        have ij := en.inj _ _ _ _ _ hi hi' hv hv'
        subst ij
        exact lent_inj nl h2 h3 h2' h3'
  · rw [at_map] at e
    obtain ⟨v, m, r, h1, h2, h3, h4⟩ := a.get e
    cases h4
/-- what the callee owns -/
theorem args_own {vs : List V} {ms : List Bool} {rs : List Rv} {ss : List S} (a : ArgsOk K mg H0 F H σ ρ vs ms rs ss) {p : Addr} (h : Own (vs.map some) (ss.map some) p) :
    H0 p = none ∨ ∃ (k i : Nat) (d : D), ms[k]? = some true ∧ rs[k]? = some (.brw i) ∧ stAt σ i = some (.ref p) ∧ ρ.at i = some (.own d) := by
  obtain ⟨k, d, e1, e2⟩ := h
  rw [at_map] at e1; rw [stAt_map] at e2
  obtain ⟨v, m, r, h1, h2, h3, h4⟩ := a.get e1
  rw [e2] at h1; cases h1
  cases h4 with
  | tmp h0 f o n => exact .inl h0
  | brw hv hi => exact .inr ⟨k, _, _, h2, h3, hv, hi⟩
theorem lent_get : ∀ {ms : List Bool} {rs : List Rv} {i : Nat}, i ∈ lent ms rs → ∃ k : Nat, ms[k]? = some true ∧ rs[k]? = some (.brw i)
  | [], _, _, m => by simp [lent] at m
  | b :: ms, [], _, m => by cases b <;> simp [lent] at m
  | b :: ms, r :: rs, i, m => by
    have tl : i ∈ lent ms rs → ∃ k : Nat, (b :: ms)[k]? = some true ∧ (r :: rs)[k]? = some (.brw i) := fun h => by
      obtain ⟨k, h1, h2⟩ := lent_get h
      exact ⟨k + 1, by simpa using h1, by simpa using h2⟩
    cases b <;> cases r <;> simp only [lent, List.mem_cons] at m <;> first
      | exact tl m
      | (rcases m with m | m
         · subst m; exact ⟨0, rfl, rfl⟩
         · exact tl m)
/-- behind the call -/
theorem call_back {vs : List V} {ms : List Bool} {rs : List Rv} {ss ss' : List S} {F' H' : Hp} (p : Po K mg F0 H0 σ ρ0 F H ρ) (a : ArgsOk K mg H0 F H σ ρ vs ms rs ss) (nl : (lent ms rs).Nodup)
    (q : Po K mg F H (vs.map some) (ss.map some) F' H' (ss'.map some)) : Po K mg F0 H0 σ ρ0 F' H' (back ms rs ss' ρ) ∧ ∀ b, Own σ (back ms rs ss' ρ) b → Own σ ρ b := by
  have hl : ss'.length = ss.length := by
    have := q.en.len
    simp only [List.length_map] at this
    rw [← this]; exact a.len.1
  -- a slot that is lent
  have lentAt : ∀ (k i : Nat), ms[k]? = some true → rs[k]? = some (.brw i) → ∃ (v : V) (d : D) (s : S), vs[k]? = some v ∧ stAt σ i = some v ∧ ρ.at i = some (.own d) ∧ ss'[k]? = some s ∧ (back ms rs ss' ρ).at i = some s ∧ ss[k]? = some (.own d) := fun k i e1 e2 => by
    have hk : k < ss.length := by
      rw [← a.len.2.1]
      exact (List.getElem?_eq_some_iff.mp e1).1
    obtain ⟨v, m, r, h1, h2, h3, h4⟩ := a.get (List.getElem?_eq_getElem hk)
    rw [e1] at h2; cases h2
    rw [e2] at h3; cases h3
    have hk' : k < ss'.length := by omega
    generalize hs : ss[k] = s0 at h4
    cases h4 with
    | brw hv hi => exact ⟨v, _, _, h1, hv, hi, List.getElem?_eq_getElem hk', back_at nl (at_lt hi) e1 e2 (List.getElem?_eq_getElem hk'), by rw [List.getElem?_eq_getElem hk, hs]⟩
  have own' : ∀ j d b, (back ms rs ss' ρ).at j = some (.own d) → stAt σ j = some (.ref b) → ∃ d', ρ.at j = some (.own d') := fun j d b e1 e2 => by
    by_cases m : j ∈ lent ms rs
    · obtain ⟨k, h1, h2⟩ := lent_get m
      obtain ⟨_, d', _, _, _, hi, _⟩ := lentAt k j h1 h2
      exact ⟨d', hi⟩
    · rw [back_not m] at e1; exact ⟨d, e1⟩
  -- a slot that is not lent keeps its thing
  have keepOwn : ∀ j d b, j ∉ lent ms rs → ρ.at j = some (.own d) → stAt σ j = some (.ref b) → ¬ Own (vs.map some) (ss.map some) b := fun j d b m e1 e2 z => by
    obtain ⟨k, d2, z1, z2⟩ := z
    rw [at_map] at z1; rw [stAt_map] at z2
    obtain ⟨v, mm, r, h1, h2, h3, h4⟩ := a.get z1
    rw [z2] at h1; cases h1
    cases h4 with
    | tmp h0 f o n => exact n ⟨j, d, e1, e2⟩
    | brw hv hi =>
      have := p.en.inj _ _ _ _ _ e1 hi e2 hv
      subst this
      exact m (mem_lent h2 h3)
  refine ⟨⟨⟨p.st.mono.trans q.st.mono, fun b o e n => ?_, fun b e => p.st.al b (q.st.al b e)⟩, ⟨by rw [back_len]; exact p.en.len, q.en.sub, fun j d e => ?_, fun j d e => ?_, fun i j d d' b e1 e2 e3 e4 => ?_, fun j x e => ?_⟩, fun b z => ?_, fun j s e => ?_⟩, fun b ⟨j, d, e1, e2⟩ => ?_⟩
  · obtain ⟨k1, k2⟩ := p.st.keep b o e n
    have nb : ¬ Own (vs.map some) (ss.map some) b := fun z => by
      rcases args_own a z with h0 | ⟨k, i, d, h1, h2, h3, h4⟩
      · rw [h0] at e; cases e
      · exact n (p.ow b ⟨i, d, h4, h3⟩)
    obtain ⟨l1, l2⟩ := q.st.keep b o k1 nb
    exact ⟨l1, fun f => l2 (k2 f)⟩
  · by_cases m : j ∈ lent ms rs
    · obtain ⟨k, h1, h2⟩ := lent_get m
      obtain ⟨v, d', s, hv, hj, hi, hs, hb, _⟩ := lentAt k j h1 h2
      rw [hb] at e; cases e
      obtain ⟨v', e1, r⟩ := q.en.val k d (by rw [at_map]; exact hs)
      rw [stAt_map, hv] at e1; cases e1
      exact ⟨_, hj, r⟩
    · rw [back_not m] at e
      obtain ⟨v, e1, r⟩ := p.en.val j d e
      exact ⟨v, e1, r.mono q.st.mono⟩
  · by_cases m : j ∈ lent ms rs
    · obtain ⟨k, h1, h2⟩ := lent_get m
      obtain ⟨v, d', s, hv, hj, hi, hs, hb, _⟩ := lentAt k j h1 h2
      rw [hb] at e; cases e
      obtain ⟨b, e1, f, o⟩ := q.en.own k d (by rw [at_map]; exact hs)
      rw [stAt_map, hv] at e1; cases e1
      exact ⟨b, hj, f, o⟩
    · rw [back_not m] at e
      obtain ⟨b, e1, f, o⟩ := p.en.own j d e
      obtain ⟨u, hu⟩ := o.obj
      obtain ⟨l1, l2⟩ := q.st.keep b u hu (keepOwn j d b m e e1)
      exact ⟨b, e1, l2 f, o.at q.st.mono (l1.trans hu.symm)⟩
  · obtain ⟨d1, h1⟩ := own' i d b e1 e3
    obtain ⟨d2, h2⟩ := own' j d' b e2 e4
    exact p.en.inj _ _ _ _ _ h1 h2 e3 e4
  · by_cases m : j ∈ lent ms rs
    · obtain ⟨k, h1, h2⟩ := lent_get m
      obtain ⟨v, d', s, hv, hj, hi, hs, hb, _⟩ := lentAt k j h1 h2
      rw [hb] at e; cases e
      obtain ⟨a, c, d, e1, e2, e3⟩ := q.en.exn k x (by rw [at_map]; exact hs)
      rw [stAt_map, hv] at e2; cases e2
      exact ⟨a, c, d, e1, hj, e3⟩
    · rw [back_not m] at e
      exact p.en.exnM q.st.mono j x e
  · obtain ⟨j, d, e1, e2⟩ := z
    obtain ⟨d1, h1⟩ := own' j d b e1 e2
    exact p.ow b ⟨j, d1, h1, e2⟩
  · obtain ⟨s1, e1⟩ := p.fil j s e
    by_cases m : j ∈ lent ms rs
    · obtain ⟨k, h1, h2⟩ := lent_get m
      obtain ⟨_, _, s, _, _, _, _, hb, _⟩ := lentAt k j h1 h2
      exact ⟨s, hb⟩
    · rw [back_not m]; exact ⟨s1, e1⟩
  · obtain ⟨d1, h1⟩ := own' j d b e1 e2
    exact ⟨j, d1, h1, e2⟩
/-- an owned thing stands -/
theorem EnvR.own_some (en : EnvR K mg F H σ ρ) {b : Addr} (h : Own σ ρ b) : H b ≠ none := by
  obtain ⟨j, d, e1, e2⟩ := h
  obtain ⟨b', e3, _, o⟩ := en.own j d e1
  rw [e2] at e3; cases e3
  obtain ⟨u, hu⟩ := o.obj
  rw [hu]; exact fun z => nomatch z
theorem callR_of {c : Cc} {f : Nat} {rs : List Rv} {vs : List V} {Q : V → Hp → Prop} (p : Po K mg F0 H0 σ ρ0 F H ρ) (a : RvRs K mg H0 F H σ ρ vs rs) (h : FinE K mg W F0 H0 σ ρ0 Q (callR c f rs ρ)) :
    spC K mg (c.mus f).length (c.call f) vs H Q fun cl d H' => W cl d σ H' := by
  unfold callR at h
  split at h
  · rename_i ss ρ1 e1
    obtain ⟨F1, p1, k1, g1⟩ := prep_of p a e1
    split at h
    · rename_i nl
      have ln := g1.len
      refine ⟨by omega, F1, ss, args_env p1.en g1 (fun k l v v' r r' q h1 h2 h3 h4 h5 h6 => a.inj h1 h2 h3 h4 h5 h6) nl, ?_⟩
      have fin : ∀ {ss' : List S} {v : V} {F' H' : Hp} {r : S} (hr : match r with | .exn _ => False | _ => True), Po K mg F1 H (vs.map some) (ss.map some) F' H' (ss'.map some) → RvR K mg H F' H' (vs.map some) (ss'.map some) v (SvO r) → RvR K mg H0 F' H' σ (back (c.mus f) rs ss' ρ1) v (SvO r) := fun {ss' v F' H' r} hr q r1 => by
        cases r with
        | val d => exact r1
        | own d =>
          obtain ⟨b, e, hb, fb, o, _⟩ := r1
          exact ⟨b, e, p1.st.al b hb, fb, o, fun z => p1.en.own_some ((call_back p1 g1 nl q).2 b z) hb⟩
        | exn x => exact hr.elim
      split at h
      · rename_i d ss' ec
        rw [ec]
        exact fun v F' H' q r1 => h v F' H' (call_back p1 g1 nl q).1 (fin (r := .val d) trivial q r1)
      · rename_i d ss' ec
        rw [ec]
        exact fun v F' H' q r1 => h v F' H' (call_back p1 g1 nl q).1 (fin (r := .own d) trivial q r1)
      · rename_i x ss' ec
        rw [ec]
        exact fun cl d F' H' q x1 => h cl d F' H' (call_back p1 g1 nl q).1 x1
      · exact h.elim
    · exact h.elim
  · exact h.elim
end
end Mp

/-! Mp7: built-ins by data. -/
namespace Mp
open PySem L2 PyProof.Rows
section
variable {K : PySem.W.Frag} {mg : MG} {F H : Hp}
theorem dInts_eq : ∀ {l : List D} {ns : List Int}, dInts l = some ns → l = ns.map D.int
  | [], ns, e => by simp only [dInts] at e; cases e; rfl
  | d :: l, ns, e => by
    cases d with
    | int i =>
      simp only [dInts] at e
      cases q : dInts l with
      | none => rw [q] at e; cases e
      | some ms => rw [q] at e; cases e; rw [dInts_eq q]; rfl
    | _ => simp [dInts] at e
theorem dBls_eq : ∀ {l : List D} {ns : List Bool}, dBls l = some ns → l = ns.map D.bl
  | [], ns, e => by simp only [dBls] at e; cases e; rfl
  | d :: l, ns, e => by
    cases d with
    | bl i =>
      simp only [dBls] at e
      cases q : dBls l with
      | none => rw [q] at e; cases e
      | some ms => rw [q] at e; cases e; rw [dBls_eq q]; rfl
    | _ => simp [dBls] at e
theorem dStrs_eq : ∀ {l : List D} {ns : List Str}, dStrs l = some ns → l = ns.map D.str
  | [], ns, e => by simp only [dStrs] at e; cases e; rfl
  | d :: l, ns, e => by
    cases d with
    | str i =>
      simp only [dStrs] at e
      cases q : dStrs l with
      | none => rw [q] at e; cases e
      | some ms => rw [q] at e; cases e; rw [dStrs_eq q]; rfl
    | _ => simp [dStrs] at e
theorem RelL.ints : ∀ {ns : List Int} {vs : List V}, RelL K mg F vs (ns.map D.int) → vs = ns.map V.int
  | [], _, .nil => rfl
  | n :: ns, _, .cons h t => by cases h; rw [RelL.ints t]; rfl
theorem RelL.bls : ∀ {ns : List Bool} {vs : List V}, RelL K mg F vs (ns.map D.bl) → vs = ns.map V.bl
  | [], _, .nil => rfl
  | n :: ns, _, .cons h t => by cases h; rw [RelL.bls t]; rfl
theorem RelL.strs : ∀ {ns : List Str} {vs : List V}, RelL K mg F vs (ns.map D.str) → vs = ns.map V.str
  | [], _, .nil => rfl
  | n :: ns, _, .cons h t => by cases h; rw [RelL.strs t]; rfl
theorem RelL.at {vs : List V} {ds : List D} {i : Int} {d : D} (r : RelL K mg F vs ds) (e : atI ds i = some d) : ∃ v, atI vs i = some v ∧ RelD K mg F v d := by
  unfold atI at *
  rw [r.length]
  cases q : ixN ds.length i with
  | none => rw [q] at e; cases e
  | some j =>
    rw [q] at e
    exact r.get e
theorem cut_rel {vs : List V} {ds : List D} {lo hi : Option Int} (r : RelL K mg F vs ds) : RelL K mg F (cutV vs lo hi) (cutD ds lo hi) := by
  unfold cutV cutD
  rw [r.length]
  exact (r.drop _).take _
theorem RelL.inj_vals {vs : List V} {ks : List Key} (F : Hp) : RelL K mg F (ks.map kV) (ks.map fun k => match k with | .inl i => D.int i | .inr s => D.str s) := by
  induction ks with
  | nil => exact .nil
  | cons k ks ih => cases k with | inl i => exact .cons (.int i) ih | inr s => exact .cons (.str s) ih
/-- any number of arguments, by data -/
def rC (K : PySem.W.Frag) (mg : MG) (g : List D → Option Rr) : List V → Hp → VK → Prop := fun xs H Q => ∃ F ds, Sub F H ∧ VwL K mg F H xs ds ∧ GOut K mg F H Q (g ds)
end
def Bi.nm : Bi → Str
  | .len => "len"
  | .int => "int"
  | .abs => "abs"
  | .tuple => "tuple"
  | .list => "list"
  | .sum => "sum"
  | .all => "all"
  | .any => "any"
  | .max2 => "max"
  | .min2 => "min"
  | .str => "str"
  | .sorted => "sorted"
  | .max1 => "max"
  | .min1 => "min"
/-- how many arguments -/
def Bi.ar : Bi → Nat
  | .max2 => 2
  | .min2 => 2
  | _ => 1
def Bi.vl : Bi → Value
  | .len => .builtin "len"
  | .int => .type "int"
  | .abs => .builtin "abs"
  | .tuple => .type "tuple"
  | .list => .type "list"
  | .sum => .builtin "sum"
  | .all => .builtin "all"
  | .any => .builtin "any"
  | .max2 => .builtin "max"
  | .min2 => .builtin "min"
  | .str => .type "str"
  | .sorted => .builtin "sorted"
  | .max1 => .builtin "max"
  | .min1 => .builtin "min"
theorem insI_perm (x : Int) : ∀ l : List Int, (insI x l).Perm (x :: l)
  | [] => .refl _
  | y :: l => by
    simp only [insI]
    split
    · exact .refl _
    · exact ((insI_perm x l).cons y).trans (.swap x y l)
theorem sortI_perm : ∀ l : List Int, (sortI l).Perm l
  | [] => .refl _
  | x :: l => (insI_perm x (sortI l)).trans ((sortI_perm l).cons x)
theorem insI_asc (x : Int) : ∀ l : List Int, l.Pairwise (· ≤ ·) → (insI x l).Pairwise (· ≤ ·)
  | [], _ => by simp [insI]
  | y :: l, h => by
    rw [List.pairwise_cons] at h
    simp only [insI]
    split
    · rename_i c
      rw [List.pairwise_cons, List.pairwise_cons]
      refine ⟨fun z hz => ?_, h.1, h.2⟩
      rcases List.mem_cons.mp hz with e | e
      · rw [e]; exact c
      · exact Int.le_trans c (h.1 z e)
    · rename_i c
      rw [List.pairwise_cons]
      refine ⟨fun z hz => ?_, insI_asc x l h.2⟩
      rcases List.mem_cons.mp ((insI_perm x l).mem_iff.mp hz) with e | e
      · rw [e]; omega
      · exact h.1 z e
theorem sortI_asc : ∀ l : List Int, (sortI l).Pairwise (· ≤ ·)
  | [] => .nil
  | x :: l => insI_asc x _ (sortI_asc l)
theorem sortI_only {l l' : List Int} (h : l'.Perm l) (p : l'.Pairwise (· ≤ ·)) : l' = sortI l :=
  List.Perm.eq_of_pairwise (fun a b _ _ h1 h2 => Int.le_antisymm h1 h2) p (sortI_asc l) (h.trans (sortI_perm l).symm)
theorem maxI_ok : ∀ (l : List Int) (x : Int), maxI x l ∈ x :: l ∧ ∀ y ∈ x :: l, y ≤ maxI x l
  | [], x => by simp [maxI]
  | y :: l, x => by
    simp only [maxI]
    obtain ⟨h1, h2⟩ := maxI_ok l (if y ≤ x then x else y)
    refine ⟨?_, fun z hz => ?_⟩
    · rcases List.mem_cons.mp h1 with e | e
      · rw [e]; split <;> simp
      · exact List.mem_cons_of_mem _ (List.mem_cons_of_mem _ e)
    · have h3 := h2 _ List.mem_cons_self
      rcases List.mem_cons.mp hz with e | e
      · subst e; split at h3 <;> split <;> omega
      · rcases List.mem_cons.mp e with e | e
        · subst e; split at h3 <;> split <;> omega
        · exact h2 z (List.mem_cons_of_mem _ e)
theorem minI_ok : ∀ (l : List Int) (x : Int), minI x l ∈ x :: l ∧ ∀ y ∈ x :: l, minI x l ≤ y
  | [], x => by simp [minI]
  | y :: l, x => by
    simp only [minI]
    obtain ⟨h1, h2⟩ := minI_ok l (if x ≤ y then x else y)
    refine ⟨?_, fun z hz => ?_⟩
    · rcases List.mem_cons.mp h1 with e | e
      · rw [e]; split <;> simp
      · exact List.mem_cons_of_mem _ (List.mem_cons_of_mem _ e)
    · have h3 := h2 _ List.mem_cons_self
      rcases List.mem_cons.mp hz with e | e
      · subst e; split at h3 <;> split <;> omega
      · rcases List.mem_cons.mp e with e | e
        · subst e; split at h3 <;> split <;> omega
        · exact h2 z (List.mem_cons_of_mem _ e)
theorem RelL.of_ints {K : PySem.W.Frag} {mg : MG} {F : Hp} : ∀ ns : List Int, RelL K mg F (ns.map V.int) (ns.map D.int)
  | [] => .nil
  | n :: ns => .cons (.int n) (RelL.of_ints ns)
section
variable {X : Cx}
/-- tuple(x): of a list a new tuple, without a dict -/
theorem call_tupX : CallR X (.type "tuple") (fun xs H Q => ∃ p ys, xs = [.ref p] ∧ ((SqL X.K H p ys ∧ ∀ l ob, H l = none → ob.dict = none → Q (.ref l) (upd H l (.frz ob (.tup ys)))) ∨ (SqT X.K H p ys ∧ Q (.ref p) H))) := fun pins s σ H xs us Q I r ⟨p, ys, ex, h⟩ => by
  subst ex
  have r0 := r
  obtain ⟨u, rfl, rx⟩ := vals1 r
  cases rx
  rcases h with ⟨hq, q⟩ | h
  · obtain ⟨its, rv, pl, hz⟩ := I.list hq
    have hl := rv.length
    refine call_tuple_list pl.isList (fun h' kp => ?_) (by simp only [List.size_toArray] <;> omega)
    have I1 : Inv X pins σ H { s with heap := h' } := I.kept (t' := s.toks) kp
    exact ⟨.ref h'.objs.size, _, I1.laid (t' := s.toks) (o := .frz _ (.tup ys)) (fun b o e => Heap.get?_push_of_some _ e) (Nat.le_refl _) ⟨Heap.get?_push_size _ rfl, hz, its, rv, IsTup.new _ _⟩, rfl, q _ _ (I1.hok.fresh (Nat.le_refl _)) rfl⟩
  · exact call_tuple_of pins s σ H _ _ Q I r0 ⟨p, ys, rfl, .inr h⟩
theorem bi_ok (b : Bi) (hcc : b.cool = false → X.calm = true) (hch : X.calm = true ∨ L2H.HotC X) : CallR X b.vl (rC X.K X.mG b.ap) := by
  intro pins s σ H xs us Q I r h
  obtain ⟨F, ds, sb, v, g⟩ := h
  have no : ∀ {P : Prop}, GOut X.K X.mG F H Q none → P := fun z => z.elim
  cases v with
  | nil => cases b <;> exact no g
  | @cons x xs d ds v t =>
    cases t with
    | @cons x2 xs2 d2 ds2 v2 t2 =>
      cases t2 with
      | @cons x3 xs3 d3 ds3 v3 t3 => cases b <;> cases d <;> cases d2 <;> exact no g
      | nil =>
        cases b with
        | max2 =>
          cases d with
          | int i =>
            cases d2 with
            | int j => have e := v.int; have e2 := v2.int; subst e; subst e2; exact call_max2 (hcc rfl) pins s σ H _ us Q I r ⟨i, j, rfl, g.int sb⟩
            | _ => exact no g
          | _ => exact no g
        | min2 =>
          cases d with
          | int i =>
            cases d2 with
            | int j => have e := v.int; have e2 := v2.int; subst e; subst e2; exact call_min2 (hcc rfl) pins s σ H _ us Q I r ⟨i, j, rfl, g.int sb⟩
            | _ => exact no g
          | _ => exact no g
        | _ => cases d <;> exact no g
    | nil =>
      cases b with
      | len =>
        cases d with
        | lst l =>
          obtain ⟨p, ys, e, q, rl⟩ := v.lst sb
          subst e
          exact call_len_seq pins s σ H _ us Q I r ⟨p, ys, rfl, .inl q, by rw [rl.length]; exact g.int sb⟩
        | tup l =>
          obtain ⟨p, ys, e, q, rl⟩ := v.tup sb
          subst e
          exact call_len_seq pins s σ H _ us Q I r ⟨p, ys, rfl, .inr q, by rw [rl.length]; exact g.int sb⟩
        | str z =>
          simp only [Bi.ap] at g
          split at g
          · rename_i c
            have e := v.str
            subst e
            exact call_len_str pins s σ H _ us Q I r ⟨z, rfl, by rw [← lim_eq]; exact c, g.int sb⟩
          · exact no g
        | _ => exact no g
      | int =>
        cases d with
        | int i => have e := v.int; subst e; exact call_int1 pins s σ H _ us Q I r (.inl ⟨i, rfl, g.int sb⟩)
        | bl i => have e := v.bl; subst e; exact call_int1 pins s σ H _ us Q I r (.inr ⟨i, rfl, g.int sb⟩)
        | str a =>
          simp only [Bi.ap] at g
          split at g
          · rename_i c
            cases q : intText? a with
            | none => rw [q] at g; exact no g
            | some n =>
              rw [q] at g
              have e := v.str; subst e
              exact call_int_str pins s σ H _ us Q I r ⟨a, n, rfl, q, c, g.int sb⟩
          · exact no g
        | _ => exact no g
      | max2 => cases d <;> exact no g
      | min2 => cases d <;> exact no g
      | str =>
        cases d with
        | int i =>
          simp only [Bi.ap] at g
          split at g
          · rename_i c
            have e := v.int; subst e
            exact call_str_int pins s σ H _ us Q I r ⟨i, rfl, c, g.str sb⟩
          · exact no g
        | _ => exact no g
      | abs =>
        cases d with
        | int i => have e := v.int; subst e; exact call_abs pins s σ H _ us Q I r ⟨i, rfl, g.int sb⟩
        | _ => exact no g
      | tuple =>
        cases d with
        | lst l =>
          obtain ⟨p, ys, e, q, rl⟩ := v.lst sb
          subst e
          exact call_tupX pins s σ H _ us Q I r ⟨p, ys, rfl, .inl ⟨q, g.tup sb rl⟩⟩
        | tup l =>
          obtain ⟨p, ys, e, q, rl⟩ := v.tup sb
          rcases v with w | ⟨_, _, _, w⟩
          · subst e
            exact call_tuple_of pins s σ H _ us Q I r ⟨p, ys, rfl, .inr ⟨q, g.d sb w⟩⟩
          · exact w.elim
        | _ => exact no g
      | list =>
        cases d with
        | lst l =>
          obtain ⟨p, ys, e, q, rl⟩ := v.lst sb
          subst e
          exact call_list_of pins s σ H _ us Q I r ⟨p, ys, rfl, .inl q, g.lst sb rl⟩
        | tup l =>
          obtain ⟨p, ys, e, q, rl⟩ := v.tup sb
          subst e
          exact call_list_of pins s σ H _ us Q I r ⟨p, ys, rfl, .inr q, g.lst sb rl⟩
        | dct ks vs =>
          obtain ⟨p, kvs, e, q, ek, rl⟩ := v.dct sb
          subst e
          refine call_listD (hcc rfl) pins s σ H _ us Q I r ⟨p, kvs, rfl, q, g.lst sb ?_⟩
          subst ek
          have := RelL.inj_vals (K := X.K) (mg := X.mG) (vs := []) (ks := kvs.map (·.1)) F
          rw [List.map_map] at this
          exact this
        | _ => exact no g
      | sum =>
        cases d with
        | lst l =>
          simp only [Bi.ap] at g
          cases q : dInts l with
          | none => rw [q] at g; exact no g
          | some ns =>
            rw [q] at g
            obtain ⟨p, ys, e, hq, rl⟩ := v.lst sb
            subst e
            rw [dInts_eq q] at rl
            rw [rl.ints] at hq
            rcases hch with hch | hch
            · exact cr_sum hch pins s σ H _ us Q I r ⟨p, ns, rfl, hq, g.int sb⟩
            · exact cr_sumH hch pins s σ H _ us Q I r ⟨p, ns, rfl, hq, g.int sb⟩
        | _ => exact no g
      | all =>
        cases d with
        | lst l =>
          simp only [Bi.ap] at g
          cases q : dBls l with
          | none => rw [q] at g; exact no g
          | some ns =>
            rw [q] at g
            obtain ⟨p, ys, e, hq, rl⟩ := v.lst sb
            subst e
            rw [dBls_eq q] at rl
            rw [rl.bls] at hq
            exact cr_all (hcc rfl) pins s σ H _ us Q I r ⟨p, ns, rfl, hq, g.bl sb⟩
        | _ => exact no g
      | any =>
        cases d with
        | lst l =>
          simp only [Bi.ap] at g
          cases q : dBls l with
          | none => rw [q] at g; exact no g
          | some ns =>
            rw [q] at g
            obtain ⟨p, ys, e, hq, rl⟩ := v.lst sb
            subst e
            rw [dBls_eq q] at rl
            rw [rl.bls] at hq
            exact cr_any (hcc rfl) pins s σ H _ us Q I r ⟨p, ns, rfl, hq, g.bl sb⟩
        | _ => exact no g
      | sorted =>
        cases d with
        | lst l =>
          simp only [Bi.ap] at g
          cases q : dInts l with
          | none => rw [q] at g; exact no g
          | some ns =>
            rw [q] at g
            dsimp only at g
            split at g
            · rename_i hz
              obtain ⟨p, ys, e, hq, rl⟩ := v.lst sb
              subst e
              rw [dInts_eq q] at rl
              rw [rl.ints] at hq
              exact cr_sorted pins s σ H _ us Q I r ⟨p, ns, rfl, hq, hz, fun ns' b h1 h2 nb => by
                rw [sortI_only h1 h2]
                exact g.lst sb (RelL.of_ints _) b nb⟩
            · exact no g
        | _ => exact no g
      | max1 =>
        cases d with
        | lst l =>
          simp only [Bi.ap] at g
          cases q : dInts l with
          | none => rw [q] at g; exact no g
          | some ns =>
            rw [q] at g
            cases ns with
            | nil => exact no g
            | cons n ns =>
              dsimp only at g
              obtain ⟨p, ys, e, hq, rl⟩ := v.lst sb
              subst e
              rw [dInts_eq q] at rl
              rw [rl.ints] at hq
              obtain ⟨m1, m2⟩ := maxI_ok ns n
              exact cr_max (hcc rfl) pins s σ H _ us Q I r ⟨p, n :: ns, rfl, hq, by simp, fun m h1 h2 => by
                have : m = maxI n ns := Int.le_antisymm (m2 _ h1) (h2 _ m1)
                rw [this]; exact g.int sb⟩
        | _ => exact no g
      | min1 =>
        cases d with
        | lst l =>
          simp only [Bi.ap] at g
          cases q : dInts l with
          | none => rw [q] at g; exact no g
          | some ns =>
            rw [q] at g
            cases ns with
            | nil => exact no g
            | cons n ns =>
              dsimp only at g
              obtain ⟨p, ys, e, hq, rl⟩ := v.lst sb
              subst e
              rw [dInts_eq q] at rl
              rw [rl.ints] at hq
              obtain ⟨m1, m2⟩ := minI_ok ns n
              exact cr_min (hcc rfl) pins s σ H _ us Q I r ⟨p, n :: ns, rfl, hq, by simp, fun m h1 h2 => by
                have : m = minI n ns := Int.le_antisymm (h2 _ m1) (m2 _ h1)
                rw [this]; exact g.int sb⟩
        | _ => exact no g
theorem dget_rel {K : PySem.W.Frag} {mg : MG} {F : Hp} {x : Key} : ∀ {kvs : List (Key × V)} {ds : List D} {d : D}, RelL K mg F (kvs.map (·.2)) ds → dGet (kvs.map (·.1)) ds x = some d → ∃ v, valV kvs x = some v ∧ RelD K mg F v d
  | [], _, _, _, e => by simp [dGet] at e
  | (k, v) :: kvs, [], _, r, e => by simp [dGet] at e
  | (k, v) :: kvs, d' :: ds, d, .cons h t, e => by
    simp only [List.map_cons, dGet] at e
    by_cases q : k = x
    · rw [if_pos q] at e; cases e; exact ⟨v, valV_pos q, h⟩
    · rw [if_neg q] at e
      obtain ⟨w, h1, h2⟩ := dget_rel t e
      exact ⟨w, (valV_neg q).trans h1, h2⟩
theorem ix_dct (hu : X.A.units + 1 < cLine) : IxR X (fun x y H Q => ∃ a v, x = .ref a ∧ DGet H a y (some v) ∧ Q v H) := by
  intro value slice pins s σ H x y v u Q I rx ry h hs
  obtain ⟨a, w, rfl, g, q⟩ := h
  obtain rfl : v = Value.ref a := rx
  exact tail_any (dict_typeIs I g) PySem.F.slot_dict_getitem.lookup (d_getItem hu I g ry fun w' s3 I3 rw' => ⟨w, H, I3, rw', q⟩) hs
theorem ix_ok (hu : X.A.units + 1 < cLine) : IxR X (rO X.K X.mG ixD) := by
  intro value slice pins s σ H x y v u Q I rx ry h hs
  obtain ⟨F, d1, d2, sb, v1, v2, g⟩ := h
  have no : ∀ {P : Prop}, GOut X.K X.mG F H Q none → P := fun z => z.elim
  cases d1 with
  | lst l =>
    cases d2 with
    | int i =>
      simp only [ixD, atD] at g
      cases q : atI l i with
      | none => rw [q] at g; exact no g
      | some d =>
        rw [q] at g
        obtain ⟨p, xs, e, hq, rl⟩ := v1.lst sb
        obtain ⟨w, ew, rw'⟩ := rl.at q
        exact ix_list value slice pins s σ H x y v u Q I rx ry ⟨p, xs, i, w, e, v2.int, hq, ew, g.d sb rw'⟩ hs
    | _ => exact no g
  | tup l =>
    cases d2 with
    | int i =>
      simp only [ixD, atD] at g
      cases q : atI l i with
      | none => rw [q] at g; exact no g
      | some d =>
        rw [q] at g
        obtain ⟨p, xs, e, hq, rl⟩ := v1.tup sb
        obtain ⟨w, ew, rw'⟩ := rl.at q
        exact ix_tup value slice pins s σ H x y v u Q I rx ry ⟨p, xs, i, w, e, v2.int, hq, ew, g.d sb rw'⟩ hs
    | _ => exact no g
  | str z =>
    cases d2 with
    | int i =>
      simp only [ixD] at g
      split at g
      · rename_i c
        cases q : atI z.cps.toList i with
        | none => rw [q] at g; exact no g
        | some d =>
          rw [q] at g
          exact ix_str value slice pins s σ H x y v u Q I rx ry ⟨z, i, d, v1.str, v2.int, by rw [← lim_eq]; exact c, q, g.str sb⟩ hs
      · exact no g
    | _ => exact no g
  | dct ks ds =>
    cases d2 with
    | int i =>
      simp only [ixD] at g
      cases q : dGet ks ds (.inl i) with
      | none => rw [q] at g; exact no g
      | some d =>
        rw [q] at g
        obtain ⟨p, kvs, e, hq, ek, rl⟩ := v1.dct sb
        subst ek
        obtain ⟨w, ew, rw'⟩ := dget_rel rl q
        exact ix_dct hu value slice pins s σ H x y v u Q I rx ry ⟨p, w, e, .inl ⟨kvs, .inl i, hq, v2.int, ew.symm⟩, g.d sb rw'⟩ hs
    | str i =>
      simp only [ixD] at g
      cases q : dGet ks ds (.inr i) with
      | none => rw [q] at g; exact no g
      | some d =>
        rw [q] at g
        obtain ⟨p, kvs, e, hq, ek, rl⟩ := v1.dct sb
        subst ek
        obtain ⟨w, ew, rw'⟩ := dget_rel rl q
        exact ix_dct hu value slice pins s σ H x y v u Q I rx ry ⟨p, w, e, .inl ⟨kvs, .inr i, hq, v2.str, ew.symm⟩, g.d sb rw'⟩ hs
    | _ => exact no g
  | _ => exact no g
/-- t[lo:hi] of a tuple: the whole of it is t itself, a part is new and has no dict -/
theorem sl_tupX : SlR X (fun x lo hi H Q => ∃ a xs, x = .ref a ∧ SqT X.K H a xs ∧ (HT.sIx xs.length 0 lo = 0 ∧ HT.sIx xs.length xs.length hi = xs.length → Q (.ref a) H) ∧
    (¬ (HT.sIx xs.length 0 lo = 0 ∧ HT.sIx xs.length xs.length hi = xs.length) → ∀ p ob, H p = none → ob.dict = none → Q (.ref p) (upd H p (.frz ob (.tup (cutV xs lo hi)))))) := fun pins s σ H x v vl vu lo hi sl Q I rx hs pl pu ⟨a, xs, ex, hx, q1, q2⟩ => by
  subst ex
  cases rx
  obtain ⟨its, r, ht, hz⟩ := I.tuple hx
  have hlen : its.toArray.size = xs.length := by rw [List.size_toArray]; exact r.length.symm
  refine ⟨"tuple", _, PyProof.Rows.slot_tuple_getitem.lookup, ht.typeIs, ?_⟩
  by_cases hw : HT.sIx xs.length 0 lo = 0 ∧ HT.sIx xs.length xs.length hi = xs.length
  · exact getItem_tuple_whole ht hs pl pu (by rw [hlen]; exact hw) ⟨.ref a, H, I, rfl, q1 hw⟩
  · refine HT.getItem_tuple_cut ht hs pl pu (by rw [hlen]; exact hw) ?_ (by rw [hlen]; exact hz)
    rw [hlen]
    exact ⟨.ref s.heap.objs.size, _, I.laid (t' := s.toks) (o := .frz _ (.tup (cutV xs lo hi))) (fun b ob q => Heap.get?_push_of_some _ q) (Nat.le_refl _)
      ⟨Heap.get?_push_size _ rfl, Nat.le_trans (cutV_length xs lo hi) hz, _, (r.drop (HT.sIx xs.length 0 lo)).take (HT.sIx xs.length xs.length hi - HT.sIx xs.length 0 lo), IsTup.new _ _⟩, rfl, q2 hw _ _ (I.hok.fresh (Nat.le_refl _)) rfl⟩
/-- a slice by data -/
def rS (K : PySem.W.Frag) (mg : MG) : V → Option Int → Option Int → Hp → VK → Prop := fun x lo hi H Q => ∃ F d, Sub F H ∧ Vw K mg F H x d ∧ GOut K mg F H Q (slD d lo hi)
theorem sl_ok : SlR X (rS X.K X.mG) := by
  intro pins s σ H x v vl vu lo hi sl Q I rx hs pl pu h
  obtain ⟨F, d1, sb, v1, g⟩ := h
  have no : ∀ {P : Prop}, GOut X.K X.mG F H Q none → P := fun z => z.elim
  cases d1 with
  | lst l =>
    obtain ⟨p, xs, e, hq, rl⟩ := v1.lst sb
    exact sl_list pins s σ H x v vl vu lo hi sl Q I rx hs pl pu ⟨p, xs, e, hq, g.lst sb (cut_rel rl)⟩
  | tup l =>
    obtain ⟨p, xs, e, hq, rl⟩ := v1.tup sb
    refine sl_tupX pins s σ H x v vl vu lo hi sl Q I rx hs pl pu ⟨p, xs, e, hq, fun ⟨z1, z2⟩ => ?_, fun _ => g.tup sb (cut_rel rl)⟩
    rw [rl.length] at z1 z2
    have ec : cutD l lo hi = l := by
      unfold cutD
      rw [z1, z2]; simp
    simp only [slD, ec] at g
    rcases v1 with w | ⟨_, _, _, w⟩
    · subst e; exact g.d sb w
    · exact w.elim
  | str z =>
    simp only [slD] at g
    split at g
    · rename_i c
      exact sl_str pins s σ H x v vl vu lo hi sl Q I rx hs pl pu ⟨z, v1.str, by rw [← lim_eq]; exact c, g.str sb⟩
    · exact no g
  | _ => exact no g
end
end Mp

/-! Mp8: each form of an expression. -/
namespace Mp
open PySem L2 PyProof.Rows
/-- what isinstance and the fields of a class of ours ask -/
structure KlsOk (K : PySem.W.Frag) (Ca : Addr) : Prop where
  cl : Cls K Ca
  ha : PySem.W.findIn K (.ref Ca) "__class__" = some (some (.builtin "object.__class__"))
  hn : PySem.W.specialIn K (.builtin "object.__class__") "__get__" = some (some (.builtin "getset_descriptor.__get__"))
  htk : PySem.W.takesIn K (.builtin "object.__class__") = some true
  hm : PySem.W.mroIn K Ca (.type "object") = some true
  k1 : ∀ n ∈ tyNames, PySem.W.kitOne K (.ref Ca) (.type n) = some false
  k2 : ∀ n ∈ "NoneType" :: "dict" :: tyNames, PySem.W.kitOne K (.type n) (.ref Ca) = some false
  k3 : PySem.W.kitOne K (.ref Ca) (.ref Ca) = some true
/-- what a class of exceptions is asked by isinstance and by a field's reading -/
structure XcOk (K : PySem.W.Frag) (Ca : Addr) : Prop where
  cl : (PySem.W.clsIn K Ca).isSome = true
  ga : PySem.W.findIn K (.ref Ca) "__getattribute__" = some (some (.builtin "BaseException.__getattribute__"))
  gt : PySem.W.findIn K (.ref Ca) "__getattr__" = some none
  sub : PySem.W.subIn K (.ref Ca) (.type "BaseException") = some true
  hd : PySem.W.hasDictIn K Ca = true
  ha : PySem.W.findIn K (.ref Ca) "__class__" = some (some (.builtin "object.__class__"))
  hn : PySem.W.specialIn K (.builtin "object.__class__") "__get__" = some (some (.builtin "getset_descriptor.__get__"))
  htk : PySem.W.takesIn K (.builtin "object.__class__") = some true
  hm : PySem.W.mroIn K Ca (.type "object") = some true
/-- what a clause's name, an isinstance's name stands for -/
def XnV (mg : Str → Option Value) (B : Str) (v : Value) : Prop := (mg B = some v ∧ ∃ a, v = .ref a) ∨ (mg B = none ∧ B = "ValueError" ∧ v = .type "ValueError")
/-- what stands behind the top: where the defs lie, how they bind, the classes -/
structure GOk (g : Gs) (ad : Nat → Addr) (fdt : Nat → FuncData) (K : PySem.W.Frag) (mg : Str → Option Value) : Prop where
  fn : ∀ (f : Nat) (d : Fd), g.fd[f]? = some d → d.cl = none → mg d.nm = some (.ref (ad f)) ∧ PySem.W.keepIn K (.ref (ad f)) = true
  bd : ∀ (f : Nat) (d : Fd), g.fd[f]? = some d → Binds K (fdt f) d.ps []
  bk : ∀ (f : Nat) (d : Fd), g.fd[f]? = some d → ∀ (s : Shared) (us : List Value) (j : Nat), us.length = d.ps.length → BindsTo s (fdt f) ⟨us.take j, (d.ps.drop j).zip (us.drop j)⟩ (d.ps.zip us)
  mul : ∀ (f : Nat) (d : Fd), g.fd[f]? = some d → d.mu.length = d.ps.length
  me : ∀ (f : Nat) (d : Fd) (C : Str), g.fd[f]? = some d → d.cl = some C → d.nm ≠ ("__init__" : Str) → ∃ Ca, mg C = some (.ref Ca) ∧ Cls K Ca ∧ Meth K Ca d.nm (ad f)
  ini : ∀ (f : Nat) (d : Fd) (C : Str), g.fd[f]? = some d → d.cl = some C → d.nm = ("__init__" : Str) → ∃ Ca, mg C = some (.ref Ca) ∧ Mk K Ca (ad f)
  na : ∀ p ∈ g.na, ∃ Ca, mg p.1 = some (.ref Ca) ∧ Cls K Ca ∧ NoAttr K Ca p.2
  kls : ∀ C ∈ g.cls, ∃ Ca, mg C = some (.ref Ca) ∧ KlsOk K Ca
  free : ∀ x ∈ g.free, mg x = none
  con : ∀ p ∈ g.con, ∃ u, mg p.1 = some u ∧ ∀ xa F, ∃ v, RelV v u ∧ RelD K ⟨mg, xa⟩ F v p.2
  xnv : ∀ B ∈ g.xn, ∃ v, XnV mg B v
  xcs : ∀ x ∈ g.xc, ∃ Ca, mg x.C = some (.ref Ca) ∧ XcOk K Ca ∧ (∀ f ∈ x.fs, PySem.W.findIn K (.ref Ca) f = some none) ∧
    ∀ B ∈ g.xn, ∃ v, XnV mg B v ∧ PySem.W.exmOne K (.ref Ca) v = some (decide (B ∈ x.sup)) ∧ PySem.W.kitOne K (.ref Ca) v = some (decide (B ∈ x.sup))
/-! ### where an exception is handled -/
def cx0 : CXT := fun _ _ _ _ _ _ => False
structure FnHp (P : Program) (w : World) (K : PySem.W.Frag) (mg : Str → Option Value) (base : Heap) (k : Nat) (f : Addr) (fd : FuncData) (ps : List Str) (p : Addr × Obj) (sp : Sp) : Prop where
  len : ∀ vs H Q E, sp vs H Q E → vs.length = ps.length
  run : ∀ (A : Around) (outer : List Env) (s : Shared) (H : Hp) (args : Args) (us : List Value) (vs : List V) (Q : VK) (E : XK), L2H.RoomH k A → L2H.Hot1 A p → L2H.PinOk outer H s p → Env0 P w K mg base A outer s H → BindsTo s fd args (ps.zip us) → Vals vs us → sp vs H Q E →
    codeAny (model P w) A (.call (.ref f) args) (CR cx0 outer P w H s Q E) s
theorem fnHp_of {P : Program} {w : World} {K : PySem.W.Frag} {mg : Str → Option Value} {base : Heap} {k : Nat} {f : Addr} {name qual : Str} {params : Arguments} {body : List Stmt} {scope : Scope} {dV kV doc pm cdv ct oc : Value} {an od : Option Addr}
    {osl : Array (Option Value)} {N ps : List Str} {p : Addr × Obj} {sp : Sp} (lk : K.lookup f = some ⟨oc, od, .func (PySem.W.fnOf name qual params body scope dV kV doc pm an cdv ct), osl⟩) (hcd : PySem.W.codeIn K cdv qual = true) (S : FnScope N ps scope)
    (len : ∀ vs H Q E, sp vs H Q E → vs.length = ps.length)
    (hbody : ∀ (A : Around) (outer : List Env) (s : Shared) (H : Hp) (vs : List V) (Q : VK) (E : XK), L2H.Hot1 A p → L2H.RoomH k (A.deeper (envOfC qual scope s.heap.objs.size f cdv)) → sp vs H Q E →
      ∃ t, PSs (L2H.cxH cx0 P w K mg base N qual scope f cdv A outer s H E p) body t ∧ t { nx := fun _ H' => Q .non H', rt := Q } (L2.start N vs) H) :
    FnHp P w K mg base (k + 1) f (PySem.W.fnOf name qual params body scope dV kV doc pm an cdv ct) ps p sp := by
  refine ⟨len, fun A outer s H args us vs Q E hr hot hpin e0 hb r hsp => ?_⟩
  have hl := len _ _ _ _ hsp
  have KX : K.In s.heap := e0.mod.kin.keeps fun b o e => (e0.bs b o e).1
  have lim : s.heap.NoLimit := e0.mod.nolimit.keeps fun b o e => (e0.bs b o e).1
  have hkind : ∀ y ∈ ps.zip us, scope.names.lookup y.1 = some .local ∨ (scope.names.lookup y.1 = some .cell ∧ ((cellsFrom (s.heap.objs.size + 1) scope.names []).lookup y.1).isSome = true) := fun ⟨n, v⟩ hy => by
    rcases S.par n (List.of_mem_zip hy).1 with q | q
    · exact .inl q
    · exact .inr ⟨q, PySem.W.cellsFrom_some _ _ _ (.inl q)⟩
  refine codeAny_call_function hr.depth (KX _ _ lk) rfl S.co S.gen rfl (PySem.W.codeRec_of KX hcd) (hb _ _ _ _ ?_)
  refine wpAny_newFunctionEnv_cells S.kind hkind fun env he s1 x => ?_
  subst he
  refine ⟨lim.keeps x.toInCall.keep, codeAny_func ?_⟩
  obtain ⟨t, ht, hq⟩ := hbody A outer s H vs Q E hot (hr.deeper _) hsp
  have I : Inv (L2H.cxH cx0 P w K mg base N qual scope f cdv A outer s H E p) [] (L2.start N vs) H s1 := L2H.inv_startH S hpin e0 hl r x
  refine wpAny_mono (ht.run [] s1 (L2.start N vs) H _ I hq) (fun fl s' hs => ?_) fun e s' hs => hs
  have fin : ∀ {σ' : L2.St} {H' : Hp} {v : V} {u : Value}, Inv (L2H.cxH cx0 P w K mg base N qual scope f cdv A outer s H E p) [] σ' H' s' → RelV v u → Q v H' → CE outer P w H s Q u s' :=
    fun {σ' H' v u} J rv q => ⟨v, H', J.os, J.bare, J.base, J.hok, rv, q⟩
  cases fl with
  | ret u =>
    obtain ⟨v, σ', H', J, rv, q⟩ := hs
    exact fin J rv q
  | next =>
    obtain ⟨σ', H', J, q⟩ := hs
    exact fin (v := V.non) (u := Value.none) J rfl q
  | brk =>
    obtain ⟨_, _, _, q⟩ := hs
    exact False.elim q
  | cont =>
    obtain ⟨_, _, _, q⟩ := hs
    exact False.elim q
theorem run_fnHp {X : Cx} {k : Nat} {f : Addr} {fd : FuncData} {ps : List Str} {sp : Sp} {p : Addr × Obj} {E : XK} {pins : List (Addr × Obj)} {σ : L2.St} {H : Hp} {s : Shared} {Q : VK} {us : List Value} {vs : List V} (F : FnHp X.prog X.w X.K X.mg X.base k f fd ps p sp) (hr : L2H.RoomH k X.A) (hot : L2H.Hot1 X.A p) (hp : p ∈ X.pn) (hb : Binds X.K fd ps [])
    (I : Inv X pins σ H s) (r : Vals vs us) (h : sp vs H Q E) : wpAny (model X.prog X.w) X.A (call (.ref f) us) (EP X pins σ Q) X.xe s := by
  have hl : us.length = ps.length := by rw [← r.length]; exact F.len _ _ _ _ h
  have b := hb s us I.kIn (by rw [List.append_nil]; exact hl)
  rw [List.append_nil] at b
  have P1 := I.pin p (List.mem_append_left _ hp)
  have hpin : L2H.PinOk X.stack H s p := ⟨P1.1, P1.2.1, fun hm => (List.mem_cons.mp (I.stkSub p.1 hm)).elim P1.2.2.1 P1.2.2.2.1, P1.2.2.2.2⟩
  refine wpAny_call (codeAny_mono (F.run X.A X.stack s H ⟨us, []⟩ us vs Q E hr hot hpin I.env0 b r h) fun r s' hq => ?_)
  cases r with
  | error e => exact False.elim hq
  | ok fl =>
    cases fl with
    | ret u => exact I.after hq
    | next => exact False.elim hq
    | brk => exact False.elim hq
    | cont => exact False.elim hq
theorem run_fnHpA {X : Cx} {k : Nat} {f : Addr} {fd : FuncData} {ps : List Str} {sp : Sp} {p : Addr × Obj} {E : XK} {pins : List (Addr × Obj)} {σ : L2.St} {H : Hp} {s : Shared} {Q : VK} {us : List Value} {vs : List V} (F : FnHp X.prog X.w X.K X.mg X.base k f fd ps p sp) (hr : L2H.RoomH k X.A) (hot : L2H.Hot1 X.A p) (hp : p ∈ X.pn) (args : Args) (b : BindsTo s fd args (ps.zip us))
    (I : Inv X pins σ H s) (r : Vals vs us) (h : sp vs H Q E) : wpAny (model X.prog X.w) X.A (call (.ref f) args.pos args.kw) (EP X pins σ Q) X.xe s := by
  have P1 := I.pin p (List.mem_append_left _ hp)
  have hpin : L2H.PinOk X.stack H s p := ⟨P1.1, P1.2.1, fun hm => (List.mem_cons.mp (I.stkSub p.1 hm)).elim P1.2.2.1 P1.2.2.2.1, P1.2.2.2.2⟩
  refine wpAny_call (codeAny_mono (F.run X.A X.stack s H args us vs Q E hr hot hpin I.env0 b r h) fun r s' hq => ?_)
  cases r with
  | error e => exact False.elim hq
  | ok fl =>
    cases fl with
    | ret u => exact I.after hq
    | next => exact False.elim hq
    | brk => exact False.elim hq
    | cont => exact False.elim hq
theorem run_fnSA {X : Cx} {CX : CXT} {k : Nat} {f : Addr} {fd : FuncData} {ps : List Str} {sp : Sp} {E : L2.St → XK} {pins : List (Addr × Obj)} {σ : L2.St} {H : Hp} {s : Shared} {Q : VK} {us : List Value} {vs : List V} (F : FnOk X.prog X.w X.K X.mg X.base CX k f fd ps sp) (hr : Room k X.A) (args : Args) (b : BindsTo s fd args (ps.zip us)) (hx : PassesAt CX X σ (E σ))
    (I : Inv X pins σ H s) (r : Vals vs us) (h : sp vs H Q (E σ)) : wpAny (model X.prog X.w) X.A (call (.ref f) args.pos args.kw) (EP X pins σ Q) X.xe s := by
  refine wpAny_call (codeAny_mono (F.run X.A X.stack s H args us vs Q (E σ) hr I.env0 b r h) fun r s' hq => ?_)
  cases r with
  | error e => exact hx pins H s e s' I hq
  | ok fl =>
    cases fl with
    | ret u => exact I.after hq
    | next => exact False.elim hq
    | brk => exact False.elim hq
    | cont => exact False.elim hq
/-- __init__ of a class of exceptions: it keeps its arguments in these fields, one after the other -/
def spI (K : PySem.W.Frag) (Ca : Addr) (fs : List Str) : Sp := fun vs H Q _ => ∃ (a : Addr) (ws : List V), vs = .ref a :: ws ∧ ws.length = fs.length ∧ H a = some (exo a Ca none) ∧
  ∀ d, H d = none → d ≠ a → Q .non (upd (upd H d (exd d (fs.zip ws).reverse)) a (exo a Ca (some d)))
structure RaOk (P : Program) (w : World) (K : PySem.W.Frag) (mg : Str → Option Value) (base : Heap) (Ca : Addr) (fs : List Str) : Prop where
  oex : OexC K Ca
  ini : ∃ (fI : Addr) (fd : FuncData) (ps : List Str), PySem.W.findIn K (.ref Ca) "__init__" = some (some (.ref fI)) ∧ PySem.W.typeIn K (.ref fI) = some (.type "function") ∧ Binds K fd ps [] ∧ FnOk P w K mg base cx0 1 fI fd ps (spI K Ca fs)
/-- a body's place, for the reading of its expressions -/
structure XOk (c : Cc) (n : Nat) (ad : Nat → Addr) (fdt : Nat → FuncData) (X : Cx) (W : WW) : Prop where
  g : GOk c.g ad fdt X.K X.mg
  calm : c.hot = false → X.calm = true
  nd : X.N.Nodup
  room : L2H.RoomH (n + 1) X.A
  hd : c.hot = false → X.A.handled = none
  tk : L2N.Takes X W
  fn : c.hot = false → ∀ (f : Nat) (d : Fd), c.g.fd[f]? = some d → FnOk X.prog X.w X.K X.mg X.base (L2N.CX X.prog X.w) n (ad f) (fdt f) d.ps (spC X.K X.mG d.ps.length (c.call f))
  fnH : ∀ (p : Addr × Obj) (f : Nat) (d : Fd), c.g.fd[f]? = some d → FnHp X.prog X.w X.K X.mg X.base n (ad f) (fdt f) d.ps p (spC X.K ⟨X.mg, pinX [p]⟩ d.ps.length (c.callH f))
  hp : c.hot = true → X.calm = false ∧ c.call = c.callH ∧ ∃ p r, X.pn = p :: r ∧ L2H.Hot1 X.A p
  ra : c.hot = false → ∀ x ∈ c.g.xc, ∃ Ca, X.mg x.C = some (.ref Ca) ∧ RaOk X.prog X.w X.K X.mg X.base Ca x.fs
section
variable {c : Cc} {n : Nat} {ad : Nat → Addr} {fdt : Nat → FuncData} {X : Cx} {W : WW} {a' b' e' : Expr} {ea eb ee : En → Out Rv} {pos : Pos}
theorem PE.imp {e : Expr} {t t' : TE} (h : PE X e t) (k : ∀ σ H Q, t' σ H Q → t σ H Q) : PE X e t' := ⟨fun pins s σ H Q I q => h.run pins s σ H Q I (k σ H Q q)⟩
theorem PT.imp {e : Expr} {t t' : TT} (h : PT X e t) (k : ∀ σ H Q, t' σ H Q → t σ H Q) : PT X e t' := ⟨fun pins s σ H Q I q => h.run pins s σ H Q I (k σ H Q q)⟩
theorem PW.imp {e : Expr} {t t' : TT} (h : PW X e t) (k : ∀ σ H Q, t' σ H Q → t σ H Q) : PW X e t' := ⟨fun wh pins s σ H Q I q => h.run wh pins s σ H Q I (k σ H Q q)⟩
theorem PA.imp {e : List Expr} {t t' : TA} (h : PA X e t) (k : ∀ σ H Q, t' σ H Q → t σ H Q) : PA X e t' := ⟨fun po pins s σ H Q I q => h.run po pins s σ H Q I (k σ H Q q)⟩
theorem XOk.hu (x : XOk c n ad fdt X W) : X.A.units + 65 < cLine := by have := x.room.un; omega

theorem l_bad : PE X e' (tev X.K X.mG W fun _ => .bad) := ⟨fun pins s σ H Q I ⟨F, ρ, en, h⟩ => h.elim⟩
theorem l_if {b : Bool} {f : En → Out Rv} (h : b = false → PE X e' (tev X.K X.mG W f)) : PE X e' (tev X.K X.mG W fun ρ => if b = true then .bad else f ρ) := by
  cases b with
  | true => exact PE.imp l_bad fun σ H Q z => by simpa only [if_true] using z
  | false => exact PE.imp (h rfl) fun σ H Q z => by simpa only [Bool.false_eq_true, if_false] using z
theorem l_var {i : Nat} {x : Str} (hN : X.N[i]? = some x) (hv : visB X.env.scope x = true) (hd : dbgB x = true) : PE X (.Name x pos) (tev X.K X.mG W (ev c (.var i))) := by
  unfold dbgB at hd
  simp only [Bool.and_eq_true, Bool.not_eq_true'] at hd
  refine PE.imp (pe_var hN (vis_of hv) hd.1.1 hd.1.2) fun σ H Q ⟨F, ρ, en, h⟩ => ?_
  simp only [ev] at h
  have get : ∀ {v : V}, stAt σ i = some v → σ[i]? = some (some v) := fun {v} e => by
    unfold stAt at e
    cases q : σ[i]? with
    | none => rw [q] at e; cases e
    | some o => rw [q] at e; exact congrArg some e
  split at h
  · rename_i d e
    obtain ⟨v, e1, r⟩ := en.val i d e
    exact ⟨v, get e1, h v F H (.refl en) r⟩
  · rename_i d e
    obtain ⟨p, e1, _⟩ := en.own i d e
    exact ⟨_, get e1, h _ F H (.refl en) ⟨e1, _, e⟩⟩
  · exact h.elim
theorem l_con {d : D} {k : Const} {j : Nat} (hc : ckC d k = true) : PE X (.Constant k j pos) (tev X.K X.mG W (ev c (.con d))) := by
  have go : ∀ {v : V}, (∀ F, RelD X.K X.mG F v d) → ∀ σ H Q, tev X.K X.mG W (ev c (.con d)) σ H Q → tC v σ H Q := fun {v} r σ H Q ⟨F, ρ, en, h⟩ => by
    simp only [ev] at h
    exact h v F H (.refl en) (r F)
  cases d <;> cases k <;> first | (cases hc; done) | skip
  · exact PE.imp pe_non (go fun F => .non)
  · simp only [ckC, beq_iff_eq] at hc; subst hc; exact PE.imp pe_bl (go fun F => .bl _)
  · simp only [ckC, beq_iff_eq] at hc; subst hc; exact PE.imp pe_int (go fun F => .int _)
  · simp only [ckC, beq_iff_eq] at hc; subst hc; exact PE.imp pe_str (go fun F => .str _)
theorem l_gl (ok : XOk c n ad fdt X W) {k : Nat} {x : Str} {d : D} (hk : c.g.con[k]? = some (x, d)) (hg : glB X.env.scope x = true) (hd : dbgB x = true) : PE X (.Name x pos) (tev X.K X.mG W (ev c (.gl k))) := by
  unfold dbgB at hd
  simp only [Bool.and_eq_true, Bool.not_eq_true'] at hd
  obtain ⟨u, hu, rel⟩ := ok.g.con (x, d) (List.mem_of_getElem? hk)
  refine ⟨fun pins s σ H Q I ⟨F, ρ, en, h⟩ => ?_⟩
  simp only [ev, hk] at h
  obtain ⟨v, rv, rd⟩ := rel _ F
  refine ld_glob I ?_ hu ⟨v, H, I, rv, h v F H (.refl en) rd⟩ hd.1.1
  unfold glB at hg
  exact beq_iff_eq.mp hg
theorem l_bin (o : Bo) (ha : PE X a' (tev X.K X.mG W ea)) (hb : PE X b' (tev X.K X.mG W eb)) : PE X (.BinOp a' o.op b' pos) (tev X.K X.mG W fun ρ => (ea ρ).bind fun x ρ => (eb ρ).bind fun y ρ => op2 o.ap x y ρ) :=
  PE.imp (pe_op (bo_ok o) ha hb) fun σ H Q ⟨F, ρ, en, h⟩ =>
    bindE (.refl en) h fun x F1 H1 ρ1 r1 _ p1 v1 h1 => bindE p1 h1 fun y F2 H2 ρ2 r2 q2 p2 v2 h2 => op2_of p2 h2 (v1.stay q2) v2
theorem k_cmp (o : Co) : ∀ (σ : L2.St) (H : Hp) (Q : VK), tev X.K X.mG W (fun ρ => (ea ρ).bind fun x ρ => (eb ρ).bind fun y ρ => op2 o.ap x y ρ) σ H Q → tOp (rO X.K X.mG o.ap) (tev X.K X.mG W ea) (tev X.K X.mG W eb) σ H Q :=
  fun σ H Q ⟨F, ρ, en, h⟩ => bindE (.refl en) h fun x F1 H1 ρ1 r1 _ p1 v1 h1 => bindE p1 h1 fun y F2 H2 ρ2 r2 q2 p2 v2 h2 => op2_of p2 h2 (v1.stay q2) v2
theorem l_cmp (ok : XOk c n ad fdt X W) (o : Co) (ha : PE X a' (tev X.K X.mG W ea)) (hb : PE X b' (tev X.K X.mG W eb)) (hs : noset b' = true) :
    PE X (.Compare a' [o.op] [b'] pos) (tev X.K X.mG W fun ρ => (ea ρ).bind fun x ρ => (eb ρ).bind fun y ρ => op2 o.ap x y ρ) :=
  PE.imp (pe_cmpR (co_ok o ok.hu) ha hb (nomarks_of hs)) (k_cmp o)
/-- a comparison of the evaluator gives a bool -/
def Gb (e : En → Out Rv) : Prop := ∀ ρ r ρ', e ρ = .ok r ρ' → ∃ b, r = .val (.bl b)
theorem op2_bl (o : Co) {x y : Rv} {ρ ρ' : En} {r : Rv} (h : op2 o.ap x y ρ = .ok r ρ') : ∃ b, r = .val (.bl b) := by
  unfold op2 at h
  have bo : ∀ (q : Option Bool) (r' : Rv), lift ρ (bR q) = .ok r' ρ' → ∃ b, r' = .val (.bl b) := fun q r' e => by
    cases q with
    | none => cases e
    | some b => cases e; exact ⟨b, rfl⟩
  split at h
  · rename_i d1 d2 _ _
    cases o with
    | eq => exact bo _ _ h
    | ne => exact bo _ _ h
    | isin => exact bo _ _ h
    | notin => exact bo _ _ h
    | lt => cases d1 <;> cases d2 <;> first | exact bo _ _ h | cases h
    | le => cases d1 <;> cases d2 <;> first | exact bo _ _ h | cases h
    | gt => cases d1 <;> cases d2 <;> first | exact bo _ _ h | cases h
    | ge => cases d1 <;> cases d2 <;> first | exact bo _ _ h | cases h
  · cases h
theorem bind_ok {α β : Type} {o : Out α} {f : α → En → Out β} {b : β} {ρ : En} (h : o.bind f = .ok b ρ) : ∃ a ρ1, o = .ok a ρ1 ∧ f a ρ1 = .ok b ρ := by
  cases o with
  | ok a ρ1 => exact ⟨a, ρ1, rfl, h⟩
  | er x ρ1 => cases h
  | bad => cases h
theorem gb_cmp (o : Co) : Gb fun ρ => (ea ρ).bind fun x ρ => (eb ρ).bind fun y ρ => op2 o.ap x y ρ := fun ρ r ρ' h => by
  obtain ⟨x, ρ1, _, h⟩ := bind_ok h
  obtain ⟨y, ρ2, _, h⟩ := bind_ok h
  exact op2_bl o h
/-- from the value to the test -/
theorem t_of {e : Expr} {t : TE} {ev : En → Out Rv} (h : PT X e (tTest t)) (k : ∀ σ H Q, tev X.K X.mG W ev σ H Q → t σ H Q) (g : Gb ev) : PT X e (ttv X.K X.mG W fun ρ => (ev ρ).bind fun x ρ => tr1 x ρ) :=
  PT.imp h fun σ H Q ⟨F, ρ, en, h⟩ => k σ H _ ⟨F, ρ, en, by
    have h : FinB X.K X.mG W F H σ ρ Q ((ev ρ).bind fun x ρ => tr1 x ρ) := h
    cases q : ev ρ with
    | ok r ρ1 =>
      rw [q] at h
      obtain ⟨b, e⟩ := g ρ r ρ1 q
      subst e
      intro v F1 H1 p1 r1
      cases r1
      exact ⟨b, rfl, h b F1 H1 p1 rfl⟩
    | er x ρ1 => rw [q] at h; exact h
    | bad => rw [q] at h; exact h.elim⟩
theorem t_cmp (ok : XOk c n ad fdt X W) (o : Co) (ha : PE X a' (tev X.K X.mG W ea)) (hb : PE X b' (tev X.K X.mG W eb)) (hs : noset b' = true) :
    PT X (.Compare a' [o.op] [b'] pos) (ttv X.K X.mG W fun ρ => ((ea ρ).bind fun x ρ => (eb ρ).bind fun y ρ => op2 o.ap x y ρ).bind fun x ρ => tr1 x ρ) :=
  t_of (pt_cmpR (co_ok o ok.hu) ha hb (nomarks_of hs)) (k_cmp o) (gb_cmp o)
abbrev eChn (o o2 : Co) (ea eb ee : En → Out Rv) : En → Out Rv := fun ρ => (ea ρ).bind fun x ρ => (eb ρ).bind fun y ρ => match op2 o.ap x y ρ with
      | .ok (.val (.bl true)) ρ => (ee ρ).bind fun z ρ => op2 o2.ap y z ρ
      | .ok (.val (.bl false)) ρ => .ok (.val (.bl false)) ρ
      | _ => .bad
theorem k_chn (o o2 : Co) : ∀ (σ : L2.St) (H : Hp) (Q : VK), tev X.K X.mG W (eChn o o2 ea eb ee) σ H Q → tChain (rO X.K X.mG o.ap) (rO X.K X.mG o2.ap) (tev X.K X.mG W ea) (tev X.K X.mG W eb) (tev X.K X.mG W ee) σ H Q := by
  refine fun σ H Q ⟨F, ρ, en, h⟩ =>
    bindE (.refl en) h fun x F1 H1 ρ1 r1 _ p1 v1 h1 => bindE p1 h1 fun y F2 H2 ρ2 r2 q2 p2 v2 h2 => ?_
  have w1 := v1.stay q2
  unfold op2 at h2
  split at h2
  · rename_i d ρ3 e1
    split at e1
    · rename_i d1 d2 g1 g2
      cases e3 : o.ap d1 d2 with
      | none => rw [e3] at e1; cases e1
      | some r =>
        rw [e3] at e1
        cases r with
        | tmp d => cases e1
        | val d =>
          cases e1
          refine ⟨F2, d1, d2, p2.en.sub, w1.vw p2.en g1, v2.vw p2.en g2, ?_⟩
          rw [e3]
          intro v F' H' gr rd
          cases rd
          refine ⟨true, rfl, ?_⟩
          rw [if_pos rfl]
          exact bindE (gr.po p2) h2 fun z F3 H3 ρ3 r3 q3 p3 v3 h3 => op2_of p3 h3 ((v2.stay (gr.po (.refl p2.en))).stay q3) v3
    · cases e1
  · rename_i d ρ3 e1
    split at e1
    · rename_i d1 d2 g1 g2
      cases e3 : o.ap d1 d2 with
      | none => rw [e3] at e1; cases e1
      | some r =>
        rw [e3] at e1
        cases r with
        | tmp d => cases e1
        | val d =>
          cases e1
          refine ⟨F2, d1, d2, p2.en.sub, w1.vw p2.en g1, v2.vw p2.en g2, ?_⟩
          rw [e3]
          intro v F' H' gr rd
          cases rd
          refine ⟨false, rfl, ?_⟩
          rw [if_neg Bool.false_ne_true]
          exact h2 _ F' H' (gr.po p2) (.bl false)
    · cases e1
  · exact h2.elim
theorem gb_chn (o o2 : Co) : Gb (eChn o o2 ea eb ee) := fun ρ r ρ' h => by
  obtain ⟨x, ρ1, _, h⟩ := bind_ok h
  obtain ⟨y, ρ2, _, h⟩ := bind_ok h
  split at h
  · obtain ⟨z, ρ3, _, h⟩ := bind_ok h
    exact op2_bl o2 h
  · cases h; exact ⟨_, rfl⟩
  · cases h
theorem l_chn (ok : XOk c n ad fdt X W) (o o2 : Co) (ha : PE X a' (tev X.K X.mG W ea)) (hb : PE X b' (tev X.K X.mG W eb)) (he : PE X e' (tev X.K X.mG W ee)) (hs : noset e' = true) :
    PE X (.Compare a' [o.op, o2.op] [b', e'] pos) (tev X.K X.mG W (eChn o o2 ea eb ee)) := PE.imp (pe_chain (co_ok o ok.hu) (co_ok o2 ok.hu) ha hb he (lastmarks_of hs)) (k_chn o o2)
theorem t_chn (ok : XOk c n ad fdt X W) (o o2 : Co) (ha : PE X a' (tev X.K X.mG W ea)) (hb : PE X b' (tev X.K X.mG W eb)) (he : PE X e' (tev X.K X.mG W ee)) (hs : noset e' = true) :
    PT X (.Compare a' [o.op, o2.op] [b', e'] pos) (ttv X.K X.mG W fun ρ => (eChn o o2 ea eb ee ρ).bind fun x ρ => tr1 x ρ) := t_of (pt_chain (co_ok o ok.hu) (co_ok o2 ok.hu) ha hb he (lastmarks_of hs)) (k_chn o o2) (gb_chn o o2)
abbrev eIsn (neg : Bool) (ea : En → Out Rv) : En → Out Rv := fun ρ => (ea ρ).bind fun x ρ => op1 (fun d => some (.val (.bl (Bool.xor neg d.isNon)))) x ρ
theorem isn_of {F H : Hp} {x : V} {d : D} (v : Vw X.K X.mG F H x d) : decide (x = .non) = d.isNon := by
  cases d with
  | non => rw [v.non]; rfl
  | _ =>
    refine decide_eq_false fun z => ?_
    subst z
    rcases v with w | ⟨_, w, _⟩
    · cases w
    · cases w
theorem k_isF : ∀ (σ : L2.St) (H : Hp) (Q : VK), tev X.K X.mG W (eIsn false ea) σ H Q → tOp (fun x y H Q => y = .non ∧ Q (.bl (decide (x = .non))) H) (tev X.K X.mG W ea) (tC .non) σ H Q := fun σ H Q ⟨F, ρ, en, h⟩ => bindE (.refl en) h fun x F1 H1 ρ1 r1 _ p1 v1 h1 => by
  obtain ⟨G, d, sb, v, g⟩ := op1_of p1 h1 v1
  refine ⟨rfl, ?_⟩
  rw [isn_of v]
  simpa using g.bl sb
theorem k_isT : ∀ (σ : L2.St) (H : Hp) (Q : VK), tev X.K X.mG W (eIsn true ea) σ H Q → tOp (fun x y H Q => y = .non ∧ Q (.bl (!decide (x = .non))) H) (tev X.K X.mG W ea) (tC .non) σ H Q := fun σ H Q ⟨F, ρ, en, h⟩ => bindE (.refl en) h fun x F1 H1 ρ1 r1 _ p1 v1 h1 => by
  obtain ⟨G, d, sb, v, g⟩ := op1_of p1 h1 v1
  refine ⟨rfl, ?_⟩
  rw [isn_of v]
  simpa using g.bl sb
theorem gb_isn (neg : Bool) : Gb (eIsn neg ea) := fun ρ r ρ' h => by
  obtain ⟨x, ρ1, _, h⟩ := bind_ok h
  unfold op1 at h
  split at h
  · cases h; exact ⟨_, rfl⟩
  · cases h
theorem l_isn (neg : Bool) {j : Nat} {p' : Pos} (ha : PE X a' (tev X.K X.mG W ea)) : PE X (.Compare a' [if neg then .IsNot else .Is] [.Constant .none j p'] pos) (tev X.K X.mG W (eIsn neg ea)) := by
  cases neg with
  | false => exact PE.imp (pe_cmpR op_isN ha pe_non (nomarks_of rfl)) k_isF
  | true => exact PE.imp (pe_cmpR op_notN ha pe_non (nomarks_of rfl)) k_isT
theorem t_isn (neg : Bool) {j : Nat} {p' : Pos} (ha : PE X a' (tev X.K X.mG W ea)) : PT X (.Compare a' [if neg then .IsNot else .Is] [.Constant .none j p'] pos) (ttv X.K X.mG W fun ρ => (eIsn neg ea ρ).bind fun x ρ => tr1 x ρ) := by
  cases neg with
  | false => exact t_of (pt_cmpR op_isN ha pe_non (nomarks_of rfl)) k_isF (gb_isn false)
  | true => exact t_of (pt_cmpR op_notN ha pe_non (nomarks_of rfl)) k_isT (gb_isn true)
theorem l_neg (ha : PE X a' (tev X.K X.mG W ea)) : PE X (.UnaryOp .USub a' pos) (tev X.K X.mG W fun ρ => (ea ρ).bind fun x ρ => op1 (fun d => match d with | .int i => some (.val (.int (-i))) | _ => none) x ρ) := by
  refine PE.imp (pe_un un_neg ha) fun σ H Q ⟨F, ρ, en, h⟩ => bindE (.refl en) h fun x F1 H1 ρ1 r1 _ p1 v1 h1 => ?_
  obtain ⟨G, d, sb, v, g⟩ := op1_of p1 h1 v1
  cases d with
  | int i => exact ⟨i, v.int, g.int sb⟩
  | _ => exact g.elim
theorem l_not (ha : PE X a' (tev X.K X.mG W ea)) : PE X (.UnaryOp .Not a' pos) (tev X.K X.mG W fun ρ => (ea ρ).bind fun x ρ => op1 (fun d => (truth d).map fun b => .val (.bl (!b))) x ρ) := by
  refine PE.imp (pe_notT ha) fun σ H Q ⟨F, ρ, en, h⟩ => bindE (.refl en) h fun x F1 H1 ρ1 r1 _ p1 v1 h1 => ?_
  obtain ⟨G, d, sb, v, g⟩ := op1_of p1 h1 v1
  cases e : truth d with
  | none => rw [e] at g; exact g.elim
  | some b => rw [e] at g; exact ⟨b, truth_ok sb v e, g.bl sb⟩
theorem l_ix (hu : X.A.units + 1 < cLine) (ha : PE X a' (tev X.K X.mG W ea)) (hb : PE X b' (tev X.K X.mG W eb)) (hs : noslice b' = true) : PE X (.Subscript a' b' pos) (tev X.K X.mG W fun ρ => (ea ρ).bind fun x ρ => (eb ρ).bind fun y ρ => op2 ixD x y ρ) :=
  PE.imp (pe_ix (ix_ok hu) ha hb (plainIx_of hs)) fun σ H Q ⟨F, ρ, en, h⟩ =>
    bindE (.refl en) h fun x F1 H1 ρ1 r1 _ p1 v1 h1 => bindE p1 h1 fun y F2 H2 ρ2 r2 q2 p2 v2 h2 => op2_of p2 h2 (v1.stay q2) v2
/-- the parts of a slice -/
abbrev FinO (K : PySem.W.Frag) (mg : MG) (W : WW) (F0 H0 : Hp) (σ : L2.St) (ρ0 : En) (Q : Option Int → Hp → Prop) (o : Out (Option Int)) : Prop := Fin K mg W (fun _ _ _ (b : Option Int) (a : Option Int) => b = a) F0 H0 σ ρ0 Q o
def tov (K : PySem.W.Frag) (mg : MG) (W : WW) (e : En → Out (Option Int)) : TO := fun σ H Q => ∃ F ρ, EnvR K mg F H σ ρ ∧ FinO K mg W F H σ ρ Q (e ρ)
theorem PO.imp {e : Option Expr} {t t' : TO} (h : PO X e t) (k : ∀ σ H Q, t' σ H Q → t σ H Q) : PO X e t' := ⟨fun pins s σ H Q I q => h.run pins s σ H Q I (k σ H Q q)⟩
theorem bindO {K : PySem.W.Frag} {mg : MG} {F0 H0 F H : Hp} {σ : L2.St} {ρ0 ρ : En} {α β : Type} {R : Hp → Hp → En → β → α → Prop} {Q : β → Hp → Prop} {e : En → Out (Option Int)} {k : Option Int → En → Out α} (p : Po K mg F0 H0 σ ρ0 F H ρ) (h : Fin K mg W R F0 H0 σ ρ0 Q ((e ρ).bind k))
    {Q1 : Option Int → Hp → Prop} (f : ∀ r F1 H1 ρ1, Po K mg F H σ ρ F1 H1 ρ1 → Po K mg F0 H0 σ ρ0 F1 H1 ρ1 → Fin K mg W R F0 H0 σ ρ0 Q (k r ρ1) → Q1 r H1) : tov K mg W e σ H Q1 := by
  refine ⟨F, ρ, p.en, ?_⟩
  cases q : e ρ with
  | ok r ρ1 =>
    rw [q] at h
    intro x F1 H1 p1 e1
    subst e1
    exact f x F1 H1 ρ1 p1 (p.trans p1) h
  | er x ρ1 =>
    rw [q] at h
    exact fun c d F1 H1 p1 x1 => h c d F1 H1 (p.trans p1) x1
  | bad =>
    rw [q] at h
    exact h.elim
theorem l_no : PO X none (tov X.K X.mG W (evO c .no)) := PO.imp po_none fun σ H Q ⟨F, ρ, en, h⟩ => by
  simp only [evO] at h
  exact h none F H (.refl en) rfl
theorem l_so (ha : PE X a' (tev X.K X.mG W ea)) : PO X (some a') (tov X.K X.mG W fun ρ => (ea ρ).bind fun x ρ => match x with
    | .val (.int i) => .ok (some i) ρ
    | _ => .bad) := PO.imp (po_some ha) fun σ H Q ⟨F, ρ, en, h⟩ => bindE (.refl en) h fun x F1 H1 ρ1 r1 _ p1 v1 h1 => by
  split at h1
  · rename_i i
    cases v1
    exact ⟨i, rfl, h1 (some i) F1 H1 p1 rfl⟩
  · exact h1.elim
theorem l_sl {lo hi : Option Expr} {el eh : En → Out (Option Int)} {p2 : Pos} (ha : PE X a' (tev X.K X.mG W ea)) (hl : PO X lo (tov X.K X.mG W el)) (hh : PO X hi (tov X.K X.mG W eh)) :
    PE X (.Subscript a' (.Slice lo hi none p2) pos) (tev X.K X.mG W fun ρ => (ea ρ).bind fun x ρ => (el ρ).bind fun l ρ => (eh ρ).bind fun h ρ => op1 (fun d => slD d l h) x ρ) :=
  PE.imp (pe_slice sl_ok ha hl hh) fun σ H Q ⟨F, ρ, en, h⟩ =>
    bindE (.refl en) h fun x F1 H1 ρ1 r1 _ p1 v1 h1 => bindO p1 h1 fun l F2 H2 ρ2 q2 p2 h2 => bindO p2 h2 fun u F3 H3 ρ3 q3 p3 h3 => op1_of p3 h3 ((v1.stay q2).stay q3)
theorem lookup_rel {K : PySem.W.Frag} {mg : MG} {F : Hp} : ∀ {fs : List (Str × V)} {ds : List D} {f : Str} {d : D}, RelL K mg F (fs.map (·.2)) ds → ((fs.map (·.1)).zip ds).lookup f = some d → ∃ v, fs.lookup f = some v ∧ RelD K mg F v d
  | [], _, _, _, _, e => by simp at e
  | (x, v) :: fs, [], _, _, r, e => by simp at e
  | (x, v) :: fs, d' :: ds, f, d, .cons h t, e => by
    simp only [List.map_cons, List.zip_cons_cons, List.lookup_cons] at e ⊢
    cases q : f == x with
    | true => rw [q] at e; cases e; exact ⟨v, rfl, h⟩
    | false => rw [q] at e; exact lookup_rel t e
theorem l_fld (ok : XOk c n ad fdt X W) {f : Str} (ha : PE X a' (tev X.K X.mG W ea)) (hs : nocall0 a' = true) : PE X (.Attribute a' f pos) (tev X.K X.mG W fun ρ => (ea ρ).bind fun x ρ => op1 (fun d => fldD c.g.na d f) x ρ) :=
  PE.imp (pe_fld ha (base_of hs)) fun σ H Q ⟨F, ρ, en, h⟩ => bindE (.refl en) h fun x F1 H1 ρ1 r1 _ p1 v1 h1 => by
    obtain ⟨G, d, sb, v, g⟩ := op1_of p1 h1 v1
    cases d with
    | ins C ns ds =>
      simp only [fldD] at g
      split at g
      · rename_i hm
        cases e : (ns.zip ds).lookup f with
        | none => rw [e] at g; exact g.elim
        | some d =>
          rw [e] at g
          obtain ⟨a, Ca, dx, fs, ea, hC, hH, en, r⟩ := v.ins sb
          obtain ⟨Ca', hC', cl, na⟩ := ok.g.na (C, f) hm
          have hCC := hC.symm.trans hC'; cases hCC
          subst en
          obtain ⟨w, ew, rw'⟩ := lookup_rel r e
          exact ⟨a, Ca, dx, fs, w, ea, hH, cl, na, ew, g.d sb rw'⟩
      · exact g.elim
    | _ => exact g.elim
end
end Mp

/-! Mp9: calls, displays, tests. -/
namespace Mp
open PySem L2 PyProof.Rows
section
variable {c : Cc} {n : Nat} {ad : Nat → Addr} {fdt : Nat → FuncData} {X : Cx} {W : WW} {a' b' e' : Expr} {es' : List Expr} {ea eb ee : En → Out Rv} {el : En → Out (List Rv)} {pos : Pos}
theorem l_nil : PA X [] (tev' X.K X.mG W fun ρ => .ok [] ρ) := PA.imp pa_nil fun σ H Q ⟨F, ρ, en, h⟩ => h [] F H (.refl en) trivial
theorem l_cons (ha : PE X a' (tev X.K X.mG W ea)) (hl : PA X es' (tev' X.K X.mG W el)) (hs : nost a' = true) :
    PA X (a' :: es') (tev' X.K X.mG W fun ρ => (ea ρ).bind fun x ρ => (el ρ).bind fun xs ρ => .ok (x :: xs) ρ) :=
  PA.imp (pa_cons ha hl (star_of hs)) fun σ H Q ⟨F, ρ, en, h⟩ => bindE (.refl en) h fun x F1 H1 ρ1 r1 q1 p1 v1 h1 => by
    refine ⟨F1, ρ1, p1.en, ?_⟩
    cases q : el ρ1 with
    | ok rs ρ2 =>
      rw [q] at h1
      intro vs F2 H2 p2 w2
      exact h1 (x :: vs) F2 H2 (p1.trans p2) (RvRs.cons' (v1.stay p2) w2 (fun b e => p1.st.al b e) fun b e => v1.tmp_old e)
    | er x ρ2 =>
      rw [q] at h1
      exact fun cl d F2 H2 p2 x2 => h1 cl d F2 H2 (p1.trans p2) x2
    | bad =>
      rw [q] at h1
      exact h1.elim
/-- a call of one of our defs, at the slots -/
theorem XOk.run (ok : XOk c n ad fdt X W) {f : Nat} {d : Fd} (hd : c.g.fd[f]? = some d) {pins : List (Addr × Obj)} {σ : L2.St} {H : Hp} {s : Shared} {Q : VK} {us : List Value} {vs : List V} (I : L2.Inv X pins σ H s) (r : Vals vs us)
    (h : spC X.K X.mG d.ps.length (c.call f) vs H Q fun cl d H' => W cl d σ H') : wpAny (model X.prog X.w) X.A (call (.ref (ad f)) us) (EP X pins σ Q) X.xe s := by
  cases hh : c.hot with
  | false => exact run_fnS (E := WE W) (ok.fn hh f d hd) ⟨ok.hd hh, (ok.room.mono (by omega)).dp, (ok.room.mono (by omega)).un⟩ (ok.g.bd f d hd) (L2N.passAt ok.tk σ) I r h
  | true =>
    obtain ⟨h1, h2, p, rr, h3, hot⟩ := ok.hp hh
    have em : X.mG = ⟨X.mg, pinX [p]⟩ := by
      show (⟨X.mg, cond X.calm none (pinX X.pn)⟩ : MG) = _
      rw [h1, h3]; rfl
    rw [em, h2] at h
    exact run_fnHp (ok.fnH p f d hd) (ok.room.mono (by omega)) hot (by rw [h3]; exact List.mem_cons_self) (ok.g.bd f d hd) I r h
theorem XOk.runK (ok : XOk c n ad fdt X W) {f : Nat} {d : Fd} (hd : c.g.fd[f]? = some d) {pins : List (Addr × Obj)} {σ : L2.St} {H : Hp} {s : Shared} {Q : VK} {us : List Value} {vs : List V} (I : L2.Inv X pins σ H s) (r : Vals vs us)
    (h : spC X.K X.mG d.ps.length (c.call f) vs H Q fun cl d H' => W cl d σ H') : wpAny (model X.prog X.w) X.A (call (.ref (ad f)) [] (d.ps.zip us)) (EP X pins σ Q) X.xe s := by
  have hl : us.length = d.ps.length := by rw [← r.length]; exact h.1
  have b := ok.g.bk f d hd s us 0 hl
  cases hh : c.hot with
  | false => exact run_fnSA (E := WE W) (ok.fn hh f d hd) ⟨ok.hd hh, (ok.room.mono (by omega)).dp, (ok.room.mono (by omega)).un⟩ ⟨[], d.ps.zip us⟩ b (L2N.passAt ok.tk σ) I r h
  | true =>
    obtain ⟨h1, h2, p, rr, h3, hot⟩ := ok.hp hh
    have em : X.mG = ⟨X.mg, pinX [p]⟩ := by
      show (⟨X.mg, cond X.calm none (pinX X.pn)⟩ : MG) = _
      rw [h1, h3]; rfl
    rw [em, h2] at h
    exact run_fnHpA (ok.fnH p f d hd) (ok.room.mono (by omega)) hot (by rw [h3]; exact List.mem_cons_self) ⟨[], d.ps.zip us⟩ b I r h
theorem Cc.mus_eq {f : Nat} {d : Fd} (hd : c.g.fd[f]? = some d) : c.mus f = d.mu := by unfold Cc.mus; rw [hd]
theorem XOk.call (ok : XOk c n ad fdt X W) {f : Nat} {d : Fd} (hd : c.g.fd[f]? = some d) {F0 H0 F H : Hp} {σ : L2.St} {ρ0 ρ : En} {rs : List Rv} {vs : List V} {Q : V → Hp → Prop} (p : Po X.K X.mG F0 H0 σ ρ0 F H ρ) (a : RvRs X.K X.mG H0 F H σ ρ vs rs)
    (h : FinE X.K X.mG W F0 H0 σ ρ0 Q (callR c f rs ρ)) : spC X.K X.mG d.ps.length (c.call f) vs H Q fun cl d H' => W cl d σ H' := by
  have e := callR_of p a h
  rw [Cc.mus_eq hd, ok.g.mul f d hd] at e
  exact e
theorem gl_of {x : Str} (h : glB X.env.scope x = true) : Gl X x := by unfold glB at h; exact beq_iff_eq.mp h
theorem dbg_of {x : Str} (h : dbgB x = true) : (x == ("__debug__" : Str)) = false ∧ (x == ("__classdict__" : Str)) = false ∧ x ≠ ("__name__" : Str) := by
  unfold dbgB at h
  simp only [Bool.and_eq_true, Bool.not_eq_true'] at h
  exact ⟨h.1.1, h.1.2, beq_eq_false_iff_ne.mp h.2⟩
theorem l_cal (ok : XOk c n ad fdt X W) {f : Nat} {d : Fd} (hd : c.g.fd[f]? = some d) (hc : d.cl = none) {x : Str} {p : Pos} (hx : x = d.nm) (hg : glB X.env.scope x = true) (hdb : dbgB x = true) (hl : PA X (e' :: es') (tev' X.K X.mG W el)) (hs : (e' :: es').all nost = true) :
    PE X (.Call (.Name x p) (e' :: es') [] pos) (tev X.K X.mG W fun ρ => (el ρ).bind fun rs ρ => callR c f rs ρ) := by
  subst hx
  obtain ⟨hm, hk⟩ := ok.g.fn f d hd hc
  refine ⟨fun pins s σ H Q I ⟨F, ρ, en, h⟩ => ?_⟩
  refine wpAny_Call_Name_kw (ld_glob I (gl_of hg) hm ?_ (dbg_of hdb).1)
  simp only [List.all_cons, Bool.and_eq_true] at hs
  refine PySem.W.callWith_K (h₀ := X.base) I.ok.mod.kin hk (thn (hl.run pos pins s σ H _ I (bindL (.refl en) h fun vs F1 H1 ρ1 rs q1 p1 v1 h1 => ok.call hd p1 v1 h1)) fun us s1 ⟨vs, H1, I1, r1, q1⟩ => ⟨I1.kIn, ?_⟩) (star_of hs.1) (any_of hs.2)
  exact ok.run hd I1 r1 q1
theorem l_cal0 (ok : XOk c n ad fdt X W) {f : Nat} {d : Fd} (hd : c.g.fd[f]? = some d) (hc : d.cl = none) {x : Str} {p : Pos} (hx : x = d.nm) (hg : glB X.env.scope x = true) (hdb : dbgB x = true) :
    PE X (.Call (.Name x p) [] [] pos) (tev X.K X.mG W fun ρ => callR c f [] ρ) := by
  subst hx
  obtain ⟨hm, hk⟩ := ok.g.fn f d hd hc
  refine ⟨fun pins s σ H Q I ⟨F, ρ, en, h⟩ => ?_⟩
  refine wpAny_Call_Name_kw (ld_glob I (gl_of hg) hm ?_ (dbg_of hdb).1)
  refine PySem.W.callWith_K0 (first := []) I.kIn hk ?_
  exact ok.run hd I .nil (ok.call (vs := []) (rs := []) hd (.refl en) trivial h)
/-- f(k = e, ..) -/
theorem l_knil : PK X [] (tev' X.K X.mG W fun ρ => .ok [] ρ) := ⟨fun po pins s σ H Q I ⟨F, ρ, en, h⟩ => wpAny_evalAll_nil ⟨[], H, I, .nil, h [] F H (.refl en) trivial⟩⟩
theorem l_kcons {nm : Option Str} {kp : Pos} {kws : List Keyword} (ha : PE X a' (tev X.K X.mG W ea)) (hl : PK X kws (tev' X.K X.mG W el)) :
    PK X (⟨nm, a', kp⟩ :: kws) (tev' X.K X.mG W fun ρ => (ea ρ).bind fun x ρ => (el ρ).bind fun xs ρ => .ok (x :: xs) ρ) := by
  have z := pk_cons (nm := nm) (kpos := kp) ha hl
  refine ⟨fun po pins s σ H Q I q => z.run po pins s σ H Q I ?_⟩
  obtain ⟨F, ρ, en, h⟩ := q
  exact bindE (.refl en) h fun x F1 H1 ρ1 r1 q1 p1 v1 h1 => by
    refine ⟨F1, ρ1, p1.en, ?_⟩
    cases q : el ρ1 with
    | ok rs ρ2 =>
      rw [q] at h1
      intro vs F2 H2 p2 w2
      exact h1 (x :: vs) F2 H2 (p1.trans p2) (RvRs.cons' (v1.stay p2) w2 (fun b e => p1.st.al b e) fun b e => v1.tmp_old e)
    | er x ρ2 =>
      rw [q] at h1
      exact fun cl d F2 H2 p2 x2 => h1 cl d F2 H2 (p1.trans p2) x2
    | bad =>
      rw [q] at h1
      exact h1.elim
def kwNames (kws : List Keyword) (ps : List Str) : Bool := decide (kws.map (·.arg) = ps.map some)
theorem kw_all {env : Env} {po : Pos} : ∀ {kws : List Keyword} {ps : List Str}, kws.map (·.arg) = ps.map some → (backToKw po (keywordEach kws env)).all (·.1.isSome) = true ∧ (backToKw po (keywordEach kws env)).filterMap (·.1) = ps ∧ (backToKw po (keywordEach kws env)).any (·.1.isNone) = false
  | [], ps, h => by
    cases ps with
    | nil => exact ⟨rfl, rfl, rfl⟩
    | cons _ _ => cases h
  | ⟨n, v, p⟩ :: kws, ps, h => by
    cases ps with
    | nil => cases h
    | cons x ps =>
      simp only [List.map_cons, List.cons.injEq] at h
      obtain ⟨h1, h2⟩ := h
      subst h1
      obtain ⟨i1, i2, i3⟩ := kw_all (env := env) (po := po) h2
      show (_ :: backToKw po (keywordEach kws env)).all _ = _ ∧ (_ :: backToKw po (keywordEach kws env)).filterMap _ = _ ∧ (_ :: backToKw po (keywordEach kws env)).any _ = _
      refine ⟨?_, ?_, ?_⟩
      · rw [List.all_cons, i1]; rfl
      · rw [List.filterMap_cons]
        show x :: (backToKw po (keywordEach kws env)).filterMap (·.1) = _
        rw [i2]
      · rw [List.any_cons, i3]; rfl
theorem l_calk (ok : XOk c n ad fdt X W) {f : Nat} {d : Fd} (hd : c.g.fd[f]? = some d) (hc : d.cl = none) {x : Str} {p : Pos} {kws : List Keyword} (hx : x = d.nm) (hg : glB X.env.scope x = true) (hdb : dbgB x = true) (hl : PK X kws (tev' X.K X.mG W el)) (hs : kwNames kws d.ps = true) :
    PE X (.Call (.Name x p) [] kws pos) (tev X.K X.mG W fun ρ => (el ρ).bind fun rs ρ => callR c f rs ρ) := by
  subst hx
  obtain ⟨hm, hk⟩ := ok.g.fn f d hd hc
  obtain ⟨k1, k2, k3⟩ := kw_all (env := X.env) (po := pos) (of_decide_eq_true hs)
  refine ⟨fun pins s σ H Q I ⟨F, ρ, en, h⟩ => ?_⟩
  refine wpAny_Call_Name_kw (ld_glob I (gl_of hg) hm ?_ (dbg_of hdb).1)
  refine PySem.W.callWith_KW0 (h₀ := X.base) (first := []) I.ok.mod.kin hk k1 (thn (hl.run pos pins s σ H _ I (bindL (.refl en) h fun vs F1 H1 ρ1 rs q1 p1 v1 h1 => ok.call hd p1 v1 h1)) fun us s1 ⟨vs, H1, I1, r1, q1⟩ => ⟨I1.kIn, ?_⟩) (by rw [k3]; rfl)
  rw [k2]
  exact ok.runK hd I1 r1 q1
/-- o.m(..) -/
theorem XOk.meth (ok : XOk c n ad fdt X W) {f : Nat} {d : Fd} {C : Str} (hd : c.g.fd[f]? = some d) (hc : d.cl = some C) (hi : d.nm ≠ ("__init__" : Str)) {F0 H0 F H : Hp} {σ : L2.St} {ρ0 ρ : En} {x : V} {r : Rv} {pins : List (Addr × Obj)} {s : Shared} {α : Type}
    {Q : Value × List Value → Shared → Prop} {pl : Sem Bool} {ns : List Str} {ds : List D} (p : Po X.K X.mG F0 H0 σ ρ0 F H ρ) (v : RvR X.K X.mG H0 F H σ ρ x r) (e : view ρ r = some (.ins C ns ds)) (nn : c.nmOf f ∉ ns) (I : L2.Inv X pins σ H s) {u : Value} (ru : RelV x u)
    (h : Q (.ref (ad f), [u]) s) : wpAny (model X.prog X.w) X.A (getMethod u d.nm pl) Q X.xe s ∧ PySem.W.keepIn X.K (.ref (ad f)) = true := by
  obtain ⟨a, Ca, dx, fs, ex, hC, hH, en, rl⟩ := (v.vw p.en e).ins p.en.sub
  obtain ⟨Ca', hC', cl, me⟩ := ok.g.me f d C hd hc hi
  have hCC := hC.symm.trans hC'; cases hCC
  subst ex
  obtain rfl : u = Value.ref a := ru
  refine ⟨getmeth_ok I hH cl me ?_ h, me.kp⟩
  have hn : d.nm ∉ fs.map (·.1) := by
    rw [en]
    unfold Cc.nmOf at nn
    rw [hd] at nn
    exact nn
  cases q : fs.lookup d.nm with
  | none => rfl
  | some w => exact absurd (List.mem_map.mpr ⟨(d.nm, w), mem_of_lookup q, rfl⟩) hn
theorem allst_of {env : Env} {pos : Pos} : ∀ {es : List Expr}, es.all nost = true → (backTo pos (starEach es env)).all (!·.1) = true
  | [], _ => rfl
  | e :: es, h => by
    simp only [List.all_cons, Bool.and_eq_true] at h
    rw [star_of h.1]
    exact allst_of (pos := pos) h.2
theorem form_of {env : Env} {pos : Pos} {es : List Expr} (h : es.all nost = true) (hn : es.length < 30) : methodCallForm (es.length + ([] : List Keyword).length) (backTo pos (starEach es env)) (backToKw pos (keywordEach [] env)) = true := by
  unfold methodCallForm
  rw [allst_of h]
  show (true && true && decide (es.length + 0 + 0 < 30)) = true
  simpa using hn
theorem meth_eval {o : Expr} {m : Str} {apos : Pos} {env : Env} {es : List Expr} (h : nocall0 o = true) (hs : es.all nost = true) (hn : es.length < 30) (hl : (apos.endLine == pos.line) = true) : eval (.Call (.Attribute o m apos) es [] pos) env = (do
      let ov ← eval o env
      standAt apos.atName
      let (f, first) ← holding [ov] (getMethod ov m (do return (← importBound o env).getD true))
      callWith pos f first (backTo pos (starEach es env)) (backToKw pos (keywordEach [] env))) := by
  show (do let ov ← attributeBase o m env (eval o env); standAt apos.atName; methodCall o m apos pos env ov (es.length + ([] : List Keyword).length) (backTo pos (starEach es env)) (backToKw pos (keywordEach [] env))) = _
  rw [base_of h]
  unfold methodCall
  rw [form_of hs hn]
  unfold methodCallPos
  rw [hl]
  rfl
theorem l_met (ok : XOk c n ad fdt X W) {f : Nat} {d : Fd} {C : Str} (hd : c.g.fd[f]? = some d) (hc : d.cl = some C) (hi : d.nm ≠ ("__init__" : Str)) {m : Str} {apos : Pos} (hx : m = d.nm) (ha : PE X a' (tev X.K X.mG W ea)) (hn : nocall0 a' = true)
    (hl : PA X (e' :: es') (tev' X.K X.mG W el)) (hs : (e' :: es').all nost = true) (h30 : (e' :: es').length < 30) (hline : (apos.endLine == pos.line) = true) :
    PE X (.Call (.Attribute a' m apos) (e' :: es') [] pos) (tev X.K X.mG W fun ρ => (ea ρ).bind fun x ρ => match view ρ x with
      | some (.ins C' ns _) => if C' = C ∧ c.nmOf f ∉ ns then (el ρ).bind fun rs ρ => callR c f (x :: rs) ρ else .bad
      | _ => .bad) := by
  subst hx
  refine ⟨fun pins s σ H Q I ⟨F, ρ, en, h⟩ => ?_⟩
  refine PySem.W.methodCall_KW ?_ (meth_eval hn hs h30 hline)
  simp only [List.all_cons, Bool.and_eq_true] at hs
  refine thn (ha.run pins s σ H (fun x H1 => ∃ F1 ρ1 r, Po X.K X.mG F H σ ρ F1 H1 ρ1 ∧ RvR X.K X.mG H F1 H1 σ ρ1 x r ∧ FinE X.K X.mG W F H σ ρ Q (match view ρ1 r with
      | some (.ins C' ns _) => if C' = C ∧ c.nmOf f ∉ ns then (el ρ1).bind fun rs ρ => callR c f (r :: rs) ρ else .bad
      | _ => .bad)) I (bindE (.refl en) h fun x F1 H1 ρ1 r _ p1 v1 h1 => ⟨F1, ρ1, r, p1, v1, h1⟩)) fun u s1 ⟨x, H1, I1, rx, F1, ρ1, r, p1, v1, h1⟩ => ?_
  split at h1
  · rename_i C' ns ds ev
    split at h1
    · rename_i hcond
      obtain ⟨hC, nn⟩ := hcond
      subst hC
      have hmeth := fun (Q' : Value × List Value → Shared → Prop) (pl : Sem Bool) => ok.meth (α := Unit) (Q := Q') (pl := pl) hd hc hi p1 v1 ev nn I1 rx
      refine (hmeth _ _ ?_).1
      have hk := (hmeth (fun _ _ => True) (pure true) trivial).2
      show wpAny _ _ (callWith pos (.ref (ad f)) [u] (backTo pos (starEach (e' :: es') X.env)) []) _ _ s1
      refine PySem.W.callWith_K (h₀ := X.base) I.ok.mod.kin hk (thn (hl.run pos pins s1 σ H1 (fun vs H2 => spC X.K X.mG d.ps.length (c.call f) (x :: vs) H2 Q fun cl d H' => W cl d σ H') I1 ?_) fun us s2 ⟨vs, H2, I2, r2, q2⟩ => ⟨I2.kIn, ?_⟩) (star_of hs.1) (any_of hs.2)
      · refine ⟨F1, ρ1, p1.en, ?_⟩
        cases q : el ρ1 with
        | ok rs ρ2 =>
          rw [q] at h1
          exact fun vs F2 H2 p2 w2 => ok.call hd (p1.trans p2) (RvRs.cons' (v1.stay p2) w2 (fun b e => p1.st.al b e) fun b e => v1.tmp_old e) h1
        | er x ρ2 =>
          rw [q] at h1
          exact fun cl d F2 H2 p2 x2 => h1 cl d F2 H2 (p1.trans p2) x2
        | bad =>
          rw [q] at h1
          exact h1.elim
      · exact ok.run hd I2 (.cons rx r2) q2
    · exact h1.elim
  · exact h1.elim
theorem l_met0 (ok : XOk c n ad fdt X W) {f : Nat} {d : Fd} {C : Str} (hd : c.g.fd[f]? = some d) (hc : d.cl = some C) (hi : d.nm ≠ ("__init__" : Str)) {m : Str} {apos : Pos} (hx : m = d.nm) (ha : PE X a' (tev X.K X.mG W ea)) (hn : nocall0 a' = true)
    (hline : (apos.endLine == pos.line) = true) : PE X (.Call (.Attribute a' m apos) [] [] pos) (tev X.K X.mG W fun ρ => (ea ρ).bind fun x ρ => match view ρ x with
      | some (.ins C' ns _) => if C' = C ∧ c.nmOf f ∉ ns then callR c f [x] ρ else .bad
      | _ => .bad) := by
  subst hx
  refine ⟨fun pins s σ H Q I ⟨F, ρ, en, h⟩ => ?_⟩
  refine PySem.W.methodCall_KW ?_ (meth_eval hn rfl (by decide) hline)
  refine thn (ha.run pins s σ H (fun x H1 => ∃ F1 ρ1 r, Po X.K X.mG F H σ ρ F1 H1 ρ1 ∧ RvR X.K X.mG H F1 H1 σ ρ1 x r ∧ FinE X.K X.mG W F H σ ρ Q (match view ρ1 r with
      | some (.ins C' ns _) => if C' = C ∧ c.nmOf f ∉ ns then callR c f [r] ρ1 else .bad
      | _ => .bad)) I (bindE (.refl en) h fun x F1 H1 ρ1 r _ p1 v1 h1 => ⟨F1, ρ1, r, p1, v1, h1⟩)) fun u s1 ⟨x, H1, I1, rx, F1, ρ1, r, p1, v1, h1⟩ => ?_
  split at h1
  · rename_i C' ns ds ev
    split at h1
    · rename_i hcond
      obtain ⟨hC, nn⟩ := hcond
      subst hC
      have hmeth := fun (Q' : Value × List Value → Shared → Prop) (pl : Sem Bool) => ok.meth (α := Unit) (Q := Q') (pl := pl) hd hc hi p1 v1 ev nn I1 rx
      refine (hmeth _ _ ?_).1
      have hk := (hmeth (fun _ _ => True) (pure true) trivial).2
      refine PySem.W.callWith_K0 (first := [u]) I1.kIn hk ?_
      exact ok.run hd I1 (.cons rx .nil) (ok.call (vs := [x]) (rs := [r]) hd p1 ⟨v1, trivial, fun _ _ z => nomatch z⟩ h1)
    · exact h1.elim
  · exact h1.elim
end
end Mp

/-! Mp10: new instances, displays, tests. -/
namespace Mp
open PySem L2 PyProof.Rows
section
variable {c : Cc} {n : Nat} {ad : Nat → Addr} {fdt : Nat → FuncData} {X : Cx} {W : WW} {a' b' e' : Expr} {es' : List Expr} {ea eb ee : En → Out Rv} {el : En → Out (List Rv)} {et : En → Out Bool} {pos : Pos}
/-- a class is called, what __init__ raises is wished for at the slots -/
theorem make_at {C : Addr} {CX : CXT} {k : Nat} {f : Addr} {fd : FuncData} {ps : List Str} {sp : Sp} {E : XK} {pins : List (Addr × Obj)} {σ : L2.St} {H : Hp} {s : Shared} {Q : VK} {us : List Value} {vs : List V}
    (M : Mk X.K C f) (F : FnOk X.prog X.w X.K X.mG X.base CX k f fd ps sp) (hr : Room (k + 1) X.A) (hb : Binds X.K fd ps []) (hx : PassesAt CX X σ E) (I : L2.Inv X pins σ H s) (r : Vals vs us)
    (h : ∀ x dx, H x = none → H dx = none → dx ≠ x → sp (.ref x :: vs) (upd (upd H dx (.own x)) x (.ins C dx [])) (fun v H2 => v = .non ∧ Q (.ref x) H2) E) :
    wpAny (model X.prog X.w) X.A (call (.ref C) us) (EP X pins σ Q) X.xe s := by
  have q := h (s.heap.objs.size + 1) s.heap.objs.size (I.hok.fresh (Nat.le_succ _)) (I.hok.fresh (Nat.le_refl _)) (Nat.ne_of_lt (Nat.lt_succ_self _))
  have J := Inv.made (C := C) I
  have rr : Vals (V.ref (s.heap.objs.size + 1) :: vs) (Value.ref (s.heap.objs.size + 1) :: us) := .cons rfl r
  have hl : (Value.ref (s.heap.objs.size + 1) :: us).length = ps.length := rr.length.symm.trans (F.len _ _ _ _ q)
  have bb := hb _ (Value.ref (s.heap.objs.size + 1) :: us) J.kIn (by rw [List.append_nil]; exact hl)
  rw [List.append_nil] at bb
  refine wpAny_call (make_map (f := f) I.kIn M.makes M.init (beq_iff_eq.mp M.fn)
    (codeAny_mono (F.run _ X.stack _ _ _ _ _ _ E (hr.make C us []) (J.env0.make C us []) bb rr q) fun r s' hq => ?_))
  match r, hq with
  | .error e, hq => exact hx pins _ _ e s' J hq
  | .ok (.ret u), hq =>
    obtain ⟨v, H', I3, rv, ev, q3⟩ := J.after hq
    subst ev
    exact ⟨rv, ⟨V.ref (s.heap.objs.size + 1), H', I3, rfl, q3⟩⟩
  | .ok .next, hq => exact False.elim hq
  | .ok .brk, hq => exact False.elim hq
  | .ok .cont, hq => exact False.elim hq
theorem make_atK {C : Addr} {CX : CXT} {k : Nat} {f : Addr} {fd : FuncData} {ps : List Str} {sp : Sp} {E : XK} {pins : List (Addr × Obj)} {σ : L2.St} {H : Hp} {s : Shared} {Q : VK} {us : List Value} {vs : List V}
    (M : Mk X.K C f) (F : FnOk X.prog X.w X.K X.mG X.base CX k f fd ps sp) (hr : Room (k + 1) X.A) (hb : ∀ (s : Shared) (vs : List Value) (j : Nat), vs.length = ps.length → BindsTo s fd ⟨vs.take j, (ps.drop j).zip (vs.drop j)⟩ (ps.zip vs)) (hx : PassesAt CX X σ E) (I : L2.Inv X pins σ H s) (r : Vals vs us)
    (h : ∀ x dx, H x = none → H dx = none → dx ≠ x → sp (.ref x :: vs) (upd (upd H dx (.own x)) x (.ins C dx [])) (fun v H2 => v = .non ∧ Q (.ref x) H2) E) :
    wpAny (model X.prog X.w) X.A (call (.ref C) [] ((ps.drop 1).zip us)) (EP X pins σ Q) X.xe s := by
  have q := h (s.heap.objs.size + 1) s.heap.objs.size (I.hok.fresh (Nat.le_succ _)) (I.hok.fresh (Nat.le_refl _)) (Nat.ne_of_lt (Nat.lt_succ_self _))
  have J := Inv.made (C := C) I
  have rr : Vals (V.ref (s.heap.objs.size + 1) :: vs) (Value.ref (s.heap.objs.size + 1) :: us) := .cons rfl r
  have hl : (Value.ref (s.heap.objs.size + 1) :: us).length = ps.length := rr.length.symm.trans (F.len _ _ _ _ q)
  refine wpAny_call (make_map (f := f) I.kIn M.makes M.init (beq_iff_eq.mp M.fn)
    (codeAny_mono (F.run _ X.stack _ _ _ _ _ _ E (hr.make C [] _) (J.env0.make C [] _) (hb _ (Value.ref (s.heap.objs.size + 1) :: us) 1 hl) rr q) fun r s' hq => ?_))
  match r, hq with
  | .error e, hq => exact hx pins _ _ e s' J hq
  | .ok (.ret u), hq =>
    obtain ⟨v, H', I3, rv, ev, q3⟩ := J.after hq
    subst ev
    exact ⟨rv, ⟨V.ref (s.heap.objs.size + 1), H', I3, rfl, q3⟩⟩
  | .ok .next, hq => exact False.elim hq
  | .ok .brk, hq => exact False.elim hq
  | .ok .cont, hq => exact False.elim hq
/-- two new things: an instance and its dict -/
theorem Grow.ins {F H : Hp} {x dx C : Addr} (sb : Sub F H) (hx : H x = none) (hd : H dx = none) (ne : dx ≠ x) : Grow F H F (upd (upd H dx (.own x)) x (.ins C dx [])) := by
  have g1 := Grow.tmp (o := .own x) sb hd
  have hx' : upd H dx (.own x) x = none := by rw [upd_ne (Ne.symm ne)]; exact hx
  have g2 := Grow.tmp (o := .ins C dx []) g1.sub hx'
  exact ⟨.refl, g1.keep.trans g2.keep, fun a o e f => f, g2.sub⟩
theorem XOk.make (ok : XOk c n ad fdt X W) {f : Nat} {d : Fd} {C : Str} (hd : c.g.fd[f]? = some d) (hc : d.cl = some C) {F0 H0 F H : Hp} {σ : L2.St} {ρ0 ρ : En} {rs : List Rv} {vs : List V} {Q : V → Hp → Prop} (p : Po X.K X.mG F0 H0 σ ρ0 F H ρ) (a : RvRs X.K X.mG H0 F H σ ρ vs rs)
    (h : FinE X.K X.mG W F0 H0 σ ρ0 Q (makeR c C f rs ρ)) {Ca : Addr} (hC : X.mG C = some (.ref Ca)) : ∀ x dx, H x = none → H dx = none → dx ≠ x →
      spC X.K X.mG d.ps.length (c.call f) (.ref x :: vs) (upd (upd H dx (.own x)) x (.ins Ca dx [])) (fun v H2 => v = .non ∧ Q (.ref x) H2) fun cl d H' => W cl d σ H' := by
  intro x dx hx hdx ne
  unfold makeR at h
  rw [Cc.mus_eq hd] at h
  have ml := ok.g.mul f d hd
  split at h
  · rename_i ms em
    split at h
    · rename_i ss ρ1 e1
      obtain ⟨F1, p1, k1, g1⟩ := prep_of p a e1
      split at h
      · rename_i nl
        have gr := Grow.ins (C := Ca) p1.en.sub hx hdx ne
        have p2 := gr.po p1
        have fx : F1 x = none := p1.en.sub.none hx
        have nox : ¬ Own σ ρ1 x := fun z => p1.en.own_some z hx
        -- the arguments, the new instance ahead
        have stay : ∀ {v m r s}, ArgOk X.K X.mG H0 F1 H σ ρ1 v m r s → ArgOk X.K X.mG H0 F1 (upd (upd H dx (.own x)) x (.ins Ca dx [])) σ ρ1 v m r s := fun {v m r s} q => by
          cases q with
          | val r => exact .val r
          | tmp h0 f o no =>
            obtain ⟨u, hu⟩ := o.obj
            exact .tmp h0 f (o.at .refl ((gr.keep _ u hu).trans hu.symm)) no
          | brw e1 e2 => exact .brw e1 e2
        have stays : ∀ {vs ms rs ss}, ArgsOk X.K X.mG H0 F1 H σ ρ1 vs ms rs ss → ArgsOk X.K X.mG H0 F1 (upd (upd H dx (.own x)) x (.ins Ca dx [])) σ ρ1 vs ms rs ss := fun {vs ms rs ss} q => by
          induction q with
          | nil => exact .nil
          | cons h _ ih => exact .cons (stay h) ih
        have g2 : ArgsOk X.K X.mG H0 F1 (upd (upd H dx (.own x)) x (.ins Ca dx [])) σ ρ1 (.ref x :: vs) (true :: ms) (.tmp (.ins C [] []) :: rs) (.own (.ins C [] []) :: ss) :=
          .cons (.tmp (p.st.al x hx) fx ⟨Ca, dx, [], hC, upd_same, rfl, .nil⟩ nox) (stays g1)
        have nt : ∀ (k l : Nat) (v v' : V) (r r' : Rv) (q : Addr), (V.ref x :: vs)[k]? = some v → (Rv.tmp (.ins C [] []) :: rs)[k]? = some r → (V.ref x :: vs)[l]? = some v' → (Rv.tmp (.ins C [] []) :: rs)[l]? = some r' → tmpA v r = some q → tmpA v' r' = some q → k = l := by
          have old : ∀ q ∈ tmps vs rs, q ≠ x := fun q m z => by
            subst z
            have : ∀ {vs : List V} {rs : List Rv}, RvRs X.K X.mG H0 F H σ ρ vs rs → q ∈ tmps vs rs → H q ≠ none := by
              intro vs
              induction vs with
              | nil => intro rs h m; cases rs <;> simp [tmps] at m
              | cons v vs ih =>
                intro rs h m
                cases rs with
                | nil => exact h.elim
                | cons r rs =>
                  simp only [tmps, List.mem_append] at m
                  rcases m with m | m
                  · split at m
                    · rename_i b eb
                      simp only [List.mem_singleton] at m
                      subst m
                      exact h.1.tmp_old eb
                    · cases m
                  · exact ih h.2.1 m
            exact this a m hx
          intro k l v v' r r' q h1 h2 h3 h4 h5 h6
          cases k with
          | zero =>
            cases l with
            | zero => rfl
            | succ l =>
              simp at h1 h2
              subst h1; subst h2
              simp only [tmpA] at h5; cases h5
              exact absurd rfl (old _ (tmps_get (k := l) (by simpa using h3) (by simpa using h4) h6))
          | succ k =>
            cases l with
            | zero =>
              simp at h3 h4
              subst h3; subst h4
              simp only [tmpA] at h6; cases h6
              exact absurd rfl (old _ (tmps_get (k := k) (by simpa using h1) (by simpa using h2) h5))
            | succ l => rw [a.inj (k := k) (l := l) (by simpa using h1) (by simpa using h2) (by simpa using h3) (by simpa using h4) h5 h6]
        have nl2 : (lent (true :: ms) (.tmp (.ins C [] []) :: rs)).Nodup := nl
        have ln := g2.len
        refine ⟨by rw [← ml, em]; omega, F1, .own (.ins C [] []) :: ss, args_env p2.en g2 nt nl2, ?_⟩
        split at h
        · rename_i d2 ss' ec
          rw [ec]
          intro v F' H' q r1
          cases r1
          refine ⟨rfl, ?_⟩
          obtain ⟨q1, q2⟩ := call_back p2 g2 nl2 q
          obtain ⟨b, e1, f1, o1⟩ := q.en.own 0 d2 rfl
          cases e1
          refine h (.ref x) F' H' q1 ⟨x, rfl, p.st.al x hx, f1, o1, fun z => nox (q2 x z)⟩
        · rename_i xn s0 ss' ec
          rw [ec]
          exact fun cl dd F' H' q x1 => h cl dd F' H' (call_back p2 g2 nl2 q).1 x1
        · exact h.elim
      · exact h.elim
    · exact h.elim
  · exact h.elim
theorem l_mak (ok : XOk c n ad fdt X W) (hh : c.hot = false) {f : Nat} {d : Fd} {C : Str} (hd : c.g.fd[f]? = some d) (hc : d.cl = some C) (hi : d.nm = ("__init__" : Str)) {p : Pos} (hg : glB X.env.scope C = true) (hdb : dbgB C = true)
    (hl : PA X (e' :: es') (tev' X.K X.mG W el)) (hs : (e' :: es').all nost = true) : PE X (.Call (.Name C p) (e' :: es') [] pos) (tev X.K X.mG W fun ρ => (el ρ).bind fun rs ρ => makeR c C f rs ρ) := by
  obtain ⟨Ca, hC, M⟩ := ok.g.ini f d C hd hc hi
  refine ⟨fun pins s σ H Q I ⟨F, ρ, en, h⟩ => ?_⟩
  refine wpAny_Call_Name_kw (ld_glob I (gl_of hg) hC ?_ (dbg_of hdb).1)
  simp only [List.all_cons, Bool.and_eq_true] at hs
  refine PySem.W.callWith_K (h₀ := X.base) I.ok.mod.kin M.kp (thn (hl.run pos pins s σ H _ I (bindL (.refl en) h fun vs F1 H1 ρ1 rs q1 p1 v1 h1 => ok.make hd hc p1 v1 h1 hC)) fun us s1 ⟨vs, H1, I1, r1, q1⟩ => ⟨I1.kIn, ?_⟩) (star_of hs.1) (any_of hs.2)
  exact make_at M (ok.fn hh f d hd) ⟨ok.hd hh, ok.room.dp, ok.room.un⟩ (ok.g.bd f d hd) (L2N.passAt ok.tk σ) I1 r1 q1
theorem l_makk (ok : XOk c n ad fdt X W) (hh : c.hot = false) {f : Nat} {d : Fd} {C : Str} (hd : c.g.fd[f]? = some d) (hc : d.cl = some C) (hi : d.nm = ("__init__" : Str)) {p : Pos} {kws : List Keyword} (hg : glB X.env.scope C = true) (hdb : dbgB C = true)
    (hl : PK X kws (tev' X.K X.mG W el)) (hs : kwNames kws (d.ps.drop 1) = true) : PE X (.Call (.Name C p) [] kws pos) (tev X.K X.mG W fun ρ => (el ρ).bind fun rs ρ => makeR c C f rs ρ) := by
  obtain ⟨Ca, hC, M⟩ := ok.g.ini f d C hd hc hi
  obtain ⟨k1, k2, k3⟩ := kw_all (env := X.env) (po := pos) (of_decide_eq_true hs)
  refine ⟨fun pins s σ H Q I ⟨F, ρ, en, h⟩ => ?_⟩
  refine wpAny_Call_Name_kw (ld_glob I (gl_of hg) hC ?_ (dbg_of hdb).1)
  refine PySem.W.callWith_KW0 (h₀ := X.base) (first := []) I.ok.mod.kin M.kp k1 (thn (hl.run pos pins s σ H _ I (bindL (.refl en) h fun vs F1 H1 ρ1 rs q1 p1 v1 h1 => ok.make hd hc p1 v1 h1 hC)) fun us s1 ⟨vs, H1, I1, r1, q1⟩ => ⟨I1.kIn, ?_⟩) (by rw [k3]; rfl)
  rw [k2]
  exact make_atK M (ok.fn hh f d hd) ⟨ok.hd hh, ok.room.dp, ok.room.un⟩ (ok.g.bk f d hd) (L2N.passAt ok.tk σ) I1 r1 q1
/-! ### displays -/
def tTupX (t : TA) : TE := fun σ H Q => t σ H fun xs H1 => xs.length ≤ sizeLine ∧ ∀ p ob, H1 p = none → ob.dict = none → Q (.ref p) (upd H1 p (.frz ob (.tup xs)))
/-- a tuple's display: what is new has no dict -/
theorem pe_tupX {x1} {t : TA} (h : PA X es' t) : PE X (.Tuple es' x1 pos) (tTupX t) := by
  refine ⟨fun pins s σ H Q I hq => ?_⟩
  refine wpAny_Tuple_spliced (thn (h.run pos pins s σ H _ I hq) fun us s1 ⟨xs, H1, I1, r, z, q⟩ => ⟨by rw [← r.length]; exact z, ?_⟩)
  have hf : H1 s1.heap.objs.size = none := I1.hok.fresh (Nat.le_refl _)
  refine ⟨.ref s1.heap.objs.size, _, I1.laid (t' := s1.toks) (o := .frz { cls := .type "tuple", data := .seq us.toArray } (.tup xs)) (fun b u e => Heap.get?_push_of_some _ e) (Nat.le_refl _) ?_, rfl, q _ _ hf rfl⟩
  exact ⟨Heap.get?_push_size _ rfl, z, us, r, IsTup.new _ _⟩
theorem l_tup {k : Nat} (hl : PA X es' (tev' X.K X.mG W el)) : PE X (.Tuple es' k pos) (tev X.K X.mG W fun ρ => (el ρ).bind fun rs ρ => match fzs ρ rs with
    | some (ds, ρ) => if ds.length ≤ lim then .ok (.val (.tup ds)) ρ else .bad
    | none => .bad) := PE.imp (pe_tupX hl) fun σ H Q ⟨F, ρ, en, h⟩ => bindL (.refl en) h fun vs F1 H1 ρ1 rs q1 p1 v1 h1 => by
  split at h1
  · rename_i ds ρ2 e1
    split at h1
    · rename_i hz
      obtain ⟨F2, p2, k2, r2⟩ := fzs_of p1 v1.w e1
      refine ⟨by rw [r2.length, ← lim_eq]; exact hz, fun a ob na nd => ?_⟩
      have gr := Grow.frz (o := .frz ob (.tup vs)) p2.en.sub na
      exact h1 (.ref a) _ _ (gr.po p2) (.tup (.inl ⟨ob, nd, upd_same⟩) (r2.mono gr.mono))
    · exact h1.elim
  · exact h1.elim
theorem l_lst (hl : PA X es' (tev' X.K X.mG W el)) : PE X (.List es' pos) (tev X.K X.mG W fun ρ => (el ρ).bind fun rs ρ => match fzs ρ rs with
    | some (ds, ρ) => if ds.length ≤ lim then .ok (.tmp (.lst ds)) ρ else .bad
    | none => .bad) := PE.imp (pe_lst hl) fun σ H Q ⟨F, ρ, en, h⟩ => bindL (.refl en) h fun vs F1 H1 ρ1 rs q1 p1 v1 h1 => by
  split at h1
  · rename_i ds ρ2 e1
    split at h1
    · rename_i hz
      obtain ⟨F2, p2, k2, r2⟩ := fzs_of p1 v1.w e1
      refine ⟨by rw [r2.length, ← lim_eq]; exact hz, fun a na => ?_⟩
      have gr := Grow.tmp (o := .lst vs) p2.en.sub na
      exact h1 (.ref a) _ _ (gr.po p2) ⟨a, rfl, p2.st.al a na, p2.en.sub.none na, ⟨vs, upd_same, r2⟩, fun z => p2.en.own_some z na⟩
    · exact h1.elim
  · exact h1.elim
/-! ### tests -/
theorem t_va (hs : plainT a' = true) (ha : PE X a' (tev X.K X.mG W ea)) : PT X a' (ttv X.K X.mG W fun ρ => (ea ρ).bind fun x ρ => tr1 x ρ) :=
  PT.imp (pt_truth ha (plainT_of hs)) fun σ H Q ⟨F, ρ, en, h⟩ => bindE (.refl en) h fun x F1 H1 ρ1 r1 q1 p1 v1 h1 => by
    unfold tr1 at h1
    split at h1
    · rename_i d e1
      split at h1
      · rename_i b e2
        exact ⟨b, truth_ok p1.en.sub (v1.vw p1.en e1) e2, h1 b F1 H1 p1 rfl⟩
      · exact h1.elim
    · exact h1.elim
/-- not, and, or as tests -/
theorem t_no (ha : PT X a' (ttv X.K X.mG W et)) : PT X (.UnaryOp .Not a' pos) (ttv X.K X.mG W fun ρ => (et ρ).bind fun b ρ => .ok (!b) ρ) :=
  PT.imp (pt_not ha) fun σ H Q ⟨F, ρ, en, h⟩ => bindB (.refl en) h fun b F1 H1 ρ1 q1 p1 h1 => h1 (!b) F1 H1 p1 rfl
theorem w_one {k : Bool} (ha : PT X a' (ttv X.K X.mG W et)) : PW X (.BoolOp (if k then .And else .Or) [a'] pos) (ttv X.K X.mG W fun ρ => (et ρ).bind fun b ρ => .ok b ρ) := by
  have imp : ∀ σ H Q, ttv X.K X.mG W (fun ρ => (et ρ).bind fun b ρ => .ok b ρ) σ H Q → ttv X.K X.mG W et σ H Q := fun σ H Q ⟨F, ρ, en, h⟩ => bindB (.refl en) h fun b F1 H1 ρ1 q1 p1 h1 => h1 b F1 H1 p1 rfl
  cases k with
  | false => exact PW.imp (pw_or1 ha) imp
  | true => exact PW.imp (pw_and1 ha) imp
theorem w_cons {k : Bool} {ew : En → Out Bool} (ha : PT X a' (ttv X.K X.mG W et)) (hb : PW X (.BoolOp (if k then .And else .Or) (b' :: es') pos) (ttv X.K X.mG W ew)) :
    PW X (.BoolOp (if k then .And else .Or) (a' :: b' :: es') pos) (ttv X.K X.mG W fun ρ => (et ρ).bind fun b ρ => if b = k then ew ρ else .ok b ρ) := by
  have step : ∀ {Q : Bool → Hp → Prop} {F0 H0 F H : Hp} {σ : L2.St} {ρ0 ρ : En}, Po X.K X.mG F0 H0 σ ρ0 F H ρ → FinB X.K X.mG W F0 H0 σ ρ0 Q (ew ρ) → ttv X.K X.mG W ew σ H Q := fun {Q F0 H0 F H σ ρ0 ρ} p h => by
    refine ⟨F, ρ, p.en, ?_⟩
    cases q : ew ρ with
    | ok r ρ1 => rw [q] at h; exact fun b F1 H1 p1 e => h b F1 H1 (p.trans p1) e
    | er x ρ1 => rw [q] at h; exact fun cl d F1 H1 p1 x1 => h cl d F1 H1 (p.trans p1) x1
    | bad => rw [q] at h; exact h.elim
  cases k with
  | true =>
    refine PW.imp (pw_and ha hb) fun σ H Q ⟨F, ρ, en, h⟩ => bindB (.refl en) h fun b F1 H1 ρ1 q1 p1 h1 => ?_
    cases b with
    | true => rw [if_pos rfl]; rw [if_pos rfl] at h1; exact step p1 h1
    | false => rw [if_neg Bool.false_ne_true]; rw [if_neg Bool.false_ne_true] at h1; exact h1 false F1 H1 p1 rfl
  | false =>
    refine PW.imp (pw_or ha hb) fun σ H Q ⟨F, ρ, en, h⟩ => bindB (.refl en) h fun b F1 H1 ρ1 q1 p1 h1 => ?_
    cases b with
    | true => rw [if_pos rfl]; rw [if_neg (by decide)] at h1; exact h1 true F1 H1 p1 rfl
    | false => rw [if_neg Bool.false_ne_true]; rw [if_pos rfl] at h1; exact step p1 h1
/-- and, or as values -/
theorem stepE {e : En → Out Rv} {Q : V → Hp → Prop} {F0 H0 F H : Hp} {σ : L2.St} {ρ0 ρ : En} (p : Po X.K X.mG F0 H0 σ ρ0 F H ρ) (h : FinE X.K X.mG W F0 H0 σ ρ0 Q (e ρ)) : tev X.K X.mG W e σ H Q := by
  refine ⟨F, ρ, p.en, ?_⟩
  cases q : e ρ with
  | ok r ρ1 => rw [q] at h; exact fun b F1 H1 p1 e => h b F1 H1 (p.trans p1) (e.base p.st.al)
  | er x ρ1 => rw [q] at h; exact fun cl d F1 H1 p1 x1 => h cl d F1 H1 (p.trans p1) x1
  | bad => rw [q] at h; exact h.elim
theorem a_one {op : BoolOp} (ha : PE X a' (tev X.K X.mG W ea)) : PE X (.BoolOp op [a'] pos) (tev X.K X.mG W fun ρ => (ea ρ).bind fun x ρ => .ok x ρ) :=
  PE.imp (pe_one ha) fun σ H Q ⟨F, ρ, en, h⟩ => bindE (.refl en) h fun x F1 H1 ρ1 r1 q1 p1 v1 h1 => h1 x F1 H1 p1 v1
theorem a_cons {k : Bool} (ha : PE X a' (tev X.K X.mG W ea)) (hb : PE X (.BoolOp (if k then .And else .Or) (b' :: es') pos) (tev X.K X.mG W eb)) :
    PE X (.BoolOp (if k then .And else .Or) (a' :: b' :: es') pos) (tev X.K X.mG W fun ρ => (ea ρ).bind fun x ρ => match x with
      | .val (.bl b) => if b = k then eb ρ else .ok (.val (.bl b)) ρ
      | _ => .bad) := by
  cases k with
  | true =>
    refine PE.imp (pe_and ha hb) fun σ H Q ⟨F, ρ, en, h⟩ => bindE (.refl en) h fun x F1 H1 ρ1 r1 q1 p1 v1 h1 => ?_
    split at h1
    · rename_i b
      cases v1
      refine ⟨b, rfl, ?_⟩
      cases b with
      | true => rw [if_pos rfl]; rw [if_pos rfl] at h1; exact stepE p1 h1
      | false => rw [if_neg Bool.false_ne_true]; rw [if_neg Bool.false_ne_true] at h1; exact h1 _ F1 H1 p1 (.bl false)
    · exact h1.elim
  | false =>
    refine PE.imp (pe_or ha hb) fun σ H Q ⟨F, ρ, en, h⟩ => bindE (.refl en) h fun x F1 H1 ρ1 r1 q1 p1 v1 h1 => ?_
    split at h1
    · rename_i b
      cases v1
      refine ⟨b, rfl, ?_⟩
      cases b with
      | true => rw [if_pos rfl]; rw [if_neg (by decide)] at h1; exact h1 _ F1 H1 p1 (.bl true)
      | false => rw [if_neg Bool.false_ne_true]; rw [if_pos rfl] at h1; exact stepE p1 h1
    · exact h1.elim
theorem l_ife (hc : PT X e' (ttv X.K X.mG W et)) (ha : PE X a' (tev X.K X.mG W ea)) (hb : PE X b' (tev X.K X.mG W eb)) : PE X (.IfExp e' a' b' pos) (tev X.K X.mG W fun ρ => (et ρ).bind fun k ρ => if k then ea ρ else eb ρ) :=
  PE.imp (pe_ifExp hc ha hb) fun σ H Q ⟨F, ρ, en, h⟩ => bindB (.refl en) h fun b F1 H1 ρ1 q1 p1 h1 => by
    cases b with
    | true => rw [if_pos rfl]; rw [if_pos rfl] at h1; exact stepE p1 h1
    | false => rw [if_neg Bool.false_ne_true]; rw [if_neg Bool.false_ne_true] at h1; exact stepE p1 h1
/-! ### built-in functions, methods -/
theorem Bi.two (b : Bi) : (∃ z, b.vl = .builtin z ∧ bootBuiltins b.nm = some (.builtin z)) ∨ ∃ z, b.vl = .type z ∧ bootBuiltins b.nm = some (.type z) := by
  cases b
  · exact .inl ⟨_, rfl, PySem.boot_len⟩
  · exact .inr ⟨_, rfl, by decide +kernel⟩
  · exact .inl ⟨_, rfl, by decide +kernel⟩
  · exact .inr ⟨_, rfl, by decide +kernel⟩
  · exact .inr ⟨_, rfl, by decide +kernel⟩
  · exact .inl ⟨_, rfl, by decide +kernel⟩
  · exact .inl ⟨_, rfl, by decide +kernel⟩
  · exact .inl ⟨_, rfl, by decide +kernel⟩
  · exact .inl ⟨_, rfl, by decide +kernel⟩
  · exact .inl ⟨_, rfl, by decide +kernel⟩
  · exact .inr ⟨_, rfl, by decide +kernel⟩
  · exact .inl ⟨_, rfl, by decide +kernel⟩
  · exact .inl ⟨_, rfl, by decide +kernel⟩
  · exact .inl ⟨_, rfl, by decide +kernel⟩
theorem l_bi (ok : XOk c n ad fdt X W) (b : Bi) {p : Pos} (hh : (c.hot && !b.cool) = false) (hf : b.nm ∈ c.g.free) (hg : glB X.env.scope b.nm = true) (hl : PA X (a' :: es') (tev' X.K X.mG W el)) (hs : (a' :: es').all nost = true) :
    PE X (.Call (.Name b.nm p) (a' :: es') [] pos) (tev X.K X.mG W fun ρ => (el ρ).bind fun rs ρ => opL b.ap rs ρ) := by
  have hm := ok.g.free _ hf
  have imp : ∀ σ H Q, tev X.K X.mG W (fun ρ => (el ρ).bind fun rs ρ => opL b.ap rs ρ) σ H Q → tCB (rC X.K X.mG b.ap) (tev' X.K X.mG W el) σ H Q := fun σ H Q ⟨F, ρ, en, h⟩ =>
    bindL (.refl en) h fun vs F1 H1 ρ1 rs q1 p1 v1 h1 => opL_of p1 h1 v1
  have hb := bi_ok (X := X) b (fun z => ok.calm (by cases q : c.hot with | false => rfl | true => rw [q, z] at hh; cases hh)) (by
    cases q : c.hot with
    | false => exact .inl (ok.calm q)
    | true =>
      obtain ⟨_, _, p, r, hp, hot⟩ := ok.hp q
      exact .inr ⟨p, hot, by rw [hp]; exact List.mem_cons_self⟩)
  simp only [List.all_cons, Bool.and_eq_true] at hs
  have n1 : b.nm ≠ "__name__" := by cases b <;> decide
  have n2 : (b.nm == ("__debug__" : Str)) = false := by cases b <;> decide
  rcases b.two with ⟨z, e1, e2⟩ | ⟨z, e1, e2⟩
  · rw [e1] at hb
    exact PE.imp (pe_callB hb (gl_of hg) hm e2 hl n1 n2 (star_of hs.1) (any_of hs.2)) imp
  · rw [e1] at hb
    exact PE.imp (pe_callTy hb (gl_of hg) hm e2 hl n1 n2 (star_of hs.1) (any_of hs.2)) imp
end
end Mp

/-! Mp11: isinstance, methods. -/
namespace Mp
open PySem L2 PyProof.Rows
section
variable {c : Cc} {n : Nat} {ad : Nat → Addr} {fdt : Nat → FuncData} {X : Cx} {W : WW} {a' b' e' t' : Expr} {es' : List Expr} {ea eb ee : En → Out Rv} {el : En → Out (List Rv)} {pos : Pos}
def TyD (mg : MG) : D → Value → Prop
  | .non, T => T = .type "NoneType"
  | .bl _, T => T = .type "bool"
  | .int _, T => T = .type "int"
  | .str _, T => T = .type "str"
  | .tup _, T => T = .type "tuple"
  | .lst _, T => T = .type "list"
  | .dct _ _, T => T = .type "dict"
  | .ins C _ _, T => mg C = some T
theorem tyx_of {F H : Hp} {x : V} {d : D} (g : GOk c.g ad fdt X.K X.mG) (sb : Sub F H) (v : Vw X.K X.mG F H x d) (hi : ∀ C ns ds, d = .ins C ns ds → C ∈ c.g.cls) : ∃ T, TyX X.K H x T ∧ TyD X.mG d T := by
  cases d with
  | non => rw [v.non]; exact ⟨_, .base .non, rfl⟩
  | bl b => rw [v.bl]; exact ⟨_, .base (.bl _), rfl⟩
  | int b => rw [v.int]; exact ⟨_, .base (.int _), rfl⟩
  | str b => rw [v.str]; exact ⟨_, .base (.str _), rfl⟩
  | tup l =>
    obtain ⟨p, xs, e, q, _⟩ := v.tup sb
    subst e
    rcases q with (q | ⟨o, q⟩) | ⟨o, its, k, h1, h2, _⟩
    · exact ⟨_, .base (.tup q), rfl⟩
    · exact ⟨_, .fTuple q, rfl⟩
    · exact ⟨_, .kTuple h1 h2, rfl⟩
  | lst l =>
    obtain ⟨p, xs, e, q, _⟩ := v.lst sb
    subst e
    rcases q with (q | ⟨o, q⟩) | ⟨o, its, k, h1, h2, _⟩
    · exact ⟨_, .base (.lst q), rfl⟩
    · exact ⟨_, .base (.frz q), rfl⟩
    · exact ⟨_, .kList h1 h2, rfl⟩
  | dct ks ds =>
    obtain ⟨p, kvs, e, q, _⟩ := v.dct sb
    subst e
    rcases q with q | ⟨o, q⟩
    · exact ⟨_, .base (.dK q), rfl⟩
    · exact ⟨_, .fDict q, rfl⟩
  | ins C ns ds =>
    obtain ⟨p, Ca, dx, fs, e, hC, q, _⟩ := v.ins sb
    subst e
    obtain ⟨Ca', hC', k⟩ := g.kls C (hi C ns ds rfl)
    have hCC := hC.symm.trans hC'; cases hCC
    exact ⟨_, .base (.ins q k.cl k.ha k.hn k.htk k.hm), hC⟩
/-- a type as a value -/
def tyV (mg : MG) : Ty → V → Value → Prop
  | .b n, v, u => v = .ty n ∧ u = .type n
  | .c C, v, u => ∃ Ca, mg C = some (.ref Ca) ∧ v = .ref Ca ∧ u = .ref Ca
theorem tyV_cls {mg : MG} {t : Ty} {v : V} {u : Value} (h : tyV mg t v u) : ClsV v u := by
  cases t with
  | b n => obtain ⟨rfl, rfl⟩ := h; exact .ty n
  | c C => obtain ⟨Ca, _, rfl, rfl⟩ := h; exact .own Ca
theorem kit_one {t : Ty} {d : D} {T u : Value} {v : V} {b : Bool} (g : GOk c.g ad fdt X.K X.mG) (ht : TyD X.mG d T) (hv : tyV X.mG t v u) (e : d.isA c.g.cls t = some b) : PySem.W.kitOne X.K T u = some b := by
  cases t with
  | b n =>
    obtain ⟨rfl, rfl⟩ := hv
    simp only [D.isA] at e
    split at e
    · rename_i hn
      have key : ∀ m : String, m ∈ "NoneType" :: "dict" :: tyNames → ∀ r, (kitB m n = some r) → PySem.W.kitOne X.K (.type m) (.type n) = some r := fun m _ r q => kit_ty q
      simp only [tyNames, List.mem_cons, List.mem_nil_iff, or_false] at hn
      cases d with
      | ins C ns ds =>
        simp only at e
        split at e
        · rename_i hc
          cases e
          obtain ⟨Ca, hC, k⟩ := g.kls C hc
          have ht : X.mG C = some T := ht
          rw [hC] at ht; cases ht
          exact k.k1 n (by simp only [tyNames, List.mem_cons, List.mem_nil_iff, or_false]; exact hn)
        · cases e
      | non => cases (show T = _ from ht); cases e; rcases hn with rfl | rfl | rfl | rfl | rfl <;> exact kit_ty (by decide +kernel)
      | dct _ _ => cases (show T = _ from ht); cases e; rcases hn with rfl | rfl | rfl | rfl | rfl <;> exact kit_ty (by decide +kernel)
      | bl _ => cases (show T = _ from ht); cases e; rcases hn with rfl | rfl | rfl | rfl | rfl <;> exact kit_ty (by decide +kernel)
      | int _ => cases (show T = _ from ht); cases e; rcases hn with rfl | rfl | rfl | rfl | rfl <;> exact kit_ty (by decide +kernel)
      | str _ => cases (show T = _ from ht); cases e; rcases hn with rfl | rfl | rfl | rfl | rfl <;> exact kit_ty (by decide +kernel)
      | tup _ => cases (show T = _ from ht); cases e; rcases hn with rfl | rfl | rfl | rfl | rfl <;> exact kit_ty (by decide +kernel)
      | lst _ => cases (show T = _ from ht); cases e; rcases hn with rfl | rfl | rfl | rfl | rfl <;> exact kit_ty (by decide +kernel)
    · cases e
  | c C =>
    obtain ⟨Ca, hC, rfl, rfl⟩ := hv
    simp only [D.isA] at e
    split at e
    · rename_i hc
      obtain ⟨Ca', hC', k⟩ := g.kls C hc
      have hCC := hC.symm.trans hC'; cases hCC
      cases d with
      | ins C' ns ds =>
        simp only at e
        split at e
        · rename_i h
          subst h
          cases e
          have ht : X.mG C = some T := ht
          rw [hC] at ht; cases ht
          exact k.k3
        · cases e
      | non => cases (show T = _ from ht); cases e; exact k.k2 _ (by decide)
      | dct _ _ => cases (show T = _ from ht); cases e; exact k.k2 _ (by decide)
      | bl _ => cases (show T = _ from ht); cases e; exact k.k2 _ (by decide)
      | int _ => cases (show T = _ from ht); cases e; exact k.k2 _ (by decide)
      | str _ => cases (show T = _ from ht); cases e; exact k.k2 _ (by decide)
      | tup _ => cases (show T = _ from ht); cases e; exact k.k2 _ (by decide)
      | lst _ => cases (show T = _ from ht); cases e; exact k.k2 _ (by decide)
    · cases e
inductive TyVs (mg : MG) : List Ty → List V → List Value → Prop
  | nil : TyVs mg [] [] []
  | cons {t : Ty} {ts : List Ty} {v : V} {vs : List V} {u : Value} {us : List Value} : tyV mg t v u → TyVs mg ts vs us → TyVs mg (t :: ts) (v :: vs) (u :: us)
theorem TyVs.cls {mg : MG} : ∀ {ts : List Ty} {vs : List V} {us : List Value}, TyVs mg ts vs us → Paired ClsV vs us
  | _, _, _, .nil => .nil
  | _, _, _, .cons h t => .cons (tyV_cls h) t.cls
theorem kit_any {d : D} {T : Value} (g : GOk c.g ad fdt X.K X.mG) (ht : TyD X.mG d T) : ∀ {ts : List Ty} {vs : List V} {us : List Value} {b : Bool}, TyVs X.mG ts vs us → d.isAny c.g.cls ts = some b → PySem.W.kitAny X.K T us = some b
  | _, _, _, b, .nil, e => by simp only [D.isAny] at e; cases e; exact kitAny_nil
  | _, _, _, b, .cons h t, e => by
    simp only [D.isAny] at e
    split at e
    · rename_i e1; cases e; exact kitAny_cons (kit_one g ht h e1) (fun z => nomatch z) fun _ => rfl
    · rename_i e1; exact kitAny_cons (kit_one g ht h e1) (fun _ => kit_any g ht t e) fun z => nomatch z
    · cases e
theorem isAny_cls {cls : List Str} {C : Str} {ns : List Str} {ds : List D} : ∀ {ts : List Ty} {b : Bool}, ts ≠ [] → (D.ins C ns ds).isAny cls ts = some b → C ∈ cls
  | [], _, h, _ => absurd rfl h
  | t :: ts, b, _, e => by
    simp only [D.isAny] at e
    have one : ∀ {r : Bool}, (D.ins C ns ds).isA cls t = some r → C ∈ cls := fun {r} q => by
      cases t with
      | b n =>
        simp only [D.isA] at q
        split at q
        · split at q
          · rename_i h; exact h
          · cases q
        · cases q
      | c C' =>
        simp only [D.isA] at q
        split at q
        · rename_i h
          split at q
          · rename_i h2; subst h2; exact h
          · cases q
        · cases q
    split at e
    · rename_i e1; exact one e1
    · rename_i e1; exact one e1
    · cases e
def tyE (g : Gs) (sc : Scope) : Ty → Expr → Bool
  | .b n, .Name x _ => decide (n ∈ tyNames) && x == (n : Str) && glB sc x && dbgB x && decide (x ∈ g.free)
  | .c C, .Name x _ => x == C && glB sc x && dbgB x && decide (C ∈ g.cls)
  | _, _ => false
theorem ty_pe (ok : XOk c n ad fdt X W) {t : Ty} (h : tyE c.g X.env.scope t t' = true) : ∃ v u, tyV X.mG t v u ∧ PE X t' (tC v) ∧ nost t' = true := by
  cases t' with
  | Name x p =>
    cases t with
    | b m =>
      simp only [tyE, Bool.and_eq_true, decide_eq_true_eq, beq_iff_eq] at h
      obtain ⟨⟨⟨⟨h1, h2⟩, h3⟩, h4⟩, h5⟩ := h
      subst h2
      have hm := ok.g.free _ h5
      refine ⟨.ty m, .type m, ⟨rfl, rfl⟩, ?_, rfl⟩
      simp only [tyNames, List.mem_cons, List.mem_nil_iff, or_false] at h1
      rcases h1 with rfl | rfl | rfl | rfl | rfl <;> exact pe_bltn (gl_of h3) hm (by decide +kernel) rfl
    | c C =>
      simp only [tyE, Bool.and_eq_true, decide_eq_true_eq, beq_iff_eq] at h
      obtain ⟨⟨⟨h1, h2⟩, h3⟩, h4⟩ := h
      subst h1
      obtain ⟨Ca, hC, k⟩ := ok.g.kls _ h4
      exact ⟨.ref Ca, .ref Ca, ⟨Ca, hC, rfl, rfl⟩, pe_glob (gl_of h2) hC rfl (dbg_of h3).1, rfl⟩
  | _ => cases t <;> simp [tyE] at h
def tysE (g : Gs) (sc : Scope) : List Ty → List Expr → Bool
  | [], [] => true
  | t :: ts, e :: es => tyE g sc t e && tysE g sc ts es
  | _, _ => false
theorem tys_pa (ok : XOk c n ad fdt X W) : ∀ {ts : List Ty} {es : List Expr}, tysE c.g X.env.scope ts es = true → ∃ vs us, TyVs X.mG ts vs us ∧ PA X es (fun _ H Q => Q vs H)
  | [], [], _ => ⟨[], [], .nil, pa_nil⟩
  | t :: ts, e :: es, h => by
    simp only [tysE, Bool.and_eq_true] at h
    obtain ⟨v, u, h1, h2, h3⟩ := ty_pe ok h.1
    obtain ⟨vs, us, k1, k2⟩ := tys_pa ok h.2
    exact ⟨v :: vs, u :: us, .cons h1 k1, PA.imp (pa_cons h2 k2 (star_of h3)) fun _ _ _ q => q⟩
  | [], _ :: _, h => by simp [tysE] at h
  | _ :: _, [], h => by simp [tysE] at h
def isiE (g : Gs) (sc : Scope) (ts : List Ty) (one : Bool) (e : Expr) : Bool :=
  if one then match ts with
    | [t] => tyE g sc t e
    | _ => false
  else match e with
    | .Tuple es _ _ => tysE g sc ts es && !ts.isEmpty && decide (ts.length ≤ 100)
    | _ => false
theorem l_isi (ok : XOk c n ad fdt X W) {ts : List Ty} {one : Bool} {p : Pos} (hf : ("isinstance" : Str) ∈ c.g.free) (hg : glB X.env.scope "isinstance" = true) (ha : PE X a' (tev X.K X.mG W ea)) (hs : nost a' = true) (ht : isiE c.g X.env.scope ts one t' = true) :
    PE X (.Call (.Name "isinstance" p) [a', t'] [] pos) (tev X.K X.mG W fun ρ => (ea ρ).bind fun x ρ => op1 (fun d => (d.isAny c.g.cls ts).map fun b => .val (.bl b)) x ρ) := by
  have hm := ok.g.free _ hf
  unfold isiE at ht
  cases one with
  | true =>
    simp only [if_true] at ht
    split at ht
    · rename_i t
      obtain ⟨v, u, h1, h2, h3⟩ := ty_pe ok ht
      refine PE.imp (pe_callB call_isi (gl_of hg) hm (by decide +kernel) (pa_cons ha (pa_cons h2 pa_nil (star_of h3)) (star_of hs)) (by decide) (by decide) (star_of hs) (any_of (by simp [h3]))) fun σ H Q ⟨F, ρ, en, h⟩ =>
        bindE (.refl en) h fun x F1 H1 ρ1 r1 q1 p1 v1 h1' => ?_
      obtain ⟨G, d, sb, vw, g⟩ := op1_of p1 h1' v1
      cases e : d.isAny c.g.cls [t] with
      | none => rw [e] at g; exact g.elim
      | some b =>
        rw [e] at g
        obtain ⟨T, k1, k2⟩ := tyx_of ok.g sb vw fun C ns ds z => by subst z; exact isAny_cls (by simp) e
        simp only [D.isAny] at e
        have e' : d.isA c.g.cls t = some b := by
          split at e
          · rename_i q; rw [q, e]
          · rename_i q; rw [q, e]
          · cases e
        exact ⟨x, v, T, u, b, rfl, tyV_cls h1, k1, kit_one ok.g k2 h1 e', g.bl sb⟩
    · cases ht
  | false =>
    simp only [Bool.false_eq_true, if_false] at ht
    split at ht
    · rename_i es k pt
      simp only [Bool.and_eq_true, Bool.not_eq_true', decide_eq_true_eq] at ht
      obtain ⟨⟨ht1, ht2⟩, ht3⟩ := ht
      obtain ⟨vs, us, h1, h2⟩ := tys_pa ok ht1
      have hlen : vs.length = ts.length := by
        have : ∀ {ts : List Ty} {vs : List V} {us : List Value}, TyVs X.mG ts vs us → vs.length = ts.length := by
          intro ts vs us q
          induction q with
          | nil => rfl
          | cons _ _ ih => simp [ih]
        exact this h1
      refine PE.imp (pe_callB call_isiT (gl_of hg) hm (by decide +kernel) (pa_cons ha (pa_cons (pe_tup h2) pa_nil (star_of rfl)) (star_of hs)) (by decide) (by decide) (star_of hs) (any_of (by simp [nost]))) fun σ H Q ⟨F, ρ, en, h⟩ =>
        bindE (.refl en) h fun x F1 H1 ρ1 r1 q1 p1 v1 h1' => ?_
      refine ⟨by rw [hlen]; have := ht3; rw [sizeLine_eq]; omega, fun tp ntp => ?_⟩
      obtain ⟨G, d, sb, vw, g⟩ := op1_of p1 h1' v1
      cases e : d.isAny c.g.cls ts with
      | none => rw [e] at g; exact g.elim
      | some b =>
        rw [e] at g
        have gr := Grow.tmp (o := .tup vs) sb ntp
        obtain ⟨T, k1, k2⟩ := tyx_of ok.g sb vw fun C ns ds z => by subst z; exact isAny_cls (by intro z; subst z; simp at ht2) e
        have k1' : TyX X.K (upd H1 tp (.tup vs)) x T := by
          have vw' : Vw X.K X.mG G (upd H1 tp (.tup vs)) x d := by
            rcases vw with w | ⟨a, ea, f, o⟩
            · exact .inl w
            · obtain ⟨u, hu⟩ := o.obj
              exact .inr ⟨a, ea, f, o.at .refl ((gr.keep _ _ hu).trans hu.symm)⟩
          obtain ⟨T', k1', k2'⟩ := tyx_of ok.g gr.sub vw' fun C ns ds z => by subst z; exact isAny_cls (by intro z; subst z; simp at ht2) e
          have : T' = T := by
            cases d <;> first
              | exact (show T' = _ from k2').trans (show T = _ from k2).symm
              | exact Option.some.inj ((show X.mG _ = some T' from k2').symm.trans (show X.mG _ = some T from k2))
          rw [← this]; exact k1'
        exact ⟨x, tp, vs, T, us, b, rfl, upd_same, h1.cls, k1', kit_any ok.g k2 h1 e, g (.bl b) G _ gr (.bl b)⟩
    · cases ht
end
end Mp

/-! Mp12: methods of built-in types. -/
namespace Mp
open PySem L2 PyProof.Rows
def Me.nm : Me → Str
  | .join => "join"
  | .strip => "strip"
def Mu.nm : Mu → Str
  | .append => "append"
  | .pop => "pop"
  | .popAt => "pop"
  | .reverse => "reverse"
  | .clear => "clear"
/-- no argument -/
def Mu.zero : Mu → Bool
  | .append => false
  | .pop => true
  | .popAt => false
  | .reverse => true
  | .clear => true
section
variable {c : Cc} {n : Nat} {ad : Nat → Addr} {fdt : Nat → FuncData} {X : Cx} {W : WW} {a' b' e' t' : Expr} {es' : List Expr} {ea eb ee : En → Out Rv} {el : En → Out (List Rv)} {pos : Pos}
theorem few_of {env : Env} (h : (e' :: es').all nost = true) (hn : (e' :: es').length < 30) : ((backTo pos (starEach (e' :: es') env)).all (fun x => !x.1) && (backToKw pos (keywordEach [] env)).all (fun x => x.1.isSome)
      && decide ((e' :: es').length + ([] : List Keyword).length + (if ([] : List Keyword).isEmpty then 0 else 1) < 30)) = true := by
  rw [allst_of h]
  show (true && true && decide ((e' :: es').length + 0 + 0 < 30)) = true
  simpa using hn
theorem l_me (m : Me) {apos : Pos} (ha : PE X a' (tev X.K X.mG W ea)) (hn : nocall0 a' = true) (hl : PA X (e' :: es') (tev' X.K X.mG W el)) (hs : (e' :: es').all nost = true) (h30 : (e' :: es').length < 30) (hline : (apos.endLine == pos.line) = true) :
    PE X (.Call (.Attribute a' m.nm apos) (e' :: es') [] pos) (tev X.K X.mG W fun ρ => (ea ρ).bind fun x ρ => match x with
      | .val (.str z) => (el ρ).bind fun rs ρ => opL (m.ap z) rs ρ
      | _ => .bad) := by
  have hs' := hs
  simp only [List.all_cons, Bool.and_eq_true] at hs'
  cases m with
  | join =>
    refine PE.imp (pe_bm PySem.F.plainAttrs_str F.slot_str_join F.type_str_join mt_join ha hl (base_of hn) (few_of hs h30) hline (star_of hs'.1) (any_of hs'.2)) fun σ H Q ⟨F, ρ, en, h⟩ => bindE (.refl en) h fun x F1 H1 ρ1 r q1 p1 v1 h1 => ?_
    split at h1
    · rename_i z
      cases v1
      refine ⟨rfl, bindL p1 h1 fun vs F2 H2 ρ2 rs q2 p2 v2 h2 => ?_⟩
      obtain ⟨G, ds, sb, vw, g⟩ := opL_of p2 h2 v2
      cases vw with
      | nil => exact g.elim
      | cons w t =>
        rename_i d ds
        cases t with
        | cons _ _ => cases d <;> exact g.elim
        | nil =>
          cases d with
          | lst l =>
            simp only [Me.ap] at g
            split at g
            · rename_i ys ey
              split at g
              · rename_i hz
                obtain ⟨p, xs, e, hq, rl⟩ := w.lst sb
                subst e
                rw [dStrs_eq ey] at rl
                rw [rl.strs] at hq
                exact ⟨z, p, ys, rfl, rfl, .inl hq, hz, g.str sb⟩
              · exact g.elim
            · exact g.elim
          | _ => exact g.elim
    · exact h1.elim
  | strip =>
    refine PE.imp (pe_bm PySem.F.plainAttrs_str F.slot_str_strip F.type_str_strip mt_stripChars ha hl (base_of hn) (few_of hs h30) hline (star_of hs'.1) (any_of hs'.2)) fun σ H Q ⟨F, ρ, en, h⟩ => bindE (.refl en) h fun x F1 H1 ρ1 r q1 p1 v1 h1 => ?_
    split at h1
    · rename_i z
      cases v1
      refine ⟨rfl, bindL p1 h1 fun vs F2 H2 ρ2 rs q2 p2 v2 h2 => ?_⟩
      obtain ⟨G, ds, sb, vw, g⟩ := opL_of p2 h2 v2
      cases vw with
      | nil => exact g.elim
      | cons w t =>
        rename_i d ds
        cases t with
        | cons _ _ => cases d <;> exact g.elim
        | nil =>
          cases d with
          | str b =>
            simp only [Me.ap] at g
            split at g
            · rename_i hz
              have e := w.str
              subst e
              exact ⟨z, b, rfl, rfl, by rw [← lim_eq]; exact hz, g.str sb⟩
            · exact g.elim
          | _ => exact g.elim
    · exact h1.elim
/-- a slot's own thing is changed -/
theorem Po.own_upd {K : PySem.W.Frag} {mg : MG} {F0 H0 F H : Hp} {σ : L2.St} {ρ0 ρ : En} (p : Po K mg F0 H0 σ ρ0 F H ρ) {i : Nat} {d d' : D} {q : Addr} {o : HO} (hi : ρ.at i = some (.own d)) (hq : stAt σ i = some (.ref q)) (h : OwnAt K mg F (upd H q o) q d') :
    Po K mg F0 H0 σ ρ0 F (upd H q o) (ρ.set i (some (.own d'))) := by
  obtain ⟨q', e, f, oo⟩ := p.en.own i d hi
  rw [hq] at e; cases e
  have oq : Own σ ρ q := ⟨i, d, hi, hq⟩
  have own' : ∀ b, Own σ (ρ.set i (some (.own d'))) b → Own σ ρ b := fun b ⟨j, d2, e2, e3⟩ => by
    by_cases z : i = j
    · subst z; rw [hq] at e3; cases e3; exact oq
    · rw [at_set_ne z] at e2; exact ⟨j, d2, e2, e3⟩
  refine ⟨⟨p.st.mono, fun a u e n => ?_, fun a e => ?_⟩, ⟨by rw [List.length_set]; exact p.en.len, fun a u e => ?_, fun j d2 e => ?_, fun j d2 e => ?_, fun j k d2 d3 b e2 e3 e4 e5 => ?_, p.en.exnSet .refl (fun x z => by cases z)⟩, fun b z => p.ow b (own' b z), fun j s e => ?_⟩
  · obtain ⟨k1, k2⟩ := p.st.keep a u e n
    refine ⟨?_, k2⟩
    rw [upd_ne (by intro z; subst z; exact n (p.ow _ oq))]
    exact k1
  · by_cases z : a = q
    · subst z; rw [upd_same] at e; cases e
    · rw [upd_ne z] at e; exact p.st.al a e
  · have z : a ≠ q := by intro z; subst z; rw [f] at e; cases e
    rcases p.en.sub a u e with w | ⟨lk, ob, w⟩
    · exact .inl (by rw [upd_ne z]; exact w)
    · exact .inr ⟨lk, ob, by rw [upd_ne z]; exact w⟩
  · by_cases z : i = j
    · subst z; rw [at_set_same hi] at e; cases e
    · rw [at_set_ne z] at e; exact p.en.val j d2 e
  · by_cases z : i = j
    · subst z; rw [at_set_same hi] at e; cases e; exact ⟨q, hq, f, h⟩
    · rw [at_set_ne z] at e
      obtain ⟨b, e1, f1, o1⟩ := p.en.own j d2 e
      refine ⟨b, e1, f1, o1.at .refl (upd_ne ?_)⟩
      intro w; subst w; exact z (p.en.inj i j _ _ _ hi e hq e1)
  · have old : ∀ {m : Nat} {dm : D}, En.at (ρ.set i (some (.own d'))) m = some (.own dm) → ∃ dm', ρ.at m = some (.own dm') := fun {m dm} e => by
      by_cases z : i = m
      · subst z; exact ⟨d, hi⟩
      · rw [at_set_ne z] at e; exact ⟨dm, e⟩
    obtain ⟨_, g2⟩ := old e2
    obtain ⟨_, g3⟩ := old e3
    exact p.en.inj j k _ _ _ g2 g3 e4 e5
  · obtain ⟨s1, e1⟩ := p.fil j s e
    by_cases z : i = j
    · subst z; exact ⟨_, at_set_same hi⟩
    · exact ⟨s1, by rw [at_set_ne z]; exact e1⟩
/-- what a changing method does, by the heap -/
def rMu (K : PySem.W.Frag) (mg : MG) (m : Mu) : V → List V → Hp → VK → Prop := fun x vs H Q => ∃ F p ds xs es, x = .ref p ∧ H p = some (.lst xs) ∧ RelL K mg F xs ds ∧ RelL K mg F vs es ∧
  match m.ap (.lst ds) es with
  | some (.lst ds', r) => ∀ v xs', RelL K mg F xs' ds' → RelD K mg F v r → Q v (upd H p (.lst xs'))
  | _ => False
def Mu.id : Mu → String
  | .append => "list.append"
  | .pop => "list.pop"
  | .popAt => "list.pop"
  | .reverse => "list.reverse"
  | .clear => "list.clear"
theorem mu_ok (m : Mu) : MtR X m.id (rMu X.K X.mG m) := by
  intro pins s σ H x xs v us Q I rx rs h
  obtain ⟨F, p, ds, ys, es, rfl, hp, rd, re, g⟩ := h
  cases m with
  | append =>
    cases re with
    | nil => exact g.elim
    | cons h1 t =>
      cases t with
      | cons _ _ => exact g.elim
      | nil =>
        simp only [Mu.ap] at g
        split at g
        · rename_i e
          split at e
          · rename_i hz
            cases e
            exact mt_append pins s σ H _ _ v us Q I rx rs ⟨p, ys, _, rfl, rfl, hp, by rw [rd.length, ← lim_eq]; exact hz, g _ _ (rd.append (.cons h1 .nil)) .non⟩
          · cases e
        · exact g.elim
  | pop =>
    cases re with
    | cons _ _ => exact g.elim
    | nil =>
      simp only [Mu.ap] at g
      split at g
      · rename_i e
        split at e
        · rename_i d ed
          cases e
          obtain ⟨w, ew, rw'⟩ := rd.get ed
          exact mt_pop pins s σ H _ _ v us Q I rx rs ⟨p, ys, w, rfl, rfl, hp, by rw [rd.length]; exact ew, g _ _ rd.dropLast rw'⟩
        · cases e
      · exact g.elim
  | popAt =>
    cases re with
    | nil => exact g.elim
    | @cons w1 ws d1 es1 h1 t =>
      cases t with
      | cons _ _ => cases d1 <;> exact g.elim
      | nil =>
        cases d1 with
        | int i =>
          cases h1
          simp only [Mu.ap] at g
          split at g
          · rename_i e
            split at e
            · rename_i hb
              split at e
              · rename_i k ek
                split at e
                · rename_i d ed
                  cases e
                  obtain ⟨w, ew, rw'⟩ := rd.get ed
                  exact mt_popAt pins s σ H _ _ v us Q I rx rs ⟨p, ys, i, k, w, rfl, rfl, hp, hb.1, hb.2, by rw [rd.length]; exact ek, ew, g _ _ (rd.eraseIdx k) rw'⟩
                · cases e
              · cases e
            · cases e
          · exact g.elim
        | _ => exact g.elim
  | reverse =>
    cases re with
    | cons _ _ => exact g.elim
    | nil => exact mt_reverse pins s σ H _ _ v us Q I rx rs ⟨p, ys, rfl, rfl, hp, g _ _ rd.reverse .non⟩
  | clear =>
    cases re with
    | cons _ _ => exact g.elim
    | nil => exact mt_clear pins s σ H _ _ v us Q I rx rs ⟨p, ys, rfl, rfl, hp, g _ _ .nil .non⟩
theorem Mu.ap_lst {m : Mu} {ds es : List D} {d' r : D} (h : m.ap (.lst ds) es = some (d', r)) : ∃ ds', d' = .lst ds' := by
  cases m with
  | append =>
    cases es with
    | nil => cases h
    | cons e es =>
      cases es with
      | cons _ _ => cases h
      | nil => simp only [Mu.ap] at h; split at h <;> cases h; exact ⟨_, rfl⟩
  | pop =>
    cases es with
    | cons _ _ => cases h
    | nil => simp only [Mu.ap] at h; split at h <;> cases h; exact ⟨_, rfl⟩
  | popAt =>
    cases es with
    | nil => cases h
    | cons e es =>
      cases es with
      | cons _ _ => cases e <;> cases h
      | nil =>
        cases e with
        | int i =>
          simp only [Mu.ap] at h
          split at h
          · split at h
            · split at h
              · cases h; exact ⟨_, rfl⟩
              · cases h
            · cases h
          · cases h
        | _ => cases h
  | reverse => cases es <;> cases h; exact ⟨_, rfl⟩
  | clear => cases es <;> cases h; exact ⟨_, rfl⟩
theorem muR_of {m : Mu} {i : Nat} {rs : List Rv} {vs : List V} {F0 H0 F H : Hp} {σ : L2.St} {ρ0 ρ : En} {Q : V → Hp → Prop} {v : V} (p : Po X.K X.mG F0 H0 σ ρ0 F H ρ) (a : RvRs X.K X.mG H0 F H σ ρ vs rs) (hv : stAt σ i = some v)
    (h : FinE X.K X.mG W F0 H0 σ ρ0 Q (muR m i rs ρ)) : rMu X.K X.mG m v vs H Q := by
  unfold muR at h
  split at h
  · rename_i es ρ1 e1
    obtain ⟨F1, p1, k1, r1⟩ := fzs_of p a.w e1
    split at h
    · rename_i d hi
      split at h
      · rename_i d' r er
        obtain ⟨q, e, f, oo⟩ := p1.en.own i d hi
        rw [hv] at e; cases e
        cases d with
        | lst ds =>
          obtain ⟨xs, hx, rl⟩ := oo
          refine ⟨F1, q, ds, xs, es, rfl, hx, rl, r1, ?_⟩
          obtain ⟨ds', ed⟩ := Mu.ap_lst er
          subst ed
          rw [er]
          exact fun w xs' rx rr => h w F1 _ (p1.own_upd hi hv ⟨xs', upd_same, rx⟩) rr
        | _ => cases m <;> first | cases er | (cases es <;> cases er)
      · exact h.elim
    · exact h.elim
  · exact h.elim
theorem l_mu (m : Mu) (h0 : m.zero = false) {i : Nat} {x : Str} {xp apos : Pos} (hN : X.N[i]? = some x) (hv : visB X.env.scope x = true) (hd : dbgB x = true) (hl : PA X (e' :: es') (tev' X.K X.mG W el)) (hs : (e' :: es').all nost = true) (h30 : (e' :: es').length < 30)
    (hline : (apos.endLine == pos.line) = true) : PE X (.Call (.Attribute (.Name x xp) m.nm apos) (e' :: es') [] pos) (tev X.K X.mG W fun ρ => match ρ.at i with
      | some (.own (.lst _)) => (el ρ).bind fun rs ρ => muR m i rs ρ
      | _ => .bad) := by
  have hs' := hs
  simp only [List.all_cons, Bool.and_eq_true] at hs'
  have get : ∀ {σ : L2.St} {v : V}, stAt σ i = some v → σ[i]? = some (some v) := fun {σ v} e => by
    unfold stAt at e
    cases q : σ[i]? with
    | none => rw [q] at e; cases e
    | some o => rw [q] at e; exact congrArg some e
  have imp : ∀ σ H Q, tev X.K X.mG W (fun ρ => match ρ.at i with
      | some (.own (.lst _)) => (el ρ).bind fun rs ρ => muR m i rs ρ
      | _ => .bad) σ H Q → tBM X.K "list" (rMu X.K X.mG m) (tVar i) (tev' X.K X.mG W el) σ H Q := fun σ H Q ⟨F, ρ, en, h⟩ => by
    simp only at h
    split at h
    · rename_i ds hi
      obtain ⟨q, e, f, xs, hx, rl⟩ := en.own i _ hi
      exact ⟨_, get e, .inl ⟨rfl, xs, .of hx⟩, bindL (.refl en) h fun vs F1 H1 ρ1 rs q1 p1 v1 h1 => muR_of p1 v1 e h1⟩
    · exact h.elim
  have pv' : PE X (.Name x xp) (tVar i) := pe_var hN (vis_of hv) (dbg_of hd).1 (dbg_of hd).2.1
  cases m with
  | append => exact PE.imp (pe_bm PySem.F.plainAttrs_list F.slot_list_append F.type_list_append (mu_ok .append) pv' hl (base_of rfl) (few_of hs h30) hline (star_of hs'.1) (any_of hs'.2)) imp
  | popAt => exact PE.imp (pe_bm PySem.F.plainAttrs_list F.slot_list_pop F.type_list_pop (mu_ok .popAt) pv' hl (base_of rfl) (few_of hs h30) hline (star_of hs'.1) (any_of hs'.2)) imp
  | pop => cases h0
  | reverse => cases h0
  | clear => cases h0
theorem l_mu0 (m : Mu) (h0 : m.zero = true) {i : Nat} {x : Str} {xp apos : Pos} (hN : X.N[i]? = some x) (hv : visB X.env.scope x = true) (hd : dbgB x = true)
    (hline : (apos.endLine == pos.line) = true) : PE X (.Call (.Attribute (.Name x xp) m.nm apos) [] [] pos) (tev X.K X.mG W fun ρ => match ρ.at i with
      | some (.own (.lst _)) => muR m i [] ρ
      | _ => .bad) := by
  have get : ∀ {σ : L2.St} {v : V}, stAt σ i = some v → σ[i]? = some (some v) := fun {σ v} e => by
    unfold stAt at e
    cases q : σ[i]? with
    | none => rw [q] at e; cases e
    | some o => rw [q] at e; exact congrArg some e
  have imp : ∀ σ H Q, tev X.K X.mG W (fun ρ => match ρ.at i with
      | some (.own (.lst _)) => muR m i [] ρ
      | _ => .bad) σ H Q → tBM0 X.K "list" (rMu X.K X.mG m) (tVar i) σ H Q := fun σ H Q ⟨F, ρ, en, h⟩ => by
    simp only at h
    split at h
    · rename_i ds hi
      obtain ⟨q, e, f, xs, hx, rl⟩ := en.own i _ hi
      exact ⟨_, get e, .inl ⟨rfl, xs, .of hx⟩, muR_of (.refl en) (vs := []) (rs := []) trivial e h⟩
    · exact h.elim
  have pv' : PE X (.Name x xp) (tVar i) := pe_var hN (vis_of hv) (dbg_of hd).1 (dbg_of hd).2.1
  cases m with
  | append => cases h0
  | popAt => cases h0
  | pop => exact PE.imp (pe_bm0 PySem.F.plainAttrs_list F.slot_list_pop F.type_list_pop (mu_ok .pop) pv' (base_of rfl) hline) imp
  | reverse => exact PE.imp (pe_bm0 PySem.F.plainAttrs_list F.slot_list_reverse F.type_list_reverse (mu_ok .reverse) pv' (base_of rfl) hline) imp
  | clear => exact PE.imp (pe_bm0 PySem.F.plainAttrs_list F.slot_list_clear F.type_list_clear (mu_ok .clear) pv' (base_of rfl) hline) imp
end
end Mp

/-! Mp30: list(reversed(..)), methods of tuples. -/
namespace Mp
open PySem L2 PyProof.Rows
section
variable {prog : Program} {w : World} {A : Around} {E : Value → Shared → Prop} {s : Shared}
/-- list(it), `it` what reversed(a list) gives: the items from the last to the first -/
theorem list_of_rev {it l : Addr} {items : Array Value} {Q : Value → Shared → Prop} (hh : A.handled = none) (hit : s.heap.IsRevIter it l ((items.size : Int) - 1)) (hl : s.heap.IsList l items) (hne : l ≠ it) (hn : items.size ≤ sizeLine)
    (hQ : ∀ (h' : Heap) (tk : Nat) (acc : Array Value) (c' : Nat), (∀ b o, b ≠ it → s.heap.get? b = some o → h'.get? b = some o) → h'.get? s.heap.objs.size = some { cls := .type "list", dict := none, data := .seq acc c', slots := #[] } →
      ItemsOf (fun i v => items[items.size - 1 - i]? = some v) acc items.size → Q (.ref s.heap.objs.size) { s with heap := h', toks := tk }) :
    wpAny (model prog w) A (call (.type "list") [.ref it]) Q E s := by
  refine callType_codes (Q₁ := fun obj s₁ => obj = .ref s.heap.objs.size ∧ s₁ = { s with heap := s.heap.push { cls := .type "list", data := .seq #[] } }) F.called_list (F.typeCall_list_1 _) F.entry_list_init
    (code_list_new _ ⟨rfl, rfl⟩) fun obj s₁ h₁ => ?_
  obtain ⟨rfl, rfl⟩ := h₁
  have atS : (s.heap.push { cls := .type "list", data := .seq #[] }).get? s.heap.objs.size = some { cls := .type "list", data := .seq #[] } := Heap.get?_push_size _ rfl
  refine ⟨⟨_, atS, rfl⟩, F.args_list_init_2 _ _, ?_⟩
  obtain ⟨oi, hoi, _⟩ := id hit
  obtain ⟨ol, hol, _⟩ := id hl
  have nSi : s.heap.objs.size ≠ it := Nat.ne_of_gt (Heap.lt_size hoi)
  have nSl : s.heap.objs.size ≠ l := Nat.ne_of_gt (Heap.lt_size hol)
  have out : s.heap.objs.size ∉ [it, l] := by simp [nSi, nSl]
  have Wk := (Walks.listRev (prog := prog) (w := w) (A := A.in1.in1) hh it l hne items).toS
  show wpAny _ A.in1.in1 (do let old ← Builtin.List.listItems (.ref s.heap.objs.size); Builtin.List.listUpdate (.ref s.heap.objs.size) (fun _ => #[]); letGo old.toList.reverse; Builtin.List.listExtendWith (.ref s.heap.objs.size) (.ref it) .none) _ _ _
  refine wpAny_bind ?_
  unfold Builtin.List.listItems
  refine wpAny_bind (wpAny_seqItems atS rfl (wpAny_pure ?_))
  show wpAny _ _ (updateSeq s.heap.objs.size (fun _ => #[]) >>= fun _ => letGo (#[] : Array Value).toList.reverse >>= fun _ => Builtin.List.listExtendWith (.ref s.heap.objs.size) (.ref it) .none) _ _ _
  refine wpAny_bind (wpAny_updateSeq atS rfl ?_)
  have atS2 := Heap.get?_update_self (Obj.mapSeq (fun _ => (#[] : Array Value))) atS rfl
  have keep : ∀ b o, s.heap.get? b = some o → ((s.heap.push { cls := .type "list", data := .seq #[] }).update s.heap.objs.size (Obj.mapSeq (fun _ => (#[] : Array Value)))).get? b = some o :=
    fun b o e => (Heap.get?_update_other _ _ (Nat.ne_of_gt (Heap.lt_size e))).trans (Heap.get?_push_of_some _ e)
  refine wpAny_bind (wpAny_letGo ?_)
  generalize eh2 : (s.heap.push { cls := .type "list", data := .seq #[] }).update s.heap.objs.size (Obj.mapSeq (fun _ => (#[] : Array Value))) = h2 at atS2 keep
  have hit2 : h2.IsRevIter it l ((items.size : Int) - 1) := hit.at fun o e => keep it o e
  have hl2 : h2.IsList l items := hl.at fun o e => keep l o e
  have ty : ({ s with heap := h2 } : Shared).TypeIs (.ref it) "list_reverseiterator" := Heap.IsRevIter.typeIs (s := { s with heap := h2 }) hit2
  have no : Builtin.List.listSameRef (.ref s.heap.objs.size) (.ref it) = false := by simp [Builtin.List.listSameRef, nSi]
  unfold Builtin.List.listExtendWith
  refine wpAny_bind (wpAny_typeOf ty ?_)
  rw [if_neg (by rw [no]; decide)]
  refine wpAny_bind (wpAny_pyIter_revIter (s := { s with heap := h2 }) hit2 ?_)
  refine wpAny_bind (wpAny_holding ?_)
  unfold Builtin.List.listLengthHint
  refine wpAny_bind (wpAny_specialOf ty RT.nolen_lri ?_)
  show wpAny _ _ (specialOf (Value.ref it) (Str.ofString "__length_hint__") >>= _) _ _ _
  refine wpAny_bind (wpAny_specialOf ty RT.hint_lri ?_)
  generalize hid : ("list_reverseiterator.__length_hint__" : String) = id0
  wp_delta
  rw [show splitId id0 = some ("list_reverseiterator", "__length_hint__") from by subst hid; decide +kernel]
  subst hid
  refine wpAny_bind (wpAny_isInstance (b := true) ty (by rw [isSubtype_type]; kernel_rfl) ?_)
  refine wpAny_pure ?_
  rw [if_neg (by decide)]
  have e0 : ((items.size : Nat) : Int) - 1 - ((0 : Nat) : Int) = (items.size : Int) - 1 := by omega
  refine wpAny_pure ⟨plainId_quiet F.plain_extend_loop _, codeAny_extend_loopS Wk hn _ out _ items.size 0 _ _ _ rfl (Nat.zero_le _) ⟨Nat.zero_le _, by rw [e0]; exact hit2, hl2⟩ atS2 (ItemsOf.nil _) fun s' acc' c' hm hS' hacc => ?_⟩
  refine ⟨rfl, ?_⟩
  rw [Moved.eq_with hm]
  refine hQ s'.heap s'.toks acc' c' (fun b o hb e => hm.heap b o (fun hmem => ?_) (keep b o e)) hS' hacc
  rcases List.mem_cons.mp hmem with e' | hmem
  · exact absurd (Heap.lt_size e) (by rw [e']; exact Nat.lt_irrefl _)
  · exact hb (List.mem_singleton.mp hmem)
end
/-! ### a list is unpacked -/
section
variable {prog : Program} {w : World} {A : Around} {E : Value → Shared → Prop}
/-- n items of a list, from the i-th on -/
theorem draw_lst {it l : Addr} {its : Array Value} (hne : l ≠ it) : ∀ (n i : Nat) (s : Shared) (P : List Value → Shared → Prop), s.heap.IsListIter it l i → s.heap.IsList l its → i + n ≤ its.size →
    (∀ h2, h2.IsListIter it l (i + n) → Heap.SameBut it s.heap h2 → P ((its.toList.drop i).take n) { s with heap := h2 }) → wpAny (model prog w) A (draw (.ref it) n) P E s
  | 0, i, s, P, hit, _, _, hP => wpAny_pure (by simpa using hP s.heap hit (Heap.SameBut.refl ..))
  | n + 1, i, s, P, hit, hl, hle, hP => by
    have hi : i < its.size := by omega
    refine wpAny_bind (m := pyNext (.ref it)) (wpAny_pyNext_list_item hit hl (x := its[i]) (by simp [hi]) fun h1 hit1 s1 => ?_)
    refine wpAny_bind (wpAny_holding (draw_lst hne n (i + 1) _ _ hit1 (hl.extBut s1.extBut hne) (by omega) fun h2 hit2 s2 => wpAny_pure ?_))
    have z := hP h2 (by rw [show i + (n + 1) = i + 1 + n by omega]; exact hit2) (s1.trans s2)
    rw [show its.toList.drop i = its[i] :: its.toList.drop (i + 1) by simp [List.drop_eq_getElem_cons, hi], List.take_succ_cons] at z
    exact z
theorem unpack_lst {l : Addr} {its : Array Value} {s : Shared} {targets : List (Bool × (Value → Sem Unit))} {P : Unit → Shared → Prop} (hh : A.handled = none) (hl : s.heap.IsList l its) (hn : targets.length = its.size) (hstar : targets.findIdx? (·.1) = none)
    (h : ∀ h2, Heap.ExtBut s.heap.objs.size s.heap h2 → wpAny (model prog w) A (assignInOrder (targets.map (·.2)) its.toList) P E { s with heap := h2 }) : wpAny (model prog w) A (unpack (.ref l) targets) P E s := by
  have ne : l ≠ s.heap.objs.size := by obtain ⟨o, ho, _⟩ := hl; exact Nat.ne_of_lt (Heap.lt_size ho)
  unfold unpack
  rw [hn, hstar]
  refine wpAny_bind (wpAny_holding ?_)
  unfold unpackItems notIterableAtAll
  refine wpAny_bind (wpAny_bind (wpAny_specialOf hl.typeIs PySem.F.slot_list_iter.lookup (wpAny_pure ?_)))
  simp only [Bool.false_eq_true, if_false]
  refine wpAny_bind (wpAny_holding (wpAny_pyIter_list hl ?_))
  refine wpAny_bind (wpAny_holding (draw_lst ne its.size 0 _ _ ⟨_, Heap.get?_push_size _ rfl, rfl, rfl⟩ (hl.push _) (by omega) fun h1 hit1 s1 => ?_))
  rw [show List.take its.size (List.drop 0 its.toList) = its.toList by rw [List.drop_zero]; exact List.take_of_length_le (by simp), if_neg (by simp)]
  refine wpAny_bind (wpAny_holding (wpAny_pyNext_list_end hh hit1 ((hl.push _).extBut s1.extBut ne) (by simp) fun h2 e2 => ?_))
  simp only [Option.isSome_none, Bool.false_eq_true, if_false]
  exact wpAny_pure (h h2 fun b o hb e => e2 b o hb (s1.extBut b o hb (Heap.get?_push_of_some _ e)))
end
section
variable {X : Cx} {pos : Pos}
/-- a tuple or a list goes to targets -/
def gSeq (K : PySem.W.Frag) (n : Nat) (t : TGs) : TG := fun v σ H Q => ∃ a xs, v = .ref a ∧ (SqT K H a xs ∨ SqL K H a xs) ∧ xs.length = n ∧ t xs σ H Q
theorem pg_seq {es : List Expr} {k : Nat} {t : TGs} {n : Nat} (hc : X.calm = true) (h : PGs X es t) (hn : (assignEach es X.env).length = n) (hst : (assignEach es X.env).findIdx? (·.1) = none) : PG X (.Tuple es k pos) (gSeq X.K n t) := by
  refine ⟨fun pins s σ H v u Q I r hw => ?_⟩
  obtain ⟨a, xs, e1, hq | hq, hl, hw⟩ := hw
  · exact (pg_tup hc h hn hst).run pins s σ H v u Q I r ⟨a, xs, e1, hq, hl, hw⟩
  · subst e1
    cases r
    obtain ⟨its, rv, pl, hz⟩ := I.list hq
    rw [arm_assign_Tuple]
    refine wpAny_bind (wpAny_standAt (unpack_lst (I.ok.hd hc) pl.isList (by rw [hn, ← hl, rv.length, List.size_toArray]) hst fun h2 hx => ?_))
    have J : Inv X pins σ H { s with heap := h2 } := I.kept (t' := s.toks) fun b o e => hx b o (Nat.ne_of_lt (Heap.lt_size e)) e
    exact h.run pins _ σ H xs _ Q J (by simpa using rv) hw
end
section
variable {X : Cx}
/-- list(reversed(x)), x a list: a new list -/
def tLstRev (K : PySem.W.Frag) (te : TE) : TE := fun σ H Q => te σ H fun v H1 => ∃ (a : Addr) (xs : List V), v = .ref a ∧ SqL K H1 a xs ∧ ∀ q, H1 q = none → Q (.ref q) (upd H1 q (.lst xs.reverse))
theorem pe_lstRev {e : Expr} {te : TE} {p p2 pos pos2 : Pos} (hc : X.calm = true) (hg : Gl X "list") (hm : X.mg "list" = none) (hg2 : Gl X "reversed") (hm2 : X.mg "reversed" = none) (he : PE X e te)
    (hs : starEach [e] X.env = (false, eval e X.env) :: starEach [] X.env) :
    PE X (.Call (.Name "list" p) [.Call (.Name "reversed" p2) [e] [] pos2] [] pos) (tLstRev X.K te) := ⟨fun pins s σ H Q I h => by
  refine Call_ (ld_blt I hg hm boot_list (PyProof.Rows.callWith_type1 (args_cons (Call_ (ld_blt I hg2 hm2 PyProof.Rows.boot_reversed (PyProof.Rows.callWith_type1 (args_cons (thn (he.run pins s σ H _ I h) fun u s1 ⟨v, H1, I1, r1, a, xs, ev, hq, q⟩ => args_nil ?_) hs) hs rfl))) rfl) rfl rfl))
  subst ev
  obtain rfl : u = Value.ref a := r1
  obtain ⟨its, rv, pl, hz⟩ := I1.list hq
  refine call_reversed_list pl.isList (args_nil ?_)
  have I2 : Inv X pins σ H1 { s1 with heap := s1.heap.push (revObj a ((its.toArray.size : Int) - 1)) } := I1.kept (t' := s1.toks) fun b o e => Heap.get?_push_of_some _ e
  obtain ⟨f0, f1, f2, f3, f4, f5⟩ := I1.fpOk (H' := H1) (b := s1.heap.objs.size) (Nat.le_refl _) (I1.hok.fresh (Nat.le_refl _))
  obtain ⟨ol, hol, _⟩ := id pl.isList
  refine list_of_rev (s := { s1 with heap := s1.heap.push (revObj a ((its.toArray.size : Int) - 1)) }) (I1.ok.hd hc) ⟨_, Heap.get?_push_size _ rfl, rfl, rfl⟩ (pl.isList.push _) (Nat.ne_of_lt (Heap.lt_size hol)) (by rw [List.size_toArray, ← rv.length]; exact hz) fun h' tk acc c' hk hS hi => ?_
  have old : ∀ b o, s1.heap.get? b = some o → h'.get? b = some o := fun b o e => hk b o (Nat.ne_of_lt (Heap.lt_size e)) (Heap.get?_push_of_some _ e)
  have le : s1.heap.objs.size ≤ (s1.heap.push (revObj a ((its.toArray.size : Int) - 1))).objs.size := by rw [Heap.size_push]; exact Nat.le_succ _
  refine ⟨.ref _, upd H1 (s1.heap.push (revObj a ((its.toArray.size : Int) - 1))).objs.size (.lst xs.reverse), I1.laid (t' := tk) old le (show ObjOk X.prog X.w _ h' _ (.lst xs.reverse) from ⟨by rw [List.length_reverse]; exact hz, acc.toList, c', RT.vals_rev rv hi, by rw [Array.toArray_toList]; exact hS⟩), rfl, q _ (I2.hok.fresh (Nat.le_refl _))⟩⟩
/-- methods of a tuple: the first place of a text, how often a text stands -/
def rTix (K : PySem.W.Frag) : V → List V → Hp → VK → Prop := fun x xs H Q => ∃ (a : Addr) (ys : List Str) (k : Str), x = V.ref a ∧ xs = [V.str k] ∧ SqT K H a (ys.map V.str) ∧ k ∈ ys ∧ Q (.int (ys.idxOf k : Nat)) H
def rTct (K : PySem.W.Frag) : V → List V → Hp → VK → Prop := fun x xs H Q => ∃ (a : Addr) (ys : List Str) (k : Str), x = V.ref a ∧ xs = [V.str k] ∧ SqT K H a (ys.map V.str) ∧ ys.length ≤ 1000 ∧ Q (.int (ys.count k : Nat)) H
theorem strs_are : ∀ {ys : List Str} {its : List Value}, Vals (ys.map V.str) its → StrsAre its ys
  | [], _, .nil => .nil
  | y :: ys, _, .cons h t => by
    obtain ⟨tk, rfl⟩ := h
    exact .cons y tk (strs_are t)
theorem mt_tix : MtR X "tuple.index" (rTix X.K) := by
  intro pins s σ H x xs v us Q I rx rxs h
  obtain ⟨a, ys, k, rfl, rfl, hq, hk, q⟩ := h
  cases rx
  cases rxs with
  | cons ry rt =>
    cases rt
    obtain ⟨t, rfl⟩ := ry
    obtain ⟨its, rv, pl, hz⟩ := I.tuple hq
    exact SeqAt.tuple_index_strs (show s.heap.IsTuple a its.toArray from pl) (strs_are rv) hk ⟨.int _, H, I.tok _, ⟨_, rfl⟩, q⟩
theorem dp_strs {K : PySem.W.Frag} {H : Hp} : ∀ (ys : List Str), DpAll K H (ys.map V.str) (ys.map PyData.str)
  | [] => .nil
  | y :: ys => .cons (.str y) (dp_strs ys)
theorem plain_strs : ∀ (ys : List Str), PyData.plainAll (ys.map PyData.str) = true
  | [] => rfl
  | y :: ys => by simp only [List.map_cons, PyData.plainAll, plain_strs ys]; rfl
theorem count_strs (k : Str) : ∀ (ys : List Str), (ys.map PyData.str).countP (fun y => PyData.eqv y (.str k)) = ys.count k
  | [] => rfl
  | y :: ys => by
    have e : PyData.eqv (.str y) (.str k) = (y == k) := by simp only [PyData.eqv]
    rw [List.map_cons, List.countP_cons, List.count_cons, count_strs k ys, e]
theorem mt_tct (hu : X.A.units + 65 < cLine) : MtR X "tuple.count" (rTct X.K) := by
  intro pins s σ H x xs v us Q I rx rxs h
  obtain ⟨a, ys, k, rfl, rfl, hq, hk, q⟩ := h
  cases rx
  cases rxs with
  | cons ry rt =>
    cases rt
    obtain ⟨t, rfl⟩ := ry
    obtain ⟨its, rv, pl, hz⟩ := I.tuple hq
    obtain ⟨as, rs⟩ := Dp.readsAll I _ _ _ (dp_strs ys) rv
    refine SeqAt.count_tuple_data (d := .str k) (show s.heap.IsTuple a its.toArray from pl) (by simpa using rs) (.str k t) (plain_strs ys) rfl ?_ ?_
    · have : PyData.depth (.str k) = 0 := by simp [PyData.depth]
      rw [this]; omega
    · rw [count_strs]; exact ⟨.int _, H, I.tok _, ⟨_, rfl⟩, q⟩
end
end Mp

/-! Mp31: index and count, reversed, {}. -/
namespace Mp
open PySem L2 PyProof.Rows
def Qm.nm : Qm → Str
  | .index => "index"
  | .count => "count"
def revN (t : Bool) : Str := if t then "tuple" else "list"
/-- a tuple without a dict -/
def TupNo (K : PySem.W.Frag) (H : Hp) (x : V) : Prop := ∃ a xs, x = .ref a ∧ SqT K H a xs ∧ ((∃ o : Obj, o.dict = none ∧ H a = some (.frz o (.tup xs))) ∨ ∃ o : Obj, K.lookup a = some o ∧ o.dict = none)
theorem Vw.tupNo {K : PySem.W.Frag} {mg : MG} {F H : Hp} {v : V} {ds : List D} (s : Sub F H) (h : Vw K mg F H v (.tup ds)) : TupNo K H v := by
  rcases h with h | ⟨_, _, _, o⟩
  · cases h with
    | tup h r =>
      refine ⟨_, _, rfl, h.sq s, ?_⟩
      rcases h with ⟨o, d, e⟩ | ⟨⟨o, its, n, hk, _⟩, d⟩
      · exact .inl ⟨o, d, s.tup e⟩
      · exact .inr ⟨o, hk, d o hk⟩
  · exact o.elim
theorem tupNo_is {X : Cx} {pins : List (Addr × Obj)} {σ : L2.St} {H : Hp} {s : Shared} {x : V} {v : Value} (I : L2.Inv X pins σ H s) (r : RelV x v) (h : TupNo X.K H x) :
    s.TypeIs v "tuple" ∧ ∀ a, v = .ref a → ∃ ob, s.heap.get? a = some ob ∧ ob.dict = none := by
  obtain ⟨a, xs, rfl, hq, h⟩ := h
  cases r
  obtain ⟨its, rv, ht, hz⟩ := I.tuple hq
  refine ⟨ht.typeIs, fun b e => ?_⟩
  cases e
  rcases h with ⟨o, d, e⟩ | ⟨o, e, d⟩
  · exact ⟨o, (I.hok _ _ e).1, d⟩
  · exact ⟨o, I.kIn _ o e, d⟩
section
variable {X : Cx} {o e : Expr} {to te : TE} {nm : Str} {apos cpos : Pos} {idT idL : String} {rT rL : V → List V → Hp → VK → Prop}
/-- what is asked of a list or of a tuple -/
def tQ (K : PySem.W.Frag) (rT rL : V → List V → Hp → VK → Prop) (to te : TE) : TE := fun σ H Q => to σ H fun x H1 =>
  (TupNo K H1 x ∧ te σ H1 fun y H2 => rT x [y] H2 Q) ∨ (∃ a xs, x = .ref a ∧ SqL K H1 a xs) ∧ te σ H1 fun y H2 => rL x [y] H2 Q
theorem pe_q (sT : Slot "tuple" nm idT) (yT : typeOf (.builtin idT) = pure (.type "method_descriptor")) (mT : MtR X idT rT) (sL : Slot "list" nm idL) (yL : typeOf (.builtin idL) = pure (.type "method_descriptor")) (mL : MtR X idL rL)
    (ho : PE X o to) (he : PE X e te) (hb : attributeBase o nm X.env (eval o X.env) = eval o X.env) (hn : nost e = true) (hline : (apos.endLine == cpos.line) = true) : PE X (.Call (.Attribute o nm apos) [e] [] cpos) (tQ X.K rT rL to te) := by
  have hs : starEach [e] X.env = (false, eval e X.env) :: starEach [] X.env := star_of hn
  have ha : PA X [e] _ := pa_cons he pa_nil hs
  refine ⟨fun pins s σ H Q I h => ?_⟩
  refine wpAny_Call_method_late hb (few_of (by simp [hn]) (show 1 < 30 by decide)) hline rfl (thn (ho.run pins s σ H _ I h) fun v s1 ⟨x, H1, I1, r1, q1⟩ => ?_)
  have fin : ∀ {id : String} {r : V → List V → Hp → VK → Prop}, MtR X id r → (te σ H1 fun y H2 => r x [y] H2 Q) → wpAny (model X.prog X.w) X.A (callWith cpos (.builtin id) [v] (backTo cpos (starEach [e] X.env)) []) (EP X pins σ Q) X.xe s1 := fun {id r} hm q => by
    have hA := ha.run cpos pins s1 σ H1 (fun vs H2 => r x vs H2 Q) I1 q
    rw [hs] at hA ⊢
    exact Calls.callWith_builtin rfl (Calls.evalArgs_plain (thn hA fun us s2 ⟨vs, H2, I2, r2, q2⟩ => hm pins s2 σ H2 x vs v us Q I2 r1 r2 q2))
  rcases q1 with ⟨ty, q⟩ | ⟨⟨a, xs, rfl, hq⟩, q⟩
  · obtain ⟨h1, h2⟩ := tupNo_is I1 r1 ty
    exact ⟨"tuple", idT, PySem.F.plainAttrs_tuple, sT, yT, h1, h2, fin mT q⟩
  · obtain ⟨h1, h2⟩ := tyV_is (T := "list") I1 r1 (.inl ⟨rfl, xs, hq⟩)
    exact ⟨"list", idL, PySem.F.plainAttrs_list, sL, yL, h1, h2, fin mL q⟩
def rLix (K : PySem.W.Frag) : V → List V → Hp → VK → Prop := fun x xs H Q => ∃ (a : Addr) (ys : List Str) (k : Str), x = V.ref a ∧ xs = [V.str k] ∧ SqL K H a (ys.map V.str) ∧ k ∈ ys ∧ Q (.int (ys.idxOf k : Nat)) H
def rLct (K : PySem.W.Frag) : V → List V → Hp → VK → Prop := fun x xs H Q => ∃ (a : Addr) (ys : List Str) (k : Str), x = V.ref a ∧ xs = [V.str k] ∧ SqL K H a (ys.map V.str) ∧ ys.length ≤ 1000 ∧ Q (.int (ys.count k : Nat)) H
theorem mt_lix : MtR X "list.index" (rLix X.K) := by
  intro pins s σ H x xs v us Q I rx rxs h
  obtain ⟨a, ys, k, rfl, rfl, hq, hk, q⟩ := h
  have hl : ys.idxOf k < ys.length := List.idxOf_lt_length_of_mem hk
  refine mt_index pins s σ H _ _ v us Q I rx rxs ⟨a, ys.map V.str, .str k, ys.idxOf k, .str k, rfl, rfl, hq, rfl, ?_, ?_, ?_, ?_, q⟩
  · simp [List.all_eq_true, flatV]
  · rw [List.getElem?_map, List.getElem?_eq_getElem hl, List.getElem_idxOf hl]; rfl
  · simp [eqV]
  · intro m z' hm hz
    rw [List.getElem?_map, List.getElem?_eq_getElem (by omega)] at hz
    cases hz
    have := List.not_of_lt_findIdx hm
    simpa [eqV] using this
theorem mt_lct (hu : X.A.units + 65 < cLine) : MtR X "list.count" (rLct X.K) := by
  intro pins s σ H x xs v us Q I rx rxs h
  obtain ⟨a, ys, k, rfl, rfl, hq, hk, q⟩ := h
  cases rx
  cases rxs with
  | cons ry rt =>
    cases rt
    obtain ⟨t, rfl⟩ := ry
    obtain ⟨its, rv, pl, hz⟩ := I.list hq
    obtain ⟨as, rs⟩ := Dp.readsAll I _ _ _ (dp_strs ys) rv
    refine SeqAt.count_list_data (d := .str k) pl.isList (by simpa using rs) (.str k t) (plain_strs ys) rfl ?_ ?_
    · have : PyData.depth (.str k) = 0 := by simp [PyData.depth]
      rw [this]; omega
    · rw [count_strs]; exact ⟨.int _, H, I.tok _, ⟨_, rfl⟩, q⟩
/-- tuple(reversed(x)), x a list: a new tuple, without a dict -/
def tTupRevX (K : PySem.W.Frag) (te : TE) : TE := fun σ H Q => te σ H fun v H1 => ∃ (a : Addr) (xs : List V), v = .ref a ∧ SqL K H1 a xs ∧ ∀ q ob, H1 q = none → ob.dict = none → Q (.ref q) (upd H1 q (.frz ob (.tup xs.reverse)))
theorem pe_tupRevX {p p2 pos pos2 : Pos} (hc : X.calm = true) (hg : Gl X "tuple") (hm : X.mg "tuple" = none) (hg2 : Gl X "reversed") (hm2 : X.mg "reversed" = none) (he : PE X e te)
    (hs : starEach [e] X.env = (false, eval e X.env) :: starEach [] X.env) :
    PE X (.Call (.Name "tuple" p) [.Call (.Name "reversed" p2) [e] [] pos2] [] pos) (tTupRevX X.K te) := ⟨fun pins s σ H Q I h => by
  refine Call_ (ld_blt I hg hm boot_tuple (PyProof.Rows.callWith_type1 (args_cons (Call_ (ld_blt I hg2 hm2 PyProof.Rows.boot_reversed (PyProof.Rows.callWith_type1 (args_cons (thn (he.run pins s σ H _ I h) fun u s1 ⟨v, H1, I1, r1, a, xs, ev, hq, q⟩ => args_nil ?_) hs) hs rfl))) rfl) rfl rfl))
  subst ev
  obtain rfl : u = Value.ref a := r1
  obtain ⟨its, rv, pl, hz⟩ := I1.list hq
  have sz : its.toArray.size ≤ sizeLine := by rw [List.size_toArray, ← rv.length]; exact hz
  generalize hn : ((its.toArray.size : Int) - 1) = z0
  obtain ⟨ol, hol, _⟩ := id pl.isList
  refine call_reversed_list pl.isList (args_nil ?_)
  rw [hn]
  have J : Inv X pins σ H1 { s1 with heap := s1.heap.push (revObj a z0) } := I1.kept (t' := s1.toks) fun b o e => Heap.get?_push_of_some _ e
  obtain ⟨f0, f1, f2, f3, f4, f5⟩ := I1.fpOk (H' := H1) (b := s1.heap.objs.size) (Nat.le_refl _) (I1.hok.fresh (Nat.le_refl _))
  refine RT.call_tuple_rev (s := { s1 with heap := s1.heap.push (revObj a z0) }) (I1.ok.hd hc) ⟨_, Heap.get?_push_size _ rfl, rfl, by rw [← hn]; rfl⟩ (pl.isList.push _) (Nat.ne_of_lt (Heap.lt_size hol)) sz fun h' tk acc hk hi => ?_
  have J2 : Inv X pins σ H1 { s1 with heap := h', toks := tk } := J.turned (t' := tk) (fun b o hb e => hk b o hb e) f0 f1 f3 f4 f5
  refine ⟨.ref h'.objs.size, _, J2.laid (t' := tk) (o := .frz { cls := .type "tuple", data := .seq acc } (.tup xs.reverse)) (fun c o e => Heap.get?_push_of_some _ e) (Nat.le_refl _) ⟨Heap.get?_push_size _ rfl, by rw [List.length_reverse]; exact hz, acc.toList, RT.vals_rev rv hi, ?_⟩, rfl, q _ _ (J2.hok.fresh (Nat.le_refl _)) rfl⟩
  rw [Array.toArray_toList]
  exact IsTup.new _ _⟩
end
section
variable {c : Cc} {n : Nat} {ad : Nat → Addr} {fdt : Nat → FuncData} {X : Cx} {W : WW} {a' b' e' : Expr} {ea eb : En → Out Rv} {pos : Pos}
theorem l_qme (ok : XOk c n ad fdt X W) (m : Qm) {apos : Pos} (ha : PE X a' (tev X.K X.mG W ea)) (hn : nocall0 a' = true) (hb : PE X b' (tev X.K X.mG W eb)) (hs : nost b' = true) (hline : (apos.endLine == pos.line) = true) :
    PE X (.Call (.Attribute a' m.nm apos) [b'] [] pos) (tev X.K X.mG W fun ρ => (ea ρ).bind fun x ρ => match view ρ x with
      | some (.tup _) => (eb ρ).bind fun y ρ => op2 m.apT x y ρ
      | some (.lst _) => (eb ρ).bind fun y ρ => op2 m.apL x y ρ
      | _ => .bad) := by
  have hu : X.A.units + 65 < cLine := by have := ok.hu; omega
  have imp : ∀ {rT rL : V → List V → Hp → VK → Prop},
      (∀ {F H : Hp} {x y : V} {d1 d2 : D} {Q : VK}, Sub F H → Vw X.K X.mG F H x d1 → Vw X.K X.mG F H y d2 → GOut X.K X.mG F H Q (m.apT d1 d2) → rT x [y] H Q) →
      (∀ {F H : Hp} {x y : V} {d1 d2 : D} {Q : VK}, Sub F H → Vw X.K X.mG F H x d1 → Vw X.K X.mG F H y d2 → GOut X.K X.mG F H Q (m.apL d1 d2) → rL x [y] H Q) →
      ∀ σ H Q, tev X.K X.mG W (fun ρ => (ea ρ).bind fun x ρ => match view ρ x with
      | some (.tup _) => (eb ρ).bind fun y ρ => op2 m.apT x y ρ
      | some (.lst _) => (eb ρ).bind fun y ρ => op2 m.apL x y ρ
      | _ => .bad) σ H Q → tQ X.K rT rL (tev X.K X.mG W ea) (tev X.K X.mG W eb) σ H Q := fun {rT rL} kT kL σ H Q ⟨F, ρ, en, h⟩ => bindE (.refl en) h fun x F1 H1 ρ1 r q1 p1 v1 h1 => by
    split at h1
    · rename_i l hv
      refine .inl ⟨(v1.vw p1.en hv).tupNo p1.en.sub, bindE p1 h1 fun y F2 H2 ρ2 r2 q2 p2 v2 h2 => ?_⟩
      obtain ⟨G, d1, d2, sb, w1, w2, g⟩ := op2_of p2 h2 (v1.stay q2) v2
      exact kT sb w1 w2 g
    · rename_i l hv
      obtain ⟨a, xs, e, hq, _⟩ := (v1.vw p1.en hv).lst p1.en.sub
      refine .inr ⟨⟨a, xs, e, hq⟩, bindE p1 h1 fun y F2 H2 ρ2 r2 q2 p2 v2 h2 => ?_⟩
      obtain ⟨G, d1, d2, sb, w1, w2, g⟩ := op2_of p2 h2 (v1.stay q2) v2
      exact kL sb w1 w2 g
    · exact h1.elim
  cases m with
  | index =>
    refine PE.imp (pe_q PySem.F.slot_tuple_index PySem.F.type_tuple_index mt_tix PySem.F.slot_list_index PySem.F.type_list_index mt_lix ha hb (base_of hn) hs hline) (imp ?_ ?_)
    · intro F H x y d1 d2 Q sb w1 w2 g
      cases d1 with
      | tup l =>
        cases d2 with
        | str k =>
          simp only [Qm.apT, Qm.on] at g
          split at g
          · rename_i ys ey
            split at g
            · rename_i hk
              obtain ⟨p, xs, e, hq, rl⟩ := w1.tup sb
              rw [dStrs_eq ey] at rl
              rw [rl.strs] at hq
              exact ⟨p, ys, k, e, by rw [w2.str], hq, hk, g.int sb⟩
            · exact g.elim
          · exact g.elim
        | _ => exact g.elim
      | _ => exact g.elim
    · intro F H x y d1 d2 Q sb w1 w2 g
      cases d1 with
      | lst l =>
        cases d2 with
        | str k =>
          simp only [Qm.apL, Qm.on] at g
          split at g
          · rename_i ys ey
            split at g
            · rename_i hk
              obtain ⟨p, xs, e, hq, rl⟩ := w1.lst sb
              rw [dStrs_eq ey] at rl
              rw [rl.strs] at hq
              exact ⟨p, ys, k, e, by rw [w2.str], hq, hk, g.int sb⟩
            · exact g.elim
          · exact g.elim
        | _ => exact g.elim
      | _ => exact g.elim
  | count =>
    refine PE.imp (pe_q PySem.F.slot_tuple_count PySem.F.type_tuple_count (mt_tct hu) PySem.F.slot_list_count PySem.F.type_list_count (mt_lct hu) ha hb (base_of hn) hs hline) (imp ?_ ?_)
    · intro F H x y d1 d2 Q sb w1 w2 g
      cases d1 with
      | tup l =>
        cases d2 with
        | str k =>
          simp only [Qm.apT, Qm.on] at g
          split at g
          · rename_i ys ey
            split at g
            · rename_i hk
              obtain ⟨p, xs, e, hq, rl⟩ := w1.tup sb
              rw [dStrs_eq ey] at rl
              rw [rl.strs] at hq
              exact ⟨p, ys, k, e, by rw [w2.str], hq, hk, g.int sb⟩
            · exact g.elim
          · exact g.elim
        | _ => exact g.elim
      | _ => exact g.elim
    · intro F H x y d1 d2 Q sb w1 w2 g
      cases d1 with
      | lst l =>
        cases d2 with
        | str k =>
          simp only [Qm.apL, Qm.on] at g
          split at g
          · rename_i ys ey
            split at g
            · rename_i hk
              obtain ⟨p, xs, e, hq, rl⟩ := w1.lst sb
              rw [dStrs_eq ey] at rl
              rw [rl.strs] at hq
              exact ⟨p, ys, k, e, by rw [w2.str], hq, hk, g.int sb⟩
            · exact g.elim
          · exact g.elim
        | _ => exact g.elim
      | _ => exact g.elim
theorem l_rev {p p2 pos2 : Pos} (hc : X.calm = true) (t : Bool) (hm : X.mg (revN t) = none) (hm2 : X.mg "reversed" = none) (hg : glB X.env.scope (revN t) = true) (hg2 : glB X.env.scope "reversed" = true) (ha : PE X a' (tev X.K X.mG W ea)) (hs : nost a' = true) :
    PE X (.Call (.Name (revN t) p) [.Call (.Name "reversed" p2) [a'] [] pos2] [] pos) (tev X.K X.mG W fun ρ => (ea ρ).bind fun x ρ => op1 (revD t) x ρ) := by
  cases t with
  | false =>
    refine PE.imp (pe_lstRev hc (gl_of hg) hm (gl_of hg2) hm2 ha (star_of hs)) fun σ H Q ⟨F, ρ, en, h⟩ => bindE (.refl en) h fun x F1 H1 ρ1 r q1 p1 v1 h1 => ?_
    obtain ⟨G, d1, sb, w1, g⟩ := op1_of p1 h1 v1
    cases d1 with
    | lst l =>
      obtain ⟨a, xs, e, hq, rl⟩ := w1.lst sb
      exact ⟨a, xs, e, hq, GOut.lst sb (by simpa [revD] using g) rl.reverse⟩
    | _ => exact g.elim
  | true =>
    refine PE.imp (pe_tupRevX hc (gl_of hg) hm (gl_of hg2) hm2 ha (star_of hs)) fun σ H Q ⟨F, ρ, en, h⟩ => bindE (.refl en) h fun x F1 H1 ρ1 r q1 p1 v1 h1 => ?_
    obtain ⟨G, d1, sb, w1, g⟩ := op1_of p1 h1 v1
    cases d1 with
    | lst l =>
      obtain ⟨a, xs, e, hq, rl⟩ := w1.lst sb
      exact ⟨a, xs, e, hq, GOut.tup sb (by simpa [revD] using g) rl.reverse⟩
    | _ => exact g.elim
theorem rngV_rel {K : PySem.W.Frag} {mg : MG} {F : Hp} (i j : Int) : RelL K mg F (rgV i j) (rngD i j) := by
  unfold rgV rngD
  generalize (List.range (j - i).toNat) = l
  induction l with
  | nil => exact .nil
  | cons a l ih => exact .cons (.int _) ih
/-- list(range(a, b)) -/
theorem l_lrg1 {p p2 pos2 : Pos} (hc : X.calm = true) (hm : X.mg "list" = none) (hm2 : X.mg "range" = none) (hg : glB X.env.scope "list" = true) (hg2 : glB X.env.scope "range" = true) (hb : PE X b' (tev X.K X.mG W eb)) (hs : nost b' = true) :
    PE X (.Call (.Name "list" p) [.Call (.Name "range" p2) [b'] [] pos2] [] pos) (tev X.K X.mG W fun ρ => (eb ρ).bind fun y ρ => match y with
      | .val (.int j) => cond (rgOkB 0 j) (.ok (.tmp (.lst (rngD 0 j))) ρ) .bad
      | _ => .bad) := by
  refine PE.imp (pe_listRg hc (gl_of hg) hm (prg_1 (gl_of hg2) hm2 hb (star_of hs)) (star_of rfl)) fun σ H Q ⟨F, ρ, en, h⟩ => ?_
  refine bindE (.refl en) h fun x F1 H1 ρ1 r q1 p1 v1 h1 => ?_
  split at h1
  · rename_i j
    cases v1
    refine ⟨j, rfl, ?_⟩
    cases hk : rgOkB 0 j with
    | false => rw [hk] at h1; exact False.elim h1
    | true =>
      rw [hk] at h1
      simp only [rgOkB, Bool.and_eq_true, decide_eq_true_eq] at hk
      obtain ⟨⟨a1, a2⟩, a3⟩ := hk
      obtain ⟨b1, b2⟩ := big62_iff.mp a1
      obtain ⟨b3, b4⟩ := big62_iff.mp a2
      refine ⟨⟨b1, b2, b3, b4, a3⟩, fun q nq => ?_⟩
      have gr := Grow.tmp (o := .lst (rgV 0 j)) p1.en.sub nq
      exact h1 (.ref q) _ _ (gr.po p1) ⟨q, rfl, p1.st.al q nq, p1.en.sub.none nq, ⟨_, upd_same, rngV_rel 0 j⟩, fun z => p1.en.own_some z nq⟩
  · exact False.elim h1
theorem l_lrg2 {p p2 pos2 : Pos} (hc : X.calm = true) (hm : X.mg "list" = none) (hm2 : X.mg "range" = none) (hg : glB X.env.scope "list" = true) (hg2 : glB X.env.scope "range" = true) (ha : PE X a' (tev X.K X.mG W ea)) (hs0 : nost a' = true) (hb : PE X b' (tev X.K X.mG W eb)) (hs : nost b' = true) :
    PE X (.Call (.Name "list" p) [.Call (.Name "range" p2) [a', b'] [] pos2] [] pos) (tev X.K X.mG W fun ρ => (ea ρ).bind fun x ρ => (eb ρ).bind fun y ρ => match x, y with
      | .val (.int i), .val (.int j) => cond (rgOkB i j) (.ok (.tmp (.lst (rngD i j))) ρ) .bad
      | _, _ => .bad) := by
  refine PE.imp (pe_listRg hc (gl_of hg) hm (prg_2 (gl_of hg2) hm2 ha hb (star_of hs0) (star_of hs) (any_of (es := [b']) (by simp [hs]))) (star_of rfl)) fun σ H Q ⟨F, ρ, en, h⟩ => ?_
  refine bindE (.refl en) h fun x F1 H1 ρ1 r q1 p1 v1 h1 => bindE p1 h1 fun y F2 H2 ρ2 r2 q2 p2 v2 h2 => ?_
  split at h2
  · rename_i i j
    cases v1
    cases v2
    refine ⟨i, j, rfl, rfl, ?_⟩
    cases hk : rgOkB i j with
    | false => rw [hk] at h2; exact False.elim h2
    | true =>
      rw [hk] at h2
      simp only [rgOkB, Bool.and_eq_true, decide_eq_true_eq] at hk
      obtain ⟨⟨a1, a2⟩, a3⟩ := hk
      obtain ⟨b1, b2⟩ := big62_iff.mp a1
      obtain ⟨b3, b4⟩ := big62_iff.mp a2
      refine ⟨⟨b1, b2, b3, b4, a3⟩, fun q nq => ?_⟩
      have gr := Grow.tmp (o := .lst (rgV i j)) p2.en.sub nq
      exact h2 (.ref q) _ _ (gr.po p2) ⟨q, rfl, p2.st.al q nq, p2.en.sub.none nq, ⟨_, upd_same, rngV_rel i j⟩, fun z => p2.en.own_some z nq⟩
  · exact False.elim h2
theorem l_dd0 : PE X (.Dict [] [] pos) (tev X.K X.mG W (ev c (.dd [] .nil))) := PE.imp pe_dnewK fun σ H Q ⟨F, ρ, en, h⟩ p np => by
  have e : ev c (.dd [] .nil) ρ = .ok (.tmp (.dct [] [])) ρ := by simp [ev, evs, Out.bind, fzs]
  rw [e] at h
  have gr := Grow.tmp (o := .dK []) en.sub np
  exact h (.ref p) _ _ (gr.po (.refl en)) ⟨p, rfl, np, en.sub.none np, ⟨[], upd_same, rfl, .nil⟩, fun z => en.own_some z np⟩
end
end Mp

/-! Mp13: what is walked. -/
namespace Mp
open PySem L2 PyProof.Rows
section
variable {K : PySem.W.Frag} {mg : MG}
/-- an iterator gives the items l, whatever becomes of the heap but what is frozen in it -/
def Feeds (K : PySem.W.Frag) (mg : MG) (F : Hp) (J : L2.It) (l : List D) : Prop := ∃ I : Hp → Prop, I F ∧ (∀ F F', Le F F' → I F → I F') ∧ ∀ F H (k : Nat), I F → Sub F H →
  (∀ d, l[k]? = some d → J.go k H ∧ ∀ x H', J.yld k H x H' → ∃ F', Grow F H F' H' ∧ RelD K mg F' x d) ∧ (l.length ≤ k → J.stop k H)
def FeedS (K : PySem.W.Frag) (mg : MG) (F H : Hp) (σ : L2.St) (ρ : En) (J : L2.It) : Sr → Prop
  | .fix l => Feeds K mg F J l
  | .dyn i => ∃ p d, stAt σ i = some (.ref p) ∧ ρ.at i = some (.own d) ∧ J = Itl K p
def tit (K : PySem.W.Frag) (mg : MG) (W : WW) (e : En → Out Sr) : TI := fun σ H R => ∃ F ρ, EnvR K mg F H σ ρ ∧ Fin K mg W (fun F H ρ J s => FeedS K mg F H σ ρ J s) F H σ ρ R (e ρ)
theorem feeds_lst {F H : Hp} {a : Addr} {xs : List V} {l : List D} (h : FL K F a xs) (r : RelL K mg F xs l) : Feeds K mg F (Itl K a) l := by
  refine ⟨fun F => FL K F a xs ∧ RelL K mg F xs l, ⟨h, r⟩, fun F F' k q => ⟨q.1.mono k, q.2.mono k⟩, fun F H k q sb => ⟨fun d e => ?_, fun hk => ⟨xs, q.1.sq sb, by rw [q.2.length]; exact hk⟩⟩⟩
  obtain ⟨v, e1, r1⟩ := q.2.get e
  refine ⟨⟨xs, v, q.1.sq sb, e1⟩, fun x H' y => ?_⟩
  obtain ⟨e2, y⟩ := y
  subst e2
  have := y xs (q.1.sq sb)
  rw [e1] at this; cases this
  exact ⟨F, .refl sb, r1⟩
theorem feeds_tup {F H : Hp} {a : Addr} {xs : List V} {l : List D} (h : FT K F a xs) (r : RelL K mg F xs l) : Feeds K mg F (Itt K a) l := by
  refine ⟨fun F => FT K F a xs ∧ RelL K mg F xs l, ⟨h, r⟩, fun F F' k q => ⟨q.1.mono k, q.2.mono k⟩, fun F H k q sb => ⟨fun d e => ?_, fun hk => ⟨xs, q.1.sq sb, by rw [q.2.length]; exact hk⟩⟩⟩
  obtain ⟨v, e1, r1⟩ := q.2.get e
  refine ⟨⟨xs, v, q.1.sq sb, e1⟩, fun x H' y => ?_⟩
  obtain ⟨e2, y⟩ := y
  subst e2
  have := y xs (q.1.sq sb)
  rw [e1] at this; cases this
  exact ⟨F, .refl sb, r1⟩
theorem feeds_str {F : Hp} {z : Str} : Feeds K mg F (Its z) (signs z) := by
  refine ⟨fun _ => True, trivial, fun _ _ _ _ => trivial, fun F H k _ sb => ⟨fun d e => ?_, fun hk => ?_⟩⟩
  · unfold signs at e
    rw [List.getElem?_map] at e
    cases q : z.cps.toList[k]? with
    | none => rw [q] at e; cases e
    | some c =>
      rw [q] at e; cases e
      have qa : z.cps[k]? = some c := by rw [← q]; simp
      refine ⟨?_, fun x H' y => ?_⟩
      · show k < z.cps.size
        exact (Array.getElem?_eq_some_iff.mp qa).1
      · obtain ⟨e2, c', e3, e4⟩ := y
        subst e2; subst e4
        rw [qa] at e3; cases e3
        exact ⟨F, .refl sb, .str _⟩
  · show z.cps.size ≤ k
    unfold signs at hk
    simpa using hk
theorem feeds_rng {F : Hp} {lo hi : Int} : Feeds K mg F (Itr lo (hi - lo).toNat) (rngD lo hi) := by
  refine ⟨fun _ => True, trivial, fun _ _ _ _ => trivial, fun F H k _ sb => ⟨fun d e => ?_, fun hk => ?_⟩⟩
  · unfold rngD at e
    rw [List.getElem?_map] at e
    cases q : (List.range (hi - lo).toNat)[k]? with
    | none => rw [q] at e; cases e
    | some c =>
      rw [q] at e; cases e
      obtain ⟨h1, h2⟩ := List.getElem?_eq_some_iff.mp q
      rw [List.length_range] at h1
      rw [List.getElem_range] at h2
      subst h2
      refine ⟨h1, fun x H' y => ?_⟩
      obtain ⟨e2, e3⟩ := y
      subst e2; subst e3
      exact ⟨F, .refl sb, .int _⟩
  · show (hi - lo).toNat ≤ k
    unfold rngD at hk
    simpa using hk
end
section
variable {c : Cc} {n : Nat} {ad : Nat → Addr} {fdt : Nat → FuncData} {X : Cx} {W : WW} {a' b' e' t' tg : Expr} {es' : List Expr} {ea eb ee : En → Out Rv} {el : En → Out (List Rv)} {pos : Pos}
theorem it_one (ha : PE X a' (tev X.K X.mG W ea)) : PI X tg a' (tit X.K X.mG W fun ρ => (ea ρ).bind fun x ρ => match srOf ρ x with
    | some s => .ok s ρ
    | none => .bad) := by
  refine ⟨fun pins s σ H R I ⟨F, ρ, en, h⟩ => ?_⟩
  simp only at h
  cases q : ea ρ with
  | bad => rw [q] at h; exact h.elim
  | er x ρ1 =>
    rw [q] at h
    exact (pi_list ha).run pins s σ H R I ⟨F, ρ, en, by rw [q]; exact h⟩
  | ok r ρ1 =>
    rw [q] at h
    have h : Fin X.K X.mG W (fun F H ρ J s => FeedS X.K X.mG F H σ ρ J s) F H σ ρ R (match srOf ρ1 r with
      | some s => .ok s ρ1
      | none => .bad) := h
    -- what is frozen, or a new list
    have lst : ∀ {l : List D}, srOf ρ1 r = some (.fix l) → fz ρ1 r = some (.lst l, ρ1) → wpAny (model X.prog X.w) X.A (eval a' X.env) (fun v s1 => wpAny (model X.prog X.w) X.A (pyIter v) (PIE X pins σ tg R) X.xe s1) X.xe s := fun {l} e1 e2 =>
      (pi_list ha).run pins s σ H R I ⟨F, ρ, en, by
        rw [q]
        intro v F1 H1 p1 r1
        obtain ⟨F2, p2, k2, rd⟩ := fz_of p1 r1.w e2
        rw [e1] at h
        cases rd with
        | lst hf rl => exact ⟨_, rfl, ⟨_, hf.sq p2.en.sub⟩, h _ F2 H1 p2 (feeds_lst (H := H1) hf rl)⟩⟩
    have tup : ∀ {l : List D}, srOf ρ1 r = some (.fix l) → fz ρ1 r = some (.tup l, ρ1) → wpAny (model X.prog X.w) X.A (eval a' X.env) (fun v s1 => wpAny (model X.prog X.w) X.A (pyIter v) (PIE X pins σ tg R) X.xe s1) X.xe s := fun {l} e1 e2 =>
      (pi_tup ha).run pins s σ H R I ⟨F, ρ, en, by
        rw [q]
        intro v F1 H1 p1 r1
        obtain ⟨F2, p2, k2, rd⟩ := fz_of p1 r1.w e2
        rw [e1] at h
        cases rd with
        | tup hf rl => exact ⟨_, rfl, ⟨_, hf.sq p2.en.sub⟩, h _ F2 H1 p2 (feeds_tup (H := H1) hf rl)⟩⟩
    have str : ∀ {z : Str}, srOf ρ1 r = some (.fix (signs z)) → fz ρ1 r = some (.str z, ρ1) → wpAny (model X.prog X.w) X.A (eval a' X.env) (fun v s1 => wpAny (model X.prog X.w) X.A (pyIter v) (PIE X pins σ tg R) X.xe s1) X.xe s := fun {z} e1 e2 =>
      (pi_str ha).run pins s σ H R I ⟨F, ρ, en, by
        rw [q]
        intro v F1 H1 p1 r1
        obtain ⟨F2, p2, k2, rd⟩ := fz_of p1 r1.w e2
        rw [e1] at h
        cases rd
        exact ⟨z, rfl, h _ F2 H1 p2 feeds_str⟩⟩
    cases r with
    | val d =>
      cases d with
      | lst l => exact lst rfl rfl
      | tup l => exact tup rfl rfl
      | str z => exact str rfl rfl
      | _ => exact h.elim
    | tmp d =>
      cases d with
      | lst l => exact lst rfl rfl
      | _ => exact h.elim
    | brw i =>
      cases e : ρ1.at i with
      | none => simp only [srOf, e] at h; exact h.elim
      | some sl =>
        cases sl with
        | val d =>
          cases d with
          | lst l => exact lst (l := l) (by simp only [srOf, e]) (by simp only [fz, e])
          | tup l => exact tup (l := l) (by simp only [srOf, e]) (by simp only [fz, e])
          | str z => exact str (z := z) (by simp only [srOf, e]) (by simp only [fz, e])
          | _ => simp only [srOf, e] at h; exact h.elim
        | own d =>
          cases d with
          | lst l =>
            simp only [srOf, e] at h
            exact (pi_list ha).run pins s σ H R I ⟨F, ρ, en, by
              rw [q]
              intro v F1 H1 p1 r1
              obtain ⟨hv, _⟩ := r1
              obtain ⟨p, ep, f, xs, hx, rl⟩ := p1.en.own i _ e
              rw [hv] at ep; cases ep
              exact ⟨p, rfl, ⟨xs, .of hx⟩, h _ F1 H1 p1 ⟨p, _, hv, e, rfl⟩⟩⟩
          | _ => simp only [srOf, e] at h; exact h.elim
        | exn x => simp only [srOf, e] at h; exact h.elim
theorem it_rng1 (ok : XOk c n ad fdt X W) {p : Pos} (hf : ("range" : Str) ∈ c.g.free) (hg : glB X.env.scope "range" = true) (ha : PE X a' (tev X.K X.mG W ea)) (hs : nost a' = true) : PI X tg (.Call (.Name "range" p) [a'] [] pos) (tit X.K X.mG W fun ρ => (ea ρ).bind fun x ρ => match x with
    | .val (.int i) => cond (big62 i) (.ok (.fix (rngD 0 i)) ρ) .bad
    | _ => .bad) := by
  refine ⟨fun pins s σ H R I ⟨F, ρ, en, h⟩ => ?_⟩
  refine (pi_range1 (gl_of hg) (ok.g.free _ hf) (pa_cons ha pa_nil (star_of hs)) (star_of hs)).run pins s σ H R I (bindE (.refl en) h fun x F1 H1 ρ1 r q1 p1 v1 h1 => ?_)
  split at h1
  · rename_i i
    cases hb : big62 i with
    | true =>
      rw [hb, cond_true] at h1
      cases v1
      obtain ⟨b1, b2⟩ := big62_iff.mp hb
      refine ⟨i, rfl, b1, b2, ?_⟩
      have e : i.toNat = (i - 0).toNat := by rw [Int.sub_zero]
      rw [e]
      exact h1 _ F1 H1 p1 feeds_rng
    | false =>
      rw [hb, cond_false] at h1
      exact h1.elim
  · exact h1.elim
theorem it_rng2 (ok : XOk c n ad fdt X W) {p : Pos} (hf : ("range" : Str) ∈ c.g.free) (hg : glB X.env.scope "range" = true) (ha : PE X a' (tev X.K X.mG W ea)) (hb : PE X b' (tev X.K X.mG W eb)) (hs : nost a' = true) (hs2 : nost b' = true) :
    PI X tg (.Call (.Name "range" p) [a', b'] [] pos) (tit X.K X.mG W fun ρ => (ea ρ).bind fun x ρ => (eb ρ).bind fun y ρ => match x, y with
    | .val (.int i), .val (.int j) => cond (big62 i && big62 j) (.ok (.fix (rngD i j)) ρ) .bad
    | _, _ => .bad) := by
  refine ⟨fun pins s σ H R I ⟨F, ρ, en, h⟩ => ?_⟩
  refine (pi_range2 (gl_of hg) (ok.g.free _ hf) (pa_cons ha (pa_cons hb pa_nil (star_of hs2)) (star_of hs)) (by rw [star_of hs, star_of hs2]; rfl) (star_of hs2)).run pins s σ H R I (bindE (.refl en) h fun x F1 H1 ρ1 r q1 p1 v1 h1 =>
    bindE p1 h1 fun y F2 H2 ρ2 r2 q2 p2 v2 h2 => ?_)
  split at h2
  · rename_i i j
    cases hb : (big62 i && big62 j) with
    | true =>
      rw [hb, cond_true] at h2
      rw [Bool.and_eq_true, big62_iff, big62_iff] at hb
      have e1 : x = .int i := by cases v1; rfl
      have e2 : y = .int j := by cases v2; rfl
      exact ⟨i, j, by rw [e1, e2], ⟨hb.1.1, hb.1.2, hb.2.1, hb.2.2⟩, h2 _ F2 H2 p2 feeds_rng⟩
    | false =>
      rw [hb, cond_false] at h2
      exact h2.elim
  · exact h2.elim
/-- a slot's list that is walked may be frozen -/
theorem it_fz {e : En → Out Sr} (h : PI X tg a' (tit X.K X.mG W e)) : PI X tg a' (tit X.K X.mG W fun ρ => (e ρ).bind frzS) := by
  refine ⟨fun pins s σ H R I ⟨F, ρ, en, z⟩ => h.run pins s σ H R I ⟨F, ρ, en, ?_⟩⟩
  dsimp only at z
  cases q : e ρ with
  | bad => rw [q] at z; exact z.elim
  | er x ρ1 => rw [q] at z; exact z
  | ok sr ρ1 =>
    rw [q] at z
    cases sr with
    | fix l => exact z
    | dyn i =>
      intro J F1 H1 p1 fs
      obtain ⟨p, d, hv, hi, hJ⟩ := fs
      subst hJ
      have z : Fin X.K X.mG W (fun F H ρ J s => FeedS X.K X.mG F H σ ρ J s) F H σ ρ R (frzS (.dyn i) ρ1) := z
      simp only [frzS] at z
      split at z
      · rename_i l ρ' e2
        obtain ⟨F2, p2, k2, rd⟩ := fz_of (H0 := H) p1 (show RvW X.K X.mG H F1 H1 σ ρ1 (.ref p) (.brw i) from ⟨hv, _, hi⟩) e2
        cases rd with
        | lst hf rl => exact z _ F2 H1 p2 (feeds_lst (H := H1) hf rl)
      · exact z.elim
end
end Mp

/-! Mp14: targets, list comprehensions. -/
namespace Mp
open PySem L2 PyProof.Rows
section
variable {K : PySem.W.Frag} {mg : MG} {W : WW} {F0 H0 F H : Hp} {σ : L2.St} {ρ0 ρ : En}
theorem at_none_len {i : Nat} {s : Option S} (h : ρ.length ≤ i) : (ρ.set i s) = ρ := List.set_eq_of_length_le h
theorem st_set_ne {i j : Nat} {v : Option V} (h : i ≠ j) : stAt (σ.set i v) j = stAt σ j := by
  unfold stAt; rw [List.getElem?_set_ne h]
theorem st_set_self {i : Nat} {v : Option V} (h : i < σ.length) : stAt (σ.set i v) i = v := by
  unfold stAt; rw [List.getElem?_set_self h]; rfl
theorem En.lt {i : Nat} {s : S} (h : ρ.at i = some s) : i < ρ.length := at_lt h
/-- a store of frozen data -/
theorem EnvR.set (en : EnvR K mg F H σ ρ) {x : V} {d : D} (i : Nat) (r : RelD K mg F x d) : EnvR K mg F H (σ.set i (some x)) (ρ.set i (some (.val d))) ∧ ∀ p, Own (σ.set i (some x)) (ρ.set i (some (.val d))) p → Own σ ρ p := by
  have own' : ∀ {j : Nat} {d2 : D}, En.at (ρ.set i (some (.val d))) j = some (.own d2) → j ≠ i ∧ ρ.at j = some (.own d2) := fun {j d2} e => by
    by_cases z : i = j
    · subst z
      rw [at_set_self (by have := En.lt e; rwa [List.length_set] at this)] at e; cases e
    · rw [at_set_ne z] at e; exact ⟨Ne.symm z, e⟩
  refine ⟨⟨by rw [List.length_set, List.length_set]; exact en.len, en.sub, fun j d2 e => ?_, fun j d2 e => ?_, fun j k d2 d3 b e2 e3 e4 e5 => ?_, en.exnSet2 .refl (fun x z => by cases z)⟩, fun p ⟨j, d2, e1, e2⟩ => ?_⟩
  · by_cases z : i = j
    · subst z
      have hi := En.lt e
      rw [List.length_set] at hi
      rw [at_set_self hi] at e; cases e
      exact ⟨x, st_set_self (by rw [en.len]; exact hi), r⟩
    · rw [at_set_ne z] at e
      obtain ⟨v, e1, r1⟩ := en.val j d2 e
      exact ⟨v, by rw [st_set_ne z]; exact e1, r1⟩
  · obtain ⟨z, e'⟩ := own' e
    obtain ⟨p, e1, f, o⟩ := en.own j d2 e'
    exact ⟨p, by rw [st_set_ne (Ne.symm z)]; exact e1, f, o⟩
  · obtain ⟨z, e2'⟩ := own' e2
    obtain ⟨z', e3'⟩ := own' e3
    rw [st_set_ne (Ne.symm z)] at e4
    rw [st_set_ne (Ne.symm z')] at e5
    exact en.inj j k _ _ _ e2' e3' e4 e5
  · obtain ⟨z, e'⟩ := own' e1
    rw [st_set_ne (Ne.symm z)] at e2
    exact ⟨j, d2, e', e2⟩
/-- the targets by places -/
def gsN : List Nat → TGs
  | [] => gNil
  | i :: r => gCons (gName i) (gsN r)
def gT (K : PySem.W.Frag) (one : Bool) (tg : List Nat) : TG := if one then gName (tg.headD 0) else gSeq K tg.length (gsN tg)
structure Bnd (K : PySem.W.Frag) (mg : MG) (F H : Hp) (σ : L2.St) (ρ : En) (tg : List Nat) (σ' : L2.St) (ρ' : En) : Prop where
  en : EnvR K mg F H σ' ρ'
  ow : ∀ p, Own σ' ρ' p → Own σ ρ p
  same : ∀ j, j ∉ tg → stAt σ' j = stAt σ j ∧ ρ'.at j = ρ.at j
  len : σ'.length = σ.length
  raw : ∀ j, j ∉ tg → σ'[j]? = σ[j]?
  ole : ∀ j d, ρ'.at j = some (.own d) → ρ.at j = some (.own d) ∧ j ∉ tg
theorem bnd_fold : ∀ {tg : List Nat} {xs : List V} {ds : List D} {σ : L2.St} {ρ : En}, EnvR K mg F H σ ρ → RelL K mg F xs ds → ds.length = tg.length → ∀ {Q : L2.St → Hp → Prop}, (∀ σ', Bnd K mg F H σ ρ tg σ' ((tg.zip ds).foldl (fun ρ p => ρ.set p.1 (some (.val p.2))) ρ) → Q σ' H) → gsN tg xs σ H Q
  | [], [], [], σ, ρ, en, _, _, Q, k => ⟨rfl, k σ ⟨en, fun _ z => z, fun _ _ => ⟨rfl, rfl⟩, rfl, fun _ _ => rfl, fun _ _ e => ⟨e, by simp⟩⟩⟩
  | [], _, _ :: _, _, _, _, _, e, _, _ => by simp at e
  | _ :: _, _, [], _, _, _, _, e, _, _ => by simp at e
  | i :: tg, [], d :: ds, _, _, _, r, _, _, _ => nomatch r
  | i :: tg, x :: xs, d :: ds, σ, ρ, en, .cons h t, e, Q, k => by
    obtain ⟨en1, ow1⟩ := en.set i h
    refine ⟨x, xs, rfl, ?_⟩
    show gsN tg xs (σ.set i (some x)) H Q
    refine bnd_fold en1 t (by simpa using e) fun σ' b => k σ' ⟨b.en, fun p z => ow1 p (b.ow p z), fun j nj => ?_, ?_, fun j nj => ?_, fun j d2 e2 => ?_⟩
    · simp only [List.mem_cons, not_or] at nj
      obtain ⟨h1, h2⟩ := b.same j nj.2
      exact ⟨by rw [h1, st_set_ne (Ne.symm nj.1)], h2.trans (at_set_ne (Ne.symm nj.1))⟩
    · rw [b.len, List.length_set]
    · simp only [List.mem_cons, not_or] at nj
      rw [b.raw j nj.2, List.getElem?_set_ne (Ne.symm nj.1)]
    · obtain ⟨h1, h2⟩ := b.ole j d2 e2
      by_cases z : i = j
      · subst z
        rw [at_set_self (by have := En.lt h1; rwa [List.length_set] at this)] at h1; cases h1
      · rw [at_set_ne z] at h1
        exact ⟨h1, by simp only [List.mem_cons, not_or]; exact ⟨Ne.symm z, h2⟩⟩
theorem bnd_of {one : Bool} {tg : List Nat} {x : V} {d : D} {ρ' : En} (en : EnvR K mg F H σ ρ) (r : RelD K mg F x d) (e : bindT one tg d ρ = some ρ') {Q : L2.St → Hp → Prop} (k : ∀ σ', Bnd K mg F H σ ρ tg σ' ρ' → Q σ' H) : gT K one tg x σ H Q := by
  unfold gT
  unfold bindT at e
  cases one with
  | true =>
    rw [if_pos rfl] at e ⊢
    split at e
    · rename_i i
      cases e
      obtain ⟨en1, ow1⟩ := en.set i r
      refine k _ ⟨en1, ow1, fun j nj => ?_, by rw [List.length_set], fun j nj => ?_, fun j d2 e2 => ?_⟩
      · simp only [List.mem_singleton] at nj
        exact ⟨st_set_ne (Ne.symm nj), at_set_ne (Ne.symm nj)⟩
      · simp only [List.mem_singleton] at nj
        exact List.getElem?_set_ne (Ne.symm nj)
      · by_cases z : i = j
        · subst z
          rw [at_set_self (by have := En.lt e2; rwa [List.length_set] at this)] at e2; cases e2
        · rw [at_set_ne z] at e2
          exact ⟨e2, by simp only [List.mem_singleton]; exact Ne.symm z⟩
    · cases e
  | false =>
    rw [if_neg Bool.false_ne_true] at e ⊢
    split at e
    · rename_i l
      split at e
      · rename_i hl
        cases e
        cases r with
        | tup hf rl => exact ⟨_, _, rfl, .inl (hf.sq en.sub), by rw [rl.length]; exact hl, bnd_fold en rl hl k⟩
      · cases e
    · rename_i l
      split at e
      · rename_i hl
        cases e
        cases r with
        | lst hf rl => exact ⟨_, _, rfl, .inr (hf.sq en.sub), by rw [rl.length]; exact hl, bnd_fold en rl hl k⟩
      · cases e
    · cases e
theorem wipeE_len : ∀ (vs : List Nat) (ρ : En), (wipeE ρ vs).length = ρ.length
  | [], _ => rfl
  | v :: vs, ρ => by unfold wipeE; rw [List.length_set]; exact wipeE_len vs ρ
theorem wipeE_in : ∀ {vs : List Nat} {j : Nat}, j ∈ vs → (wipeE ρ vs).at j = none
  | v :: vs, j, m => by
    unfold wipeE
    by_cases z : v = j
    · subst z
      rcases Nat.lt_or_ge v ρ.length with h | h
      · exact at_set_self (by rw [wipeE_len]; exact h)
      · unfold En.at; rw [List.getElem?_eq_none (by rw [List.length_set, wipeE_len]; exact h)]; rfl
    · rw [at_set_ne z]
      exact wipeE_in (by simp only [List.mem_cons] at m; rcases m with m | m; exact absurd m.symm z; exact m)
theorem wipeE_out : ∀ {vs : List Nat} {j : Nat}, j ∉ vs → (wipeE ρ vs).at j = ρ.at j
  | [], _, _ => rfl
  | v :: vs, j, m => by
    simp only [List.mem_cons, not_or] at m
    unfold wipeE
    rw [at_set_ne (Ne.symm m.1)]
    exact wipeE_out m.2
theorem wipe_out : ∀ {vs : List Nat} {j : Nat}, j ∉ vs → (wipe σ vs)[j]? = σ[j]?
  | [], _, _ => rfl
  | v :: vs, j, m => by
    simp only [List.mem_cons, not_or] at m
    unfold wipe
    rw [List.getElem?_set_ne (Ne.symm m.1)]
    exact wipe_out m.2
theorem wipe_in : ∀ {vs : List Nat} {j : Nat}, j ∈ vs → (wipe σ vs)[j]? = if j < σ.length then some none else none
  | v :: vs, j, m => by
    unfold wipe
    by_cases z : v = j
    · subst z
      split
      · rename_i h; rw [List.getElem?_set_self (by rw [wipe_length]; exact h)]
      · rename_i h; exact List.getElem?_eq_none (by rw [List.length_set, wipe_length]; omega)
    · rw [List.getElem?_set_ne z]
      exact wipe_in (by simp only [List.mem_cons] at m; rcases m with m | m; exact absurd m.symm z; exact m)
/-- two frames alike but for the wiped names -/
theorem wipe_eq {vs : List Nat} {σ σ' : L2.St} (hl : σ'.length = σ.length) (h : ∀ j, j ∉ vs → σ'[j]? = σ[j]?) : wipe σ' vs = wipe σ vs := by
  apply List.ext_getElem?
  intro j
  by_cases m : j ∈ vs
  · rw [wipe_in m, wipe_in m, hl]
  · rw [wipe_out m, wipe_out m]; exact h j m
theorem EnvR.wipe (en : EnvR K mg F H σ ρ) (vs : List Nat) : EnvR K mg F H (L2.wipe σ vs) (wipeE ρ vs) ∧ (∀ p, Own (L2.wipe σ vs) (wipeE ρ vs) p → ∃ i d, i ∉ vs ∧ ρ.at i = some (.own d) ∧ stAt σ i = some (.ref p)) := by
  have key : ∀ {j : Nat} {s : S}, (wipeE ρ vs).at j = some s → j ∉ vs ∧ ρ.at j = some s := fun {j s} e => by
    by_cases m : j ∈ vs
    · rw [wipeE_in m] at e; cases e
    · rw [wipeE_out m] at e; exact ⟨m, e⟩
  have st : ∀ {j : Nat}, j ∉ vs → stAt (L2.wipe σ vs) j = stAt σ j := fun {j} m => by unfold stAt; rw [wipe_out m]
  refine ⟨⟨by rw [wipe_length, wipeE_len]; exact en.len, en.sub, fun j d e => ?_, fun j d e => ?_, fun j k d2 d3 b e2 e3 e4 e5 => ?_, fun j x e => ?_⟩, fun p ⟨j, d, e1, e2⟩ => ?_⟩
  · obtain ⟨m, e'⟩ := key e
    obtain ⟨v, e1, r⟩ := en.val j d e'
    exact ⟨v, by rw [st m]; exact e1, r⟩
  · obtain ⟨m, e'⟩ := key e
    obtain ⟨v, e1, r⟩ := en.own j d e'
    exact ⟨v, by rw [st m]; exact e1, r⟩
  · obtain ⟨m, e2'⟩ := key e2
    obtain ⟨m', e3'⟩ := key e3
    rw [st m] at e4; rw [st m'] at e5
    exact en.inj j k _ _ _ e2' e3' e4 e5
  · obtain ⟨m, e'⟩ := key e
    rw [st m]
    exact en.exn j x e'
  · obtain ⟨m, e'⟩ := key e1
    rw [st m] at e2
    exact ⟨j, d, m, e', e2⟩
theorem mend_len : ∀ (vs : List Nat) (ρ0 ρ : En), (mend vs ρ0 ρ).length = ρ.length
  | [], _, _ => rfl
  | v :: vs, ρ0, ρ => by show ((mend vs ρ0 ρ).set v _).length = _; rw [List.length_set]; exact mend_len vs ρ0 ρ
theorem mend_out : ∀ {vs : List Nat} {ρ0 ρ : En} {j : Nat}, j ∉ vs → (mend vs ρ0 ρ).at j = ρ.at j
  | [], _, _, _, _ => rfl
  | v :: vs, ρ0, ρ, j, m => by
    simp only [List.mem_cons, not_or] at m
    show En.at ((mend vs ρ0 ρ).set v _) j = _
    rw [at_set_ne (Ne.symm m.1)]
    exact mend_out m.2
theorem mend_in : ∀ {vs : List Nat} {ρ0 ρ : En} {j : Nat}, ρ0.length = ρ.length → j ∈ vs → (mend vs ρ0 ρ).at j = ρ0.at j
  | v :: vs, ρ0, ρ, j, hl, m => by
    show En.at ((mend vs ρ0 ρ).set v (ρ0[v]?).join) j = _
    by_cases z : v = j
    · subst z
      rcases Nat.lt_or_ge v ρ.length with h | h
      · rw [at_set_self (by rw [mend_len]; exact h)]; rfl
      · unfold En.at
        rw [List.getElem?_eq_none (by rw [List.length_set, mend_len]; exact h), List.getElem?_eq_none (by omega)]
    · rw [at_set_ne z]
      exact mend_in hl (by simp only [List.mem_cons] at m; rcases m with m | m; exact absurd m.symm z; exact m)
end
section
variable {c : Cc} {n : Nat} {ad : Nat → Addr} {fdt : Nat → FuncData} {X : Cx} {W : WW} {a' b' e' t' tg' it' : Expr} {ifs' : List Expr} {pos : Pos}
/-- from the block back to the frame -/
theorem blk_back {K : PySem.W.Frag} {mg : MG} {F H F' H' F5 H4 : Hp} {σ σ2 : L2.St} {ρ ρk ρ1 ρ4 ρi : En} {vs tg : List Nat} (pk : Po K mg F H σ ρ F' H' ρk) (b : Bnd K mg F' H' (wipe σ vs) (wipeE ρk vs) tg σ2 ρ1) (ht : ∀ i ∈ tg, i ∈ vs)
    (p2 : Po K mg F' H' σ2 ρ1 F5 H4 ρ4) (same : ∀ j ∈ vs, ρk.at j = ρi.at j) (hl : ρk.length = ρi.length) : Po K mg F H σ ρ F5 H4 (mend vs ρi ρ4) ∧ (mend vs ρi ρ4).length = ρi.length ∧ ∀ j ∈ vs, (mend vs ρi ρ4).at j = ρi.at j := by
  have ntg : ∀ {j}, j ∉ vs → j ∉ tg := fun {j} m z => m (ht j z)
  have st2 : ∀ {j}, j ∉ vs → stAt σ2 j = stAt σ j := fun {j} m => by
    rw [(b.same j (ntg m)).1]; unfold stAt; rw [wipe_out m]
  have l4 : ρ4.length = ρi.length := by
    have e1 := p2.en.len
    have e2 := b.len
    have e3 := pk.en.len
    rw [wipe_length] at e2
    omega
  have inB : ∀ {p : Addr}, Own σ2 ρ1 p → ∃ i d, i ∉ vs ∧ ρk.at i = some (.own d) ∧ stAt σ i = some (.ref p) := fun {p} z => (pk.en.wipe vs).2 p (b.ow p z)
  have mi : ∀ {j}, j ∈ vs → (mend vs ρi ρ4).at j = ρk.at j := fun {j} m => (mend_in l4.symm m).trans (same j m).symm
  refine ⟨⟨⟨pk.st.mono.trans p2.st.mono, fun a o e n => ?_, fun a e => pk.st.al a (p2.st.al a e)⟩, ⟨?_, p2.en.sub, fun j d e => ?_, fun j d e => ?_, fun i j d d' q e1 e2 e3 e4 => ?_, fun j x e => ?_⟩, fun p ⟨j, d, e1, e2⟩ => ?_, fun j s e => ?_⟩, ?_, fun j m => mend_in l4.symm m⟩
  · obtain ⟨k1, k2⟩ := pk.st.keep a o e n
    obtain ⟨l1, l2⟩ := p2.st.keep a o k1 fun z => by
      obtain ⟨i, d, _, h1, h2⟩ := inB z
      exact n (pk.ow a ⟨i, d, h1, h2⟩)
    exact ⟨l1, fun f => l2 (k2 f)⟩
  · rw [mend_len, l4, ← hl]; exact pk.en.len
  · by_cases m : j ∈ vs
    · rw [mi m] at e
      obtain ⟨v, e1, r⟩ := pk.en.val j d e
      exact ⟨v, e1, r.mono p2.st.mono⟩
    · rw [mend_out m] at e
      obtain ⟨v, e1, r⟩ := p2.en.val j d e
      exact ⟨v, by rw [← st2 m]; exact e1, r⟩
  · by_cases m : j ∈ vs
    · rw [mi m] at e
      obtain ⟨q, e1, f, o⟩ := pk.en.own j d e
      obtain ⟨u, hu⟩ := o.obj
      obtain ⟨l1, l2⟩ := p2.st.keep q u hu fun z => by
        obtain ⟨i, d2, h0, h1, h2⟩ := inB z
        have := pk.en.inj _ _ _ _ _ e h1 e1 h2
        subst this
        exact h0 m
      exact ⟨q, e1, l2 f, o.at p2.st.mono (l1.trans hu.symm)⟩
    · rw [mend_out m] at e
      obtain ⟨q, e1, r⟩ := p2.en.own j d e
      exact ⟨q, by rw [← st2 m]; exact e1, r⟩
  · by_cases m : i ∈ vs
    · rw [mi m] at e1
      by_cases m' : j ∈ vs
      · rw [mi m'] at e2; exact pk.en.inj _ _ _ _ _ e1 e2 e3 e4
      · rw [mend_out m'] at e2
        obtain ⟨k, d2, h0, h1, h2⟩ := inB (p2.ow q ⟨j, d', e2, by rw [st2 m']; exact e4⟩)
        have := pk.en.inj _ _ _ _ _ e1 h1 e3 h2
        subst this; exact absurd m h0
    · rw [mend_out m] at e1
      by_cases m' : j ∈ vs
      · rw [mi m'] at e2
        obtain ⟨k, d2, h0, h1, h2⟩ := inB (p2.ow q ⟨i, d, e1, by rw [st2 m]; exact e3⟩)
        have := pk.en.inj _ _ _ _ _ e2 h1 e4 h2
        subst this; exact absurd m' h0
      · rw [mend_out m'] at e2
        exact p2.en.inj _ _ _ _ _ e1 e2 (by rw [st2 m]; exact e3) (by rw [st2 m']; exact e4)
  · by_cases m : j ∈ vs
    · rw [mi m] at e
      exact pk.en.exnM p2.st.mono j x e
    · rw [mend_out m] at e
      rw [← st2 m]
      exact p2.en.exn j x e
  · by_cases m : j ∈ vs
    · rw [mi m] at e1; exact pk.ow p ⟨j, d, e1, e2⟩
    · rw [mend_out m] at e1
      obtain ⟨k, d2, h0, h1, h2⟩ := inB (p2.ow p ⟨j, d, e1, by rw [st2 m]; exact e2⟩)
      exact pk.ow p ⟨k, d2, h1, h2⟩
  · obtain ⟨s1, e1⟩ := pk.fil j s e
    by_cases m : j ∈ vs
    · exact ⟨s1, by rw [mi m]; exact e1⟩
    · rw [mend_out m]
      exact p2.fil j s1 (by rw [(b.same j (ntg m)).2, wipeE_out m]; exact e1)
  · rw [mend_len, l4]
/-- a turn of a comprehension by the evaluator -/
abbrev lcT (ef : En → Out Bool) (ee : En → Out Rv) (vs : List Nat) (one : Bool) (tg : List Nat) (ρi : En) (d : D) (a : List D × En) : Out (List D × En) := match bindT one tg d (wipeE a.2 vs) with
  | some ρ1 => (ef ρ1).bind fun k ρ2 => if k then (ee ρ2).bind fun r ρ3 => match fz ρ3 r with
      | some (x, ρ4) => if a.1.length < lim then .ok (a.1 ++ [x], mend vs ρi ρ4) ρ4 else .bad
      | none => .bad
    else .ok (a.1, mend vs ρi ρ2) ρ2
  | none => .bad
abbrev W0 : WW := fun _ _ _ _ => False
/-- the comprehension by the evaluator -/
abbrev eLc (ei : En → Out Sr) (ef : En → Out Bool) (ee : En → Out Rv) (own : List (Str × Nat)) (one : Bool) (tg : List Nat) : En → Out Rv := fun ρ => (ei ρ).bind fun s ρ => match s with
    | .fix l => match turns (fun d a => lcT ef ee (own.map (·.2)) one tg ρ d a) (·.2) l ([], ρ) with
      | .ok a ρ => .ok (.tmp (.lst a.1)) ρ
      | .er _ _ => .bad
      | .bad => .bad
    | .dyn _ => .bad
theorem k_lc {ei : En → Out Sr} {ef : En → Out Bool} {ee : En → Out Rv} {own : List (Str × Nat)} {one : Bool} {tg : List Nat} (htg : ∀ i ∈ tg, i ∈ own.map (·.2)) : ∀ (σ : L2.St) (H : Hp) (Q : VK), tev X.K X.mG W (eLc ei ef ee own one tg) σ H Q →
    tLc (tit X.K X.mG W ei) (gT X.K one tg) (ttv X.K X.mG W0 ef) (tev X.K X.mG W0 ee) (own.map (·.2)) σ H Q := fun σ H Q ⟨F, ρ, en, h⟩ => by
  dsimp only [eLc] at h
  refine ⟨F, ρ, en, ?_⟩
  cases q : ei ρ with
  | bad => rw [q] at h; exact h.elim
  | er x ρ1 => rw [q] at h; exact fun cl d F1 H1 p1 x1 => h cl d F1 H1 p1 x1
  | ok s ρi =>
    rw [q] at h
    intro J F1 H1 p1 fd Dd nD
    cases s with
    | dyn i => exact h.elim
    | fix l =>
      have h : FinE X.K X.mG W F H σ ρ Q (match turns (fun d a => lcT ef ee (own.map (·.2)) one tg ρi d a) (·.2) l ([], ρi) with
        | .ok a ρ => .ok (.tmp (.lst a.1)) ρ
        | .er _ _ => .bad
        | .bad => .bad) := h
      obtain ⟨I, i0, imono, feed⟩ := fd
      have hD : H Dd = none := p1.st.al Dd nD
      refine ⟨fun k m Hk => m = l.length - k ∧ k ≤ l.length ∧ ∃ (Fk : Hp) (acc : List D) (ρk : En) (xs : List V), Po X.K X.mG F H σ ρ Fk Hk ρk ∧ I Fk ∧ Hk Dd = some (.lst xs) ∧ RelL X.K X.mG Fk xs acc ∧ Fk Dd = none ∧ (∀ j ∈ own.map (·.2), ρk.at j = ρi.at j) ∧ ρk.length = ρi.length ∧
        FinE X.K X.mG W F H σ ρ Q (match turns (fun d a => lcT ef ee (own.map (·.2)) one tg ρi d a) (·.2) (l.drop k) (acc, ρk) with
          | .ok a ρ => .ok (.tmp (.lst a.1)) ρ
          | .er _ _ => .bad
          | .bad => .bad), ⟨l.length, by simp, Nat.zero_le _, F1, [], ρi, [], ?_, i0, upd_same, .nil, p1.en.sub.none nD, fun _ _ => rfl, rfl, h⟩, ?_⟩
      · exact (Grow.tmp p1.en.sub nD).po p1
      · rintro k m Hk ⟨rfl, hk, Fk, acc, ρk, xs, pk, ik, hDk, rk, fDk, same, lenk, hk2⟩
        have nOwn : ¬ Own σ ρk Dd := fun z => en.own_some (pk.ow Dd z) hD
        by_cases hlt : k < l.length
        · right
          obtain ⟨go, yld⟩ := (feed Fk Hk k ik pk.en.sub).1 l[k] (List.getElem?_eq_getElem hlt)
          rw [List.drop_eq_getElem_cons hlt] at hk2
          simp only [turns] at hk2
          refine ⟨go, fun H' => ∃ m', m' < l.length - k ∧ (m' = l.length - (k + 1) ∧ k + 1 ≤ l.length ∧ ∃ (Fk : Hp) (acc : List D) (ρk : En) (xs : List V), Po X.K X.mG F H σ ρ Fk H' ρk ∧ I Fk ∧ H' Dd = some (.lst xs) ∧ RelL X.K X.mG Fk xs acc ∧ Fk Dd = none ∧ (∀ j ∈ own.map (·.2), ρk.at j = ρi.at j) ∧ ρk.length = ρi.length ∧
            FinE X.K X.mG W F H σ ρ Q (match turns (fun d a => lcT ef ee (own.map (·.2)) one tg ρi d a) (·.2) (l.drop (k + 1)) (acc, ρk) with
              | .ok a ρ => .ok (.tmp (.lst a.1)) ρ
              | .er _ _ => .bad
              | .bad => .bad)), fun H' z => z, fun x H' hy => ?_⟩
          obtain ⟨F', gr, rd⟩ := yld x H' hy
          have pk' := gr.po pk
          obtain ⟨enw, oww⟩ := pk'.en.wipe (own.map (·.2))
          -- the target
          simp only [lcT] at hk2
          cases eb : bindT one tg l[k] (wipeE ρk (own.map (·.2))) with
          | none => rw [eb] at hk2; exact hk2.elim
          | some ρ1 =>
            rw [eb] at hk2
            dsimp only at hk2
            refine bnd_of enw rd eb fun σ2 b => ?_
            have hw : wipe σ2 (own.map (·.2)) = wipe σ (own.map (·.2)) := wipe_eq (by rw [b.len, wipe_length]) fun j nj => by
              rw [b.raw j fun m => nj (htg j m), wipe_out nj]
            refine ⟨hw, ?_⟩
            -- the new list stands through the block
            have DO : ¬ Own σ2 ρ1 Dd := fun z => by
              obtain ⟨i, d2, _, h1, h2⟩ := oww Dd (b.ow Dd z)
              exact nOwn ⟨i, d2, h1, h2⟩
            have D' : H' Dd = some (.lst xs) := gr.keep Dd _ hDk
            have fD' : F' Dd = none := gr.no Dd _ hDk fDk
            cases qf : ef ρ1 with
            | bad =>
              rw [qf] at hk2
              exact hk2.elim
            | er x2 ρ2 =>
              rw [qf] at hk2
              exact hk2.elim
            | ok kb ρ2 =>
              rw [qf] at hk2
              refine ⟨F', ρ1, b.en, ?_⟩
              rw [qf]
              intro kb' F3 H3 p3 ek
              subst ek
              cases kb' with
              | false =>
                rw [if_neg Bool.false_ne_true]
                obtain ⟨pb, lb, sb⟩ := blk_back pk' b htg p3 same lenk
                obtain ⟨l1, l2⟩ := p3.st.keep Dd _ D' DO
                exact ⟨l.length - (k + 1), by omega, rfl, hlt, F3, acc, _, xs, pb, imono _ _ (gr.mono.trans p3.st.mono) ik, l1, (rk.mono gr.mono).mono p3.st.mono, l2 fD', sb, lb, hk2⟩
              | true =>
                rw [if_pos rfl]
                dsimp only [Out.bind] at hk2
                rw [if_pos rfl] at hk2
                cases qe : ee ρ2 with
                | bad => rw [qe] at hk2; exact hk2.elim
                | er x2 ρ3 => rw [qe] at hk2; exact hk2.elim
                | ok r ρ3 =>
                  rw [qe] at hk2
                  refine ⟨F3, ρ2, p3.en, ?_⟩
                  rw [qe]
                  intro y F4 H4 p4 ry
                  dsimp only at hk2
                  cases qz : fz ρ3 r with
                  | none => rw [qz] at hk2; exact hk2.elim
                  | some w =>
                    obtain ⟨xd, ρ4⟩ := w
                    rw [qz] at hk2
                    simp only at hk2
                    by_cases hz : acc.length < lim
                    · rw [if_pos hz] at hk2
                      have p34 := p3.trans p4
                      obtain ⟨F5, p5, k5, r5⟩ := fz_of p34 (ry.base p3.st.al).w qz
                      obtain ⟨pb, lb, sb⟩ := blk_back pk' b htg p5 same lenk
                      obtain ⟨l1, l2⟩ := p5.st.keep Dd _ D' DO
                      have pD : Po X.K X.mG F H σ ρ F5 (upd H4 Dd (.lst (xs ++ [y]))) (mend (own.map (·.2)) ρi ρ4) := by
                        have nO : ∀ j d q, (mend (own.map (·.2)) ρi ρ4).at j = some (.own d) → stAt σ j = some (.ref q) → q ≠ Dd := fun j d q e1 e2 z => by
                          subst z
                          exact en.own_some (pb.ow _ ⟨j, d, e1, e2⟩) hD
                        refine ⟨⟨pb.st.mono, fun a o e n => ?_, fun a e => ?_⟩, ⟨pb.en.len, fun a u e => ?_, pb.en.val, fun j d e => ?_, pb.en.inj, pb.en.exn⟩, pb.ow, pb.fil⟩
                        · obtain ⟨m1, m2⟩ := pb.st.keep a o e n
                          exact ⟨by rw [upd_ne (ne_of_none e hD)]; exact m1, m2⟩
                        · by_cases z : a = Dd
                          · subst z; exact hD
                          · rw [upd_ne z] at e; exact pb.st.al a e
                        · have z : a ≠ Dd := by intro z; subst z; rw [l2 fD'] at e; cases e
                          rcases pb.en.sub a u e with w | ⟨lk, ob, w⟩
                          · exact .inl (by rw [upd_ne z]; exact w)
                          · exact .inr ⟨lk, ob, by rw [upd_ne z]; exact w⟩
                        · obtain ⟨q, e1, f1, o1⟩ := pb.en.own j d e
                          exact ⟨q, e1, f1, o1.at .refl (upd_ne (nO j d q e e1))⟩
                      have ra : RelL X.K X.mG F5 (xs ++ [y]) (acc ++ [xd]) := (((rk.mono gr.mono).mono p5.st.mono)).append (.cons r5 .nil)
                      refine ⟨xs, l1, ?_, l.length - (k + 1), by omega, rfl, hlt, F5, acc ++ [xd], _, xs ++ [y], pD, imono _ _ (gr.mono.trans p5.st.mono) ik, upd_same, ra, l2 fD', sb, lb, hk2⟩
                      rw [rk.length, ← lim_eq]; exact hz
                    · rw [if_neg hz] at hk2; exact hk2.elim
        · left
          have ek : k = l.length := by omega
          subst ek
          rw [List.drop_length] at hk2
          refine ⟨(feed Fk Hk l.length ik pk.en.sub).2 (Nat.le_refl _), hk2 (.ref Dd) Fk Hk pk ⟨Dd, rfl, hD, fDk, ⟨xs, hDk, rk⟩, nOwn⟩⟩
theorem l_lc {ei : En → Out Sr} {ef : En → Out Bool} {ee : En → Out Rv} {own : List (Str × Nat)} {one : Bool} {tg : List Nat} {scope : Scope} (hc : X.calm = true) (nd : X.N.Nodup) (hi : PI X tg' it' (tit X.K X.mG W ei)) (ok : BlkOk X.N X.env.scope scope own)
    (htg : ∀ i ∈ tg, i ∈ own.map (·.2))
    (hg : ∀ (s : Shared) (H : Hp) (C : Addr) (cl : List (Str × Addr)) (fp : List Addr), PG (X.blk s H scope (compEnvC scope cl C X.env) fp) tg' (gT X.K one tg))
    (ht : ∀ (s : Shared) (H : Hp) (C : Addr) (cl : List (Str × Addr)) (fp : List Addr), PTs (X.blk s H scope (compEnvC scope cl C X.env) fp) ifs' (ttv X.K X.mG W0 ef))
    (he : ∀ (s : Shared) (H : Hp) (C : Addr) (cl : List (Str × Addr)) (fp : List Addr), PE (X.blk s H scope (compEnvC scope cl C X.env) fp) e' (tev X.K X.mG W0 ee)) (hs : noset it' = true) :
    PE X (.ListComp e' [⟨tg', it', ifs', 0⟩] scope pos) (tev X.K X.mG W (eLc ei ef ee own one tg)) :=
  PE.imp (pe_lc hc nd hi ok hg ht he (by intro x; cases it' <;> first | rfl | cases hs)) (k_lc htg)
end
end Mp

/-! Mp15: the check of an expression, and that it is enough. -/
namespace Mp
open PySem L2 PyProof.Rows
def noEnv (sc : Scope) : Env := { scope := sc, locals := 0, globals := 0, cells := [], qual := ⟨#[]⟩, func := none, code := .none, frame := none, builtins := 0 }
def relb (scope sc : Scope) : Scope := relabel scope (noEnv sc)
/-- a name that may be stored -/
def stoB (sc : Scope) (fnb : Str → Bool) (x : Str) : Bool := sc.names.lookup x == some .local || (sc.names.lookup x == some .cell && fnb x)
def ckNm (N : List Str) (sc : Scope) (fnb : Str → Bool) (i : Nat) : Expr → Bool
  | .Name x _ => decide (N[i]? = some x) && stoB sc fnb x
  | _ => false
def ckNms (N : List Str) (sc : Scope) (fnb : Str → Bool) : List Nat → List Expr → Bool
  | [], [] => true
  | i :: is, e :: es => ckNm N sc fnb i e && ckNms N sc fnb is es
  | _, _ => false
def ckTg (N : List Str) (sc : Scope) (fnb : Str → Bool) (one : Bool) (tg : List Nat) (e : Expr) : Bool :=
  if one then match tg with
    | [i] => ckNm N sc fnb i e
    | _ => false
  else match e with
    | .Tuple es _ _ => ckNms N sc fnb tg es
    | _ => false
def cmpOf (neg : Bool) : CmpOp := if neg then .IsNot else .Is
def bopOf (k : Bool) : BoolOp := if k then .And else .Or
/-- the name of a class of exceptions -/
def xnE (g : Gs) (sc : Scope) (B : Str) : Expr → Bool
  | .Name x _ => x == B && glB sc x && dbgB x && decide (B ∈ g.xn)
  | _ => false
def xnsE (g : Gs) (sc : Scope) : List Str → List Expr → Bool
  | [], [] => true
  | t :: ts, e :: es => xnE g sc t e && xnsE g sc ts es
  | _, _ => false
def xisE (g : Gs) (sc : Scope) (ts : List Str) (one : Bool) (e : Expr) : Bool :=
  if one then match ts with
    | [t] => xnE g sc t e
    | _ => false
  else match e with
    | .Tuple es _ _ => xnsE g sc ts es && !ts.isEmpty && decide (ts.length ≤ 100)
    | _ => false
/-- a call's arguments: all by place, or all by keyword -/
def kwArgs (es : List Expr) : List Keyword → List Expr
  | [] => es
  | kws => kws.map (·.value)
/-- the keys of a dict's display -/
def ckK : Key → Option Expr → Bool
  | .inl i, some (.Constant (.int j) _ _) => i == j
  | .inr s, some (.Constant (.str t) _ _) => s == t
  | _, _ => false
def ckKs : List Key → List (Option Expr) → Bool
  | [], [] => true
  | k :: ks, e :: es => ckK k e && ckKs ks es
  | _, _ => false
mutual
def ckE (g : Gs) (N : List Str) (sc : Scope) : Ex → Expr → Bool
  | .var i, e => match e with
    | .Name x _ => decide (N[i]? = some x) && visB sc x && dbgB x
    | _ => false
  | .con d, e => match e with
    | .Constant k _ _ => ckC d k
    | _ => false
  | .gl k, e => match e with
    | .Name x _ => (match g.con[k]? with | some p => p.1 == x | none => false) && glB sc x && dbgB x
    | _ => false
  | .bin o a b, e => match e with
    | .BinOp a' o' b' _ => decide (o' = o.op) && ckE g N sc a a' && ckE g N sc b b'
    | _ => false
  | .cmp o a b, e => match e with
    | .Compare a' [o'] [b'] _ => decide (o' = o.op) && ckE g N sc a a' && ckE g N sc b b' && noset b'
    | _ => false
  | .chn o o2 a b d, e => match e with
    | .Compare a' [o', o2'] [b', d'] _ => decide (o' = o.op) && decide (o2' = o2.op) && ckE g N sc a a' && ckE g N sc b b' && ckE g N sc d d' && noset d'
    | _ => false
  | .isn neg a, e => match e with
    | .Compare a' [o'] [.Constant .none _ _] _ => decide (o' = cmpOf neg) && ckE g N sc a a'
    | _ => false
  | .neg a, e => match e with
    | .UnaryOp .USub a' _ => ckE g N sc a a'
    | _ => false
  | .not a, e => match e with
    | .UnaryOp .Not a' _ => ckE g N sc a a'
    | _ => false
  | .and l, e => match e with
    | .BoolOp .And es _ => cks g N sc l es
    | _ => false
  | .or l, e => match e with
    | .BoolOp .Or es _ => cks g N sc l es
    | _ => false
  | .ife t a b, e => match e with
    | .IfExp t' a' b' _ => ckT g N sc t t' && ckE g N sc a a' && ckE g N sc b b'
    | _ => false
  | .tup l, e => match e with
    | .Tuple es _ _ => cks g N sc l es && es.all nost
    | _ => false
  | .lst l, e => match e with
    | .List es _ => cks g N sc l es && es.all nost
    | _ => false
  | .ix a b, e => match e with
    | .Subscript a' b' _ => ckE g N sc a a' && ckE g N sc b b' && noslice b'
    | _ => false
  | .sl a lo hi, e => match e with
    | .Subscript a' (.Slice lo' hi' none _) _ => ckE g N sc a a' && ckO g N sc lo lo' && ckO g N sc hi hi'
    | _ => false
  | .fld a f, e => match e with
    | .Attribute a' f' _ => decide (f' = f) && ckE g N sc a a' && nocall0 a'
    | _ => false
  | .cal f l, e => match e with
    | .Call (.Name x _) es kws _ => (match g.fd[f]? with | some d => d.cl.isNone && (x == d.nm) && (kws.isEmpty || (es.isEmpty && kwNames kws d.ps)) | none => false) && glB sc x && dbgB x && cks g N sc l (kwArgs es kws) && (kwArgs es kws).all nost
    | _ => false
  | .met C f a l, e => match e with
    | .Call (.Attribute a' m apos) es [] pos => (match g.fd[f]? with | some d => decide (d.cl = some C) && (m == d.nm) && !(m == ("__init__" : Str)) | none => false) && ckE g N sc a a' && nocall0 a' && cks g N sc l es && es.all nost && decide (es.length < 30) && (apos.endLine == pos.line)
    | _ => false
  | .mak C f l, e => match e with
    | .Call (.Name x _) es kws _ => (match g.fd[f]? with | some d => decide (d.cl = some C) && (d.nm == ("__init__" : Str)) && (kws.isEmpty || (es.isEmpty && kwNames kws (d.ps.drop 1))) | none => false) && (x == C) && glB sc x && dbgB x && cks g N sc l (kwArgs es kws) && (kwArgs es kws).all nost && !(kwArgs es kws).isEmpty
    | _ => false
  | .bi b l, e => match e with
    | .Call (.Name x _) es [] _ => (x == b.nm) && decide (x ∈ g.free) && glB sc x && cks g N sc l es && es.all nost && !es.isEmpty
    | _ => false
  | .isi a ts one, e => match e with
    | .Call (.Name x _) [a', t'] [] _ => (x == ("isinstance" : Str)) && decide (x ∈ g.free) && glB sc x && ckE g N sc a a' && nost a' && isiE g sc ts one t'
    | _ => false
  | .me m a l, e => match e with
    | .Call (.Attribute a' m' apos) es [] pos => (m' == m.nm) && ckE g N sc a a' && nocall0 a' && cks g N sc l es && es.all nost && decide (es.length < 30) && (apos.endLine == pos.line) && !es.isEmpty
    | _ => false
  | .mu m i l, e => match e with
    | .Call (.Attribute (.Name x _) m' apos) es [] pos => (m' == m.nm) && decide (N[i]? = some x) && visB sc x && dbgB x && cks g N sc l es && es.all nost && decide (es.length < 30) && (apos.endLine == pos.line) && (m.zero == es.isEmpty)
    | _ => false
  | .lc e own it tg one ifs, e' => match e' with
    | .ListComp b [⟨t', it', ifs', ia⟩] scope _ => ia == 0 && blkC N sc scope own && (tg.all fun i => decide (i ∈ own.map (·.2))) && noset it' && ckI g N sc it it' t' && ckTg N (relb scope sc) (fun x => scope.names.lookup x == some .cell) one tg t' &&
        ckF g N (relb scope sc) ifs ifs' && ckE g N (relb scope sc) e b
    | _ => false
  | .xf i f, e => match e with
    | .Attribute (.Name x _) f' _ => decide (f' = f) && decide (N[i]? = some x) && visB sc x && dbgB x
    | _ => false
  | .xi i ts one, e => match e with
    | .Call (.Name y _) [.Name x _, t'] [] _ => (y == ("isinstance" : Str)) && decide (y ∈ g.free) && glB sc y && decide (N[i]? = some x) && visB sc x && dbgB x && xisE g sc ts one t'
    | _ => false
  | .calx f i, e => match e with
    | .Call (.Name x _) [.Name y _] [] _ => (match g.fd[f]? with | some d => d.cl.isNone && (x == d.nm) && decide (d.ps.length = 1) | none => false) && glB sc x && dbgB x && decide (N[i]? = some y) && visB sc y && dbgB y
    | _ => false
  | .lch e own a i, e' => match e' with
    | .ListComp b [⟨t', it', [], ia⟩] scope _ => ia == 0 && blkC N sc scope own && decide (i ∈ own.map (·.2)) && noset it' && ckE g N sc a it' && ckNm N (relb scope sc) (fun x => scope.names.lookup x == some .cell) i t' && ckE g N (relb scope sc) e b
    | _ => false
  | .dd ks l, e => match e with
    | .Dict keys values _ => ckKs ks keys && cks g N sc l values && decide (keys.length = values.length) && decide (ks.length ≤ 15) && decide ks.Nodup
    | _ => false
  | .qme m a b, e => match e with
    | .Call (.Attribute a' m' apos) [b'] [] pos => (m' == m.nm) && ckE g N sc a a' && nocall0 a' && ckE g N sc b b' && nost b' && (apos.endLine == pos.line)
    | _ => false
  | .rev t a, e => match e with
    | .Call (.Name x _) [.Call (.Name y _) [a'] [] _] [] _ => (x == revN t) && (y == ("reversed" : Str)) && decide (x ∈ g.free) && decide (y ∈ g.free) && glB sc x && glB sc y && ckE g N sc a a' && nost a'
    | _ => false
  | .lrg1 b, e => match e with
    | .Call (.Name x _) [.Call (.Name y _) [b'] [] _] [] _ => (x == ("list" : Str)) && (y == ("range" : Str)) && decide (x ∈ g.free) && decide (y ∈ g.free) && glB sc x && glB sc y && ckE g N sc b b' && nost b'
    | _ => false
  | .lrg2 a b, e => match e with
    | .Call (.Name x _) [.Call (.Name y _) [a', b'] [] _] [] _ => (x == ("list" : Str)) && (y == ("range" : Str)) && decide (x ∈ g.free) && decide (y ∈ g.free) && glB sc x && glB sc y && ckE g N sc a a' && nost a' && ckE g N sc b b' && nost b'
    | _ => false
  | .bad, _ => true
def ckT (g : Gs) (N : List Str) (sc : Scope) : Te → Expr → Bool
  | .va a, e => match a with
    | .cmp _ _ _ => ckE g N sc a e
    | .chn _ _ _ _ _ => ckE g N sc a e
    | .isn _ _ => ckE g N sc a e
    | _ => ckE g N sc a e && plainT e
  | .no t, e => match e with
    | .UnaryOp .Not t' _ => ckT g N sc t t'
    | _ => false
  | .an l, e => match e with
    | .BoolOp .And es _ => ckTs g N sc l es
    | _ => false
  | .or l, e => match e with
    | .BoolOp .Or es _ => ckTs g N sc l es
    | _ => false
def ckTs (g : Gs) (N : List Str) (sc : Scope) : Tes → List Expr → Bool
  | .nil, es => es.isEmpty
  | .cons t l, es => match es with
    | e :: es => ckT g N sc t e && ckTs g N sc l es
    | [] => false
def cks (g : Gs) (N : List Str) (sc : Scope) : Exs → List Expr → Bool
  | .nil, es => es.isEmpty
  | .cons t l, es => match es with
    | e :: es => ckE g N sc t e && cks g N sc l es
    | [] => false
def ckO (g : Gs) (N : List Str) (sc : Scope) : Oe → Option Expr → Bool
  | .no, e => e.isNone
  | .so a, e => match e with
    | some e => ckE g N sc a e
    | none => false
def ckF (g : Gs) (N : List Str) (sc : Scope) : Ot → List Expr → Bool
  | .no, e => e.isEmpty
  | .so a, e => match e with
    | [e] => ckT g N sc a e
    | _ => false
def ckI (g : Gs) (N : List Str) (sc : Scope) : It → Expr → Expr → Bool
  | .one a, e, _ => ckE g N sc a e
  | .rng1 a, e, _ => match e with
    | .Call (.Name x _) [a'] [] _ => (x == ("range" : Str)) && decide (x ∈ g.free) && glB sc x && ckE g N sc a a' && nost a'
    | _ => false
  | .rng2 a b, e, _ => match e with
    | .Call (.Name x _) [a', b'] [] _ => (x == ("range" : Str)) && decide (x ∈ g.free) && glB sc x && ckE g N sc a a' && nost a' && ckE g N sc b b' && nost b'
    | _ => false
  | .zip _ _, _, _ => false
  | .enu _, _, _ => false
end
theorem cks_cons {g : Gs} {N : List Str} {sc : Scope} {t : Ex} {l : Exs} {e : Expr} {es : List Expr} : cks g N sc (.cons t l) (e :: es) = (ckE g N sc t e && cks g N sc l es) := by simp only [cks]
theorem ckTs_cons {g : Gs} {N : List Str} {sc : Scope} {t : Te} {l : Tes} {e : Expr} {es : List Expr} : ckTs g N sc (.cons t l) (e :: es) = (ckT g N sc t e && ckTs g N sc l es) := by simp only [ckTs]
end Mp

/-! Mp22: of the exception that a suite holds: fields, isinstance. -/
namespace Mp
open PySem L2 PyProof.Rows
section
variable {c : Cc} {n : Nat} {ad : Nat → Addr} {fdt : Nat → FuncData} {X : Cx} {W : WW} {t' : Expr} {pos : Pos}
theorem Gs.xd_mem {g : Gs} {C : Str} {x : Xd} (h : g.xd C = some x) : x ∈ g.xc ∧ x.C = C := by
  unfold Gs.xd at h
  refine ⟨List.mem_of_find?_eq_some h, ?_⟩
  have := List.find?_some h
  exact eq_of_beq this
/-- the pinned exception -/
theorem pin_exn (ok : XOk c n ad fdt X W) {F H : Hp} {σ : L2.St} {ρ : En} (en : EnvR X.K X.mG F H σ ρ) {i : Nat} {x : Xn} (e : ρ.at i = some (.exn x)) :
    ∃ (p : Addr × Obj) (r : List (Addr × Obj)) (dd : Addr) (fs : List (Str × V)), X.pn = p :: r ∧ PySem.W.notCls p.2 = true ∧ stAt σ i = some (.ref p.1) ∧ X.mg x.C = some p.2.cls ∧ p.2.dict = some dd ∧ F dd = some (.xd fs) ∧ fs.map (·.1) = x.fs ∧ RelL X.K X.mG F (fs.map (·.2)) x.vs := by
  obtain ⟨a, cl, d, h1, h2, h3, dd, fs, h4, h5, h6, h7⟩ := en.exn i x e
  have h1' : cond X.calm none (pinX X.pn) = some (a, cl, d) := h1
  cases q : X.calm with
  | true => rw [q] at h1'; cases h1'
  | false =>
    rw [q] at h1'
    cases q2 : X.pn with
    | nil => rw [q2] at h1'; cases h1'
    | cons p r =>
      rw [q2] at h1'
      have h1'' : (match p.2.data with | .fields _ => some (p.1, p.2.cls, p.2.dict) | _ => none) = some (a, cl, d) := h1'
      split at h1''
      · rename_i vs hd
        have z : (p.1, p.2.cls, p.2.dict) = (a, cl, d) := Option.some.inj h1''
        cases z
        exact ⟨p, r, dd, fs, rfl, by unfold PySem.W.notCls; rw [hd], h2, h3, h4, h5, h6, h7⟩
      · cases h1''
theorem stAt_get {σ : L2.St} {i : Nat} {v : V} (hs : stAt σ i = some v) : σ[i]? = some (some v) := by
  unfold stAt at hs
  cases q : σ[i]? with
  | none => rw [q] at hs; cases hs
  | some o => rw [q] at hs; exact congrArg some hs
theorem l_xf (ok : XOk c n ad fdt X W) {i : Nat} {f y : Str} {p : Pos} (hN : X.N[i]? = some y) (hv : visB X.env.scope y = true) (hdb : dbgB y = true) : PE X (.Attribute (.Name y p) f pos) (tev X.K X.mG W (ev c (.xf i f))) := by
  unfold dbgB at hdb
  simp only [Bool.and_eq_true, Bool.not_eq_true'] at hdb
  refine ⟨fun pins s σ H Q I ⟨F, ρ, en, h⟩ => ?_⟩
  simp only [ev] at h
  cases e : ρ.at i with
  | none => rw [e] at h; exact h.elim
  | some sl =>
    cases sl with
    | val d => rw [e] at h; exact h.elim
    | own d => rw [e] at h; exact h.elim
    | exn x =>
      rw [e] at h
      dsimp only at h
      cases e2 : (x.fs.zip x.vs).lookup f with
      | none => rw [e2] at h; exact h.elim
      | some d =>
        rw [e2] at h
        dsimp only at h
        split at h
        · rename_i xd hxd
          split at h
          · rename_i hx
            obtain ⟨m1, m2⟩ := Gs.xd_mem hxd
            obtain ⟨Ca, k1, k2, k3, _⟩ := ok.g.xcs xd m1
            obtain ⟨q, r, dd, fs, j1, nc, j2, j3, j4, j5, j6, j7⟩ := pin_exn ok en e
            rw [m2] at k1
            have ec : q.2.cls = .ref Ca := Option.some.inj (j3.symm.trans k1)
            refine attr_of (base_of (o := .Name y p) rfl) (thn ((pe_var hN (vis_of hv) hdb.1.1 hdb.1.2).run pins s σ H (fun v H' => v = .ref q.1 ∧ H' = H) I ⟨_, stAt_get j2, rfl, rfl⟩) fun u s1 hh => ?_)
            obtain ⟨v, H1, I1, rv, ev', eh⟩ := hh
            subst ev'; subst eh
            obtain rfl : u = Value.ref q.1 := rv
            have hdd : H1 dd = some (.xd fs) := en.sub.xd j5
            obtain ⟨ha, _, _, _, _⟩ := I1.pin q (List.mem_append_left _ (by rw [j1]; exact List.mem_cons_self))
            have hx' : ObjOk X.prog X.w H1 s1.heap dd (.xd fs) := I1.hok dd _ hdd
            obtain ⟨mA, hns, hr⟩ := hx'
            obtain ⟨od, ho, hl⟩ := lookIn_ns hns
            obtain ⟨w, ew, rw'⟩ := lookup_rel (fs := fs) (ds := x.vs) j7 (by rw [← j6] at e2; exact e2)
            obtain ⟨u, hu, ru⟩ := RelO.some_of (v := w) (o := mA f) (by rw [← ew]; exact hr f)
            have J : PySem.W.InstAt s1.heap q.1 q.2 Ca (some od) := ⟨ha, ec, nc, by rw [j4]; exact ho⟩
            have hff : f ∈ xd.fs := of_decide_eq_true hx
            exact HandSPX.exc_get I1.kIn J k2.ga k2.gt k2.sub (PySem.W.findObj_own k2.hd (k3 f hff) rfl (by rw [hl, hu])) (handed_of ru) ⟨w, H1, I1.tok _, ru, h w F H1 (.refl en) rw'⟩
          · exact h.elim
        · exact (show FinE X.K X.mG W F H σ ρ Q .bad from h).elim
/-- the classes that are named -/
inductive XnVs (mg : Str → Option Value) : List Str → List V → List Value → Prop
  | nil : XnVs mg [] [] []
  | cons {B : Str} {Bs : List Str} {v : V} {vs : List V} {u : Value} {us : List Value} : XnV mg B u → (∀ w, RelV v w → w = u) → RelV v u → XnVs mg Bs vs us → XnVs mg (B :: Bs) (v :: vs) (u :: us)
theorem xn_pe (ok : XOk c n ad fdt X W) {B : Str} (h : xnE c.g X.env.scope B t' = true) (hm : ∃ v, XnV X.mg B v) : ∃ v u, XnV X.mg B u ∧ (∀ w, RelV v w → w = u) ∧ RelV v u ∧ PE X t' (tC v) ∧ nost t' = true := by
  cases t' with
  | Name x p =>
    simp only [xnE, Bool.and_eq_true, decide_eq_true_eq, beq_iff_eq] at h
    obtain ⟨⟨⟨h1, h2⟩, h3⟩, h4⟩ := h
    subst h1
    obtain ⟨u, hu | ⟨e1, e2, e3⟩⟩ := hm
    · obtain ⟨e1, a, e2⟩ := hu
      subst e2
      exact ⟨.ref a, .ref a, .inl ⟨e1, a, rfl⟩, fun w r => r, rfl, pe_glob (gl_of h2) e1 rfl (dbg_of h3).1, rfl⟩
    · subst e2 e3
      exact ⟨.ty "ValueError", .type "ValueError", .inr ⟨e1, rfl, rfl⟩, fun w r => r, rfl, pe_bltn (gl_of h2) e1 PyProof.Rows.Boot.«ValueError» rfl, rfl⟩
  | _ => simp [xnE] at h
theorem xns_pa (ok : XOk c n ad fdt X W) (hm : ∀ B ∈ c.g.xn, ∃ v, XnV X.mg B v) : ∀ {ts : List Str} {es : List Expr}, xnsE c.g X.env.scope ts es = true → ∃ vs us, XnVs X.mg ts vs us ∧ PA X es (fun _ H Q => Q vs H) ∧ ts.length = es.length
  | [], [], _ => ⟨[], [], .nil, pa_nil, rfl⟩
  | t :: ts, e :: es, h => by
    simp only [xnsE, Bool.and_eq_true] at h
    have ht : t ∈ c.g.xn := by
      have h1 := h.1
      cases e <;> simp [xnE] at h1
      exact h1.2
    obtain ⟨v, u, h1, h2, h3, h4, h5⟩ := xn_pe ok h.1 (hm t ht)
    obtain ⟨vs, us, k1, k2, k3⟩ := xns_pa ok hm h.2
    exact ⟨v :: vs, u :: us, .cons h1 h2 h3 k1, PA.imp (pa_cons h4 k2 (star_of h5)) fun _ _ _ q => q, by simp [k3]⟩
  | [], _ :: _, h => by simp [xnsE] at h
  | _ :: _, [], h => by simp [xnsE] at h
theorem XnVs.rel {mg : Str → Option Value} : ∀ {ts : List Str} {vs : List V} {us : List Value}, XnVs mg ts vs us → ∀ ws, Vals vs ws → ws = us
  | _, _, _, .nil, _, r => by cases r; rfl
  | _, _, _, .cons _ h _ t, _, r => by
    cases r with
    | cons r1 r2 => rw [h _ r1, t.rel _ r2]
theorem XnV.one {mg : Str → Option Value} {B : Str} {u v : Value} (h : XnV mg B u) (k : XnV mg B v) : u = v := by
  rcases h with ⟨h1, _⟩ | ⟨h1, _, h2⟩ <;> rcases k with ⟨k1, _⟩ | ⟨k1, _, k2⟩
  · exact Option.some.inj (h1.symm.trans k1)
  · rw [h1] at k1; cases k1
  · rw [h1] at k1; cases k1
  · rw [h2, k2]
theorem xm_kit (ok : XOk c n ad fdt X W) {C B : Str} {b : Bool} {Ca : Addr} {u : Value} (h : c.g.xm C B = some b) (hC : X.mg C = some (.ref Ca)) (hu : XnV X.mg B u) : PySem.W.kitOne X.K (.ref Ca) u = some b ∧ PySem.W.exmOne X.K (.ref Ca) u = some b := by
  unfold Gs.xm at h
  split at h
  · rename_i xd hxd
    split at h
    · rename_i hB
      cases h
      obtain ⟨m1, m2⟩ := Gs.xd_mem hxd
      obtain ⟨Ca', k1, k2, k3, k4⟩ := ok.g.xcs xd m1
      rw [m2, hC] at k1
      cases k1
      obtain ⟨v, e1, e2, e3⟩ := k4 B hB
      rw [hu.one e1]
      exact ⟨e3, e2⟩
    · cases h
  · cases h
theorem xms_kit (ok : XOk c n ad fdt X W) {C : Str} {Ca : Addr} (hC : X.mg C = some (.ref Ca)) : ∀ {ts : List Str} {vs : List V} {us : List Value} {b : Bool}, XnVs X.mg ts vs us → c.g.xms C ts = some b → PySem.W.kitAny X.K (.ref Ca) us = some b
  | _, _, _, b, .nil, h => h
  | B :: ts, _, _, b, .cons h1 _ _ t, h => by
    simp only [Gs.xms] at h
    unfold PySem.W.kitAny
    split at h
    · rename_i e
      rw [(xm_kit ok e hC h1).1]
      exact h
    · rename_i e
      rw [(xm_kit ok e hC h1).1]
      exact xms_kit ok hC t h
    · cases h
/-- isinstance(e, c), isinstance(e, (c, ..)) -/
def rXi (K : PySem.W.Frag) (a Ca dd : Addr) : List V → Hp → VK → Prop := fun xs H Q => ∃ (v : V) (fs : List (Str × V)), xs = [.ref a, v] ∧ H dd = some (.xd fs) ∧ ∃ b,
  ((∃ u, (∀ w, RelV v w → w = u) ∧ PySem.W.kitOne K (.ref Ca) u = some b) ∨ (∃ t vs us, v = .ref t ∧ H t = some (.tup vs) ∧ (∀ ws, Vals vs ws → ws = us) ∧ PySem.W.kitAny K (.ref Ca) us = some b)) ∧ Q (.bl b) H
theorem call_xi {q : Addr × Obj} {r : List (Addr × Obj)} {Ca dd : Addr} (hp : X.pn = q :: r) (nc : PySem.W.notCls q.2 = true) (ec : q.2.cls = .ref Ca) (ed : q.2.dict = some dd) (k : XcOk X.K Ca) : CallR X (.builtin "isinstance") (rXi X.K q.1 Ca dd) := by
  intro pins s σ H xs us Q I rr h
  obtain ⟨v, fs, rfl, hd, b, h, hq⟩ := h
  obtain ⟨u1, u2, rfl, r1, r2⟩ := vals2 rr
  obtain rfl : u1 = Value.ref q.1 := r1
  obtain ⟨ha, _, _, _, _⟩ := I.pin q (List.mem_append_left _ (by rw [hp]; exact List.mem_cons_self))
  obtain ⟨mA, hns, _⟩ := (show ObjOk X.prog X.w H s.heap dd (.xd fs) from I.hok dd _ hd)
  obtain ⟨od, ho, _⟩ := lookIn_ns hns
  have J : PySem.W.InstAt s.heap q.1 q.2 Ca (some od) := ⟨ha, ec, nc, by rw [ed]; exact ho⟩
  have Z := PySem.W.kitx_exc (x := q.1) (ox := q.2) (od := some od) k.cl k.ga k.gt k.sub k.ha k.hn k.htk k.hm
  rcases h with ⟨u, h1, h2⟩ | ⟨t, vs, ws, rfl, ht, h1, h3⟩
  · rw [h1 _ r2]
    exact PySem.W.kia_one Z I.kIn J h2 (fun z => nomatch z) fun tk => ⟨.bl b, H, I.tok tk, rfl, hq⟩
  · obtain rfl : u2 = Value.ref t := r2
    obtain ⟨_, its, rv, o, e1, e2, n, e3⟩ := (show ObjOk X.prog X.w H s.heap t (.tup vs) from I.hok t _ ht)
    have e4 := h1 _ rv
    subst e4
    obtain ⟨oc, od', dt, sl⟩ := o
    simp only at e2 e3
    subst e2 e3
    exact PySem.W.kia_tup Z I.kIn J e1 h3 (fun z => nomatch z) fun tk => ⟨.bl b, H, I.tok tk, rfl, hq⟩
theorem xm_xn {g : Gs} {C : Str} : ∀ {ts : List Str} {b : Bool}, g.xms C ts = some b → True := fun _ => trivial
theorem l_xi (ok : XOk c n ad fdt X W) {i : Nat} {y : Str} {p p2 : Pos} {ts : List Str} {one : Bool} (hf : ("isinstance" : Str) ∈ c.g.free) (hg : glB X.env.scope "isinstance" = true) (hN : X.N[i]? = some y) (hv : visB X.env.scope y = true) (hdb : dbgB y = true) (ht : xisE c.g X.env.scope ts one t' = true) :
    PE X (.Call (.Name "isinstance" p2) [.Name y p, t'] [] pos) (tev X.K X.mG W (ev c (.xi i ts one))) := by
  have hdb' := hdb
  unfold dbgB at hdb'
  simp only [Bool.and_eq_true, Bool.not_eq_true'] at hdb'
  have hm := ok.g.free _ hf
  refine ⟨fun pins s σ H Q I ⟨F, ρ, en, h⟩ => ?_⟩
  simp only [ev] at h
  cases e : ρ.at i with
  | none => rw [e] at h; exact h.elim
  | some sl =>
    cases sl with
    | val d => rw [e] at h; exact h.elim
    | own d => rw [e] at h; exact h.elim
    | exn x =>
      rw [e] at h
      dsimp only at h
      cases e2 : c.g.xms x.C ts with
      | none => rw [e2] at h; exact h.elim
      | some b =>
        rw [e2] at h
        have hQ : Q (.bl b) H := h (.bl b) F H (.refl en) (.bl b)
        obtain ⟨q, r, dd, fs, j1, nc, j2, j3, j4, j5, j6, j7⟩ := pin_exn ok en e
        unfold xisE at ht
        -- the class of the exception
        have cls : ts ≠ [] → ∃ Ca, q.2.cls = .ref Ca ∧ XcOk X.K Ca ∧ X.mg x.C = some (.ref Ca) ∧ ∀ B ∈ c.g.xn, ∃ v, XnV X.mg B v := fun hne => by
          cases ts with
          | nil => exact absurd rfl hne
          | cons B Bs =>
            simp only [Gs.xms] at e2
            cases q1 : c.g.xm x.C B with
            | none => rw [q1] at e2; cases e2
            | some bb =>
              unfold Gs.xm at q1
              split at q1
              · rename_i xd hxd
                obtain ⟨m1, m2⟩ := Gs.xd_mem hxd
                obtain ⟨Ca, k1, k2, k3, k4⟩ := ok.g.xcs xd m1
                rw [m2] at k1
                exact ⟨Ca, Option.some.inj (j3.symm.trans k1), k2, k1, fun B hB => let ⟨v, e1, _⟩ := k4 B hB; ⟨v, e1⟩⟩
              · cases q1
        have hxd : H dd = some (.xd fs) := en.sub.xd j5
        cases one with
        | true =>
          simp only [if_true] at ht
          cases ts with
          | nil => cases ht
          | cons B Bs =>
          cases Bs with
          | nil =>
            obtain ⟨Ca, k1, k2, k3, k4⟩ := cls (by simp)
            have hB : B ∈ c.g.xn := by cases t' <;> simp [xnE] at ht; exact ht.2
            obtain ⟨v, u, g1, g2, g3, g4, g5⟩ := xn_pe ok ht (k4 B hB)
            refine (pe_callB (call_xi j1 nc k1 j4 k2) (gl_of hg) hm (by decide +kernel) (pa_cons (pe_var hN (vis_of hv) hdb'.1.1 hdb'.1.2) (pa_cons g4 pa_nil (star_of g5)) (star_of rfl)) (by decide) (by decide) (star_of rfl) (any_of (by simp [g5]))).run pins s σ H Q I ?_
            have e3 : c.g.xm x.C B = some b := by
              simp only [Gs.xms] at e2
              split at e2
              · rename_i z; rw [z, e2]
              · rename_i z; rw [z, e2]
              · cases e2
            exact ⟨_, stAt_get j2, v, fs, rfl, hxd, b, .inl ⟨u, g2, (xm_kit ok e3 k3 g1).1⟩, hQ⟩
          | cons _ _ => cases ht
        | false =>
          simp only [Bool.false_eq_true, if_false] at ht
          split at ht
          · rename_i es kk pt
            simp only [Bool.and_eq_true, Bool.not_eq_true', decide_eq_true_eq] at ht
            obtain ⟨⟨ht1, ht2⟩, ht3⟩ := ht
            obtain ⟨Ca, k1, k2, k3, k4⟩ := cls (by intro z; subst z; simp at ht2)
            obtain ⟨vs, us, g1, g2, g3⟩ := xns_pa ok k4 ht1
            have hlen : vs.length = ts.length := by
              have : ∀ {ts : List Str} {vs : List V} {us : List Value}, XnVs X.mg ts vs us → vs.length = ts.length := by
                intro ts vs us q
                induction q with
                | nil => rfl
                | cons _ _ _ _ ih => simp [ih]
              exact this g1
            refine (pe_callB (call_xi j1 nc k1 j4 k2) (gl_of hg) hm (by decide +kernel) (pa_cons (pe_var hN (vis_of hv) hdb'.1.1 hdb'.1.2) (pa_cons (pe_tup g2) pa_nil (star_of rfl)) (star_of rfl)) (by decide) (by decide) (star_of rfl) (any_of (by simp [nost]))).run pins s σ H Q I ?_
            refine ⟨_, stAt_get j2, by rw [hlen]; have := ht3; rw [sizeLine_eq]; omega, fun tp ntp => ?_⟩
            have gr := Grow.tmp (o := .tup vs) en.sub ntp
            exact ⟨.ref tp, fs, rfl, by rw [upd_ne (ne_of_none hxd ntp)]; exact hxd, b, .inr ⟨tp, vs, us, rfl, upd_same, fun ws r => g1.rel ws r, xms_kit ok k3 g1 e2⟩, h (.bl b) F _ (gr.po (.refl en)) (.bl b)⟩
          · cases ht
end
end Mp

/-! Mp29: a def called with the exception; comprehensions where one is handled; dict displays. -/
namespace Mp
open PySem L2 PyProof.Rows
section
variable {c : Cc} {n : Nat} {ad : Nat → Addr} {fdt : Nat → FuncData} {X : Cx} {W : WW} {a' e' t' : Expr} {es' : List Expr} {pos : Pos}
/-- what a call of things of its own leaves -/
theorem Po.alien {K : PySem.W.Frag} {mg : MG} {F H F' H' : Hp} {σ σ1 : L2.St} {ρ ρ1 ρ1' : En} (q : Po K mg F H σ1 ρ1 F' H' ρ1') (no : ∀ p, ¬ Own σ1 ρ1 p) (en : EnvR K mg F H σ ρ) : Po K mg F H σ ρ F' H' ρ := by
  refine ⟨⟨q.st.mono, fun a o e _ => q.st.keep a o e (no a), q.st.al⟩, ⟨en.len, q.en.sub, fun i d e => ?_, fun i d e => ?_, en.inj, en.exnM q.st.mono⟩, fun _ z => z, fun _ s e => ⟨s, e⟩⟩
  · obtain ⟨v, e1, r⟩ := en.val i d e
    exact ⟨v, e1, r.mono q.st.mono⟩
  · obtain ⟨p, e1, f, o⟩ := en.own i d e
    obtain ⟨u, hu⟩ := o.obj
    obtain ⟨l1, l2⟩ := q.st.keep p u hu (no p)
    exact ⟨p, e1, l2 f, o.at q.st.mono (l1.trans hu.symm)⟩
theorem l_calx (ok : XOk c n ad fdt X W) {f i : Nat} {d : Fd} (hd : c.g.fd[f]? = some d) (hc : d.cl = none) (h1 : d.ps.length = 1) {x y : Str} {p p2 : Pos} (hx : x = d.nm) (hg : glB X.env.scope x = true) (hdb : dbgB x = true) (hN : X.N[i]? = some y) (hv : visB X.env.scope y = true) (hdb2 : dbgB y = true) :
    PE X (.Call (.Name x p) [.Name y p2] [] pos) (tev X.K X.mG W (ev c (.calx f i))) := by
  subst hx
  obtain ⟨hm, hk⟩ := ok.g.fn f d hd hc
  refine ⟨fun pins s σ H Q I ⟨F, ρ, en, h⟩ => ?_⟩
  simp only [ev] at h
  cases e : ρ.at i with
  | none => rw [e] at h; exact h.elim
  | some sl =>
    cases sl with
    | val d => rw [e] at h; exact h.elim
    | own d => rw [e] at h; exact h.elim
    | exn xx =>
      rw [e] at h
      dsimp only at h
      by_cases hh : c.hot = true
      · rw [if_pos hh] at h
        obtain ⟨a, cl, dd, k1, k2, k3⟩ := en.exn i xx e
        refine wpAny_Call_Name_kw (ld_glob I (gl_of hg) hm ?_ (dbg_of hdb).1)
        have pa : PA X [.Name y p2] (tCons (tVar i) tNil) := pa_cons (pe_var hN (vis_of hv) (dbg_of hdb2).1 (dbg_of hdb2).2.1) pa_nil (star_of rfl)
        refine PySem.W.callWith_K (h₀ := X.base) I.ok.mod.kin hk (thn (pa.run pos pins s σ H (fun vs H' => vs = [V.ref a] ∧ H' = H) I ⟨_, stAt_get k2, rfl, rfl⟩) fun us s1 hz => ?_) (star_of rfl) (any_of rfl)
        obtain ⟨vs, H1, I1, r1, ev', eh⟩ := hz
        subst ev'; subst eh
        refine ⟨I1.kIn, ok.run hd I1 r1 ?_⟩
        have noO : ∀ b, ¬ Own ([V.ref a].map some) ([S.exn xx].map some) b := fun b ⟨j, d, e1, _⟩ => by
          rw [at_map] at e1
          cases j with
          | zero => cases e1
          | succ j => simp at e1
        refine ⟨h1.symm, F, [S.exn xx], ⟨rfl, en.sub, fun j d e1 => ?_, fun j d e1 => ?_, fun j k d d' b e1 _ _ _ => ?_, fun j x e1 => ?_⟩, ?_⟩
        · rw [at_map] at e1
          cases j with
          | zero => cases e1
          | succ j => simp at e1
        · rw [at_map] at e1
          cases j with
          | zero => cases e1
          | succ j => simp at e1
        · rw [at_map] at e1
          cases j with
          | zero => cases e1
          | succ j => simp at e1
        · rw [at_map] at e1
          cases j with
          | zero =>
            have e2 : S.exn xx = S.exn x := by simpa using e1
            cases e2
            exact ⟨a, cl, dd, k1, rfl, k3⟩
          | succ j => simp at e1
        · cases q : c.call f [.exn xx] with
          | bad => rw [q] at h; exact h.elim
          | er x2 ss' => rw [q] at h; exact h.elim
          | ok r ss' =>
            rw [q] at h
            cases r with
            | val d2 => exact fun v F' H' po rv => h v F' H' (po.alien noO en) rv
            | own d2 =>
              refine fun v F' H' po rv => h v F' H' (po.alien noO en) ?_
              obtain ⟨b, e1, e2, e3, e4, _⟩ := rv
              exact ⟨b, e1, e2, e3, e4, fun z => en.own_some z e2⟩
            | exn x3 => exact h.elim
      · rw [if_neg hh] at h; exact h.elim
/-! ### comprehensions -/
theorem k_one {ea : En → Out Rv} : ∀ (σ : L2.St) (H : Hp) (R : L2.It → Hp → Prop), tit X.K X.mG W (fun ρ => (ea ρ).bind fun x ρ => match x with | .val (.tup l) => .ok (Sr.fix l) ρ | _ => .bad) σ H R → iTup X.K (tev X.K X.mG W ea) σ H R := fun σ H R ⟨F, ρ, en, h⟩ =>
  bindE (.refl en) h fun x F1 H1 ρ1 r q1 p1 v1 h1 => by
    split at h1
    · rename_i l
      cases v1 with
      | tup hf rl => exact ⟨_, rfl, ⟨_, hf.sq p1.en.sub⟩, h1 _ F1 H1 p1 (feeds_tup (H := H1) hf rl)⟩
    · exact h1.elim
theorem takes0N {X : Cx} : L2N.Takes X W0 := fun u s' ⟨_, _, _, _, _, _, _, _, _, _, _, _, _, _, _, _, w⟩ => w.elim
theorem XOk.blkH (ok : XOk c n ad fdt X W) (s : Shared) (H : Hp) (scope : Scope) (cenv : Env) (fp : List Addr) : XOk c n ad fdt (blkH X s H scope cenv fp) W0 :=
  ⟨ok.g, ok.calm, ok.nd, ok.room, ok.hd, takes0N, ok.fn, ok.fnH, ok.hp, ok.ra⟩
theorem l_lch {ea ee : En → Out Rv} {own : List (Str × Nat)} {i : Nat} {scope : Scope} (hc : L2H.HotC X) (nd : X.N.Nodup) (ha : PE X a' (tev X.K X.mG W ea)) (ok : BlkOk X.N X.env.scope scope own) (htg : i ∈ own.map (·.2))
    (hg : ∀ (s : Shared) (H : Hp) (C : Addr) (cl : List (Str × Addr)) (fp : List Addr), PG (blkH X s H scope (compEnvC scope cl C X.env) fp) t' (gName i))
    (he : ∀ (s : Shared) (H : Hp) (C : Addr) (cl : List (Str × Addr)) (fp : List Addr), PE (blkH X s H scope (compEnvC scope cl C X.env) fp) e' (tev X.K X.mG W0 ee)) (hs : noset a' = true) :
    PE X (.ListComp e' [⟨t', a', [], 0⟩] scope pos) (tev X.K X.mG W (eLc (fun ρ => (ea ρ).bind fun x ρ => match x with | .val (.tup l) => .ok (Sr.fix l) ρ | _ => .bad) (fun ρ => .ok true ρ) ee own true [i])) :=
  PE.imp (pe_lch (g := gT X.K true [i]) (tt := ttv X.K X.mG W0 fun ρ => .ok true ρ) hc nd ha ok hg (fun s H C cl fp => ⟨fun pins s σ H Q I ⟨F, ρ, en, q⟩ => pts_nil.run pins s σ H Q I (q true F H (.refl en) rfl)⟩) k_one he (by intro x; cases a' <;> first | rfl | cases hs))
    (k_lc fun j hj => by simp at hj; subst hj; exact htg)
/-! ### dict displays -/
def trsK (K : PySem.W.Frag) (mg : MG) (W : WW) (c : Cc) : List Key → Exs → List (TE × TE)
  | k :: ks, .cons e l => (tC (kV k), tev K mg W (ev c e)) :: trsK K mg W c ks l
  | _, _ => []
theorem pe_key {k : Key} {e : Expr} (h : ckK k (some e) = true) : PE X e (tC (kV k)) := by
  unfold ckK at h
  split at h
  · rename_i heq; cases heq; simp only [beq_iff_eq] at h; subst h; exact pe_int
  · rename_i heq; cases heq; simp only [beq_iff_eq] at h; subst h; exact pe_str
  · cases h
def exLen : Exs → Nat
  | .nil => 0
  | .cons _ l => exLen l + 1
theorem pairs_of {K : PySem.W.Frag} {mg : MG} {σ : L2.St} : ∀ (ks : List Key) (l : Exs), exLen l = ks.length → ∀ {H : Hp} {Q1 : List V → Hp → Prop} {Q2 : List (V × V) → Hp → Prop}, tev' K mg W (evs c l) σ H Q1 →
    (∀ vs H2, Q1 vs H2 → vs.length = ks.length → Q2 ((ks.zip vs).map fun kv => (kV kv.1, kv.2)) H2) → tPairs (trsK K mg W c ks l) σ H Q2
  | [], .nil, _, H, Q1, Q2, ⟨F, ρ, en, h⟩, k => by
    simp only [evs] at h
    exact k [] H (h [] F H (.refl en) trivial) rfl
  | [], .cons e l, hl, H, Q1, Q2, _, k => by simp [exLen] at hl
  | k0 :: ks, .nil, hl, H, Q1, Q2, h, k => by simp [exLen] at hl
  | k0 :: ks, .cons e l, hl, H, Q1, Q2, ⟨F, ρ, en, h⟩, k => by
    simp only [evs] at h
    show tev K mg W (ev c e) σ H fun y H2 => tPairs (trsK K mg W c ks l) σ H2 fun ps H3 => Q2 ((kV k0, y) :: ps) H3
    refine bindE (.refl en) h fun x F1 H1 ρ1 r1 q1 p1 v1 h1 => ?_
    refine pairs_of ks l (by simpa [exLen] using hl) (Q1 := fun vs H2 => Q1 (x :: vs) H2) ⟨F1, ρ1, p1.en, ?_⟩ fun vs H2 q hv => k (x :: vs) H2 q (by simp [hv])
    cases q : evs c l ρ1 with
    | ok rs ρ2 =>
      rw [q] at h1
      intro vs F2 H2 p2 w2
      exact h1 (x :: vs) F2 H2 (p1.trans p2) (RvRs.cons' (v1.stay p2) w2 (fun b e => p1.st.al b e) fun b e => v1.tmp_old e)
    | er x ρ2 =>
      rw [q] at h1
      exact fun cl d F2 H2 p2 x2 => h1 cl d F2 H2 (p1.trans p2) x2
    | bad =>
      rw [q] at h1
      exact h1.elim
/-- a new thing of a value is filled -/
theorem Po.tmp_upd {K : PySem.W.Frag} {mg : MG} {F H F2 H2 : Hp} {σ : L2.St} {ρ ρ2 : En} (en : EnvR K mg F H σ ρ) {p : Addr} (hp : H p = none) (pb : Po K mg F H σ ρ F2 H2 ρ2) (fp : F2 p = none) (o : HO) : Po K mg F H σ ρ F2 (upd H2 p o) ρ2 := by
  have nO : ∀ j d q, ρ2.at j = some (.own d) → stAt σ j = some (.ref q) → q ≠ p := fun j d q e1 e2 z => by
    subst z
    exact en.own_some (pb.ow _ ⟨j, d, e1, e2⟩) hp
  refine ⟨⟨pb.st.mono, fun a o e n => ?_, fun a e => ?_⟩, ⟨pb.en.len, fun a u e => ?_, pb.en.val, fun j d e => ?_, pb.en.inj, pb.en.exn⟩, pb.ow, pb.fil⟩
  · obtain ⟨m1, m2⟩ := pb.st.keep a o e n
    exact ⟨by rw [upd_ne (ne_of_none e hp)]; exact m1, m2⟩
  · by_cases z : a = p
    · subst z; exact hp
    · rw [upd_ne z] at e; exact pb.st.al a e
  · have z : a ≠ p := by intro z; subst z; rw [fp] at e; cases e
    rcases pb.en.sub a u e with w | ⟨lk, ob, w⟩
    · exact .inl (by rw [upd_ne z]; exact w)
    · exact .inr ⟨lk, ob, by rw [upd_ne z]; exact w⟩
  · obtain ⟨q, e1, f1, o1⟩ := pb.en.own j d e
    exact ⟨q, e1, f1, o1.at .refl (upd_ne (nO j d q e e1))⟩
theorem mergeK_nodup : ∀ (more acc : List (Key × V)), ((acc ++ more).map (·.1)).Nodup → mergeK acc more = acc ++ more
  | [], acc, _ => by simp [mergeK]
  | p :: r, acc, h => by
    have e : putK acc p.1 p.2 = acc ++ [p] := by
      unfold putK
      have hn : (acc.any fun kv => decide (kv.1 = p.1)) = false := by
        rw [List.any_eq_false]
        intro kv m z
        have z : kv.1 = p.1 := of_decide_eq_true z
        rw [List.map_append, List.nodup_append] at h
        exact h.2.2 kv.1 (List.mem_map_of_mem m) p.1 (by simp) z
      rw [hn, if_neg Bool.false_ne_true]
    show mergeK (putK acc p.1 p.2) r = _
    rw [e, mergeK_nodup r (acc ++ [p]) (by simpa using h)]
    simp
theorem map_zip_fst2 {α β : Type} : ∀ {l : List α} {m : List β}, m.length = l.length → (l.zip m).map (·.1) = l
  | [], [], _ => rfl
  | a :: l, b :: m, h => by simp [map_zip_fst2 (l := l) (m := m) (by simpa using h)]
  | [], _ :: _, h => by simp at h
  | _ :: _, [], h => by simp at h
theorem map_zip_snd2 {α β : Type} : ∀ {l : List α} {m : List β}, m.length = l.length → (l.zip m).map (·.2) = m
  | [], [], _ => rfl
  | a :: l, b :: m, h => by simp [map_zip_snd2 (l := l) (m := m) (by simpa using h)]
  | [], _ :: _, h => by simp at h
  | _ :: _, [], h => by simp at h
theorem ckKs_len : ∀ {ks : List Key} {keys : List (Option Expr)}, ckKs ks keys = true → keys.all (·.isSome) = true ∧ keys.length = ks.length
  | [], [], _ => ⟨rfl, rfl⟩
  | [], _ :: _, h => by simp [ckKs] at h
  | _ :: _, [], h => by simp [ckKs] at h
  | k :: ks, e :: es, h => by
    simp only [ckKs, Bool.and_eq_true] at h
    obtain ⟨h1, h2⟩ := ckKs_len h.2
    refine ⟨?_, by simp [h2]⟩
    rw [List.all_cons, h1, Bool.and_true]
    cases e with
    | none => cases k <;> simp [ckK] at h
    | some e => rfl
theorem l_dd {ks : List Key} {l : Exs} {keys : List (Option Expr)} (hk : ckKs ks keys = true) (hl : exLen l = ks.length) (hv : keys.length = es'.length) (h0 : keys ≠ []) (h15 : ks.length ≤ 15) (nd : ks.Nodup)
    (pp : PPs X pos keys es' (trsK X.K X.mG W c ks l)) : PE X (.Dict keys es' pos) (tev X.K X.mG W (ev c (.dd ks l))) := by
  obtain ⟨a1, a2⟩ := ckKs_len hk
  refine PE.imp (pe_disp pp a1 hv h0 (by omega)) fun σ H Q ⟨F, ρ, en, h⟩ p np => ?_
  simp only [ev] at h
  have p0 := (Grow.tmp (o := .dK []) en.sub np).po (.refl en)
  have nO : ¬ Own σ ρ p := fun z => en.own_some z np
  refine pairs_of ks l hl (Q1 := fun vs H2 => H2 p = some (.dK []) ∧ (vs.length = ks.length → Q (.ref p) (upd H2 p (.dK (ks.zip vs))))) ⟨F, ρ, p0.en, ?_⟩ fun vs H2 q hv => ⟨q.1, ks.zip vs, rfl, ?_, ?_⟩
  · cases q : evs c l ρ with
    | bad => rw [q] at h; exact h.elim
    | er x ρ2 => rw [q] at h; exact fun cl d F2 H2 p2 x2 => h cl d F2 H2 (p0.trans p2) x2
    | ok rs ρ2 =>
      rw [q] at h
      intro vs F2 H2 p2 w2
      dsimp only [Out.bind] at h
      obtain ⟨k1, k2⟩ := p2.st.keep p _ upd_same nO
      cases q2 : fzs ρ2 rs with
      | none => rw [q2] at h; exact h.elim
      | some w =>
        obtain ⟨ds, ρ3⟩ := w
        rw [q2] at h
        dsimp only at h
        split at h
        · rename_i hcond
          refine ⟨k1, fun hv => ?_⟩
          obtain ⟨F3, p3, k3, rl⟩ := fzs_of p2 w2.w q2
          have f3 := (p3.st.keep p _ upd_same nO).2 (en.sub.none np)
          have po := Po.tmp_upd en np (p0.trans p3) f3 (.dK (ks.zip vs))
          refine h (.ref p) F3 _ po ⟨p, rfl, np, f3, ⟨ks.zip vs, upd_same, map_zip_fst2 hv, ?_⟩, fun z => nO (po.ow p z)⟩
          rw [map_zip_snd2 hv]; exact rl
        · exact h.elim
  · rw [List.length_zip]; omega
  · rw [mergeK_nodup (ks.zip vs) [] (by rw [List.nil_append, map_zip_fst2 hv]; exact nd), List.nil_append]
    exact q.2 hv
end
end Mp

/-! Mp16: the check of an expression is enough. -/
namespace Mp
open PySem L2 PyProof.Rows
section
variable {c : Cc} {n : Nat} {ad : Nat → Addr} {fdt : Nat → FuncData}
theorem blk_mG {X : Cx} (hc : X.calm = true) (s : Shared) (H : Hp) (scope : Scope) (cenv : Env) (fp : List Addr) : (X.blk s H scope cenv fp).mG = X.mG := by
  show (⟨X.mg, cond X.calm none _⟩ : MG) = ⟨X.mg, cond X.calm none _⟩
  rw [hc]; rfl
theorem XOk.blk {X : Cx} {W : WW} (ok : XOk c n ad fdt X W) (hh : c.hot = false) (s : Shared) (H : Hp) (scope : Scope) (cenv : Env) (fp : List Addr) : XOk c n ad fdt (X.blk s H scope cenv fp) W0 :=
  ⟨ok.g, ok.calm, ok.nd, ok.room, ok.hd, takes0N, fun h f d e => by rw [blk_mG (ok.calm hh)]; exact ok.fn h f d e, ok.fnH, (fun h => by rw [hh] at h; cases h), ok.ra⟩
section
variable {X : Cx} {e' : Expr}
theorem loc_of {fnb : Str → Bool} {x : Str} (hf : ∀ x, fnb x = true → X.fn x = true) (h : stoB X.env.scope fnb x = true) : Loc X.env.scope x ∧ (X.fn x = true ∨ X.env.scope.names.lookup x = some .local) := by
  unfold stoB at h
  simp only [Bool.or_eq_true, Bool.and_eq_true, beq_iff_eq] at h
  rcases h with h | ⟨h, h2⟩
  · exact ⟨.inl h, .inr h⟩
  · exact ⟨.inr h, .inl (hf x h2)⟩
theorem nm_ok {fnb : Str → Bool} {i : Nat} (nd : X.N.Nodup) (hf : ∀ x, fnb x = true → X.fn x = true) (h : ckNm X.N X.env.scope fnb i e' = true) : PG X e' (gName i) ∧ ∃ x p, e' = .Name x p := by
  cases e' with
  | Name x p =>
    simp only [ckNm, Bool.and_eq_true, decide_eq_true_eq] at h
    obtain ⟨h1, h2⟩ := loc_of hf h.2
    exact ⟨pg_name nd h.1 h1 h2, x, p, rfl⟩
  | _ => simp [ckNm] at h
theorem nms_ok {fnb : Str → Bool} (nd : X.N.Nodup) (hf : ∀ x, fnb x = true → X.fn x = true) : ∀ {tg : List Nat} {es : List Expr}, ckNms X.N X.env.scope fnb tg es = true →
    PGs X es (gsN tg) ∧ (assignEach es X.env).length = tg.length ∧ (assignEach es X.env).findIdx? (·.1) = none
  | [], [], _ => ⟨pgs_nil, rfl, rfl⟩
  | i :: tg, e :: es, h => by
    simp only [ckNms, Bool.and_eq_true] at h
    obtain ⟨h1, x, p, rfl⟩ := nm_ok nd hf h.1
    obtain ⟨k1, k2, k3⟩ := nms_ok nd hf h.2
    refine ⟨pgs_cons h1 k1 rfl, ?_, ?_⟩
    · show ((false, assign (.Name x p) X.env) :: assignEach es X.env).length = _
      simp [k2]
    · show List.findIdx? (·.1) ((false, assign (.Name x p) X.env) :: assignEach es X.env) = none
      rw [List.findIdx?_cons, k3]; rfl
  | [], _ :: _, h => by simp [ckNms] at h
  | _ :: _, [], h => by simp [ckNms] at h
theorem tg_ok {fnb : Str → Bool} {one : Bool} {tg : List Nat} (hc : X.calm = true) (nd : X.N.Nodup) (hf : ∀ x, fnb x = true → X.fn x = true) (h : ckTg X.N X.env.scope fnb one tg e' = true) : PG X e' (gT X.K one tg) := by
  unfold ckTg at h
  unfold gT
  cases one with
  | true =>
    rw [if_pos rfl] at h ⊢
    split at h
    · exact (nm_ok nd hf h).1
    · cases h
  | false =>
    rw [if_neg Bool.false_ne_true] at h ⊢
    split at h
    · obtain ⟨k1, k2, k3⟩ := nms_ok nd hf h
      exact pg_seq hc k1 k2 k3
    · cases h
end
theorem allnost_one {a : Expr} (h : nost a = true) : [a].all nost = true := by simp [h]
mutual
theorem ckE_ok : ∀ (e : Ex) {X : Cx} {W : WW} {e' : Expr}, XOk c n ad fdt X W → ckE c.g X.N X.env.scope e e' = true → PE X e' (tev X.K X.mG W (ev c e))
  | .var i, X, W, e', ok, h => by
    simp only [ckE] at h
    split at h
    · simp only [Bool.and_eq_true, decide_eq_true_eq] at h
      exact l_var h.1.1 h.1.2 h.2
    · cases h
  | .con d, X, W, e', ok, h => by
    simp only [ckE] at h
    split at h
    · exact l_con h
    · cases h
  | .gl k, X, W, e', ok, h => by
    simp only [ckE] at h
    split at h
    · simp only [Bool.and_eq_true] at h
      obtain ⟨⟨h1, h2⟩, h3⟩ := h
      split at h1
      · rename_i p hp
        exact l_gl ok (d := p.2) (by rw [hp]; simp only [beq_iff_eq] at h1; rw [← h1]) h2 h3
      · cases h1
    · cases h
  | .bin o a b, X, W, e', ok, h => by
    simp only [ckE] at h
    split at h
    · simp only [Bool.and_eq_true, decide_eq_true_eq] at h
      obtain ⟨⟨h1, h2⟩, h3⟩ := h
      subst h1
      exact l_bin o (ckE_ok a ok h2) (ckE_ok b ok h3)
    · cases h
  | .cmp o a b, X, W, e', ok, h => by
    simp only [ckE] at h
    split at h
    · simp only [Bool.and_eq_true, decide_eq_true_eq] at h
      obtain ⟨⟨⟨h1, h2⟩, h3⟩, h4⟩ := h
      subst h1
      exact l_cmp ok o (ckE_ok a ok h2) (ckE_ok b ok h3) h4
    · cases h
  | .chn o o2 a b d, X, W, e', ok, h => by
    simp only [ckE] at h
    split at h
    · simp only [Bool.and_eq_true, decide_eq_true_eq] at h
      obtain ⟨⟨⟨⟨⟨h1, h1'⟩, h2⟩, h3⟩, h5⟩, h4⟩ := h
      subst h1; subst h1'
      exact l_chn ok o o2 (ckE_ok a ok h2) (ckE_ok b ok h3) (ckE_ok d ok h5) h4
    · cases h
  | .isn neg a, X, W, e', ok, h => by
    simp only [ckE] at h
    split at h
    · simp only [Bool.and_eq_true, decide_eq_true_eq] at h
      obtain ⟨h1, h2⟩ := h
      subst h1
      exact l_isn neg (ckE_ok a ok h2)
    · cases h
  | .neg a, X, W, e', ok, h => by
    simp only [ckE] at h
    split at h
    · exact l_neg (ckE_ok a ok h)
    · cases h
  | .not a, X, W, e', ok, h => by
    simp only [ckE] at h
    split at h
    · exact l_not (ckE_ok a ok h)
    · cases h
  | .and l, X, W, e', ok, h => by
    simp only [ckE] at h
    split at h
    · exact cka_ok true l ok h
    · cases h
  | .or l, X, W, e', ok, h => by
    simp only [ckE] at h
    split at h
    · exact cka_ok false l ok h
    · cases h
  | .ife t a b, X, W, e', ok, h => by
    simp only [ckE] at h
    split at h
    · simp only [Bool.and_eq_true] at h
      exact l_ife (ckT_ok t ok h.1.1) (ckE_ok a ok h.1.2) (ckE_ok b ok h.2)
    · cases h
  | .tup l, X, W, e', ok, h => by
    simp only [ckE] at h
    split at h
    · simp only [Bool.and_eq_true] at h
      exact l_tup (cks_ok l ok h.1 h.2)
    · cases h
  | .lst l, X, W, e', ok, h => by
    simp only [ckE] at h
    split at h
    · simp only [Bool.and_eq_true] at h
      exact l_lst (cks_ok l ok h.1 h.2)
    · cases h
  | .ix a b, X, W, e', ok, h => by
    simp only [ckE] at h
    split at h
    · simp only [Bool.and_eq_true] at h
      exact l_ix (by have := ok.hu; omega) (ckE_ok a ok h.1.1) (ckE_ok b ok h.1.2) h.2
    · cases h
  | .sl a lo hi, X, W, e', ok, h => by
    simp only [ckE] at h
    split at h
    · simp only [Bool.and_eq_true] at h
      exact l_sl (ckE_ok a ok h.1.1) (ckO_ok lo ok h.1.2) (ckO_ok hi ok h.2)
    · cases h
  | .fld a f, X, W, e', ok, h => by
    simp only [ckE] at h
    split at h
    · simp only [Bool.and_eq_true, decide_eq_true_eq] at h
      obtain ⟨⟨h1, h2⟩, h3⟩ := h
      subst h1
      exact l_fld ok (ckE_ok a ok h2) h3
    · cases h
  | .cal f l, X, W, e', ok, h => by
    simp only [ckE] at h
    split at h
    · rename_i x p es kws pos
      simp only [Bool.and_eq_true] at h
      obtain ⟨⟨⟨⟨h1, h2⟩, h3⟩, h4⟩, h5⟩ := h
      split at h1
      · rename_i d hd
        simp only [Bool.and_eq_true, Option.isNone_iff_eq_none, beq_iff_eq, Bool.or_eq_true, List.isEmpty_iff] at h1
        obtain ⟨⟨g1, g2⟩, g3⟩ := h1
        cases kws with
        | nil =>
          cases es with
          | nil =>
            cases l with
            | nil => exact l_cal0 ok hd g1 g2 h2 h3
            | cons e l => simp [cks, kwArgs] at h4
          | cons e r => exact l_cal ok hd g1 g2 h2 h3 (cks_ok l ok h4 h5) h5
        | cons k r =>
          rcases g3 with z | ⟨z1, z2⟩
          · cases z
          · subst z1
            exact l_calk ok hd g1 g2 h2 h3 (ckk_ok l ok h4) z2
      · cases h1
    · cases h
  | .met C f a l, X, W, e', ok, h => by
    simp only [ckE] at h
    split at h
    · rename_i a' m apos es pos
      simp only [Bool.and_eq_true, decide_eq_true_eq] at h
      obtain ⟨⟨⟨⟨⟨⟨h1, h2⟩, h3⟩, h4⟩, h5⟩, h6⟩, h7⟩ := h
      split at h1
      · rename_i d hd
        simp only [Bool.and_eq_true, decide_eq_true_eq, beq_iff_eq, Bool.not_eq_true', beq_eq_false_iff_ne] at h1
        obtain ⟨⟨g1, g2⟩, g3⟩ := h1
        have g3' : d.nm ≠ ("__init__" : Str) := by rw [← g2]; exact g3
        cases es with
        | nil =>
          cases l with
          | nil => exact l_if fun hh => l_met0 ok hd g1 g3' g2 (ckE_ok a ok h2) h3 h7
          | cons e l => simp [cks] at h4
        | cons e r => exact l_if fun hh => l_met ok hd g1 g3' g2 (ckE_ok a ok h2) h3 (cks_ok l ok h4 h5) h5 h6 h7
      · cases h1
    · cases h
  | .mak C f l, X, W, e', ok, h => by
    simp only [ckE] at h
    split at h
    · rename_i x p es kws pos
      simp only [Bool.and_eq_true] at h
      obtain ⟨⟨⟨⟨⟨⟨h1, h2⟩, h3⟩, h4⟩, h5⟩, h6⟩, h7⟩ := h
      simp only [beq_iff_eq] at h2
      subst h2
      split at h1
      · rename_i d hd
        simp only [Bool.and_eq_true, decide_eq_true_eq, beq_iff_eq, Bool.or_eq_true, List.isEmpty_iff] at h1
        obtain ⟨⟨g1, g2⟩, g3⟩ := h1
        cases kws with
        | nil =>
          cases es with
          | nil => simp [kwArgs] at h7
          | cons e r => exact l_if fun hh => l_mak ok hh hd g1 g2 h3 h4 (cks_ok l ok h5 h6) h6
        | cons k r =>
          rcases g3 with z | ⟨z1, z2⟩
          · cases z
          · subst z1
            exact l_if fun hh => l_makk ok hh hd g1 g2 h3 h4 (ckk_ok l ok h5) z2
      · cases h1
    · cases h
  | .bi b l, X, W, e', ok, h => by
    simp only [ckE] at h
    split at h
    · rename_i x p es pos
      simp only [Bool.and_eq_true, decide_eq_true_eq] at h
      obtain ⟨⟨⟨⟨⟨h1, h2⟩, h3⟩, h4⟩, h5⟩, h6⟩ := h
      simp only [beq_iff_eq] at h1
      subst h1
      cases es with
      | nil => simp at h6
      | cons e r => exact l_if fun hh => l_bi ok b hh h2 h3 (cks_ok l ok h4 h5) h5
    · cases h
  | .isi a ts one, X, W, e', ok, h => by
    simp only [ckE] at h
    split at h
    · simp only [Bool.and_eq_true, decide_eq_true_eq] at h
      obtain ⟨⟨⟨⟨⟨h1, h2⟩, h3⟩, h4⟩, h5⟩, h6⟩ := h
      simp only [beq_iff_eq] at h1
      subst h1
      exact l_isi ok h2 h3 (ckE_ok a ok h4) h5 h6
    · cases h
  | .me m a l, X, W, e', ok, h => by
    simp only [ckE] at h
    split at h
    · rename_i a' m' apos es pos
      simp only [Bool.and_eq_true, decide_eq_true_eq] at h
      obtain ⟨⟨⟨⟨⟨⟨⟨h1, h2⟩, h3⟩, h4⟩, h5⟩, h6⟩, h7⟩, h8⟩ := h
      simp only [beq_iff_eq] at h1
      subst h1
      cases es with
      | nil => simp at h8
      | cons e r => exact l_me m (ckE_ok a ok h2) h3 (cks_ok l ok h4 h5) h5 h6 h7
    · cases h
  | .mu m i l, X, W, e', ok, h => by
    simp only [ckE] at h
    split at h
    · rename_i x xp m' apos es pos
      simp only [Bool.and_eq_true, decide_eq_true_eq] at h
      obtain ⟨⟨⟨⟨⟨⟨⟨⟨h1, h2⟩, h3⟩, h3'⟩, h4⟩, h5⟩, h6⟩, h7⟩, h8⟩ := h
      simp only [beq_iff_eq] at h1 h8
      subst h1
      cases es with
      | nil =>
        cases l with
        | nil => exact l_mu0 m h8 h2 h3 h3' h7
        | cons e l => simp [cks] at h4
      | cons e r => exact l_mu m h8 h2 h3 h3' (cks_ok l ok h4 h5) h5 h6 h7
    · cases h
  | .lc e own it tg one ifs, X, W, e', ok, h => by
    simp only [ckE] at h
    split at h
    · rename_i b t' it' ifs' ia scope pos
      simp only [Bool.and_eq_true, List.all_eq_true, decide_eq_true_eq] at h
      obtain ⟨⟨⟨⟨⟨⟨⟨h0, h1⟩, h2⟩, h3⟩, h4⟩, h5⟩, h6⟩, h7⟩ := h
      simp only [beq_iff_eq] at h0
      subst h0
      refine l_if fun hh => ?_
      exact l_lc (ok.calm hh) ok.nd (it_fz (ckI_ok it ok h4)) (blkOk_by h1) h2
        (fun s H C cl fp => tg_ok (X := X.blk s H scope (compEnvC scope cl C X.env) fp) (ok.calm hh) ok.nd (fun x hx => hx) h5)
        (fun s H C cl fp => by
          have z := ckF_ok ifs (X := X.blk s H scope (compEnvC scope cl C X.env) fp) (ok.blk hh _ _ _ _ _) h6
          rw [blk_mG (ok.calm hh)] at z
          exact z)
        (fun s H C cl fp => by
          have z := ckE_ok e (X := X.blk s H scope (compEnvC scope cl C X.env) fp) (ok.blk hh _ _ _ _ _) h7
          rw [blk_mG (ok.calm hh)] at z
          exact z) h3
    · cases h
  | .xf i f, X, W, e', ok, h => by
    simp only [ckE] at h
    split at h
    · simp only [Bool.and_eq_true, decide_eq_true_eq] at h
      obtain ⟨⟨⟨h1, h2⟩, h3⟩, h4⟩ := h
      subst h1
      exact l_xf ok h2 h3 h4
    · cases h
  | .xi i ts one, X, W, e', ok, h => by
    simp only [ckE] at h
    split at h
    · simp only [Bool.and_eq_true, decide_eq_true_eq] at h
      obtain ⟨⟨⟨⟨⟨⟨h1, h2⟩, h3⟩, h4⟩, h5⟩, h6⟩, h7⟩ := h
      simp only [beq_iff_eq] at h1
      subst h1
      exact l_xi ok h2 h3 h4 h5 h6 h7
    · cases h
  | .calx f i, X, W, e', ok, h => by
    simp only [ckE] at h
    split at h
    · simp only [Bool.and_eq_true, decide_eq_true_eq] at h
      obtain ⟨⟨⟨⟨⟨h1, h2⟩, h3⟩, h4⟩, h5⟩, h6⟩ := h
      split at h1
      · rename_i d hd
        simp only [Bool.and_eq_true, Option.isNone_iff_eq_none, beq_iff_eq, decide_eq_true_eq] at h1
        obtain ⟨⟨g1, g2⟩, g3⟩ := h1
        exact l_calx ok hd g1 g3 g2 h2 h3 h4 h5 h6
      · cases h1
    · cases h
  | .lch e own a i, X, W, e', ok, h => by
    simp only [ckE] at h
    split at h
    · rename_i b t' it' ia scope pos
      simp only [Bool.and_eq_true, decide_eq_true_eq] at h
      obtain ⟨⟨⟨⟨⟨⟨h0, h1⟩, h2⟩, h3⟩, h4⟩, h5⟩, h6⟩ := h
      simp only [beq_iff_eq] at h0
      subst h0
      cases hh : c.hot with
      | false =>
        have : ev c (.lch e own a i) = fun _ => .bad := by
          funext ρ
          simp only [ev, hh, Bool.false_eq_true, if_false]
        rw [this]
        exact l_bad
      | true =>
        have hE : ev c (.lch e own a i) = eLc (fun ρ => (ev c a ρ).bind fun x ρ => match x with | .val (.tup l) => .ok (Sr.fix l) ρ | _ => .bad) (fun ρ => .ok true ρ) (ev c e) own true [i] := by
          funext ρ
          simp only [ev, hh, if_true] <;> rfl
        rw [hE]
        obtain ⟨_, _, p, r, hp, hot⟩ := ok.hp hh
        exact l_lch ⟨p, hot, by rw [hp]; exact List.mem_cons_self⟩ ok.nd (ckE_ok a ok h4) (blkOk_by h1) h2
          (fun s H C cl fp => (nm_ok (X := blkH X s H scope (compEnvC scope cl C X.env) fp) ok.nd (fun x hx => hx) h5).1)
          (fun s H C cl fp => ckE_ok e (X := blkH X s H scope (compEnvC scope cl C X.env) fp) (ok.blkH _ _ _ _ _) h6) h3
    · cases h
  | .dd ks l, X, W, e', ok, h => by
    simp only [ckE] at h
    split at h
    · rename_i keys values pos
      simp only [Bool.and_eq_true, decide_eq_true_eq] at h
      obtain ⟨⟨⟨⟨h1, h2⟩, h4⟩, h5⟩, h6⟩ := h
      obtain ⟨z1, z2⟩ := ckp_ok l ok h1 h2 h4
      by_cases hk : keys = []
      · subst hk
        have hv : values = [] := List.length_eq_zero_iff.mp h4.symm
        subst hv
        cases ks with
        | cons _ _ => simp [ckKs] at h1
        | nil =>
          cases l with
          | nil => exact l_dd0
          | cons _ _ => simp [cks] at h2
      · exact l_dd h1 z2 h4 hk h5 h6 z1
    · cases h
  | .qme m a b, X, W, e', ok, h => by
    simp only [ckE] at h
    split at h
    · simp only [Bool.and_eq_true, beq_iff_eq] at h
      obtain ⟨⟨⟨⟨⟨h1, h2⟩, h3⟩, h4⟩, h5⟩, h6⟩ := h
      subst h1
      exact l_qme ok m (ckE_ok a ok h2) h3 (ckE_ok b ok h4) h5 (by simpa using h6)
    · cases h
  | .rev t a, X, W, e', ok, h => by
    simp only [ckE] at h
    split at h
    · simp only [Bool.and_eq_true, decide_eq_true_eq, beq_iff_eq] at h
      obtain ⟨⟨⟨⟨⟨⟨⟨h1, h2⟩, h3⟩, h4⟩, h5⟩, h6⟩, h7⟩, h8⟩ := h
      subst h1; subst h2
      exact l_if fun hh => l_rev (ok.calm hh) t (ok.g.free _ h3) (ok.g.free _ h4) h5 h6 (ckE_ok a ok h7) h8
    · cases h
  | .lrg1 b, X, W, e', ok, h => by
    simp only [ckE] at h
    split at h
    · simp only [Bool.and_eq_true, decide_eq_true_eq, beq_iff_eq] at h
      obtain ⟨⟨⟨⟨⟨⟨⟨h1, h2⟩, h3⟩, h4⟩, h5⟩, h6⟩, h7⟩, h8⟩ := h
      subst h1; subst h2
      exact l_if fun hh => l_lrg1 (ok.calm hh) (ok.g.free _ h3) (ok.g.free _ h4) h5 h6 (ckE_ok b ok h7) h8
    · cases h
  | .lrg2 a b, X, W, e', ok, h => by
    simp only [ckE] at h
    split at h
    · simp only [Bool.and_eq_true, decide_eq_true_eq, beq_iff_eq] at h
      obtain ⟨⟨⟨⟨⟨⟨⟨⟨⟨h1, h2⟩, h3⟩, h4⟩, h5⟩, h6⟩, h7⟩, h8⟩, h9⟩, h10⟩ := h
      subst h1; subst h2
      exact l_if fun hh => l_lrg2 (ok.calm hh) (ok.g.free _ h3) (ok.g.free _ h4) h5 h6 (ckE_ok a ok h7) h8 (ckE_ok b ok h9) h10
    · cases h
  | .bad, X, W, e', ok, h => l_bad
theorem ckT_ok : ∀ (t : Te) {X : Cx} {W : WW} {e' : Expr}, XOk c n ad fdt X W → ckT c.g X.N X.env.scope t e' = true → PT X e' (ttv X.K X.mG W (evT c t))
  | .va (.cmp o a b), X, W, e', ok, h => by
    simp only [ckT, ckE] at h
    split at h
    · simp only [Bool.and_eq_true, decide_eq_true_eq] at h
      obtain ⟨⟨⟨h1, h2⟩, h3⟩, h4⟩ := h
      subst h1
      exact t_cmp ok o (ckE_ok a ok h2) (ckE_ok b ok h3) h4
    · cases h
  | .va (.chn o o2 a b d), X, W, e', ok, h => by
    simp only [ckT, ckE] at h
    split at h
    · simp only [Bool.and_eq_true, decide_eq_true_eq] at h
      obtain ⟨⟨⟨⟨⟨h1, h1'⟩, h2⟩, h3⟩, h5⟩, h4⟩ := h
      subst h1; subst h1'
      exact t_chn ok o o2 (ckE_ok a ok h2) (ckE_ok b ok h3) (ckE_ok d ok h5) h4
    · cases h
  | .va (.isn neg a), X, W, e', ok, h => by
    simp only [ckT, ckE] at h
    split at h
    · simp only [Bool.and_eq_true, decide_eq_true_eq] at h
      obtain ⟨h1, h2⟩ := h
      subst h1
      exact t_isn neg (ckE_ok a ok h2)
    · cases h
  | .va (.var i), X, W, e', ok, h => by
    simp only [ckT, Bool.and_eq_true] at h
    exact t_va h.2 (ckE_ok (.var i) ok h.1)
  | .va (.con d), X, W, e', ok, h => by
    simp only [ckT, Bool.and_eq_true] at h
    exact t_va h.2 (ckE_ok (.con d) ok h.1)
  | .va (.gl k), X, W, e', ok, h => by
    simp only [ckT, Bool.and_eq_true] at h
    exact t_va h.2 (ckE_ok (.gl k) ok h.1)
  | .va (.bin o a b), X, W, e', ok, h => by
    simp only [ckT, Bool.and_eq_true] at h
    exact t_va h.2 (ckE_ok (.bin o a b) ok h.1)
  | .va (.neg a), X, W, e', ok, h => by
    simp only [ckT, Bool.and_eq_true] at h
    exact t_va h.2 (ckE_ok (.neg a) ok h.1)
  | .va (.not a), X, W, e', ok, h => by
    simp only [ckT, Bool.and_eq_true] at h
    exact t_va h.2 (ckE_ok (.not a) ok h.1)
  | .va (.and l), X, W, e', ok, h => by
    simp only [ckT, Bool.and_eq_true] at h
    exact t_va h.2 (ckE_ok (.and l) ok h.1)
  | .va (.or l), X, W, e', ok, h => by
    simp only [ckT, Bool.and_eq_true] at h
    exact t_va h.2 (ckE_ok (.or l) ok h.1)
  | .va (.ife t a b), X, W, e', ok, h => by
    simp only [ckT, Bool.and_eq_true] at h
    exact t_va h.2 (ckE_ok (.ife t a b) ok h.1)
  | .va (.tup l), X, W, e', ok, h => by
    simp only [ckT, Bool.and_eq_true] at h
    exact t_va h.2 (ckE_ok (.tup l) ok h.1)
  | .va (.lst l), X, W, e', ok, h => by
    simp only [ckT, Bool.and_eq_true] at h
    exact t_va h.2 (ckE_ok (.lst l) ok h.1)
  | .va (.ix a b), X, W, e', ok, h => by
    simp only [ckT, Bool.and_eq_true] at h
    exact t_va h.2 (ckE_ok (.ix a b) ok h.1)
  | .va (.sl a lo hi), X, W, e', ok, h => by
    simp only [ckT, Bool.and_eq_true] at h
    exact t_va h.2 (ckE_ok (.sl a lo hi) ok h.1)
  | .va (.fld a f), X, W, e', ok, h => by
    simp only [ckT, Bool.and_eq_true] at h
    exact t_va h.2 (ckE_ok (.fld a f) ok h.1)
  | .va (.cal f l), X, W, e', ok, h => by
    simp only [ckT, Bool.and_eq_true] at h
    exact t_va h.2 (ckE_ok (.cal f l) ok h.1)
  | .va (.met C f a l), X, W, e', ok, h => by
    simp only [ckT, Bool.and_eq_true] at h
    exact t_va h.2 (ckE_ok (.met C f a l) ok h.1)
  | .va (.mak C f l), X, W, e', ok, h => by
    simp only [ckT, Bool.and_eq_true] at h
    exact t_va h.2 (ckE_ok (.mak C f l) ok h.1)
  | .va (.bi b l), X, W, e', ok, h => by
    simp only [ckT, Bool.and_eq_true] at h
    exact t_va h.2 (ckE_ok (.bi b l) ok h.1)
  | .va (.isi a ts one), X, W, e', ok, h => by
    simp only [ckT, Bool.and_eq_true] at h
    exact t_va h.2 (ckE_ok (.isi a ts one) ok h.1)
  | .va (.me m a l), X, W, e', ok, h => by
    simp only [ckT, Bool.and_eq_true] at h
    exact t_va h.2 (ckE_ok (.me m a l) ok h.1)
  | .va (.mu m i l), X, W, e', ok, h => by
    simp only [ckT, Bool.and_eq_true] at h
    exact t_va h.2 (ckE_ok (.mu m i l) ok h.1)
  | .va (.xf i f), X, W, e', ok, h => by
    simp only [ckT, Bool.and_eq_true] at h
    exact t_va h.2 (ckE_ok (.xf i f) ok h.1)
  | .va (.xi i ts one), X, W, e', ok, h => by
    simp only [ckT, Bool.and_eq_true] at h
    exact t_va h.2 (ckE_ok (.xi i ts one) ok h.1)
  | .va (.calx f i), X, W, e', ok, h => by
    simp only [ckT, Bool.and_eq_true] at h
    exact t_va h.2 (ckE_ok (.calx f i) ok h.1)
  | .va (.lch e own a i), X, W, e', ok, h => by
    simp only [ckT, Bool.and_eq_true] at h
    exact t_va h.2 (ckE_ok (.lch e own a i) ok h.1)
  | .va (.dd ks l), X, W, e', ok, h => by
    simp only [ckT, Bool.and_eq_true] at h
    exact t_va h.2 (ckE_ok (.dd ks l) ok h.1)
  | .va (.qme m a e), X, W, e', ok, h => by
    simp only [ckT, Bool.and_eq_true] at h
    exact t_va h.2 (ckE_ok (.qme m a e) ok h.1)
  | .va (.rev t a), X, W, e', ok, h => by
    simp only [ckT, Bool.and_eq_true] at h
    exact t_va h.2 (ckE_ok (.rev t a) ok h.1)
  | .va (.lrg1 b), X, W, e', ok, h => by
    simp only [ckT, Bool.and_eq_true] at h
    exact t_va h.2 (ckE_ok (.lrg1 b) ok h.1)
  | .va (.lrg2 a b), X, W, e', ok, h => by
    simp only [ckT, Bool.and_eq_true] at h
    exact t_va h.2 (ckE_ok (.lrg2 a b) ok h.1)
  | .va .bad, X, W, e', ok, h => by
    simp only [ckT, Bool.and_eq_true] at h
    exact t_va h.2 (ckE_ok .bad ok h.1)
  | .va (.lc e own it tg one ifs), X, W, e', ok, h => by
    simp only [ckT, Bool.and_eq_true] at h
    exact t_va h.2 (ckE_ok (.lc e own it tg one ifs) ok h.1)
  | .no t, X, W, e', ok, h => by
    simp only [ckT] at h
    split at h
    · exact t_no (ckT_ok t ok h)
    · cases h
  | .an l, X, W, e', ok, h => by
    simp only [ckT] at h
    split at h
    · exact PW.pt (ckTs_ok true l ok h)
    · cases h
  | .or l, X, W, e', ok, h => by
    simp only [ckT] at h
    split at h
    · exact PW.pt (ckTs_ok false l ok h)
    · cases h
theorem ckTs_ok : ∀ (k : Bool) (l : Tes) {X : Cx} {W : WW} {es : List Expr} {pos : Pos}, XOk c n ad fdt X W → ckTs c.g X.N X.env.scope l es = true → PW X (.BoolOp (if k then .And else .Or) es pos) (ttv X.K X.mG W (evW c k l))
  | k, .nil, X, W, es, pos, ok, h => ⟨fun wh pins s σ H Q I ⟨F, ρ, en, q⟩ => by simp only [evW] at q; exact q.elim⟩
  | k, .cons t .nil, X, W, es, pos, ok, h => by
    simp only [ckTs] at h
    split at h
    · rename_i e es
      simp only [Bool.and_eq_true] at h
      obtain ⟨h1, h2⟩ := h
      have : es = [] := by simpa using h2
      subst this
      exact w_one (ckT_ok t ok h1)
    · cases h
  | k, .cons t (.cons t2 l), X, W, es, pos, ok, h => by
    cases es with
    | nil => simp [ckTs] at h
    | cons e es =>
      rw [ckTs_cons, Bool.and_eq_true] at h
      obtain ⟨h1, h2⟩ := h
      cases es with
      | nil => simp [ckTs] at h2
      | cons e2 r => exact w_cons (ckT_ok t ok h1) (ckTs_ok k (.cons t2 l) ok h2)
theorem cka_ok : ∀ (k : Bool) (l : Exs) {X : Cx} {W : WW} {es : List Expr} {pos : Pos}, XOk c n ad fdt X W → cks c.g X.N X.env.scope l es = true → PE X (.BoolOp (if k then .And else .Or) es pos) (tev X.K X.mG W (evA c k l))
  | k, .nil, X, W, es, pos, ok, h => ⟨fun pins s σ H Q I ⟨F, ρ, en, q⟩ => by simp only [evA] at q; exact q.elim⟩
  | k, .cons t .nil, X, W, es, pos, ok, h => by
    simp only [cks] at h
    split at h
    · rename_i e es
      simp only [Bool.and_eq_true] at h
      obtain ⟨h1, h2⟩ := h
      have : es = [] := by simpa using h2
      subst this
      exact a_one (ckE_ok t ok h1)
    · cases h
  | k, .cons t (.cons t2 l), X, W, es, pos, ok, h => by
    cases es with
    | nil => simp [cks] at h
    | cons e es =>
      rw [cks_cons, Bool.and_eq_true] at h
      obtain ⟨h1, h2⟩ := h
      cases es with
      | nil => simp [cks] at h2
      | cons e2 r => exact a_cons (ckE_ok t ok h1) (cka_ok k (.cons t2 l) ok h2)
theorem cks_ok : ∀ (l : Exs) {X : Cx} {W : WW} {es : List Expr}, XOk c n ad fdt X W → cks c.g X.N X.env.scope l es = true → es.all nost = true → PA X es (tev' X.K X.mG W (evs c l))
  | .nil, X, W, es, ok, h, hs => by
    have : es = [] := by simpa [cks] using h
    subst this
    exact l_nil
  | .cons t l, X, W, es, ok, h, hs => by
    simp only [cks] at h
    split at h
    · rename_i e es
      simp only [Bool.and_eq_true] at h
      simp only [List.all_cons, Bool.and_eq_true] at hs
      exact l_cons (ckE_ok t ok h.1) (cks_ok l ok h.2 hs.2) hs.1
    · cases h
theorem ckp_ok : ∀ (l : Exs) {ks : List Key} {X : Cx} {W : WW} {keys : List (Option Expr)} {values : List Expr} {pos : Pos}, XOk c n ad fdt X W → ckKs ks keys = true → cks c.g X.N X.env.scope l values = true → keys.length = values.length →
    PPs X pos keys values (trsK X.K X.mG W c ks l) ∧ exLen l = ks.length
  | .nil, ks, X, W, keys, values, pos, ok, h1, h, hl => by
    have hv : values = [] := by simpa [cks] using h
    subst hv
    have hk : keys = [] := List.length_eq_zero_iff.mp hl
    subst hk
    cases ks with
    | nil => exact ⟨pps_nil, rfl⟩
    | cons _ _ => simp [ckKs] at h1
  | .cons t l, ks, X, W, keys, values, pos, ok, h1, h, hl => by
    cases values with
    | nil => simp [cks] at h
    | cons v vs =>
      cases keys with
      | nil => simp at hl
      | cons k keys =>
        cases ks with
        | nil => simp [ckKs] at h1
        | cons k0 ks =>
          simp only [ckKs, Bool.and_eq_true] at h1
          rw [cks_cons, Bool.and_eq_true] at h
          obtain ⟨z1, z2⟩ := ckp_ok l ok h1.2 h.2 (by simpa using hl)
          cases k with
          | none => cases k0 <;> simp [ckK] at h1
          | some k => exact ⟨pps_cons (pe_key h1.1) (ckE_ok t ok h.1) z1, by simp [exLen, z2]⟩
theorem ckk_ok : ∀ (l : Exs) {X : Cx} {W : WW} {kws : List Keyword}, XOk c n ad fdt X W → cks c.g X.N X.env.scope l (kws.map (·.value)) = true → PK X kws (tev' X.K X.mG W (evs c l))
  | .nil, X, W, kws, ok, h => by
    have : kws = [] := by simpa [cks] using h
    subst this
    exact l_knil
  | .cons t l, X, W, kws, ok, h => by
    cases kws with
    | nil => simp [cks] at h
    | cons k kws =>
      obtain ⟨nm, e, kp⟩ := k
      simp only [List.map_cons, cks_cons, Bool.and_eq_true] at h
      exact l_kcons (ckE_ok t ok h.1) (ckk_ok l ok h.2)
theorem ckO_ok : ∀ (o : Oe) {X : Cx} {W : WW} {e' : Option Expr}, XOk c n ad fdt X W → ckO c.g X.N X.env.scope o e' = true → PO X e' (tov X.K X.mG W (evO c o))
  | .no, X, W, e', ok, h => by
    have : e' = none := by simpa [ckO] using h
    subst this
    exact l_no
  | .so a, X, W, e', ok, h => by
    simp only [ckO] at h
    split at h
    · exact l_so (ckE_ok a ok h)
    · cases h
theorem ckF_ok : ∀ (o : Ot) {X : Cx} {W : WW} {es : List Expr}, XOk c n ad fdt X W → ckF c.g X.N X.env.scope o es = true → PTs X es (ttv X.K X.mG W (evF c o))
  | .no, X, W, es, ok, h => by
    have : es = [] := by simpa [ckF] using h
    subst this
    exact ⟨fun pins s σ H Q I ⟨F, ρ, en, q⟩ => pts_nil.run pins s σ H Q I (by simp only [evF] at q; exact q true F H (.refl en) rfl)⟩
  | .so a, X, W, es, ok, h => by
    simp only [ckF] at h
    split at h
    · exact pts_one (ckT_ok a ok h)
    · cases h
theorem ckI_ok : ∀ (i : It) {X : Cx} {W : WW} {e' t' : Expr}, XOk c n ad fdt X W → ckI c.g X.N X.env.scope i e' t' = true → PI X t' e' (tit X.K X.mG W (evI c i))
  | .one a, X, W, e', t', ok, h => by
    simp only [ckI] at h
    exact it_one (ckE_ok a ok h)
  | .rng1 a, X, W, e', t', ok, h => by
    simp only [ckI] at h
    split at h
    · simp only [Bool.and_eq_true, decide_eq_true_eq] at h
      obtain ⟨⟨⟨⟨h1, h2⟩, h3⟩, h4⟩, h5⟩ := h
      simp only [beq_iff_eq] at h1
      subst h1
      exact it_rng1 ok h2 h3 (ckE_ok a ok h4) h5
    · cases h
  | .rng2 a b, X, W, e', t', ok, h => by
    simp only [ckI] at h
    split at h
    · simp only [Bool.and_eq_true, decide_eq_true_eq] at h
      obtain ⟨⟨⟨⟨⟨⟨h1, h2⟩, h3⟩, h4⟩, h5⟩, h6⟩, h7⟩ := h
      simp only [beq_iff_eq] at h1
      subst h1
      exact it_rng2 ok h2 h3 (ckE_ok a ok h4) (ckE_ok b ok h6) h5 h7
    · cases h
  | .zip _ _, X, W, e', t', ok, h => by simp [ckI] at h
  | .enu _, X, W, e', t', ok, h => by simp [ckI] at h
end
end
end Mp

/-! Mp17: each form of a statement. -/
namespace Mp
open PySem L2 PyProof.Rows
/-- from statement to statement; Pr: the slots that are not stored -/
structure Ps (K : PySem.W.Frag) (mg : MG) (Pr : List Nat) (F0 H0 : Hp) (σ0 : L2.St) (ρ0 : En) (F H : Hp) (σ : L2.St) (ρ : En) : Prop where
  st : Stp F0 H0 (Own σ0 ρ0) F H
  en : EnvR K mg F H σ ρ
  ow : ∀ p, Own σ ρ p → Own σ0 ρ0 p ∨ H0 p = none
  same : ∀ i ∈ Pr, stAt σ i = stAt σ0 i
  fil : ∀ i ∈ Pr, ∀ s, ρ0.at i = some s → ∃ s', ρ.at i = some s'
  len : ρ.length = ρ0.length
section
variable {K : PySem.W.Frag} {mg : MG} {W : WW} {Pr : List Nat} {F0 H0 F H : Hp} {σ0 σ : L2.St} {ρ0 ρ : En}
theorem Ps.refl (en : EnvR K mg F H σ ρ) : Ps K mg Pr F H σ ρ F H σ ρ := ⟨.refl, en, fun _ z => .inl z, fun _ _ => rfl, fun _ _ s e => ⟨s, e⟩, rfl⟩
theorem Ps.trans {F1 H1 : Hp} {σ1 : L2.St} {ρ1 : En} (a : Ps K mg Pr F0 H0 σ0 ρ0 F H σ ρ) (b : Ps K mg Pr F H σ ρ F1 H1 σ1 ρ1) : Ps K mg Pr F0 H0 σ0 ρ0 F1 H1 σ1 ρ1 := by
  refine ⟨a.st.trans b.st fun p o e z => ?_, b.en, fun p z => ?_, fun i m => (b.same i m).trans (a.same i m), fun i m s e => ?_, b.len.trans a.len⟩
  · rcases a.ow p z with h | h
    · exact h
    · rw [h] at e; cases e
  · rcases b.ow p z with h | h
    · exact a.ow p h
    · exact .inr (a.st.al p h)
  · obtain ⟨s1, e1⟩ := a.fil i m s e
    exact b.fil i m s1 e1
/-- an expression's step -/
theorem Po.ps {F1 H1 : Hp} {ρ1 : En} (hl : ρ1.length = ρ.length) (p : Po K mg F H σ ρ F1 H1 ρ1) : Ps K mg Pr F H σ ρ F1 H1 σ ρ1 := ⟨p.st, p.en, fun b z => .inl (p.ow b z), fun _ _ => rfl, fun i _ s e => p.fil i s e, hl⟩
theorem Po.len {F1 H1 : Hp} {ρ1 : En} (en : EnvR K mg F H σ ρ) (p : Po K mg F H σ ρ F1 H1 ρ1) : ρ1.length = ρ.length := p.en.len.symm.trans en.len
theorem Ps.po {F1 H1 : Hp} {ρ1 : En} (a : Ps K mg Pr F0 H0 σ0 ρ0 F H σ ρ) (p : Po K mg F H σ ρ F1 H1 ρ1) : Ps K mg Pr F0 H0 σ0 ρ0 F1 H1 σ ρ1 := a.trans (p.ps (p.len a.en))
/-- the end of a statement that began at F0, H0, σ0, ρ0 -/
def FinS (K : PySem.W.Frag) (mg : MG) (W : WW) (Pr : List Nat) (F0 H0 : Hp) (σ0 : L2.St) (ρ0 : En) (D : Ends) : So → Prop
  | .nx ρ => ∀ σ F H, Ps K mg Pr F0 H0 σ0 ρ0 F H σ ρ → D.nx σ H
  | .bk ρ => ∀ σ F H, Ps K mg Pr F0 H0 σ0 ρ0 F H σ ρ → D.bk σ H
  | .ct ρ => ∀ σ F H, Ps K mg Pr F0 H0 σ0 ρ0 F H σ ρ → D.ct σ H
  | .rt r ρ => ∀ v σ F H, Ps K mg Pr F0 H0 σ0 ρ0 F H σ ρ → RvR K mg H0 F H σ ρ v r → D.rt v H
  | .er x ρ => ∀ cl d σ F H, Ps K mg Pr F0 H0 σ0 ρ0 F H σ ρ → XnR K mg F cl d x → W cl d σ H
  | .bad => False
def tst (K : PySem.W.Frag) (mg : MG) (W : WW) (Pr : List Nat) (s : En → So) : TS := fun D σ H => ∃ F ρ, EnvR K mg F H σ ρ ∧ FinS K mg W Pr F H σ ρ D (s ρ)
theorem stepS {s : En → So} {D : Ends} (p : Ps K mg Pr F0 H0 σ0 ρ0 F H σ ρ) (h : FinS K mg W Pr F0 H0 σ0 ρ0 D (s ρ)) : tst K mg W Pr s D σ H := by
  refine ⟨F, ρ, p.en, ?_⟩
  cases q : s ρ with
  | nx ρ1 => rw [q] at h; exact fun σ1 F1 H1 p1 => h σ1 F1 H1 (p.trans p1)
  | bk ρ1 => rw [q] at h; exact fun σ1 F1 H1 p1 => h σ1 F1 H1 (p.trans p1)
  | ct ρ1 => rw [q] at h; exact fun σ1 F1 H1 p1 => h σ1 F1 H1 (p.trans p1)
  | rt r ρ1 => rw [q] at h; exact fun v σ1 F1 H1 p1 rv => h v σ1 F1 H1 (p.trans p1) (rv.base p.st.al)
  | er x ρ1 => rw [q] at h; exact fun cl d σ1 F1 H1 p1 x1 => h cl d σ1 F1 H1 (p.trans p1) x1
  | bad => rw [q] at h; exact h.elim
/-- an expression, then the rest of a statement -/
theorem thenE {D : Ends} {e : En → Out Rv} {k : Rv → En → So} (p : Ps K mg Pr F0 H0 σ0 ρ0 F H σ ρ) (h : FinS K mg W Pr F0 H0 σ0 ρ0 D ((e ρ).then k))
    {Q1 : V → Hp → Prop} (f : ∀ x F1 H1 ρ1 r, Po K mg F H σ ρ F1 H1 ρ1 → Ps K mg Pr F0 H0 σ0 ρ0 F1 H1 σ ρ1 → RvR K mg H F1 H1 σ ρ1 x r → FinS K mg W Pr F0 H0 σ0 ρ0 D (k r ρ1) → Q1 x H1) : tev K mg W e σ H Q1 := by
  refine ⟨F, ρ, p.en, ?_⟩
  cases q : e ρ with
  | ok r ρ1 => rw [q] at h; exact fun x F1 H1 p1 r1 => f x F1 H1 ρ1 r p1 (p.po p1) r1 h
  | er x ρ1 => rw [q] at h; exact fun c d F1 H1 p1 x1 => h c d σ F1 H1 (p.po p1) x1
  | bad => rw [q] at h; exact h.elim
theorem thenB {D : Ends} {e : En → Out Bool} {k : Bool → En → So} (p : Ps K mg Pr F0 H0 σ0 ρ0 F H σ ρ) (h : FinS K mg W Pr F0 H0 σ0 ρ0 D ((e ρ).then k))
    {Q1 : Bool → Hp → Prop} (f : ∀ r F1 H1 ρ1, Ps K mg Pr F0 H0 σ0 ρ0 F1 H1 σ ρ1 → FinS K mg W Pr F0 H0 σ0 ρ0 D (k r ρ1) → Q1 r H1) : ttv K mg W e σ H Q1 := by
  refine ⟨F, ρ, p.en, ?_⟩
  cases q : e ρ with
  | ok r ρ1 =>
    rw [q] at h
    intro x F1 H1 p1 e1
    subst e1
    exact f x F1 H1 ρ1 (p.po p1) h
  | er x ρ1 => rw [q] at h; exact fun c d F1 H1 p1 x1 => h c d σ F1 H1 (p.po p1) x1
  | bad => rw [q] at h; exact h.elim
/-- a store at a slot that may be stored -/
theorem Ps.set (p : Ps K mg Pr F0 H0 σ0 ρ0 F H σ ρ) {i : Nat} (hi : i ∉ Pr) {x : V} {d : D} (r : RelD K mg F x d) : Ps K mg Pr F0 H0 σ0 ρ0 F H (σ.set i (some x)) (ρ.set i (some (.val d))) := by
  obtain ⟨en, ow⟩ := p.en.set i r
  exact ⟨p.st, en, fun q z => p.ow q (ow q z), fun j m => (st_set_ne (by intro z; subst z; exact hi m)).trans (p.same j m), fun j m s e => by
    rw [at_set_ne (by intro z; subst z; exact hi m)]; exact p.fil j m s e, by rw [List.length_set]; exact p.len⟩
/-- a store of a new thing -/
theorem Ps.setOwn (p : Ps K mg Pr F0 H0 σ0 ρ0 F H σ ρ) {i : Nat} (hi : i ∉ Pr) {q : Addr} {d : D} (h0 : H0 q = none) (f : F q = none) (o : OwnAt K mg F H q d) (n : ¬ Own σ ρ q) : Ps K mg Pr F0 H0 σ0 ρ0 F H (σ.set i (some (.ref q))) (ρ.set i (some (.own d))) := by
  have key : ∀ {j : Nat} {d2 : D}, En.at (ρ.set i (some (.own d))) j = some (.own d2) → (j = i ∧ d2 = d) ∨ (j ≠ i ∧ ρ.at j = some (.own d2)) := fun {j d2} e => by
    by_cases z : i = j
    · subst z
      rw [at_set_self (by have := En.lt e; rwa [List.length_set] at this)] at e; cases e; exact .inl ⟨rfl, rfl⟩
    · rw [at_set_ne z] at e; exact .inr ⟨Ne.symm z, e⟩
  have lt : ∀ {j : Nat} {s : S}, En.at (ρ.set i (some (.own d))) j = some s → j < σ.length := fun {j s} e => by
    have := En.lt e
    rw [List.length_set] at this
    rw [p.en.len]; exact this
  refine ⟨p.st, ⟨by rw [List.length_set, List.length_set]; exact p.en.len, p.en.sub, fun j d2 e => ?_, fun j d2 e => ?_, fun j k d2 d3 b e2 e3 e4 e5 => ?_, p.en.exnSet2 .refl (fun x z => by cases z)⟩, fun b ⟨j, d2, e1, e2⟩ => ?_, fun j m => (st_set_ne (by intro z; subst z; exact hi m)).trans (p.same j m), fun j m s e => ?_, by rw [List.length_set]; exact p.len⟩
  · by_cases z : i = j
    · subst z
      rw [at_set_self (by have := En.lt e; rwa [List.length_set] at this)] at e; cases e
    · rw [at_set_ne z] at e
      obtain ⟨v, e1, r1⟩ := p.en.val j d2 e
      exact ⟨v, by rw [st_set_ne z]; exact e1, r1⟩
  · rcases key e with ⟨z, z2⟩ | ⟨z, e'⟩
    · subst z; subst z2
      exact ⟨q, st_set_self (lt e), f, o⟩
    · obtain ⟨b, e1, r⟩ := p.en.own j d2 e'
      exact ⟨b, by rw [st_set_ne (Ne.symm z)]; exact e1, r⟩
  · rcases key e2 with ⟨z, _⟩ | ⟨z, e2'⟩
    · rcases key e3 with ⟨z', _⟩ | ⟨z', e3'⟩
      · rw [z, z']
      · exfalso
        subst z
        rw [st_set_self (lt e2)] at e4
        rw [st_set_ne (Ne.symm z')] at e5
        cases e4
        exact n ⟨k, d3, e3', e5⟩
    · rcases key e3 with ⟨z', _⟩ | ⟨z', e3'⟩
      · exfalso
        subst z'
        rw [st_set_self (lt e3)] at e5
        rw [st_set_ne (Ne.symm z)] at e4
        cases e5
        exact n ⟨j, d2, e2', e4⟩
      · rw [st_set_ne (Ne.symm z)] at e4
        rw [st_set_ne (Ne.symm z')] at e5
        exact p.en.inj j k _ _ _ e2' e3' e4 e5
  · rcases key e1 with ⟨z, _⟩ | ⟨z, e1'⟩
    · subst z
      rw [st_set_self (lt e1)] at e2
      cases e2
      exact .inr h0
    · rw [st_set_ne (Ne.symm z)] at e2
      exact p.ow b ⟨j, d2, e1', e2⟩
  · rw [at_set_ne (by intro z; subst z; exact hi m)]; exact p.fil j m s e
theorem asg_of {D : Ends} {i : Nat} (hi : i ∉ Pr) {x : V} {r : Rv} (p : Ps K mg Pr F0 H0 σ0 ρ0 F H σ ρ) (v : RvR K mg H0 F H σ ρ x r) (h : FinS K mg W Pr F0 H0 σ0 ρ0 D (asgR i r ρ)) : gName i x σ H D.nx := by
  unfold asgR at h
  split at h
  · exact h _ F H (p.set hi v)
  · obtain ⟨q, e, h0, f, o, n⟩ := v
    subst e
    exact h _ F H (p.setOwn hi h0 f o n)
  · rename_i j
    split at h
    · rename_i d ρ' e
      obtain ⟨F', p', k, r⟩ := fz_of (.refl p.en) (show RvW K mg H F H σ ρ x (.brw j) from v) e
      exact h _ F' H ((p.po p').set hi r)
    · exact h.elim
end
end Mp

/-! Mp18: the forms of a statement. -/
namespace Mp
open PySem L2 PyProof.Rows
def nocomp : Expr → Bool
  | .ListComp _ _ _ _ => false
  | .SetComp _ _ _ _ => false
  | .DictComp _ _ _ _ _ => false
  | _ => true
def notup : Expr → Bool
  | .Tuple _ _ _ => false
  | _ => true
theorem sw_none {e : Expr} {t : Option Expr} {l : Nat} {env : Env} (h : nocomp e = true) : swapsWith e t l env = pure false := by
  cases e <;> first | rfl | cases h
theorem sw_sub {e o i : Expr} {p : Pos} {l : Nat} {env : Env} : swapsWith e (some (.Subscript o i p)) l env = pure false := by
  cases e <;> rfl
theorem sw_att {e o : Expr} {f : Str} {p : Pos} {l : Nat} {env : Env} : swapsWith e (some (.Attribute o f p)) l env = pure false := by
  cases e <;> rfl
theorem sw_tup {e : Expr} {es : List Expr} {k : Nat} {p : Pos} {l : Nat} {env : Env} : swapsWith e (some (.Tuple es k p)) l env = pure false := by
  cases e <;> rfl
theorem swS_tup {e : Expr} {es : List Expr} {k : Nat} {p : Pos} {l : Nat} {env : Env} : swapsWithSole [.Tuple es k p] e l env = pure false := by
  cases e <;> rfl
theorem swS_sub {e o i : Expr} {p : Pos} {l : Nat} {env : Env} : swapsWithSole [.Subscript o i p] e l env = pure false := by
  cases e <;> rfl
theorem swp_none {ts : List Expr} {e : Expr} {env : Env} (h : notup e = true) : swappedStores ts e env = pure none := by
  unfold swappedStores
  cases e <;> first | (cases h; done) | skip
  all_goals
    cases ts with
    | nil => rfl
    | cons t ts => cases ts <;> cases t <;> rfl
def lclB (sc : Scope) : Expr → Bool
  | .Name x _ => sc.names.lookup x == some .local
  | _ => false
def noswp (sc : Scope) (es : List Expr) (e : Expr) : Bool := notup e || es.any fun x => !lclB sc x
theorem noswp_none {es : List Expr} {k : Nat} {p : Pos} {e : Expr} {env : Env} (h : noswp env.scope es e = true) : swappedStores [.Tuple es k p] e env = pure none := by
  by_cases q : notup e = true
  · exact swp_none q
  · cases e <;> first | (exact absurd rfl q) | skip
    simp only [noswp, notup, Bool.false_or, List.any_eq_true, Bool.not_eq_true'] at h
    obtain ⟨x, hx, hn⟩ := h
    unfold swappedStores
    dsimp only
    split
    · rfl
    · split
      · rfl
      · split
        · rfl
        · rename_i hc
          refine absurd ?_ hc
          rw [Bool.or_eq_true]
          left
          rw [bne_iff_ne]
          refine Nat.ne_of_lt (List.length_filterMap_lt_length_iff_exists.mpr ⟨x, hx, ?_⟩)
          cases x <;> first | rfl | skip
          rename_i id pos
          have : (env.kindOf id == some .local) = false := hn
          simp only [this, Bool.false_and, Bool.false_eq_true, if_false]
theorem swp_sub {o i e : Expr} {p : Pos} {env : Env} : swappedStores [.Subscript o i p] e env = pure none := by
  cases e <;> rfl
section
variable {c : Cc} {n : Nat} {ad : Nat → Addr} {fdt : Nat → FuncData} {X : Cx} {W : WW} {Pr : List Nat} {a' b' e' t' tg' it' : Expr} {ea eb ee : En → Out Rv} {et : En → Out Bool} {pos : Pos} {s t : En → So}
theorem PS.imp {st : Stmt} {t t' : TS} (h : PS X st t) (k : ∀ D σ H, t' D σ H → t D σ H) : PS X st t' := ⟨fun pins s σ H D I q => h.run pins s σ H D I (k D σ H q)⟩
theorem PSs.imp {st : List Stmt} {t t' : TS} (h : PSs X st t) (k : ∀ D σ H, t' D σ H → t D σ H) : PSs X st t' := ⟨fun pins s σ H D I q => h.run pins s σ H D I (k D σ H q)⟩
theorem s_nil : PSs X [] (tst X.K X.mG W Pr .nx) := PSs.imp pss_nil fun D σ H ⟨F, ρ, en, h⟩ => h σ F H (.refl en)
theorem s_cons {st : Stmt} {sts : List Stmt} (h1 : PS X st (tst X.K X.mG W Pr s)) (h2 : PSs X sts (tst X.K X.mG W Pr t)) : PSs X (st :: sts) (tst X.K X.mG W Pr fun ρ => (s ρ).then t) :=
  PSs.imp (pss_cons h1 h2) fun D σ H ⟨F, ρ, en, h⟩ => by
    refine ⟨F, ρ, en, ?_⟩
    dsimp only at h
    cases q : s ρ with
    | nx ρ1 => rw [q] at h; exact fun σ1 F1 H1 p1 => stepS p1 h
    | bk ρ1 => rw [q] at h; exact h
    | ct ρ1 => rw [q] at h; exact h
    | rt r ρ1 => rw [q] at h; exact h
    | er x ρ1 => rw [q] at h; exact h
    | bad => rw [q] at h; exact h.elim
theorem s_pas : PS X (.Pass pos) (tst X.K X.mG W Pr .nx) := PS.imp ps_pass fun D σ H ⟨F, ρ, en, h⟩ => h σ F H (.refl en)
theorem s_brk : PS X (.Break pos) (tst X.K X.mG W Pr .bk) := PS.imp ps_break fun D σ H ⟨F, ρ, en, h⟩ => h σ F H (.refl en)
theorem s_cnt : PS X (.Continue pos) (tst X.K X.mG W Pr .ct) := PS.imp ps_continue fun D σ H ⟨F, ρ, en, h⟩ => h σ F H (.refl en)
theorem s_retN : PS X (.Return none pos) (tst X.K X.mG W Pr fun ρ => .rt (.val .non) ρ) := PS.imp ps_retN fun D σ H ⟨F, ρ, en, h⟩ => h .non σ F H (.refl en) .non
theorem s_ret (he : PE X e' (tev X.K X.mG W ee)) : PS X (.Return (some e') pos) (tst X.K X.mG W Pr fun ρ => (ee ρ).then fun r ρ => .rt r ρ) :=
  PS.imp (ps_ret he) fun D σ H ⟨F, ρ, en, h⟩ => thenE (.refl en) h fun x F1 H1 ρ1 r q1 p1 v1 h1 => h1 x σ F1 H1 p1 v1
theorem s_exp (he : PE X e' (tev X.K X.mG W ee)) (hs : nocomp e' = true) : PS X (.Expr e' pos) (tst X.K X.mG W Pr fun ρ => (ee ρ).then fun _ ρ => .nx ρ) :=
  PS.imp (ps_expr he (sw_none hs)) fun D σ H ⟨F, ρ, en, h⟩ => thenE (.refl en) h fun x F1 H1 ρ1 r q1 p1 v1 h1 => h1 σ F1 H1 p1
theorem s_ifs {as bs : List Stmt} (hc : PT X e' (ttv X.K X.mG W et)) (ha : PSs X as (tst X.K X.mG W Pr s)) (hb : PSs X bs (tst X.K X.mG W Pr t)) :
    PS X (.If e' as bs pos) (tst X.K X.mG W Pr fun ρ => (et ρ).then fun k ρ => if k then s ρ else t ρ) :=
  PS.imp (ps_if hc ha hb) fun D σ H ⟨F, ρ, en, h⟩ => thenB (.refl en) h fun b F1 H1 ρ1 p1 h1 => by
    cases b with
    | true => rw [if_pos rfl]; rw [if_pos rfl] at h1; exact stepS p1 h1
    | false => rw [if_neg Bool.false_ne_true]; rw [if_neg Bool.false_ne_true] at h1; exact stepS p1 h1
/-- name = value -/
theorem s_asg {i : Nat} {x : Str} {p : Pos} (nd : X.N.Nodup) (hN : X.N[i]? = some x) (hl : Loc X.env.scope x) (hf : X.fn x = true ∨ X.env.scope.names.lookup x = some .local) (hi : i ∉ Pr) (he : PE X e' (tev X.K X.mG W ee)) (hs : swapsWith e' (some (.Name x p)) pos.line X.env = pure false) :
    PS X (.Assign [.Name x p] e' pos) (tst X.K X.mG W Pr fun ρ => (ee ρ).then fun r ρ => asgR i r ρ) :=
  PS.imp (ps_set nd hN hl he hs hf) fun D σ H ⟨F, ρ, en, h⟩ => thenE (.refl en) h fun x F1 H1 ρ1 r q1 p1 v1 h1 => asg_of hi p1 v1 h1
theorem s_asgLc {i : Nat} {x : Str} {p pe : Pos} {ei : En → Out Sr} {ef : En → Out Bool} {ee : En → Out Rv} {own : List (Str × Nat)} {one : Bool} {tg : List Nat} {scope : Scope} {ifs' : List Expr} (hc : X.calm = true) (nd : X.N.Nodup) (hN : X.N[i]? = some x) (hl : X.env.scope.names.lookup x = some .local) (hi' : i ∉ Pr)
    (hsw : swapsWith (.ListComp e' [⟨tg', it', ifs', 0⟩] scope pe) (some (.Name x p)) pos.line X.env = pure true) (hi : PI X tg' it' (tit X.K X.mG W ei)) (ok : BlkOk X.N X.env.scope scope own)
    (htg : ∀ i ∈ tg, i ∈ own.map (·.2))
    (hg : ∀ (s : Shared) (H : Hp) (C : Addr) (cl : List (Str × Addr)) (fp : List Addr), PG (X.blk s H scope (compEnvC scope cl C X.env) fp) tg' (gT X.K one tg))
    (ht : ∀ (s : Shared) (H : Hp) (C : Addr) (cl : List (Str × Addr)) (fp : List Addr), PTs (X.blk s H scope (compEnvC scope cl C X.env) fp) ifs' (ttv X.K X.mG W0 ef))
    (he : ∀ (s : Shared) (H : Hp) (C : Addr) (cl : List (Str × Addr)) (fp : List Addr), PE (X.blk s H scope (compEnvC scope cl C X.env) fp) e' (tev X.K X.mG W0 ee)) (hs : noset it' = true) :
    PS X (.Assign [.Name x p] (.ListComp e' [⟨tg', it', ifs', 0⟩] scope pe) pos) (tst X.K X.mG W Pr fun ρ => (eLc ei ef ee own one tg ρ).then fun r ρ => asgR i r ρ) :=
  PS.imp (ps_setLc hc nd hN hl hsw hi ok hg ht he (by intro x; cases it' <;> first | rfl | cases hs)) fun D σ H ⟨F, ρ, en, h⟩ =>
    k_lc htg σ H _ (thenE (.refl en) h fun x F1 H1 ρ1 r q1 p1 v1 h1 => asg_of hi' p1 v1 h1)
/-- a, b = value -/
theorem Bnd.ps {K : PySem.W.Frag} {mg : MG} {F0 H0 F H : Hp} {σ0 σ σ' : L2.St} {ρ0 ρ ρ' : En} {tg : List Nat} (p : Ps K mg Pr F0 H0 σ0 ρ0 F H σ ρ) (b : Bnd K mg F H σ ρ tg σ' ρ') (ht : ∀ i ∈ tg, i ∉ Pr) : Ps K mg Pr F0 H0 σ0 ρ0 F H σ' ρ' :=
  ⟨p.st, b.en, fun q z => p.ow q (b.ow q z), fun i m => ((b.same i fun z => ht i z m).1).trans (p.same i m), fun i m s e => by rw [(b.same i fun z => ht i z m).2]; exact p.fil i m s e, by
    have e1 := b.en.len
    have e2 := p.en.len
    have e3 := b.len
    have e4 := p.len
    omega⟩
theorem s_tup {tg : List Nat} {es : List Expr} {k : Nat} {p : Pos} (hg : PG X (.Tuple es k p) (gT X.K false tg)) (ht : ∀ i ∈ tg, i ∉ Pr) (he : PE X e' (tev X.K X.mG W ee)) (hs : swappedStores [.Tuple es k p] e' X.env = pure none) :
    PS X (.Assign [.Tuple es k p] e' pos) (tst X.K X.mG W Pr fun ρ => (ee ρ).then fun r ρ => tupR tg r ρ) :=
  PS.imp (ps_asg he hg swS_tup hs rfl) fun D σ H ⟨F, ρ, en, h⟩ => thenE (.refl en) h fun x F1 H1 ρ1 r q1 p1 v1 h1 => by
    unfold tupR at h1
    split at h1
    · rename_i d ρ2 e2
      obtain ⟨F2, p2, k2, rd⟩ := fz_of q1 v1.w e2
      split at h1
      · rename_i ρ' eb
        exact bnd_of p2.en rd eb fun σ' b => h1 σ' F2 H1 (b.ps ((Ps.refl en).po p2) ht)
      · exact h1.elim
    · exact h1.elim
/-- a loop over written data, over the list of a slot -/
theorem Grow.ps {K : PySem.W.Frag} {mg : MG} {F0 H0 F H F' H' : Hp} {σ0 σ : L2.St} {ρ0 ρ : En} (g : Grow F H F' H') (p : Ps K mg Pr F0 H0 σ0 ρ0 F H σ ρ) : Ps K mg Pr F0 H0 σ0 ρ0 F' H' σ ρ := p.po (g.po (.refl p.en))
theorem Ps.weak {K : PySem.W.Frag} {mg : MG} {F0 H0 F H : Hp} {σ0 σ : L2.St} {ρ0 ρ : En} {Pr' : List Nat} (p : Ps K mg Pr' F0 H0 σ0 ρ0 F H σ ρ) (h : ∀ i ∈ Pr, i ∈ Pr') : Ps K mg Pr F0 H0 σ0 ρ0 F H σ ρ :=
  ⟨p.st, p.en, p.ow, fun i m => p.same i (h i m), fun i m => p.fil i (h i m), p.len⟩
theorem s_for {ei : En → Out Sr} {one : Bool} {tg Pr' : List Nat} {body : List Stmt} {iv : Nat → Bool} (hp : PassesOwn (model X.prog X.w) X.A X.env X.xe) (hc : X.calm = true) (hi : PI X tg' it' (tit X.K X.mG W ei)) (hg : PG X tg' (gT X.K one tg)) (hb : PSs X body (tst X.K X.mG W Pr' s))
    (ht : ∀ i ∈ tg, i ∉ Pr') (hP : ∀ i ∈ Pr, i ∈ Pr') (hv : ∀ i, iv i = true → i ∈ Pr') (hs : noset it' = true) :
    PS X (.For tg' it' body [] pos) (tst X.K X.mG W Pr fun ρ => (ei ρ).then fun sr ρ => match sr with
      | .fix l => forL (turnB s one tg) l ρ
      | .dyn i => if iv i = true then dynL (turnB s one tg) i c.fu 0 ρ else .bad) := by
  refine PS.imp (ps_for hp hc hi hg hb (by intro x; cases it' <;> first | rfl | cases hs)) fun D σ H ⟨F, ρ, en, h⟩ => ?_
  dsimp only at h
  refine ⟨F, ρ, en, ?_⟩
  cases q : ei ρ with
  | bad => rw [q] at h; exact h.elim
  | er x ρ1 => rw [q] at h; exact fun cl d F1 H1 p1 x1 => h cl d σ F1 H1 ((Ps.refl en).po p1) x1
  | ok sr ρi =>
    rw [q] at h
    intro J F1 H1 p1 fd
    have pi : Ps X.K X.mG Pr F H σ ρ F1 H1 σ ρi := (Ps.refl en).po p1
    -- one turn: what the body is to reach
    have body : ∀ {Nn : L2.St → Hp → Prop} {F' H' : Hp} {σ2 : L2.St} {ρ1 : En} {nxt : En → So}, Ps X.K X.mG Pr F H σ ρ F' H' σ2 ρ1 →
        FinS X.K X.mG W Pr F H σ ρ D (match s ρ1 with | .nx ρ' => nxt ρ' | .ct ρ' => nxt ρ' | .bk ρ' => .nx ρ' | r => r) →
        (∀ σ3 F3 H3 ρ3, Ps X.K X.mG Pr F H σ ρ F3 H3 σ3 ρ3 → Ps X.K X.mG Pr' F' H' σ2 ρ1 F3 H3 σ3 ρ3 → FinS X.K X.mG W Pr F H σ ρ D (nxt ρ3) → Nn σ3 H3) → tst X.K X.mG W Pr' s { D with nx := Nn, ct := Nn, bk := D.nx } σ2 H' := fun {Nn F' H' σ2 ρ1 nxt} p2 h2 hN => by
      refine ⟨F', ρ1, p2.en, ?_⟩
      cases qs : s ρ1 with
      | nx ρ3 => rw [qs] at h2; exact fun σ3 F3 H3 p3 => hN σ3 F3 H3 ρ3 (p2.trans (p3.weak hP)) p3 h2
      | ct ρ3 => rw [qs] at h2; exact fun σ3 F3 H3 p3 => hN σ3 F3 H3 ρ3 (p2.trans (p3.weak hP)) p3 h2
      | bk ρ3 => rw [qs] at h2; exact fun σ3 F3 H3 p3 => h2 σ3 F3 H3 (p2.trans (p3.weak hP))
      | rt r ρ3 => rw [qs] at h2; exact fun v σ3 F3 H3 p3 rv => h2 v σ3 F3 H3 (p2.trans (p3.weak hP)) (rv.base p2.st.al)
      | er x ρ3 => rw [qs] at h2; exact fun cl d σ3 F3 H3 p3 x3 => h2 cl d σ3 F3 H3 (p2.trans (p3.weak hP)) x3
      | bad => rw [qs] at h2; exact h2.elim
    cases sr with
    | fix l =>
      have h : FinS X.K X.mG W Pr F H σ ρ D (forL (turnB s one tg) l ρi) := h
      obtain ⟨I, i0, imono, feed⟩ := fd
      refine ⟨fun k m σk Hk => m = l.length - k ∧ k ≤ l.length ∧ ∃ (Fk : Hp) (ρk : En), Ps X.K X.mG Pr F H σ ρ Fk Hk σk ρk ∧ I Fk ∧ FinS X.K X.mG W Pr F H σ ρ D (forL (turnB s one tg) (l.drop k) ρk), ⟨l.length, by simp, Nat.zero_le _, F1, ρi, pi, i0, h⟩, ?_⟩
      rintro k m σk Hk ⟨rfl, hk, Fk, ρk, pk, ik, hk2⟩
      by_cases hlt : k < l.length
      · right
        obtain ⟨go, yld⟩ := (feed Fk Hk k ik pk.en.sub).1 l[k] (List.getElem?_eq_getElem hlt)
        rw [List.drop_eq_getElem_cons hlt] at hk2
        simp only [forL] at hk2
        refine ⟨go, fun σ' H' => ∃ m', m' < l.length - k ∧ (m' = l.length - (k + 1) ∧ k + 1 ≤ l.length ∧ ∃ (Fk : Hp) (ρk : En), Ps X.K X.mG Pr F H σ ρ Fk H' σ' ρk ∧ I Fk ∧ FinS X.K X.mG W Pr F H σ ρ D (forL (turnB s one tg) (l.drop (k + 1)) ρk)), fun σ' H' z => z, fun x H' hy => ?_⟩
        obtain ⟨F', gr, rd⟩ := yld x H' hy
        have pk' : Ps X.K X.mG Pr F H σ ρ F' H' σk ρk := Grow.ps gr pk
        unfold turnB at hk2
        cases eb : bindT one tg l[k] ρk with
        | none => rw [eb] at hk2; exact hk2.elim
        | some ρ1 =>
          rw [eb] at hk2
          dsimp only at hk2
          refine bnd_of pk'.en rd eb fun σ2 b => ?_
          exact body (b.ps pk' fun i m z => ht i m (hP i z)) hk2 fun σ3 F3 H3 ρ3 p3 q3 h3 => ⟨l.length - (k + 1), by omega, rfl, hlt, F3, ρ3, p3, imono _ _ (gr.mono.trans q3.st.mono) ik, h3⟩
      · left
        have ek : k = l.length := by omega
        subst ek
        rw [List.drop_length] at hk2
        exact ⟨(feed Fk Hk l.length ik pk.en.sub).2 (Nat.le_refl _), hk2 σk Fk Hk pk⟩
    | dyn i =>
      obtain ⟨p, d0, hσ, hρ, eJ⟩ := fd
      subst eJ
      have h : FinS X.K X.mG W Pr F H σ ρ D (if iv i = true then dynL (turnB s one tg) i c.fu 0 ρi else .bad) := h
      by_cases hiv : iv i = true
      · rw [if_pos hiv] at h
        have hiP := hv i hiv
        refine ⟨fun k m σk Hk => ∃ (Fk : Hp) (ρk : En), Ps X.K X.mG Pr F H σ ρ Fk Hk σk ρk ∧ stAt σk i = some (.ref p) ∧ FinS X.K X.mG W Pr F H σ ρ D (dynL (turnB s one tg) i m k ρk), ⟨c.fu, F1, ρi, pi, hσ, h⟩, ?_⟩
        rintro k m σk Hk ⟨Fk, ρk, pk, hp, hk2⟩
        cases m with
        | zero => exact hk2.elim
        | succ m =>
          simp only [dynL] at hk2
          split at hk2
          · rename_i l hl
            -- the list as it stands
            have lst : ∃ xs, SqL X.K Hk p xs ∧ RelL X.K X.mG Fk xs l := by
              have rv : RvR X.K X.mG Hk Fk Hk σk ρk (.ref p) (.brw i) := ⟨hp, by
                cases e : ρk.at i with
                | none => simp only [view, e] at hl; cases hl
                | some sl => exact ⟨sl, rfl⟩⟩
              obtain ⟨a, xs, ea, hq, rl⟩ := (rv.vw pk.en hl).lst pk.en.sub
              cases ea
              exact ⟨xs, hq, rl⟩
            obtain ⟨xs, hq, rl⟩ := lst
            split at hk2
            · rename_i d hd
              right
              obtain ⟨v, ev, rd⟩ := rl.get hd
              refine ⟨⟨xs, v, hq, ev⟩, fun σ' H' => ∃ (Fk : Hp) (ρk : En), Ps X.K X.mG Pr F H σ ρ Fk H' σ' ρk ∧ stAt σ' i = some (.ref p) ∧ FinS X.K X.mG W Pr F H σ ρ D (dynL (turnB s one tg) i m (k + 1) ρk), fun σ' H' z => ⟨m, Nat.lt_succ_self m, z⟩, fun x H' hy => ?_⟩
              obtain ⟨e1, hy⟩ := hy
              subst e1
              have := hy xs hq
              rw [ev] at this; cases this
              unfold turnB at hk2
              cases eb : bindT one tg d ρk with
              | none => rw [eb] at hk2; exact hk2.elim
              | some ρ1 =>
                rw [eb] at hk2
                dsimp only at hk2
                refine bnd_of pk.en rd eb fun σ2 b => ?_
                have hp2 : stAt σ2 i = some (.ref p) := by rw [(b.same i fun z => ht i z hiP).1]; exact hp
                exact body (b.ps pk fun j m z => ht j m (hP j z)) hk2 fun σ3 F3 H3 ρ3 p3 q3 h3 => ⟨F3, ρ3, p3, (q3.same i hiP).trans hp2, h3⟩
            · rename_i hd
              left
              have hkl : l.length ≤ k := List.getElem?_eq_none_iff.mp hd
              exact ⟨⟨xs, hq, by rw [rl.length]; exact hkl⟩, hk2 σk Fk Hk pk⟩
          · exact hk2.elim
      · rw [if_neg hiv] at h; exact h.elim
theorem s_wh {body : List Stmt} (hp : PassesOwn (model X.prog X.w) X.A X.env X.xe) (hc : PT X e' (ttv X.K X.mG W et)) (hb : PSs X body (tst X.K X.mG W Pr s)) : PS X (.While e' body [] pos) (tst X.K X.mG W Pr fun ρ => whL et s c.fu ρ) := by
  refine PS.imp (ps_while hp hc hb) fun D σ H ⟨F, ρ, en, h⟩ => ?_
  refine ⟨fun m σk Hk => ∃ (Fk : Hp) (ρk : En), Ps X.K X.mG Pr F H σ ρ Fk Hk σk ρk ∧ FinS X.K X.mG W Pr F H σ ρ D (whL et s m ρk), ⟨c.fu, F, ρ, .refl en, h⟩, ?_⟩
  rintro m σk Hk ⟨Fk, ρk, pk, hk⟩
  cases m with
  | zero => exact hk.elim
  | succ m =>
    simp only [whL] at hk
    refine thenB pk hk fun b F1 H1 ρ1 p1 h1 => ?_
    cases b with
    | false => rw [if_neg Bool.false_ne_true]; rw [if_neg Bool.false_ne_true] at h1; exact h1 σk F1 H1 p1
    | true =>
      rw [if_pos rfl]; rw [if_pos rfl] at h1
      refine ⟨fun σ' H' => ∃ (Fk : Hp) (ρk : En), Ps X.K X.mG Pr F H σ ρ Fk H' σ' ρk ∧ FinS X.K X.mG W Pr F H σ ρ D (whL et s m ρk), fun σ' H' z => ⟨m, Nat.lt_succ_self m, z⟩, F1, ρ1, p1.en, ?_⟩
      cases qs : s ρ1 with
      | nx ρ3 => rw [qs] at h1; exact fun σ3 F3 H3 p3 => ⟨F3, ρ3, p1.trans p3, h1⟩
      | ct ρ3 => rw [qs] at h1; exact fun σ3 F3 H3 p3 => ⟨F3, ρ3, p1.trans p3, h1⟩
      | bk ρ3 => rw [qs] at h1; exact fun σ3 F3 H3 p3 => h1 σ3 F3 H3 (p1.trans p3)
      | rt r ρ3 => rw [qs] at h1; exact fun v σ3 F3 H3 p3 rv => h1 v σ3 F3 H3 (p1.trans p3) (rv.base p1.st.al)
      | er x ρ3 => rw [qs] at h1; exact fun cl d σ3 F3 H3 p3 x3 => h1 cl d σ3 F3 H3 (p1.trans p3) x3
      | bad => rw [qs] at h1; exact h1.elim
end
end Mp

/-! Mp19: stores into things. -/
namespace Mp
open PySem L2 PyProof.Rows
section
variable {c : Cc} {n : Nat} {ad : Nat → Addr} {fdt : Nat → FuncData} {X : Cx} {W : WW} {Pr : List Nat} {a' b' e' t' : Expr} {ea eb ee : En → Out Rv} {pos : Pos}
theorem get_st {σ : L2.St} {i : Nat} {v : V} (e : stAt σ i = some v) : σ[i]? = some (some v) := by
  unfold stAt at e
  cases q : σ[i]? with
  | none => rw [q] at e; cases e
  | some o => rw [q] at e; exact congrArg some e
theorem Ps.own_upd {K : PySem.W.Frag} {mg : MG} {F0 H0 F H : Hp} {σ0 σ : L2.St} {ρ0 ρ : En} (p : Ps K mg Pr F0 H0 σ0 ρ0 F H σ ρ) {i : Nat} {d d' : D} {q : Addr} {o : HO} (hi : ρ.at i = some (.own d)) (hq : stAt σ i = some (.ref q)) (h : OwnAt K mg F (upd H q o) q d') :
    Ps K mg Pr F0 H0 σ0 ρ0 F (upd H q o) σ (ρ.set i (some (.own d'))) := p.po ((Po.refl p.en).own_upd hi hq h)
theorem sub_assign {o i : Expr} {p : Pos} {env : Env} (h : noslice i = true) (v : Value) : assign (.Subscript o i p) env v = (do
      let ov ← holding [v] (eval o env)
      let iv ← holding [v, ov] (eval i env)
      standAt p
      holding [v, ov, iv] (setItem ov iv v)
      release [v, ov, iv] []) := by
  cases i <;> first | rfl | cases h
theorem s_ix {i : Nat} {x : Str} {xp sp : Pos} (hN : X.N[i]? = some x) (hv : visB X.env.scope x = true) (hd : dbgB x = true) (he : PE X e' (tev X.K X.mG W ee)) (hb : PE X b' (tev X.K X.mG W eb)) (hs : noslice b' = true) :
    PS X (.Assign [.Subscript (.Name x xp) b' sp] e' pos) (tst X.K X.mG W Pr fun ρ => (ee ρ).then fun r ρ => match ρ.at i with
      | some (.own _) => (eb ρ).then fun k ρ => ixR i r k ρ
      | _ => .bad) := by
  have pv' : PE X (.Name x xp) (tVar i) := pe_var hN (vis_of hv) (dbg_of hd).1 (dbg_of hd).2.1
  refine PS.imp (ps_asg he (pg_sub pv' hb set_list (sub_assign hs)) swS_sub swp_sub rfl) fun D σ H ⟨F, ρ, en, h⟩ => thenE (.refl en) h fun y F1 H1 ρ1 r q1 p1 v1 h1 => ?_
  split at h1
  · rename_i d0 h0
    obtain ⟨p0, ep0, _, _⟩ := p1.en.own i d0 h0
    refine ⟨_, get_st ep0, thenE p1 h1 fun z F2 H2 ρ2 k q2 p2 v2 h2 => ?_⟩
    unfold ixR at h2
    split at h2
    · rename_i dv ρ3 e3
      obtain ⟨F3, p3, k3, rd⟩ := fz_of (q1.trans q2) (v1.stay q2).w e3
      split at h2
      · rename_i kz
        have ez : z = .int kz := by cases v2; rfl
        subst ez
        split at h2
        · rename_i l hl
          split at h2
          · rename_i j hj
            obtain ⟨p, ep, f, xs, hx, rl⟩ := p3.en.own i _ hl
            rw [ep0] at ep; cases ep
            refine ⟨_, xs, kz, j, rfl, rfl, hx, by rw [rl.length]; exact hj, ?_⟩
            exact h2 σ F3 _ (((Ps.refl en).po p3).own_upd hl ep0 ⟨_, upd_same, rl.set j rd⟩)
          · exact h2.elim
        · exact h2.elim
      · exact h2.elim
    · exact h2.elim
  · exact h1.elim
theorem key_of {K : PySem.W.Frag} {mg : MG} {F : Hp} {v : V} {d : D} {k : Key} (r : RelD K mg F v d) (e : d.key = some k) : v = kV k := by
  cases r <;> first | (cases e; done) | (cases e; rfl)
theorem put_rel {K : PySem.W.Frag} {mg : MG} {F : Hp} {v : V} {d : D} {k : Key} (r : RelD K mg F v d) : ∀ {kvs : List (Key × V)} {ks : List Key} {ds : List D}, kvs.map (·.1) = ks → RelL K mg F (kvs.map (·.2)) ds →
    (putK kvs k v).map (·.1) = (dPut ks ds k d).1 ∧ RelL K mg F ((putK kvs k v).map (·.2)) (dPut ks ds k d).2 := by
  intro kvs ks ds e rl
  have ea : (kvs.any fun kv => decide (kv.1 = k)) = ks.any fun x => decide (x = k) := by
    rw [← e, List.any_map]; rfl
  unfold putK dPut
  rw [ea]
  by_cases h : (ks.any fun x => decide (x = k)) = true
  · rw [if_pos h, if_pos h]
    constructor
    · rw [← e, List.map_map]
      refine List.map_congr_left fun p _ => ?_
      show (if p.1 = k then (p.1, v) else p).1 = p.1
      split <;> rfl
    · clear h ea
      subst e
      induction kvs generalizing ds with
      | nil => cases rl; exact .nil
      | cons p kvs ih =>
        cases rl with
        | cons h1 t =>
          show RelL K mg F ((if p.1 = k then (p.1, v) else p).2 :: _) ((if p.1 = k then d else _) :: _)
          by_cases hk : p.1 = k
          · rw [if_pos hk, if_pos hk]; exact .cons r (ih t)
          · rw [if_neg hk, if_neg hk]; exact .cons h1 (ih t)
  · rw [if_neg h, if_neg h]
    constructor
    · rw [List.map_append, e]; rfl
    · rw [List.map_append]
      exact rl.append (.cons r .nil)
theorem s_kx (ok : XOk c n ad fdt X W) {i : Nat} {x : Str} {xp sp : Pos} (hN : X.N[i]? = some x) (hv : visB X.env.scope x = true) (hd : dbgB x = true) (he : PE X e' (tev X.K X.mG W ee)) (hb : PE X b' (tev X.K X.mG W eb)) :
    PS X (.Assign [.Subscript (.Name x xp) b' sp] e' pos) (tst X.K X.mG W Pr fun ρ => (ee ρ).then fun r ρ => match ρ.at i with
      | some (.own _) => (eb ρ).then fun k ρ => kxR i r k ρ
      | _ => .bad) := by
  have pv' : PE X (.Name x xp) (tVar i) := pe_var hN (vis_of hv) (dbg_of hd).1 (dbg_of hd).2.1
  refine PS.imp (ps_dput (by have := ok.hu; omega) pv' hb he sw_sub) fun D σ H ⟨F, ρ, en, h⟩ => thenE (.refl en) h fun y F1 H1 ρ1 r q1 p1 v1 h1 => ?_
  split at h1
  · rename_i d0 h0
    obtain ⟨p0, ep0, _, _⟩ := p1.en.own i d0 h0
    refine ⟨_, get_st ep0, thenE p1 h1 fun z F2 H2 ρ2 k q2 p2 v2 h2 => ?_⟩
    unfold kxR at h2
    split at h2
    · rename_i dv ρ3 e3
      obtain ⟨F3, p3, k3, rd⟩ := fz_of (q1.trans q2) (v1.stay q2).w e3
      split at h2
      · rename_i kd
        split at h2
        · rename_i xk hk
          have ez := key_of v2 hk
          subst ez
          split at h2
          · rename_i ks ds hl
            split at h2
            · rename_i hz
              obtain ⟨p, ep, f, kvs, hx, ek, rl⟩ := p3.en.own i _ hl
              rw [ep0] at ep; cases ep
              obtain ⟨w1, w2⟩ := put_rel (k := xk) rd ek rl
              refine ⟨_, _, rfl, .inl ⟨kvs, xk, hx, rfl, ?_, rfl⟩, ?_⟩
              · have : kvs.length = ks.length := by rw [← ek, List.length_map]
                rw [this, sizeLine_eq]; omega
              · exact h2 σ F3 _ (((Ps.refl en).po p3).own_upd hl ep0 ⟨_, upd_same, w1, w2⟩)
            · exact h2.elim
          · exact h2.elim
        · exact h2.elim
      · exact h2.elim
    · exact h2.elim
  · exact h1.elim
theorem fput_rel {K : PySem.W.Frag} {mg : MG} {F : Hp} {v : V} {d : D} {f : Str} (r : RelD K mg F v d) : ∀ {fs : List (Str × V)} {ns : List Str} {ds : List D}, fs.map (·.1) = ns → RelL K mg F (fs.map (·.2)) ds →
    (putF f v fs).map (·.1) = (fPut ns ds f d).1 ∧ RelL K mg F ((putF f v fs).map (·.2)) (fPut ns ds f d).2
  | [], ns, ds, e, rl => by
    subst e
    cases rl
    exact ⟨rfl, .cons r .nil⟩
  | (g, x) :: fs, ns, ds, e, rl => by
    subst e
    cases rl with
    | @cons _ _ d1 ds1 h1 t =>
      obtain ⟨i1, i2⟩ := fput_rel (f := f) r (fs := fs) rfl t
      show ((if g = f then (g, v) :: fs else (g, x) :: putF f v fs).map (·.1)) = (if g = f then (g :: fs.map (·.1), d :: ds1) else (g :: (fPut (fs.map (·.1)) ds1 f d).1, d1 :: (fPut (fs.map (·.1)) ds1 f d).2)).1 ∧ RelL K mg F ((if g = f then (g, v) :: fs else (g, x) :: putF f v fs).map (·.2)) (if g = f then (g :: fs.map (·.1), d :: ds1) else (g :: (fPut (fs.map (·.1)) ds1 f d).1, d1 :: (fPut (fs.map (·.1)) ds1 f d).2)).2
      by_cases hg : g = f
      · rw [if_pos hg, if_pos hg]; exact ⟨rfl, .cons r t⟩
      · rw [if_neg hg, if_neg hg]; exact ⟨by rw [List.map_cons, i1], .cons h1 i2⟩
theorem s_fl (ok : XOk c n ad fdt X W) {i : Nat} {x f : Str} {xp sp : Pos} (hN : X.N[i]? = some x) (hv : visB X.env.scope x = true) (hd : dbgB x = true) (he : PE X e' (tev X.K X.mG W ee)) :
    PS X (.Assign [.Attribute (.Name x xp) f sp] e' pos) (tst X.K X.mG W Pr fun ρ => (ee ρ).then fun r ρ => flR c.g.na i f r ρ) := by
  have pv' : PE X (.Name x xp) (tVar i) := pe_var hN (vis_of hv) (dbg_of hd).1 (dbg_of hd).2.1
  refine PS.imp (ps_fld pv' he sw_att) fun D σ H ⟨F, ρ, en, h⟩ => thenE (.refl en) h fun y F1 H1 ρ1 r q1 p1 v1 h1 => ?_
  unfold flR at h1
  split at h1
  · rename_i dv ρ3 e3
    obtain ⟨F3, p3, k3, rd⟩ := fz_of q1 v1.w e3
    split at h1
    · rename_i C ns ds hl
      split at h1
      · rename_i hz
        obtain ⟨p, ep, fn, Ca, dx, fs, hC, hx, ek, rl⟩ := p3.en.own i _ hl
        obtain ⟨Ca', hC', cl, na⟩ := ok.g.na (C, f) hz.1
        have hCC := hC.symm.trans hC'; cases hCC
        obtain ⟨w1, w2⟩ := fput_rel (f := f) rd ek rl
        refine ⟨_, get_st ep, p, Ca, dx, fs, rfl, hx, cl, na, ?_, ?_⟩
        · have : fs.length = ns.length := by rw [← ek, List.length_map]
          rw [this]; exact hz.2
        · exact h1 σ F3 _ (((Ps.refl en).po p3).own_upd hl ep ⟨Ca, dx, _, hC, upd_same, w1, w2⟩)
      · exact h1.elim
    · exact h1.elim
  · exact h1.elim
def augR (i : Nat) (o : Bo) (x : Int) (r : Rv) (ρ : En) : So := match r with
  | .val (.int y) => match o with
    | .add => .nx (ρ.set i (some (.val (.int (x + y)))))
    | .sub => .nx (ρ.set i (some (.val (.int (x - y)))))
    | _ => .bad
  | _ => .bad
theorem s_aug {i : Nat} {x : Str} {xp : Pos} {o : Bo} (nd : X.N.Nodup) (hN : X.N[i]? = some x) (hl : Loc X.env.scope x) (hf : X.fn x = true ∨ X.env.scope.names.lookup x = some .local) (hi : i ∉ Pr) (he : PE X e' (tev X.K X.mG W ee)) (ho : o = .add ∨ o = .sub) :
    PS X (.AugAssign (.Name x xp) o.op e' pos) (tst X.K X.mG W Pr fun ρ => match ρ.at i with
      | some (.val (.int x)) => (ee ρ).then fun r ρ => augR i o x r ρ
      | _ => .bad) := by
  rcases ho with rfl | rfl
  · refine PS.imp (ps_aug nd hN hl he ip_add hf) fun D σ H ⟨F, ρ, en, h⟩ => ?_
    dsimp only at h
    split at h
    · rename_i xi hx
      obtain ⟨v, ev, rv⟩ := en.val i _ hx
      cases rv
      refine ⟨_, get_st ev, thenE (.refl en) h fun y F1 H1 ρ1 r q1 p1 v1 h1 => ?_⟩
      unfold augR at h1
      split at h1
      · rename_i yi
        cases v1
        exact ⟨xi, yi, rfl, rfl, h1 _ F1 H1 (p1.set hi (.int _))⟩
      · exact h1.elim
    · exact h.elim
  · refine PS.imp (ps_aug nd hN hl he ip_sub hf) fun D σ H ⟨F, ρ, en, h⟩ => ?_
    dsimp only at h
    split at h
    · rename_i xi hx
      obtain ⟨v, ev, rv⟩ := en.val i _ hx
      cases rv
      refine ⟨_, get_st ev, thenE (.refl en) h fun y F1 H1 ρ1 r q1 p1 v1 h1 => ?_⟩
      unfold augR at h1
      split at h1
      · rename_i yi
        cases v1
        exact ⟨xi, yi, rfl, rfl, h1 _ F1 H1 (p1.set hi (.int _))⟩
      · exact h1.elim
    · exact h.elim
end
end Mp

/-! Mp23: try with clauses of any number, with names or without; raise; o.f += e. -/
namespace Mp
open PySem L2 PyProof.Rows
/-! ### try -/
abbrev Cla := Value × Option Nat × (Addr → Value → Option Addr → TS)
def outD (D : Ends) : Option Nat → Ends
  | none => D
  | some i => { nx := fun σ H => D.nx (σ.set i none) H, rt := D.rt, bk := fun σ H => D.bk (σ.set i none) H, ct := fun σ H => D.ct (σ.set i none) H }
def inS (a : Addr) (σ : L2.St) : Option Nat → L2.St
  | none => σ
  | some i => σ.set i (some (.ref a))
/-- what the clauses wish of an exception of the body -/
def wCl (K : PySem.W.Frag) (Wo : WX) (D : Ends) : List Cla → WX
  | [] => Wo
  | (v, oi, ts) :: r => fun cls d σ H => ∃ b, PySem.W.exmOne K cls v = some b ∧ (b = true → ∀ a, H a = none → ts a cls d (outD D oi) (inS a σ oi) H) ∧ (b = false → wCl K Wo D r cls d σ H)
inductive ClOk (X : Cx) : List ExceptHandler → List Cla → Prop
  | nil : ClOk X [] []
  | cons {x : Str} {v : Value} {on : Option Str} {oi : Option Nat} {ts : Addr → Value → Option Addr → TS} {b0 : Stmt} {su : List Stmt} {np po : Pos} {hs : List ExceptHandler} {l : List Cla} (hc : Names X x v)
      (hn : match on, oi with | none, none => True | some n, some i => X.N[i]? = some n ∧ X.env.kindOf n = some .local | _, _ => False)
      (hsu : ∀ (a : Addr) (oe : Obj) (cls : Value) (d : Option Addr) (pn : List (Addr × Obj)), L2N.Zn cls d oe → (∃ vs, oe.data = .fields vs) → PSs (X.suite a ((a, oe) :: pn)) (b0 :: su) (ts a cls d)) (r : ClOk X hs l) :
      ClOk X (.ExceptHandler (some (.Name x np)) on (b0 :: su) po :: hs) ((v, oi, ts) :: l)
section
variable {X : Cx} {body : List Stmt} {h0 : ExceptHandler} {hds : List ExceptHandler} {l : List Cla} {pos : Pos} {tb : WX → TS} {Wo : WX}
theorem ps_try_cl (nd : X.N.Nodup) (hs : X.stack = X.env :: X.outer) (hf : X.env.frame = some X.env.locals) (tk : L2N.Takes X Wo)
    (hb : ∀ (W : WX) (pn : List (Addr × Obj)) (xe : Value → Shared → Prop), L2N.Takes (X.tr pn xe) W → PassesOwn (model X.prog X.w) X.A X.env xe → PSs (X.tr pn xe) body (tb W))
    (hh : ClOk X (h0 :: hds) l) : PS X (.Try body (h0 :: hds) [] [] pos) (fun D σ H => tb (wCl X.K Wo D l) D σ H) := by
  refine ⟨fun pins s σ H D I h => ?_⟩
  have ok := I.ok
  have hfr : X.A.frames = some (X.env :: X.outer) := by rw [ok.frames, hs]
  refine wpAny_Try_except ?_
  refine wpAny_mono ((hb (wCl X.K Wo D l) (X.pn ++ pins) (fun e s₁ => wpAny (model X.prog X.w) X.A (noteFrame e X.env) (fun _ s₂ => wpAny (model X.prog X.w) X.A (setFlight e none) (fun _ s₃ =>
    wpAny (model X.prog X.w) X.A (handleBy e X.env (h0 :: hds)) (SP X pins D) X.xe s₃) X.xe s₂) X.xe s₁) (fun u s' xx => ?_) PassesOwn.looking).run [] s σ H D (I.toTry _) h) (fun f s1 hsp => ?_) (fun e s1 he => he)
  · obtain ⟨a, B, sI, pins', σ', H', cls, d, rfl, J', nb, up, sky, na, os, ag, w⟩ := xx
    have J : Inv X pins σ' H' sI := J'.ofTry ok
    have sky' : Sky B (X.env :: X.outer) a (L2N.Zn cls d) X.env.locals s'.heap := by rw [← hs]; exact sky
    show wpAny (model X.prog X.w) X.A (noteFrame (.ref a) X.env) _ _ _
    refine L2N.Sky.land L2N.Zn.steady hfr hf sky' fun h3 fl3 up3 => ?_
    have J3 : Inv X pins σ' H' { s' with heap := h3 } := J.landed nb fl3.1 (up.trans up3) os ag
    obtain ⟨oe3, vs3, he3, hz3, hd3⟩ := fl3.there
    have nfr : a ∉ frs (X.env :: X.outer) := fun hm => by
      obtain ⟨_, o', e', hnf⟩ := fl3.2.2.1.mem hm
      rw [he3] at e'; cases e'
      exact hnf _ hd3
    have nL : a ≠ X.env.locals := fun z => nfr (List.mem_filterMap.mpr ⟨X.env, List.mem_cons_self, by rw [hf, z]⟩)
    have nF : a ∉ X.fs := fun hm => by
      obtain ⟨e, he, q⟩ := List.mem_filterMap.mp hm
      exact nfr (List.mem_filterMap.mpr ⟨e, List.mem_cons_of_mem _ he, q⟩)
    have S3 := J3.suite he3 hd3 na nL nF
    have go : ∀ {hds' : List ExceptHandler} {l' : List Cla}, ClOk X hds' l' → wCl X.K Wo D l' cls d σ' H' →
        wpAny (model X.prog X.w) X.A (handleBy (.ref a) X.env hds') (SP X pins D) X.xe { s' with heap := h3 } := by
      intro hds' l' hk
      induction hk with
      | nil =>
        intro w
        refine wpAny_handleBy_nil ?_
        obtain ⟨k1, k2, k3, oe, vs, T, oT, ts', he, hz, hd, h1, hr⟩ := id fl3
        unfold PySem.passOn
        refine wpAny_bind (wpAny_field he hd h1 ?_)
        rw [if_neg (show ¬ ((Value.ref T == Value.none) = true) from by simp)]
        have fin : wpAny (model X.prog X.w) X.A (setFlight (.ref a) X.env.frame) (fun _ s4 => wpAny (model X.prog X.w) X.A (throw (.ref a) : Sem Flow) (SP X pins D) X.xe s4) X.xe { s' with heap := h3 } := by
          rw [hf]
          refine HandSPX.setFlight_upZ fl3 fun h4 hh4 up4 => wpAny_throw (tk _ _ ?_)
          exact ⟨a, B, sI, pins, σ', H', cls, d, rfl, J, nb, (up.trans up3).trans up4, .inr (.inr (by rw [hs]; exact hh4)), na, os, ag, w⟩
        first
          | exact wpAny_bind (wpAny_pure (wpAny_bind fin))
          | exact wpAny_bind fin
      | @cons x v on oi ts b0 su np po hs2 l2 hc hn hsu r ih =>
        intro w
        obtain ⟨b, hb1, hyes, hno⟩ := w
        refine wpAny_handleBy_cons (codeAny_handlers_test ?_) (by intro q; cases q)
        have LT : PySem.W.Looks (model X.prog X.w) h3 (typeOf (.ref a)) cls := fun A Q E s k q => wpAny_typeOf_ref (k _ _ he3) (by rw [hz3.1]; exact q)
        have LM := PySem.W.exm_one (M := model X.prog X.w) (J3.kIn) LT hb1
        have test : ∀ {Q : Value → Shared → Prop} {E : Value → Shared → Prop}, Q v { s' with heap := h3 } → wpAny (model X.prog X.w) (X.A.mark (some (.ref a))) (eval (.Name x np) X.env) Q E { s' with heap := h3 } := fun {Q E} q => by
          obtain ⟨hg, hdbg, hm | ⟨hm, hv, hnn⟩⟩ := hc
          · exact ld_glob (X := X.suite a ((a, oe3) :: (X.pn ++ pins))) S3 hg hm q hdbg
          · exact ld_blt (X := X.suite a ((a, oe3) :: (X.pn ++ pins))) S3 hg hm hv q hnn hdbg
        refine test (LM.here ?_)
        cases b with
        | false => exact ih (hno rfl)
        | true =>
          have hy := hyes rfl a na
          cases on with
          | none =>
            cases oi with
            | some i => exact hn.elim
            | none =>
            refine codeAny_handlers_suite ?_
            refine HandSPX.lands_againZ fl3 fun h4 fl4 up4 => ?_
            have J4 : Inv X pins σ' H' { s' with heap := h4 } := J.landed nb fl4.1 ((up.trans up3).trans up4) os ag
            obtain ⟨oe4, vs4, he4, hz4, hd4⟩ := fl4.there
            have S4 := J4.suite he4 hd4 na nL nF
            refine wpAny_mono ((hsu a oe4 cls d (X.pn ++ pins) hz4 ⟨_, hd4⟩).run [] _ _ H' _ S4 hy) (fun f s6 hsp => ?_) (fun _ _ z => False.elim z)
            cases f with
            | next =>
              obtain ⟨σ6, H6, S6, q6⟩ := hsp
              exact ⟨_, _, S6.unsuite ok, q6⟩
            | brk =>
              obtain ⟨σ6, H6, S6, q6⟩ := hsp
              exact ⟨_, _, S6.unsuite ok, q6⟩
            | cont =>
              obtain ⟨σ6, H6, S6, q6⟩ := hsp
              exact ⟨_, _, S6.unsuite ok, q6⟩
            | ret u =>
              obtain ⟨v6, σ6, H6, S6, r6, q6⟩ := hsp
              exact ⟨_, _, _, S6.unsuite ok, r6, q6⟩
          | some nm =>
            cases oi with
            | none => exact hn.elim
            | some i =>
            obtain ⟨hi, hln⟩ := hn
            refine codeAny_handlers_suite_as ?_
            refine HandSPX.lands_againZ fl3 fun h4 fl4 up4 => ?_
            have J4 : Inv X pins σ' H' { s' with heap := h4 } := J.landed nb fl4.1 ((up.trans up3).trans up4) os ag
            obtain ⟨oe4, vs4, he4, hz4, hd4⟩ := fl4.there
            have S4 := J4.suite he4 hd4 na nL nF
            refine store_ok (X := X.suite a ((a, oe4) :: (X.pn ++ pins))) (v := .ref a) S4 nd hi (.inl hln) rfl (fun s5 S5 => ?_) (.inr hln)
            refine wpAny_mono ((hsu a oe4 cls d (X.pn ++ pins) hz4 ⟨_, hd4⟩).run [] s5 _ H' _ S5 hy) (fun f s6 hsp => ?_) (fun _ _ z => False.elim z)
            have end_ : ∀ {σ6 : L2.St} {H6 : Hp} {Q : Shared → Prop}, Inv (X.suite a ((a, oe4) :: (X.pn ++ pins))) [] σ6 H6 s6 → (∀ s7, Inv X pins (σ6.set i none) H6 s7 → Q s7) →
                wpAny (model X.prog X.w) X.A (do bindName X.env nm .none; unbindBehindTheSuite X.env nm po) (fun _ s7 => Q s7) X.xe s6 := fun {σ6 H6 Q} S6 hq => gone_ok (S6.unsuite ok) nd hi hln hq
            cases f with
            | next =>
              obtain ⟨σ6, H6, S6, q6⟩ := hsp
              exact end_ S6 fun s7 J7 => ⟨_, _, J7, q6⟩
            | brk =>
              obtain ⟨σ6, H6, S6, q6⟩ := hsp
              exact end_ S6 fun s7 J7 => ⟨_, _, J7, q6⟩
            | cont =>
              obtain ⟨σ6, H6, S6, q6⟩ := hsp
              exact end_ S6 fun s7 J7 => ⟨_, _, J7, q6⟩
            | ret u =>
              obtain ⟨v6, σ6, H6, S6, r6, q6⟩ := hsp
              exact end_ S6 fun s7 J7 => ⟨_, _, _, J7, r6, q6⟩
    exact go hh w
  · cases f with
    | next =>
      obtain ⟨σ', H', J', q⟩ := hsp
      exact wpAny_execs_nil ⟨σ', H', J'.ofTry ok, q⟩
    | brk =>
      obtain ⟨σ', H', J', q⟩ := hsp
      exact ⟨σ', H', J'.ofTry ok, q⟩
    | cont =>
      obtain ⟨σ', H', J', q⟩ := hsp
      exact ⟨σ', H', J'.ofTry ok, q⟩
    | ret u =>
      obtain ⟨v, σ', H', J', r, q⟩ := hsp
      exact ⟨v, σ', H', J'.ofTry ok, r, q⟩
end
/-! ### the environment where an exception is handled -/
section
variable {K : PySem.W.Frag} {mg mg' : MG} {F F' H H' F0 H0 : Hp} {σ σ0 : L2.St} {ρ ρ0 : En} {Pr : List Nat}
mutual
theorem RelD.mgc (k : mg.f = mg'.f) : ∀ {v : V} {d : D}, RelD K mg F v d → RelD K mg' F v d
  | _, _, .non => .non
  | _, _, .bl b => .bl b
  | _, _, .int i => .int i
  | _, _, .str x => .str x
  | _, _, .tup h r => .tup h (RelL.mgc k r)
  | _, _, .lst h r => .lst h (RelL.mgc k r)
  | _, _, .dct h e r => .dct h e (RelL.mgc k r)
  | _, _, .ins c h e r => .ins (by rw [← k]; exact c) h e (RelL.mgc k r)
theorem RelL.mgc (k : mg.f = mg'.f) : ∀ {vs : List V} {ds : List D}, RelL K mg F vs ds → RelL K mg' F vs ds
  | _, _, .nil => .nil
  | _, _, .cons h r => .cons (RelD.mgc k h) (RelL.mgc k r)
end
theorem OwnAt.mgc (k : mg.f = mg'.f) {p : Addr} {d : D} (h : OwnAt K mg F H p d) : OwnAt K mg' F H p d := by
  cases d with
  | lst ds => obtain ⟨xs, h1, h2⟩ := h; exact ⟨xs, h1, h2.mgc k⟩
  | dct ks ds => obtain ⟨xs, h1, h2, h3⟩ := h; exact ⟨xs, h1, h2, h3.mgc k⟩
  | ins C ns ds => obtain ⟨Ca, dx, fs, h1, h2, h3, h4⟩ := h; exact ⟨Ca, dx, fs, by rw [← k]; exact h1, h2, h3, h4.mgc k⟩
  | _ => exact h.elim
theorem XnR.mgc (k : mg.f = mg'.f) {c : Value} {d : Option Addr} {x : Xn} (h : XnR K mg F c d x) : XnR K mg' F c d x := by
  obtain ⟨h1, dd, fs, h2, h3, h4, h5⟩ := h
  exact ⟨by rw [← k]; exact h1, dd, fs, h2, h3, h4, h5.mgc k⟩
theorem EnvR.mgc (k : mg.f = mg'.f) (en : EnvR K mg F H σ ρ) (hx : ∀ i x, ρ.at i ≠ some (.exn x)) : EnvR K mg' F H σ ρ :=
  ⟨en.len, en.sub, fun i d e => let ⟨v, h1, h2⟩ := en.val i d e; ⟨v, h1, h2.mgc k⟩, fun i d e => let ⟨p, h1, h2, h3⟩ := en.own i d e; ⟨p, h1, h2, h3.mgc k⟩, en.inj, fun i x e => absurd e (hx i x)⟩
/-- a slot is emptied, filled with the exception -/
theorem own_setc {j : Nat} {v : Option V} {s : Option S} (hs : ∀ d, s ≠ some (.own d)) {p : Addr} (h : Own (σ.set j v) (ρ.set j s) p) : Own σ ρ p := by
  obtain ⟨i, d, e1, e2⟩ := h
  rcases at_setc e1 with ⟨_, z⟩ | ⟨z, e⟩
  · exact absurd z (hs d)
  · rw [stAt_setne z] at e2; exact ⟨i, d, e, e2⟩
theorem EnvR.setc (en : EnvR K mg F H σ ρ) {j : Nat} {v : Option V} {s : Option S} (h1 : ∀ d, s ≠ some (.own d)) (h2 : ∀ d, s ≠ some (.val d))
    (h3 : ∀ x, s = some (.exn x) → j < ρ.length → ∃ a c d, mg.xa = some (a, c, d) ∧ v = some (.ref a) ∧ XnR K mg F c d x) : EnvR K mg F H (σ.set j v) (ρ.set j s) := by
  refine ⟨by rw [List.length_set, List.length_set]; exact en.len, en.sub, fun i d e => ?_, fun i d e => ?_, fun i k d d' p e1 e2 e3 e4 => ?_, fun i x e => ?_⟩
  · rcases at_setc e with ⟨_, z⟩ | ⟨z, e'⟩
    · exact absurd z (h2 d)
    · rw [stAt_setne z]; exact en.val i d e'
  · rcases at_setc e with ⟨_, z⟩ | ⟨z, e'⟩
    · exact absurd z (h1 d)
    · rw [stAt_setne z]; exact en.own i d e'
  · rcases at_setc e1 with ⟨_, z⟩ | ⟨z, e1'⟩
    · exact absurd z (h1 d)
    · rcases at_setc e2 with ⟨_, w⟩ | ⟨w, e2'⟩
      · exact absurd w (h1 d')
      · rw [stAt_setne z] at e3
        rw [stAt_setne w] at e4
        exact en.inj i k d d' p e1' e2' e3 e4
  · have hi := at_lt e
    rw [List.length_set] at hi
    rcases at_setc e with ⟨z, w⟩ | ⟨z, e'⟩
    · subst z
      obtain ⟨a, c, d, k1, k2, k3⟩ := h3 x w hi
      refine ⟨a, c, d, k1, ?_, k3⟩
      unfold stAt
      rw [List.getElem?_set_self (by rw [en.len]; exact hi), k2]; rfl
    · rw [stAt_setne z]; exact en.exn i x e'
theorem clean_at {ρ : En} (h : cleanE ρ = true) (i : Nat) (x : Xn) : ρ.at i ≠ some (.exn x) := fun e => by
  unfold En.at at e
  cases q : ρ[i]? with
  | none => rw [q] at e; cases e
  | some s =>
    rw [q] at e
    have e' : s = some (.exn x) := e
    subst e'
    have := List.all_eq_true.mp h _ (List.mem_of_getElem? q)
    cases this
def inE (x : Xn) (ρ : En) : Option Nat → En
  | none => ρ
  | some j => ρ.set j (some (.exn x))
def outS (σ : L2.St) : Option Nat → L2.St
  | none => σ
  | some j => σ.set j none
/-- into a suite -/
theorem env_in {a : Addr} {c : Value} {d : Option Addr} {x : Xn} (en : EnvR K mg F H σ ρ) (hm : mg.xa = none) (hx : XnR K mg F c d x) (oi : Option Nat) : EnvR K ⟨mg.f, some (a, c, d)⟩ F H (inS a σ oi) (inE x ρ oi) := by
  have e1 : EnvR K ⟨mg.f, some (a, c, d)⟩ F H σ ρ := EnvR.mgc (mg := mg) rfl en fun i y e => by
    obtain ⟨_, _, _, h, _⟩ := en.exn i y e
    rw [hm] at h; cases h
  cases oi with
  | none => exact e1
  | some j =>
    refine e1.setc (fun _ z => by cases z) (fun _ z => by cases z) fun y e _ => ?_
    cases e
    exact ⟨a, c, d, rfl, rfl, XnR.mgc (mg := mg) (mg' := ⟨mg.f, some (a, c, d)⟩) rfl hx⟩
/-- out of a suite -/
theorem ps_out {mg' : MG} (km : mg'.f = mg.f) {a : Addr} {x : Xn} {F1 H1 F2 H2 : Hp} {σ1 σ2 : L2.St} {ρ1 ρ2 : En} {oi : Option Nat} (hi : ∀ j, oi = some j → j ∉ Pr) (p : Ps K mg Pr F0 H0 σ0 ρ0 F1 H1 σ1 ρ1)
    (q : Ps K mg' Pr F1 H1 (inS a σ1 oi) (inE x ρ1 oi) F2 H2 σ2 ρ2) (hc : cleanE (wipe1 oi ρ2) = true) : Ps K mg Pr F0 H0 σ0 ρ0 F2 H2 (outS σ2 oi) (wipe1 oi ρ2) ∧ ∀ b, Own (outS σ2 oi) (wipe1 oi ρ2) b → Own σ2 ρ2 b := by
  have o1 : ∀ b, Own (inS a σ1 oi) (inE x ρ1 oi) b → Own σ1 ρ1 b := fun b z => by
    cases oi with
    | none => exact z
    | some j => exact own_setc (fun d z => by cases z) z
  have o2 : ∀ b, Own (outS σ2 oi) (wipe1 oi ρ2) b → Own σ2 ρ2 b := fun b z => by
    cases oi with
    | none => exact z
    | some j => exact own_setc (fun d z => by cases z) z
  have e2 : EnvR K mg' F2 H2 (outS σ2 oi) (wipe1 oi ρ2) := by
    cases oi with
    | none => exact q.en
    | some j => exact q.en.setc (fun _ z => by cases z) (fun _ z => by cases z) fun y e _ => by cases e
  refine ⟨p.trans ⟨⟨q.st.mono, fun b o e n => q.st.keep b o e fun z => n (o1 b z), q.st.al⟩, e2.mgc km (clean_at hc), fun b z => (q.ow b (o2 b z)).imp (o1 b) id, fun i m => ?_, fun i m s e => ?_, ?_⟩, o2⟩
  · have := q.same i m
    cases oi with
    | none => exact this
    | some j =>
      have ne : j ≠ i := by intro z; subst z; exact hi j rfl m
      show stAt (σ2.set j none) i = _
      rw [stAt_setne ne, this]
      exact stAt_setne ne
  · cases oi with
    | none => exact q.fil i m s e
    | some j =>
      have ne : j ≠ i := by intro z; subst z; exact hi j rfl m
      obtain ⟨s', e'⟩ := q.fil i m s (by show En.at (ρ1.set j _) i = _; rw [at_set_ne ne]; exact e)
      exact ⟨s', by show En.at (ρ2.set j none) i = _; rw [at_set_ne ne]; exact e'⟩
  · have := q.len
    cases oi with
    | none => exact this
    | some j =>
      show (ρ2.set j none).length = _
      rw [List.length_set, this]
      exact List.length_set
end
end Mp

/-! Mp24: the forms of raise, of a try, of o.f += e. -/
namespace Mp
open PySem L2 PyProof.Rows
section
variable {c : Cc} {n : Nat} {ad : Nat → Addr} {fdt : Nat → FuncData} {X : Cx} {W : WW} {Pr : List Nat} {a' e' : Expr} {es' : List Expr} {ee : En → Out Rv} {el : En → Out (List Rv)} {pos pos' : Pos}
theorem s_bad {st : Stmt} : PS X st (tst X.K X.mG W Pr fun _ => .bad) := ⟨fun pins s σ H D I ⟨F, ρ, en, h⟩ => h.elim⟩
theorem s_if {b : Bool} {st : Stmt} {f : En → So} (h : b = false → PS X st (tst X.K X.mG W Pr f)) : PS X st (tst X.K X.mG W Pr fun ρ => if b = true then .bad else f ρ) := by
  cases b with
  | true => exact PS.imp s_bad fun D σ H z => by simpa only [if_true] using z
  | false => exact PS.imp (h rfl) fun D σ H z => by simpa only [Bool.false_eq_true, if_false] using z
theorem thenL {K : PySem.W.Frag} {mg : MG} {F0 H0 F H : Hp} {σ0 σ : L2.St} {ρ0 ρ : En} {D : Ends} {e : En → Out (List Rv)} {k : List Rv → En → So} (p : Ps K mg Pr F0 H0 σ0 ρ0 F H σ ρ) (h : FinS K mg W Pr F0 H0 σ0 ρ0 D ((e ρ).then k))
    {Q1 : List V → Hp → Prop} (f : ∀ x F1 H1 ρ1 r, Po K mg F H σ ρ F1 H1 ρ1 → Ps K mg Pr F0 H0 σ0 ρ0 F1 H1 σ ρ1 → RvRs K mg H F1 H1 σ ρ1 x r → FinS K mg W Pr F0 H0 σ0 ρ0 D (k r ρ1) → Q1 x H1) : tev' K mg W e σ H Q1 := by
  refine ⟨F, ρ, p.en, ?_⟩
  cases q : e ρ with
  | ok r ρ1 => rw [q] at h; exact fun x F1 H1 p1 r1 => f x F1 H1 ρ1 r p1 (p.po p1) r1 h
  | er x ρ1 => rw [q] at h; exact fun c d F1 H1 p1 x1 => h c d σ F1 H1 (p.po p1) x1
  | bad => rw [q] at h; exact h.elim
/-! ### raise -/
theorem map_zip_fst {α β : Type} : ∀ {l : List α} {m : List β}, l.length = m.length → (l.zip m).map (·.1) = l
  | [], [], _ => rfl
  | a :: l, b :: m, h => by simp [map_zip_fst (l := l) (m := m) (by simpa using h)]
  | [], _ :: _, h => by simp at h
  | _ :: _, [], h => by simp at h
theorem map_zip_snd {α β : Type} : ∀ {l : List α} {m : List β}, l.length = m.length → (l.zip m).map (·.2) = m
  | [], [], _ => rfl
  | a :: l, b :: m, h => by simp [map_zip_snd (l := l) (m := m) (by simpa using h)]
  | [], _ :: _, h => by simp at h
  | _ :: _, [], h => by simp at h
theorem RvRs.len {K : PySem.W.Frag} {mg : MG} {H0 F H : Hp} {σ : L2.St} {ρ : En} : ∀ {v : List V} {r : List Rv}, RvRs K mg H0 F H σ ρ v r → v.length = r.length
  | [], [], _ => rfl
  | _ :: _, _ :: _, ⟨_, t, _⟩ => by simp [RvRs.len t]
/-- C(e, ..) of a class of exceptions of our own, made where nothing is handled: its context is None -/
theorem mk_own {CXq : CXT} {x : Str} {C fI : Addr} {k : Nat} {fd : FuncData} {ps : List Str} {sp : Sp} {q : Pos} {ta : TA} (T : OexC X.K C) (iC : PySem.W.findIn X.K (.ref C) "__init__" = some (some (.ref fI))) (tI : PySem.W.typeIn X.K (.ref fI) = some (.type "function"))
    (fI_ok : FnOk X.prog X.w X.K X.mg X.base CXq k fI fd ps sp) (room : Room (k + 1) X.A) (bd : Binds X.K fd ps []) (no : Passes CXq X (fun _ _ _ => False)) (hg : Gl X x) (hm : X.mg x = some (.ref C)) (ha : PA X (a' :: es') ta)
    (hdb : (x == ("__debug__" : Str)) = false) (hs : (a' :: es').all nost = true) : L2N.PMk X (.Call (.Name x q) (a' :: es') [] pos) (tMkO C sp [] ta) := fun pins s σ H Q I h => by
  simp only [List.all_cons, Bool.and_eq_true] at hs
  obtain ⟨_, _, _, _, bm, _, _, _, _, _, _, _, _, _, _, hC, hbm⟩ := T.cls
  refine wpAny_Call_Name_kw (ld_glob I hg hm ?_ hdb)
  refine PySem.W.callWith_K (h₀ := X.base) I.ok.mod.kin T.kC (thn (ha.run pos pins s σ H _ I h) fun us s1 ⟨vs, H1, I1, r1, hz, q1⟩ => ⟨I1.kIn, ?_⟩) (star_of hs.1) (any_of hs.2)
  rcases s1 with ⟨h1, g1, d1, t1, os1⟩
  -- the exception's place: behind the tuple of its arguments
  obtain ⟨a, ea⟩ : ∃ a, a = h1.objs.size + 1 := ⟨_, rfl⟩
  have le : h1.objs.size ≤ a := by omega
  have na : H1 a = none := I1.hok.fresh le
  have fine := q1 a na
  rw [List.append_nil] at fine
  obtain ⟨h2, eh2⟩ : ∃ h2, h2 = (h1.push (PySem.W.kdv_tup us)).push (PySem.HandSPX.excO C h1.objs.size) := ⟨_, rfl⟩
  have old : ∀ b o, h1.get? b = some o → h2.get? b = some o := fun b o e => by rw [eh2]; exact Heap.get?_push_of_some _ (Heap.get?_push_of_some _ e)
  have at_ : h2.get? a = some (PySem.HandSPX.excO C h1.objs.size) := by rw [eh2, ea]; heap_get
  have I2 : Inv X pins σ (upd H1 a (exo a C none)) ⟨h2, g1, d1, t1, os1⟩ := I1.laid (t' := t1) old le (exo_ok at_)
  have r2 : Vals (V.ref a :: vs) (Value.ref a :: us) := .cons rfl r1
  have hn : us.length + 1 = ps.length := by rw [← fI_ok.len _ _ _ _ fine, ← Paired.length r1, List.length_cons]
  have bnd := bd _ (Value.ref a :: us) I2.kIn (by rw [List.append_nil]; simpa using hn)
  rw [List.append_nil] at bnd
  subst ea; subst eh2
  refine wpAny_call (PySem.HandSPX.call_own F.excBase_ValueError (fun Y => PySem.HandSPX.refsVE_contains Y bm hbm) (I1.kIn _ _ hC) (PySem.W.looks_findIn I1.kIn iC) (fun self => PySem.W.bind_fn I1.kIn self tI) (by rw [List.nil_append, ← Paired.length r1, sizeLine_eq]; omega)
    (codeAny_mono (fI_ok.run _ X.stack _ _ ⟨Value.ref (h1.objs.size + 1) :: us, []⟩ _ _ _ (fun _ _ _ => False) (room.make C us []) (I2.env0.make C us []) bnd r2 fine) fun r s' w => ?_))
  rcases r with er | fl
  · exact no pins σ _ _ er s' I2 w
  · cases fl with
    | ret u =>
      obtain ⟨v, H2, o2, b2, un, hok, rv, ev, d, fs, e1, e2, e3, e4⟩ := w
      subst ev
      rcases s' with ⟨h3, g3, d3, t3, os3⟩
      obtain ⟨t0, G, J, kG, gn, gx, nx⟩ := mk_end0 (d2 := d3) (t2 := t3) I1 le old un hok o2 b2 e1 e2 e3
      exact ⟨rv, _, _, _, ⟨G, g3, d3, t3, os3⟩, _, .ref C, some d, rfl, J, kG, gn, gx, ⟨rfl, rfl, fun vs e => by cases e; rfl⟩, rfl, rfl, nx, rfl, b2, raises_own T.exC T.tyC, e4⟩
    | next => exact w.elim
    | brk => exact w.elim
    | cont => exact w.elim
theorem s_rai (ok : XOk c n ad fdt X W) (hh : c.hot = false) {x : Str} {xd : Xd} (hx : c.g.xd x = some xd) {p : Pos} (h2 : 1 ≤ n) (hg : glB X.env.scope x = true) (hdb : dbgB x = true) (hl : PA X (a' :: es') (tev' X.K X.mG W el)) (hs : (a' :: es').all nost = true) :
    PS X (.Raise (some (.Call (.Name x p) (a' :: es') [] pos)) none pos') (tst X.K X.mG W Pr fun ρ => (el ρ).then fun rs ρ => raiR c.g x rs ρ) := by
  have hs' := hs
  simp only [List.all_cons, Bool.and_eq_true] at hs'
  obtain ⟨m1, m2⟩ := Gs.xd_mem hx
  obtain ⟨Ca, hC, R⟩ := ok.ra hh xd m1
  obtain ⟨fI, fd, ps, i1, i2, i3, i4⟩ := R.ini
  rw [m2] at hC
  have hr : Room 2 X.A := ⟨ok.hd hh, by have := ok.room.dp; omega, by have := ok.room.un; omega⟩
  refine PS.imp (L2N.ps_raise (ok.calm hh) ok.tk (mk_own (pos := pos) (q := p) R.oex i1 i2 i4 hr i3 (fun _ _ _ _ _ _ _ z => z.elim) (gl_of hg) hC hl (dbg_of hdb).1 hs)) fun D σ H ⟨F, ρ, en, h⟩ => ?_
  refine thenL (.refl en) h fun vs F1 H1 ρ1 rs q1 p1 v1 h1 => ?_
  unfold raiR at h1
  split at h1
  · rename_i ds ρ2 e2
    rw [hx] at h1
    dsimp only at h1
    split at h1
    · rename_i hd
      obtain ⟨F2, p2, k2, rl⟩ := fzs_of q1 v1.w e2
      have hv : vs.length = ds.length := rl.length
      refine ⟨by omega, fun a na => ⟨a, vs, by rw [List.append_nil], by omega, upd_same, fun d nd da => ⟨rfl, d, (xd.fs.zip vs).reverse, upd_same, ?_, ?_, ?_⟩⟩⟩
      · rw [upd_ne da, upd_same]
      · rw [upd_ne da] at nd; exact nd
      · rw [upd_ne da] at nd
        have e : upd (L2.del (upd (upd (upd H1 a (exo a Ca none)) d (exd d (xd.fs.zip vs).reverse)) a (exo a Ca (some d))) a) d (.xd (xd.fs.zip vs).reverse) = upd H1 d (.xd (xd.fs.zip vs).reverse) := by
          funext b
          by_cases hb : b = d
          · rw [hb, upd_same, upd_same]
          · rw [upd_ne hb, upd_ne hb]
            by_cases hb2 : b = a
            · rw [hb2, del_same, na]
            · rw [L2.del_ne hb2, upd_ne hb2, upd_ne hb, upd_ne hb2]
        rw [e]
        have g := Grow.frz (o := .xd (xd.fs.zip vs).reverse) p2.en.sub nd
        refine h1 (.ref Ca) (some d) σ _ _ (g.ps ((Ps.refl en).po p2)) ⟨hC, d, _, rfl, upd_same, ?_, ?_⟩
        · rw [List.map_reverse, map_zip_fst (by omega)]
        · rw [List.map_reverse, map_zip_snd (by omega)]
          exact (rl.mono g.mono).reverse
    · exact h1.elim
  · exact h1.elim
/-! ### o.f += e -/
theorem s_agf (ok : XOk c n ad fdt X W) {i : Nat} {x f : Str} {xp tp : Pos} {o : Bo} (hN : X.N[i]? = some x) (hv : visB X.env.scope x = true) (hd : dbgB x = true) (he : PE X e' (tev X.K X.mG W ee)) (ho : o = .add ∨ o = .sub) :
    PS X (.AugAssign (.Attribute (.Name x xp) f tp) o.op e' pos) (tst X.K X.mG W Pr fun ρ => match ρ.at i with
      | some (.own (.ins C ns ds)) => if (C, f) ∈ c.g.na then match (ns.zip ds).lookup f with
          | some (.int x) => (ee ρ).then fun r ρ => agfR c.g.na i C f o x r ρ
          | _ => .bad
        else .bad
      | _ => .bad) := by
  have pv' : PE X (.Name x xp) (tVar i) := pe_var hN (vis_of hv) (dbg_of hd).1 (dbg_of hd).2.1
  have key : ∀ {rd : V → V → Hp → VK → Prop}, (∀ (x y : Int) (z : Int) (H : Hp) (Q : VK), augI o x y = some z → Q (.int z) H → rd (.int x) (.int y) H Q) → ∀ D σ H, tst X.K X.mG W Pr (fun ρ => match ρ.at i with
      | some (.own (.ins C ns ds)) => if (C, f) ∈ c.g.na then match (ns.zip ds).lookup f with
          | some (.int x) => (ee ρ).then fun r ρ => agfR c.g.na i C f o x r ρ
          | _ => .bad
        else .bad
      | _ => .bad) D σ H → sFldAug X.K (tVar i) (tev X.K X.mG W ee) rd f D σ H := fun {rd} hrd D σ H ⟨F, ρ, en, h⟩ => by
    dsimp only at h
    split at h
    · rename_i C ns ds hl
      split at h
      · rename_i hz
        split at h
        · rename_i xi ex
          obtain ⟨p, ep, fn, Ca, dx, fs, hC, hx, ek, rl⟩ := en.own i _ hl
          obtain ⟨Ca', hC', cl, na⟩ := ok.g.na (C, f) hz
          have hCC := hC.symm.trans hC'; cases hCC
          subst ek
          obtain ⟨w, ew, rw'⟩ := lookup_rel rl ex
          cases rw'
          refine ⟨_, get_st ep, p, Ca, dx, fs, _, rfl, hx, cl, na, ew, thenE (.refl en) h fun y F1 H1 ρ1 r q1 p1 v1 h1 => ?_⟩
          unfold agfR at h1
          split at h1
          · rename_i yi
            cases v1
            split at h1
            · rename_i z ez
              refine hrd xi yi z H1 _ ez ?_
              split at h1
              · rename_i C2 ns2 ds2 hl2
                split at h1
                rotate_left
                · exact h1.elim
                rename_i hC2
                subst hC2
                unfold flR at h1
                simp only [fz, hl2] at h1
                split at h1
                · rename_i hz2
                  obtain ⟨p2, ep2, fn2, Ca2, dx2, fs2, hC2, hx2, ek2, rl2⟩ := q1.en.own i _ hl2
                  have epp := ep.symm.trans ep2; cases epp
                  obtain ⟨w1, w2⟩ := fput_rel (f := f) (RelD.int (K := X.K) (mg := X.mG) (F := F1) z) ek2 rl2
                  have eC := hC.symm.trans hC2; cases eC
                  refine ⟨dx2, fs2, hx2, ?_, ?_⟩
                  · have : fs2.length = ns2.length := by rw [← ek2, List.length_map]
                    rw [this]; exact hz2.2
                  · exact h1 σ F1 _ (((Ps.refl en).po q1).own_upd hl2 ep2 ⟨_, dx2, _, hC2, upd_same, w1, w2⟩)
                · exact h1.elim
              · exact h1.elim
            · exact h1.elim
          · exact h1.elim
        · exact h.elim
      · exact h.elim
    · exact h.elim
  rcases ho with rfl | rfl
  · exact PS.imp (ps_fldaug pv' he in_add) (key fun x y z H Q e q => by cases e; exact ⟨x, y, rfl, rfl, q⟩)
  · exact PS.imp (ps_fldaug pv' he in_sub) (key fun x y z H Q e q => by cases e; exact ⟨x, y, rfl, rfl, q⟩)
/-! ### x[i] += e -/
def rGetL (K : PySem.W.Frag) : V → V → Hp → VK → Prop := fun x y H Q => ∃ p xs i v, x = .ref p ∧ y = .int i ∧ SqL K H p xs ∧ atI xs i = some v ∧ Q v H
theorem get_list : PGet X (rGetL X.K) := by
  intro pins s σ H x y v u Q I rx ry h
  obtain ⟨p, xs, i, z, rfl, rfl, hq, he, q⟩ := h
  cases rx
  obtain ⟨t, rfl⟩ := ry
  obtain ⟨its, r, pl, hz⟩ := I.list hq
  obtain ⟨j, h1, h2, h3, h4, h5⟩ := atI_get he
  obtain ⟨w, ew, rw'⟩ := r.get h2
  have hl := r.length
  have hn := line63
  have fin : EP X pins σ Q w s := ⟨z, H, I, rw', q⟩
  by_cases h0 : 0 ≤ i
  · have hj : i.toNat = j := by
      rw [seqIndex_of h0 h5] at h1
      exact Option.some.inj h1
    exact getItem_listL pl.isList h0 (by omega) (by rw [hj]; exact ew) fin
  · have hj : (i + (its.toArray.size : Int)).toNat = j := by
      rw [seqIndex_neg (by omega) h4] at h1
      rw [List.size_toArray, ← hl]
      exact Option.some.inj h1
    exact wpAny_getItem_list_neg pl.isList (by omega) (by rw [List.size_toArray] <;> omega) (by omega) (by rw [hj]; simpa using ew) fin
theorem aug_sub {b' : Expr} (hs : noslice b' = true) : ∀ ov iv new, augStore b' ov iv new = (do holding [new, ov, iv] (setItem ov iv new); release [new, ov, iv] []; pure .next) := by
  intro ov iv new
  cases b' <;> first | rfl | cases hs
theorem s_agx {i : Nat} {x : Str} {xp sp : Pos} {o : Bo} {b' : Expr} {eb : En → Out Rv} (hN : X.N[i]? = some x) (hv : visB X.env.scope x = true) (hd : dbgB x = true) (hb : PE X b' (tev X.K X.mG W eb)) (hs : noslice b' = true) (he : PE X e' (tev X.K X.mG W ee)) (ho : o = .add ∨ o = .sub) :
    PS X (.AugAssign (.Subscript (.Name x xp) b' sp) o.op e' pos) (tst X.K X.mG W Pr fun ρ => match ρ.at i with
      | some (.own (.lst _)) => (eb ρ).then fun k ρ => match k, ρ.at i with
        | .val (.int z), some (.own (.lst l)) => match atD l z with
          | some (.int x) => (ee ρ).then fun r ρ => agxR i z o x r ρ
          | _ => .bad
        | _, _ => .bad
      | _ => .bad) := by
  have pv' : PE X (.Name x xp) (tVar i) := pe_var hN (vis_of hv) (dbg_of hd).1 (dbg_of hd).2.1
  have key : ∀ (g : Int → Int → Int), (∀ a b w, augI o a b = some w → w = g a b) → ∀ D σ H, tst X.K X.mG W Pr (fun ρ => match ρ.at i with
      | some (.own (.lst _)) => (eb ρ).then fun k ρ => match k, ρ.at i with
        | .val (.int z), some (.own (.lst l)) => match atD l z with
          | some (.int x) => (ee ρ).then fun r ρ => agxR i z o x r ρ
          | _ => .bad
        | _, _ => .bad
      | _ => .bad) D σ H → tAugS (tVar i) (tev X.K X.mG W eb) (tev X.K X.mG W ee) (rGetL X.K) (ipI g) rSetL D σ H := fun g hg D σ H ⟨F, ρ, en, h⟩ => by
    dsimp only at h
    split at h
    · rename_i l0 hl0
      obtain ⟨p0, ep0, _, _⟩ := en.own i _ hl0
      refine ⟨_, get_st ep0, thenE (.refl en) h fun k F1 H1 ρ1 r1 q1 p1 v1 h1 => ?_⟩
      split at h1
      · rename_i z l hl
        cases v1
        split at h1
        · rename_i xi ex
          obtain ⟨p, ep, f, xs, hx, rl⟩ := p1.en.own i _ hl
          rw [ep0] at ep; cases ep
          obtain ⟨w, ew, rw'⟩ := rl.at ex
          cases rw'
          refine ⟨p0, xs, z, _, rfl, rfl, .of hx, ew, thenE p1 h1 fun y F2 H2 ρ2 r2 q2 p2 v2 h2 => ?_⟩
          unfold agxR at h2
          split at h2
          · rename_i yi
            cases v2
            split at h2
            · rename_i w ew2
              refine ⟨xi, yi, rfl, rfl, ?_⟩
              rw [← hg _ _ _ ew2]
              unfold ixR at h2
              simp only [fz] at h2
              split at h2
              · rename_i l2 hl2
                split at h2
                · rename_i j hj
                  obtain ⟨p', ep', f', xs', hx', rl'⟩ := q2.en.own i _ hl2
                  rw [ep0] at ep'; cases ep'
                  refine ⟨p0, xs', z, j, rfl, rfl, hx', by rw [rl'.length]; exact hj, ?_⟩
                  exact h2 σ F2 _ (p2.own_upd hl2 ep0 ⟨_, upd_same, rl'.set j (.int w)⟩)
                · exact h2.elim
              · exact h2.elim
            · exact h2.elim
          · exact h2.elim
        · exact h1.elim
      · exact h1.elim
    · exact h.elim
  rcases ho with rfl | rfl
  · exact PS.imp (ps_augS pv' hb get_list he ip_add set_list (aug_sub hs)) (key (fun i j => i + j) fun a b w e => by cases e; rfl)
  · exact PS.imp (ps_augS pv' hb get_list he ip_sub set_list (aug_sub hs)) (key (fun i j => i - j) fun a b w e => by cases e; rfl)
end
end Mp

/-! Mp32: a list comprehension whose item may raise. -/
namespace Mp
open PySem L2 PyProof.Rows
theorem noteFrame_as {e : Value} {a b : Env} (h : a.frame = b.frame) : noteFrame e a = noteFrame e b := by
  simp only [noteFrame, PySem.frameOf, h]
/-- what is due behind the block: C its variables, fr the frame's place -/
def BlkEnd (M : Model) (A : Around) (E : Value → Shared → Prop) (Q : Value → Shared → Prop) (acc : Value) (C : Addr) (fr : Option Addr) (r : Result) (s : Shared) : Prop := match r with
  | .ok _ => ∃ m, s.heap.Ns C m ∧ ∀ h, Heap.SameBut C s.heap h → Q acc { s with heap := h }
  | .error x => ∃ m, s.heap.Ns C m ∧ ∀ h m', h.Ns C m' → Heap.SameBut C s.heap h → ∀ ce : Env, ce.frame = fr →
      wpAny M A (PySem.passOn "comprehension.variables-let-go" x ce : Sem Value) (fun _ _ => False) E { s with heap := h }
section
variable {M : Model} {A : Around} {E : Value → Shared → Prop} {env : Env} {s : Shared}
theorem comp_wp {e : Expr} {scope : Scope} {pos : Pos} {acc0 first : Sem Value} {g : Comprehension} {gs : List Comprehension} {cl : List (Str × Addr)} {Q : Value → Shared → Prop}
    (e1 : clausesOf e = g :: gs) (e2 : ∀ x, foldedSetIterable g.iter env x = pure x) (e3 : closureFor scope env = pure cl) (k : scope.kind = .function) (nm : ∀ x ∈ scope.names, x.2 = .local → scope.names.lookup x.1 = some .local)
    (h : wpAny M A first (fun x s1 => wpAny M A (pyIter x) (fun it s2 => wpAny M A acc0 (fun acc s3 => wpAny M A (newFunctionEnv scope env.globals cl [] env.qual none .none (some env))
      (fun ce s4 => codeAny M A (.compStart e 0 it acc { ce with scope := relabel scope env }) (BlkEnd M A E Q acc ce.locals ce.frame) s4) E s3) E s2) E s1) E s) :
    wpAny M A (comprehension e scope env pos acc0 false first none) Q E s := by
  unfold comprehension
  rw [e3, e1]
  refine wpAny_bind (wpAny_mono h ?_ (fun _ _ z => z))
  intro x s1 h1
  refine wpAny_bind (wpAny_standAt (wpAny_bind (wpAny_of_eq (e2 x) ?_)))
  refine wpAny_bind (wpAny_holding (wpAny_mono h1 ?_ (fun _ _ z => z)))
  intro it s2 h2
  refine wpAny_standIf (wpAny_bind (wpAny_mono h2 ?_ (fun _ _ z => z)))
  intro acc s3 h3
  refine wpAny_bind (wpAny_pure (wpAny_bind (wpAny_mono h3 ?_ (fun _ _ z => z))))
  intro ce s4 h4
  dsimp only
  have loc : ∀ y ∈ (scope.names.filter fun y => (y.2 == .local || y.2 == .cell) && y.1 != (".0" : Str)).reverse, y.2 = .local → Env.kindOf { ce with scope := relabel scope env } y.1 = some .local :=
    fun y hy hl => lookup_relabel_local (nm y (List.mem_filter.mp (List.mem_reverse.mp hy)).1 hl)
  refine wpAny_holding (wpAny_bind (wpAny_attempt (wpAny_holding (wpAny_run (codeAny_mono h4 ?_)))))
  intro r s5 hr
  cases r with
  | ok f =>
    obtain ⟨m, n1, q⟩ := hr
    refine wpAny_bind (wpAny_holding (wpAny_comp_letGo (cenv := { ce with scope := relabel scope env }) k _ s5 m loc n1 ?_))
    exact fun h' m' _ sb => wpAny_pure (q h' sb)
  | error x =>
    obtain ⟨m, n1, q⟩ := hr
    refine wpAny_bind (wpAny_holding (wpAny_comp_letGo (cenv := { ce with scope := relabel scope env }) k _ s5 m loc n1 ?_))
    exact fun h' m' n2 sb => wpAny_mono (q h' m' n2 sb _ rfl) (fun _ _ z => z.elim) (fun _ _ z => z)
/-- the note of a frame that is not the one of the entry's hand -/
theorem note_held {Z : Obj → Prop} {base : Heap} {outer : List Env} {L L' e : Addr} {Q : Unit → Shared → Prop} (hZ : PXN.Steady1 Z) (hfr : A.frames = some (env :: outer)) (hf : env.frame = some L) (ne : L' ≠ L)
    (x : HandSPX.HeldZ base (env :: outer) e Z L' s.heap) (hQ : ∀ h', HandSPX.HeldZ base (env :: outer) e Z L h' → s.heap.UpToSlots h' → Q () { s with heap := h' }) : wpAny M A (noteFrame (.ref e) env) Q E s := by
  obtain ⟨sb, be, ff, oe, vs, T, oT, ts, g1, g2, g3, g4, g5, g6, g7, g8, g9⟩ := x
  unfold noteFrame
  simp only [hf]
  refine wpAny_bind (wpAny_field g1 g3 g4 ?_)
  rw [if_pos (by simp)]
  refine wpAny_bind (wpAny_field g7 g8 g9 ?_)
  rw [if_neg (by intro z; simp [rawInt] at z; first | exact ne z | exact ne (Int.ofNat.inj z) | exact ne (Int.ofNat_inj.mp z))]
  refine wpAny_bind (wpAny_setField g7 g8 (Array.getElem?_eq_some_iff.mp g9).1 ?_)
  have out : ∀ b, b ≠ T → (s.heap.update T (Obj.mapFields (·.setIfInBounds 3 Value.none))).get? b = s.heap.get? b := fun b nb => Heap.get?_update_other _ _ nb.symm
  have rec_ : ∀ b o, s.heap.get? b = some o → (∀ vs, o.data ≠ .fields vs) → b ≠ T := by
    intro b o gb nf z
    rw [z, g7] at gb
    cases gb
    exact nf ts g8
  refine PXN.wpAny_entryZ hZ hfr (ff.of_keeps ?_) hf ((out e g6.symm).trans g1) ?_ be g3 (Array.getElem?_eq_some_iff.mp g4).1 g2 ?_
  · exact fun b o gb nf => ⟨o, (out b (rec_ b o gb nf)).trans gb, rfl⟩
  · intro b o gb
    refine (out b ?_).trans (sb b o gb)
    intro z
    rw [z, g5] at gb
    cases gb
  · intro h' w
    obtain ⟨w1, w2, w3, w4⟩ := w
    exact hQ h' ⟨w1, be, w2, w3⟩ fun b o gb nf => w4 b o ((out b (rec_ b o gb nf)).trans gb) nf
end
/-! ### an exception of the block is one of the frame -/
abbrev blkE (X : Cx) (s : Shared) (H : Hp) (scope : Scope) (ce : Env) (fp : List Addr) (W : WX) : Cx := { X.blk s H scope ce fp with xe := L2N.XE (X.blk s H scope ce fp) W }
section
variable {X : Cx} {pins : List (Addr × Obj)} {σ : L2.St} {H : Hp} {s : Shared}
theorem Inv.xeTo {xe : Value → Shared → Prop} (J : Inv X pins σ H s) : Inv { X with xe := xe } pins σ H s :=
  ⟨⟨J.ok.mod, J.ok.kind, J.ok.glob, J.ok.blt, J.ok.above, J.ok.inj, J.ok.has, J.ok.cab, J.ok.hd, J.ok.frames, J.ok.stk, J.ok.exf, J.ok.bs, J.ok.bsz, J.ok.noex, J.ok.exfs, J.ok.funs, J.ok.frf⟩, J.os, J.bare, J.base, J.loc, J.cell, J.free, J.freeC, J.pin, J.hok, J.len⟩
theorem Inv.xeOf {xe : Value → Shared → Prop} (J : Inv { X with xe := xe } pins σ H s) : Inv X pins σ H s :=
  ⟨⟨J.ok.mod, J.ok.kind, J.ok.glob, J.ok.blt, J.ok.above, J.ok.inj, J.ok.has, J.ok.cab, J.ok.hd, J.ok.frames, J.ok.stk, J.ok.exf, J.ok.bs, J.ok.bsz, J.ok.noex, J.ok.exfs, J.ok.funs, J.ok.frf⟩, J.os, J.bare, J.base, J.loc, J.cell, J.free, J.freeC, J.pin, J.hok, J.len⟩
theorem takesE {scope : Scope} {ce : Env} {fp : List Addr} {W : WX} : L2N.Takes (blkE X s H scope ce fp W) W := fun u s' ⟨a, B, sI, pins, σ, H', cls, d, e, I, nb, up, sky, na, os, ag, w⟩ => ⟨a, B, sI, pins, σ, H', cls, d, e, Inv.xeOf I, nb, up, sky, na, os, ag, w⟩
/-- from the block's exception to the frame's: C the block's variables -/
theorem xe_out {scope : Scope} {ce : Env} {fp : List Addr} {W : WX} {Qf E' : Value → Shared → Prop} {acc e : Value} {s' : Shared} (hst : X.stack = X.env :: X.outer) (hf : X.env.frame = some X.env.locals) (tk : L2N.Takes X W) (I3 : Inv X pins σ H s)
    (hfp : ∀ b ∈ fp, FpOk X pins H b ∧ b < s.heap.objs.size) (cL : ce.locals = s.heap.objs.size) (cF : ce.frame = X.env.frame)
    (x : L2N.XE (X.blk s H scope ce fp) (fun c d _ H' => W c d σ H') e s') : wpAny (model X.prog X.w) X.A (noteFrame e ce) (fun _ s2 => BlkEnd (model X.prog X.w) X.A X.xe Qf acc s.heap.objs.size X.env.frame (.error e) s2) E' s' := by
  obtain ⟨a, B, sI, pb, σb, H', cls, d, rfl, Ib, nb, up, sky, na, os, ag, w⟩ := x
  obtain ⟨C, eC⟩ : ∃ C, C = s.heap.objs.size := ⟨_, rfl⟩
  rw [← eC] at cL ⊢
  have hfr : X.A.frames = some (X.env :: X.outer) := by rw [I3.ok.frames, hst]
  have nb : ∀ b o, sI.heap.get? b = some o → b ∉ frs X.stack → B.get? b = some o := nb
  have sky : Sky B X.stack a (L2N.Zn cls d) ce.locals s'.heap := sky
  rw [cL, hst] at sky
  -- C is no frame, nothing of ours
  have okC : FpOk X pins H' C := I3.fpOk (Nat.le_of_eq eC.symm) (by have z : H' ce.locals = none := Ib.free; rw [cL] at z; exact z)
  have nC : C ∉ frs X.stack := fun m => by
    rcases List.mem_cons.mp (I3.stkSub C m) with z | z
    · exact okC.2.1 z
    · exact okC.2.2.1 z
  obtain ⟨mC, oC, es, ep, goC, gdC⟩ : ∃ (mC : Str → Option Value) (oC : Obj) (es : Array DictEntry) (ep : Nat), sI.heap.get? C = some oC ∧ oC.data = .dict es ep ∧ StrKeys es ∧ ∀ n, nsFind es n = mC n := by
    obtain ⟨m, ⟨o, es, ep, q⟩, _⟩ := Ib.loc
    have q : sI.heap.get? ce.locals = some o ∧ _ := q
    rw [cL] at q
    exact ⟨m, o, es, ep, q⟩
  have BC : B.get? C = some oC := nb C oC goC nC
  have I7 : Inv X pins σ H' sI := I3.call' (ch := fp) Ib.os Ib.base Ib.hok Ib.bare fun b hb => ⟨(hfp b hb).1.2.2.2.1, (hfp b hb).1.2.1, (hfp b hb).1.2.2.2.2.1, (hfp b hb).1.2.2.2.2.2⟩
  rw [noteFrame_as (b := X.env) cF]
  -- noted: the variables go, the exception goes on
  have go : ∀ h1, HandSPX.HeldZ B (X.env :: X.outer) a (L2N.Zn cls d) X.env.locals h1 → s'.heap.UpToSlots h1 → BlkEnd (model X.prog X.w) X.A X.xe Qf acc C X.env.frame (.error (.ref a)) { s' with heap := h1 } := by
    intro h1 ⟨sb, be, ff, tr⟩ up1
    refine ⟨mC, ⟨oC, es, ep, sb C oC BC, gdC⟩, ?_⟩
    intro h2 m2 n2 same cx hcx
    obtain ⟨o2, es2, ep2, go2, gd2, _⟩ := n2
    have fr2 : o2.isFreed = false := Obj.isFreed_of_dict gd2
    have same : ∀ b, b ≠ C → h2.get? b = h1.get? b := same.2
    obtain ⟨B2, eB⟩ : ∃ B2, B2 = B.update C fun _ => o2 := ⟨_, rfl⟩
    have B2C : B2.get? C = some o2 := by rw [eB]; exact Heap.get?_update_self _ BC fr2
    have B2o : ∀ b, b ≠ C → B2.get? b = B.get? b := fun b nbC => by rw [eB]; exact Heap.get?_update_other _ _ nbC.symm
    have dom : ∀ b, B.get? b = none → B2.get? b = none ∧ b ≠ C := fun b z => by
      have n : b ≠ C := fun y => by rw [y, BC] at z; cases z
      exact ⟨(B2o b n).trans z, n⟩
    have held2 : HandSPX.HeldZ B2 (X.env :: X.outer) a (L2N.Zn cls d) X.env.locals h2 := by
      refine ⟨fun b o gb => ?_, (dom a be).1, ?_, ?_⟩
      · by_cases z : b = C
        · subst z; rw [B2C] at gb; cases gb; exact go2
        · rw [same b z]; exact sb b o ((B2o b z).symm.trans gb)
      · have nl : ∀ {l : List Env}, h1.FunFrames B l → h2.FunFrames B2 l := by
          intro l
          induction l with
          | nil => intro _; trivial
          | cons en r ih =>
            intro ⟨k1, ⟨L, o, k2, k3, k4, k5⟩, k6⟩
            obtain ⟨d1, d2⟩ := dom L k3
            exact ⟨k1, ⟨L, o, k2, d1, (same L d2).trans k4, k5⟩, ih k6⟩
        exact nl ff
      · obtain ⟨oe, vs, T, oT, ts, t1, t2, t3, t4, t5, t6, t7, t8, t9⟩ := tr
        obtain ⟨d1, d2⟩ := dom T t5
        exact ⟨oe, vs, T, oT, ts, (same a (dom a be).2).trans t1, t2, t3, t4, d1, t6, (same T d2).trans t7, t8, t9⟩
    have held3 := held2
    obtain ⟨_, _, _, oe, vs, T, oT, ts, t1, t2, t3, t4, _⟩ := held3
    unfold PySem.passOn
    refine wpAny_bind (wpAny_field t1 t3 t4 ?_)
    rw [if_neg (by simp)]
    refine wpAny_bind ?_
    rw [hcx, hf]
    refine HandSPX.setFlight_onZ held2 fun h3 h3h up3 => wpAny_throw (tk _ _ ?_)
    -- the state without the exception
    obtain ⟨hI, ehI⟩ : ∃ hI, hI = sI.heap.update C fun _ => o2 := ⟨_, rfl⟩
    have hIC : hI.get? C = some o2 := by rw [ehI]; exact Heap.get?_update_self _ goC fr2
    have hIo : ∀ b, b ≠ C → hI.get? b = sI.heap.get? b := fun b z => by rw [ehI]; exact Heap.get?_update_other _ _ z.symm
    refine ⟨a, B2, { sI with heap := hI }, pins, σ, H', cls, d, rfl, ?_, ?_, ?_, ?_, na, os, ag, w⟩
    · exact I7.turned (t' := sI.toks) (it := C) (fun b o z q => (hIo b z).trans q) okC.1 okC.2.1 okC.2.2.2.1 okC.2.2.2.2.1 okC.2.2.2.2.2
    · intro b o gb n
      by_cases z : b = C
      · subst z
        have gb : hI.get? b = some o := gb
        rw [hIC] at gb; cases gb; exact B2C
      · have gb : hI.get? b = some o := gb
        rw [hIo b z] at gb
        rw [B2o b z]
        exact nb b o gb n
    · intro b o gb nf
      have gb : hI.get? b = some o := gb
      by_cases z : b = C
      · subst z
        rw [hIC] at gb; cases gb
        exact up3 b o2 go2 nf
      · rw [hIo b z] at gb
        obtain ⟨sl, u1⟩ := up b o gb nf
        obtain ⟨sl2, u2⟩ := up1 b _ u1 nf
        obtain ⟨sl3, u3⟩ := up3 b _ ((same b z).trans u2) nf
        exact ⟨sl3, u3⟩
    · rw [hst]; exact .inr (.inr h3h)
  rcases sky with ⟨k1, k2, k3, oe, vs, k4, k5, k6, k7⟩ | fl | hh
  · exact PXN.look_newZ L2N.Zn.steady hfr k3 hf k4 k1 k2 k6 k7 k5 go
  · exact PXN.looks_onZ L2N.Zn.steady hfr hf fl go
  · exact note_held L2N.Zn.steady hfr hf okC.2.1 hh go
end
section
variable {X : Cx} {elt tg iter : Expr} {ifs : List Expr} {scope : Scope} {own : List (Str × Nat)} {pos : Pos} {wi : TI} {g : TG} {tt : TT} {te : L2.St → TE} {W : WX}
/-- [elt for tg in iter if ..], elt may raise -/
theorem pe_lce (hc : X.calm = true) (nd : X.N.Nodup) (hst : X.stack = X.env :: X.outer) (hf : X.env.frame = some X.env.locals) (tk : L2N.Takes X W) (hi : PI X tg iter wi) (bo : BlkOk X.N X.env.scope scope own)
    (pg : ∀ (s : Shared) (H : Hp) (C : Addr) (cl : List (Str × Addr)) (fp : List Addr), PG (X.blk s H scope (compEnvC scope cl C X.env) fp) tg g)
    (pt : ∀ (s : Shared) (H : Hp) (C : Addr) (cl : List (Str × Addr)) (fp : List Addr), PTs (X.blk s H scope (compEnvC scope cl C X.env) fp) ifs tt)
    (pe : ∀ (σ : L2.St) (s : Shared) (H : Hp) (C : Addr) (cl : List (Str × Addr)) (fp : List Addr), PE (blkE X s H scope (compEnvC scope cl C X.env) fp (fun c d _ H' => W c d σ H')) elt (te σ)) (nf : ∀ x, foldedSetIterable iter X.env x = pure x) :
    PE X (.ListComp elt [⟨tg, iter, ifs, 0⟩] scope pos) (fun σ H Q => tLc wi g tt (te σ) (own.map (·.2)) σ H Q) := ⟨fun pins s σ H Q I h => by
  have caps : ∀ y ∈ scope.names, y.2 = .free → ∃ c, X.env.cells.lookup y.1 = some c := fun y m e => I.ok.has _ (bo.free y m e)
  rw [eval_ListComp]
  refine comp_wp rfl nf (closure_ok caps) bo.kind (fun y m e => (bo.uniq y m).trans (congrArg some e)) (thn (hi.run pins s σ H _ I h) fun xv s1 hx => thn hx fun itv s2 h2 => ?_)
  obtain ⟨it, fp, tn, J, H2, rfl, I2, T, at2, ok2, q⟩ := h2
  refine wpAny_newObj_type (newEnv_comp ?_) (Nat.zero_le _)
  obtain ⟨D, eD⟩ : ∃ D, D = s2.heap.objs.size := ⟨_, rfl⟩
  have nD : H2 D = none := I2.hok.fresh (Nat.le_of_eq eD.symm)
  obtain ⟨Wd, ⟨m0, w0⟩, go⟩ := q D nD
  rw [← eD]
  generalize e3 : ({ s2 with heap := s2.heap.push { cls := .type "list", data := .seq ([] : List Value).toArray } } : Shared) = s3
  have h3 : s3.heap = s2.heap.push { cls := .type "list", data := .seq ([] : List Value).toArray } := by rw [← e3]
  have I3 : Inv X pins σ (upd H2 D (.lst [])) s3 := by
    rw [← e3]
    exact I2.laid (t' := s2.toks) (fun b o e => Heap.get?_push_of_some _ e) (Nat.le_of_eq eD.symm) ⟨Nat.zero_le _, [], 0, .nil, by rw [eD]; exact Heap.get?_push_size _ rfl⟩
  have lt2 : ∀ b ∈ fp, b < D := fun b m => by
    obtain ⟨o, e, _⟩ := T.obj _ _ at2 b m
    rw [eD]; exact Heap.lt_size e
  generalize eH : upd H2 D (.lst []) = H3 at I3 w0
  have all3 : ∀ b ∈ fp, FpOk X pins H3 b ∧ b < s3.heap.objs.size := fun b m => by
    have l := lt2 b m
    exact ⟨⟨by rw [← eH, upd_ne (Nat.ne_of_lt l)]; exact (ok2 b m).1, (ok2 b m).2⟩, by rw [h3, Heap.size_push, ← eD]; exact Nat.lt_succ_of_lt l⟩
  have I4 := block_start I3 bo nd all3
  obtain ⟨C, eC⟩ : ∃ C, C = s3.heap.objs.size := ⟨_, rfl⟩
  obtain ⟨B, eB⟩ : ∃ B, B = compEnvC scope (cellsFrom (s3.heap.objs.size + 1) scope.names (cloFrom X.env.cells scope.names [])) s3.heap.objs.size X.env := ⟨_, rfl⟩
  have tgB : PG (X.blk s3 H3 scope B fp) tg g := by rw [eB]; exact pg _ _ _ _ _
  have tsB : PTs (X.blk s3 H3 scope B fp) ifs tt := by rw [eB]; exact pt _ _ _ _ _
  have elB : PE (blkE X s3 H3 scope B fp (fun c d _ H' => W c d σ H')) elt (te σ) := by rw [eB]; exact pe _ _ _ _ _ _
  have BC : B.locals = C := by rw [eB, eC]; rfl
  have BF : B.frame = X.env.frame := by rw [eB]; rfl
  rw [← eB] at I4
  show codeAny _ _ (.compStart (.ListComp elt [⟨tg, iter, ifs, 0⟩] scope pos) 0 (.ref it) (.ref D) (compEnvC scope (cellsFrom (s3.heap.objs.size + 1) scope.names (cloFrom X.env.cells scope.names [])) s3.heap.objs.size X.env)) (BlkEnd (model X.prog X.w) X.A X.xe (EP X pins σ Q) (.ref D) s3.heap.objs.size X.env.frame) _
  rw [← eB]
  generalize e4 : ({ s3 with heap := pushCells (s3.heap.push { cls := .type "dict", data := .dict #[] }) scope.names } : Shared) = s4 at I4 ⊢
  have at4 : tn 0 s4.heap := T.keep _ _ _ at2 fun b _ o e => by
    rw [← e4]
    exact pushCells_keeps _ _ _ _ (Heap.get?_push_of_some _ (by rw [h3]; exact Heap.get?_push_of_some _ e))
  have fine : ∀ {σ' : L2.St} {H' : Hp} {s' : Shared}, Inv (X.blk s3 H3 scope B fp) [] σ' H' s' → (∀ b ∈ fp, H' b = none) → ∀ b ∈ fp, FpOk (X.blk s3 H3 scope B fp) [] H' b := fun J n b m =>
    have w := J.ok.exf b m
    ⟨n b m, w.1, J.ok.exfs b m, .inl m, w.2, fun p hp => by cases hp⟩
  have loop : codeAny (model X.prog X.w) X.A (.compLoop (.ListComp elt [⟨tg, iter, ifs, 0⟩] scope pos) 0 (.ref it) (.ref D) B) (BlkEnd (model X.prog X.w) X.A X.xe (EP X pins σ Q) (.ref D) s3.heap.objs.size X.env.frame) s4 := by
    refine compLoop_any (fun m s' => ∃ i H', Inv (X.blk s3 H3 scope B fp) [] (wipe σ (own.map (·.2))) H' s' ∧ tn i s'.heap ∧ (∀ b ∈ fp, H' b = none) ∧ Wd i m H') (fun m s5 ⟨i, H5, J5, at5, n5, w5⟩ => ?_) m0 ⟨0, H3, I4, at4, fun b m => (all3 b m).1.1, w0⟩
    rcases go i m H5 w5 with ⟨stop, hQ⟩ | ⟨more, Nx, dec, body⟩
    · refine thnF (T.done (X.blk s3 H3 scope B fp) rfl rfl rfl hc i [] s5 _ H5 (fun _ _ => False) J5 (fine J5 n5) at5 stop) fun r s6 ⟨er, J6⟩ => ?_
      subst er
      have K6 : Inv X pins σ H5 s6 := I3.call' (ch := fp) J6.os J6.base J6.hok J6.bare fun b m => ⟨(all3 b m).1.2.2.2.1, (all3 b m).1.2.1, (all3 b m).1.2.2.2.2.1, (all3 b m).1.2.2.2.2.2⟩
      obtain ⟨mp, ns, _⟩ := J6.loc
      have nC : H5 C = none := by rw [← BC]; exact J6.free
      have okC : FpOk X pins H5 C := I3.fpOk (by rw [eC]; exact Nat.le_refl _) nC
      have ns : s6.heap.Ns B.locals mp := ns
      rw [BC] at ns
      rw [← eC]
      refine ⟨mp, ns, fun h' sb => ⟨.ref D, H5, ?_, rfl, hQ⟩⟩
      exact K6.turned (t' := s6.toks) (fun b o hb e => (sb.2 b hb).trans e) okC.1 okC.2.1 okC.2.2.2.1 okC.2.2.2.2.1 okC.2.2.2.2.2
    · refine thnF (T.item (X.blk s3 H3 scope B fp) rfl rfl rfl hc i [] s5 _ H5 (fun _ _ => False) J5 (fine J5 n5) at5 more) fun r s6 ⟨u, er, z6⟩ => ?_
      subst er
      refine thnF z6 fun _ s7 ⟨y, H7, J7, ry, hy, at7, n7⟩ => ?_
      have P7 := J7.pinned (fine J7 n7) (T.obj _ _ at7)
      refine thnF (tgB.run _ s7 _ H7 y u _ P7 ry (body y H7 hy)) fun _ s8 ⟨σ8, H8, J8, hw, q8⟩ => ?_
      refine thnF (tsB.run _ s8 σ8 H8 _ J8 q8) fun b s9 ⟨H9, J9, q9⟩ => ?_
      have next : ∀ {s' : Shared} {H' : Hp}, Inv (X.blk s3 H3 scope B fp) ([] ++ pinsAt fp s7.heap) σ8 H' s' → Nx H' → ∃ k, k < m ∧ ∃ i H', Inv (X.blk s3 H3 scope B fp) [] (wipe σ (own.map (·.2))) H' s' ∧ tn i s'.heap ∧ (∀ b ∈ fp, H' b = none) ∧ Wd i k H' := fun {s' H'} J' nx => by
        obtain ⟨k, lt, wk⟩ := dec H' nx
        have pn : ∀ b ∈ fp, ∀ o, s7.heap.get? b = some o → s'.heap.get? b = some o ∧ H' b = none := fun b mb o eo =>
          let z := J'.pin (b, o) (List.mem_append_right _ (List.mem_append_right _ (mem_pinsAt mb eo)))
          ⟨z.1, z.2.1⟩
        refine ⟨k, lt, i + 1, H', (J'.unpinned (pins := [])).weak (by rw [← hw, wipe_length]) (fun j v e => ?_), T.keep _ _ _ at7 fun b mb o eo => (pn b mb o eo).1, fun b mb => ?_, wk⟩
        · rw [← hw] at e
          exact (wipe_some e).1
        · obtain ⟨o, eo, _⟩ := T.obj _ _ at7 b mb
          exact (pn b mb o eo).2
      cases b with
      | false => exact next J9 q9
      | true =>
        refine wpAny_mono (elB.run _ s9 σ8 H9 _ (Inv.xeTo J9) q9) ?_ ?_
        · intro z s10 ⟨yv, H10, J10, r10, acc, hD, hz, nx⟩
          exact app_ok (X := X.blk s3 H3 scope B fp) (Inv.xeOf J10) hD hz r10 fun s11 J11 => next J11 nx
        · intro e s' x
          exact xe_out hst hf tk I3 all3 (BC.trans eC) BF x
  exact codeAny_compStart_list loop (T.self X.A 0 _ _ _ at4 loop)⟩
end
end Mp

/-! Mp33: return sum([e for x in ..]), e may raise. -/
namespace Mp
open PySem L2 PyProof.Rows
section
variable {c : Cc} {n : Nat} {ad : Nat → Addr} {fdt : Nat → FuncData} {X : Cx} {W : WW} {a' b' e' t' tg' it' : Expr} {ifs' : List Expr} {pos : Pos}
abbrev Wat (W : WW) (σ : L2.St) : WW := fun c d _ H => W c d σ H
theorem k_lce {ei : En → Out Sr} {ee : En → Out Rv} {vs : List Nat} {iv : Nat} (htg : ∀ i ∈ [iv], i ∈ vs) : ∀ (σ : L2.St) (H : Hp) (Q : VK), tev X.K X.mG W (lcE ei ee vs iv) σ H Q →
    tLc (tit X.K X.mG W ei) (gT X.K true [iv]) tYes (tev X.K X.mG (Wat W σ) ee) vs σ H Q := fun σ H Q ⟨F, ρ, en, h⟩ => by
  unfold lcE at h
  refine ⟨F, ρ, en, ?_⟩
  cases q : ei ρ with
  | bad => rw [q] at h; exact h.elim
  | er x ρ1 => rw [q] at h; exact fun cl d F1 H1 p1 x1 => h cl d F1 H1 p1 x1
  | ok s ρi =>
    rw [q] at h
    intro J F1 H1 p1 fd Dd nD
    cases s with
    | dyn i => exact h.elim
    | fix l =>
      have h : FinE X.K X.mG W F H σ ρ Q (match turns (stepLc ee vs iv ρi) (·.2) l ([], ρi) with
        | .ok a ρ => .ok (.tmp (.lst a.1)) ρ
        | .er x ρ2 => .er x (mend vs ρi ρ2)
        | .bad => .bad) := h
      obtain ⟨I, i0, imono, feed⟩ := fd
      have hD : H Dd = none := p1.st.al Dd nD
      refine ⟨fun k m Hk => m = l.length - k ∧ k ≤ l.length ∧ ∃ (Fk : Hp) (acc : List D) (ρk : En) (xs : List V), Po X.K X.mG F H σ ρ Fk Hk ρk ∧ I Fk ∧ Hk Dd = some (.lst xs) ∧ RelL X.K X.mG Fk xs acc ∧ Fk Dd = none ∧ (∀ j ∈ vs, ρk.at j = ρi.at j) ∧ ρk.length = ρi.length ∧
        FinE X.K X.mG W F H σ ρ Q (match turns (stepLc ee vs iv ρi) (·.2) (l.drop k) (acc, ρk) with
          | .ok a ρ => .ok (.tmp (.lst a.1)) ρ
          | .er x ρ2 => .er x (mend vs ρi ρ2)
          | .bad => .bad), ⟨l.length, by simp, Nat.zero_le _, F1, [], ρi, [], ?_, i0, upd_same, .nil, p1.en.sub.none nD, fun _ _ => rfl, rfl, h⟩, ?_⟩
      · exact (Grow.tmp p1.en.sub nD).po p1
      · rintro k m Hk ⟨rfl, hk, Fk, acc, ρk, xs, pk, ik, hDk, rk, fDk, same, lenk, hk2⟩
        have nOwn : ¬ Own σ ρk Dd := fun z => en.own_some (pk.ow Dd z) hD
        by_cases hlt : k < l.length
        · right
          obtain ⟨go, yld⟩ := (feed Fk Hk k ik pk.en.sub).1 l[k] (List.getElem?_eq_getElem hlt)
          rw [List.drop_eq_getElem_cons hlt] at hk2
          simp only [turns] at hk2
          refine ⟨go, fun H' => ∃ m', m' < l.length - k ∧ (m' = l.length - (k + 1) ∧ k + 1 ≤ l.length ∧ ∃ (Fk : Hp) (acc : List D) (ρk : En) (xs : List V), Po X.K X.mG F H σ ρ Fk H' ρk ∧ I Fk ∧ H' Dd = some (.lst xs) ∧ RelL X.K X.mG Fk xs acc ∧ Fk Dd = none ∧ (∀ j ∈ vs, ρk.at j = ρi.at j) ∧ ρk.length = ρi.length ∧
            FinE X.K X.mG W F H σ ρ Q (match turns (stepLc ee vs iv ρi) (·.2) (l.drop (k + 1)) (acc, ρk) with
              | .ok a ρ => .ok (.tmp (.lst a.1)) ρ
              | .er x ρ2 => .er x (mend vs ρi ρ2)
              | .bad => .bad)), fun H' z => z, fun x H' hy => ?_⟩
          obtain ⟨F', gr, rd⟩ := yld x H' hy
          have pk' := gr.po pk
          obtain ⟨enw, oww⟩ := pk'.en.wipe vs
          -- the target
          simp only [stepLc] at hk2
          cases eb : bindT true [iv] l[k] (wipeE ρk vs) with
          | none => rw [eb] at hk2; exact hk2.elim
          | some ρ1 =>
            rw [eb] at hk2
            dsimp only at hk2
            refine bnd_of enw rd eb fun σ2 b => ?_
            have hw : wipe σ2 vs = wipe σ vs := wipe_eq (by rw [b.len, wipe_length]) fun j nj => by
              rw [b.raw j fun m => nj (htg j m), wipe_out nj]
            refine ⟨hw, ?_⟩
            -- the new list stands through the block
            have DO : ¬ Own σ2 ρ1 Dd := fun z => by
              obtain ⟨i, d2, _, h1, h2⟩ := oww Dd (b.ow Dd z)
              exact nOwn ⟨i, d2, h1, h2⟩
            have D' : H' Dd = some (.lst xs) := gr.keep Dd _ hDk
            have fD' : F' Dd = none := gr.no Dd _ hDk fDk
            unfold tYes
            dsimp only
            rw [if_pos rfl]
            refine ⟨F', ρ1, b.en, ?_⟩
            have p3 : Po X.K X.mG F' H' σ2 ρ1 F' H' ρ1 := .refl b.en
            cases qe : ee ρ1 with
            | bad => rw [qe] at hk2; exact hk2.elim
            | er x2 ρ3 =>
              rw [qe] at hk2
              exact fun cl dd F4 H4 p4 x4 => hk2 cl dd F4 H4 (blk_back pk' b htg p4 same lenk).1 x4
            | ok r ρ3 =>
              rw [qe] at hk2
              intro y F4 H4 p4 ry
              dsimp only [Out.bind] at hk2
              cases qz : fz ρ3 r with
              | none => rw [qz] at hk2; exact hk2.elim
              | some w =>
                obtain ⟨xd, ρ4⟩ := w
                rw [qz] at hk2
                simp only at hk2
                by_cases hz : acc.length < lim
                · rw [if_pos hz] at hk2
                  have p34 := p3.trans p4
                  obtain ⟨F5, p5, k5, r5⟩ := fz_of p34 (ry.base p3.st.al).w qz
                  obtain ⟨pb, lb, sb⟩ := blk_back pk' b htg p5 same lenk
                  obtain ⟨l1, l2⟩ := p5.st.keep Dd _ D' DO
                  have pD : Po X.K X.mG F H σ ρ F5 (upd H4 Dd (.lst (xs ++ [y]))) (mend vs ρi ρ4) := by
                    have nO : ∀ j d q, (mend vs ρi ρ4).at j = some (.own d) → stAt σ j = some (.ref q) → q ≠ Dd := fun j d q e1 e2 z => by
                      subst z
                      exact en.own_some (pb.ow _ ⟨j, d, e1, e2⟩) hD
                    refine ⟨⟨pb.st.mono, fun a o e n => ?_, fun a e => ?_⟩, ⟨pb.en.len, fun a u e => ?_, pb.en.val, fun j d e => ?_, pb.en.inj, pb.en.exn⟩, pb.ow, pb.fil⟩
                    · obtain ⟨m1, m2⟩ := pb.st.keep a o e n
                      exact ⟨by rw [upd_ne (ne_of_none e hD)]; exact m1, m2⟩
                    · by_cases z : a = Dd
                      · subst z; exact hD
                      · rw [upd_ne z] at e; exact pb.st.al a e
                    · have z : a ≠ Dd := by intro z; subst z; rw [l2 fD'] at e; cases e
                      rcases pb.en.sub a u e with w | ⟨lk, ob, w⟩
                      · exact .inl (by rw [upd_ne z]; exact w)
                      · exact .inr ⟨lk, ob, by rw [upd_ne z]; exact w⟩
                    · obtain ⟨q, e1, f1, o1⟩ := pb.en.own j d e
                      exact ⟨q, e1, f1, o1.at .refl (upd_ne (nO j d q e e1))⟩
                  have ra : RelL X.K X.mG F5 (xs ++ [y]) (acc ++ [xd]) := (((rk.mono gr.mono).mono p5.st.mono)).append (.cons r5 .nil)
                  refine ⟨xs, l1, ?_, l.length - (k + 1), by omega, rfl, hlt, F5, acc ++ [xd], _, xs ++ [y], pD, imono _ _ (gr.mono.trans p5.st.mono) ik, upd_same, ra, l2 fD', sb, lb, hk2⟩
                  rw [rk.length, ← lim_eq]; exact hz
                · rw [if_neg hz] at hk2; exact hk2.elim
        · left
          have ek : k = l.length := by omega
          subst ek
          rw [List.drop_length] at hk2
          refine ⟨(feed Fk Hk l.length ik pk.en.sub).2 (Nat.le_refl _), hk2 (.ref Dd) Fk Hk pk ⟨Dd, rfl, hD, fDk, ⟨xs, hDk, rk⟩, nOwn⟩⟩

theorem blkE_mG (hc : X.calm = true) (s : Shared) (H : Hp) (scope : Scope) (cenv : Env) (fp : List Addr) (W' : WX) : (blkE X s H scope cenv fp W').mG = X.mG := by
  show (⟨X.mg, cond X.calm none _⟩ : MG) = ⟨X.mg, cond X.calm none _⟩
  rw [hc]; rfl
theorem XOk.blkE (ok : XOk c n ad fdt X W) (hh : c.hot = false) (s : Shared) (H : Hp) (scope : Scope) (cenv : Env) (fp : List Addr) (W' : WX) : XOk c n ad fdt (Mp.blkE X s H scope cenv fp W') W' :=
  ⟨ok.g, ok.calm, ok.nd, ok.room, ok.hd, takesE, fun h f d e => by rw [blkE_mG (ok.calm hh)]; exact ok.fn h f d e, ok.fnH, (fun h => by rw [hh] at h; cases h), ok.ra⟩
theorem l_lce (ok : XOk c n ad fdt X W) (hh : c.hot = false) (hst : X.stack = X.env :: X.outer) (hf : X.env.frame = some X.env.locals) {e : Ex} {it : It} {own : List (Str × Nat)} {i : Nat} {scope : Scope} (bo : BlkOk X.N X.env.scope scope own)
    (hi : ckI c.g X.N X.env.scope it it' tg' = true) (hg : ckNm X.N (relb scope X.env.scope) (fun x => scope.names.lookup x == some .cell) i tg' = true) (he : ckE c.g X.N (relb scope X.env.scope) e e' = true) (hm : i ∈ own.map (·.2)) (hs : noset it' = true) :
    PE X (.ListComp e' [⟨tg', it', [], 0⟩] scope pos) (tev X.K X.mG W (lcE (fun ρ => (evI c it ρ).bind frzS) (ev c e) (own.map (·.2)) i)) :=
  PE.imp (pe_lce (te := fun σ => tev X.K X.mG (Wat W σ) (ev c e)) (ok.calm hh) ok.nd hst hf ok.tk (it_fz (ckI_ok it ok hi)) bo
    (fun s H C cl fp => by
      have z := (nm_ok (X := X.blk s H scope (compEnvC scope cl C X.env) fp) ok.nd (fun x hx => hx) hg).1
      exact z) (fun _ _ _ _ _ => pts_nil)
    (fun σ s H C cl fp => by
      have z := ckE_ok e (X := Mp.blkE X s H scope (compEnvC scope cl C X.env) fp (Wat W σ)) (ok.blkE hh _ _ _ _ _ _) he
      rw [blkE_mG (ok.calm hh)] at z
      exact z) (by intro x; cases it' <;> first | rfl | cases hs)) (fun σ H Q h => k_lce (fun j hj => by rw [List.mem_singleton.mp hj]; exact hm) σ H Q h)
end
end Mp

/-! Mp20: the check of a statement, and that it is enough. -/
namespace Mp
open PySem L2 PyProof.Rows
def swB (sc : Scope) (x : Str) (xp pe : Pos) (scope : Scope) : Bool :=
  sc.names.lookup x == some .local && xp.line == pe.line && !(scope.names.any fun (n, k) => n == x && (k == .local || k == .cell))
theorem sw_comp {elt : Expr} {gs : List Comprehension} {scope : Scope} {pe py : Pos} {y : Str} {l : Nat} {env : Env} (hk : env.scope.kind = .function) :
    swapsWith (.ListComp elt gs scope pe) (some (.Name y py)) l env = pure (swB env.scope y py pe scope) := by
  have hb : env.blockKind = .function := by unfold Env.blockKind; rw [hk]; rfl
  unfold swapsWith swB
  simp only [hb, Expr.pos]
  rfl
def isLc : Expr → Bool
  | .ListComp _ _ _ _ => true
  | _ => false
def lcB : Ex → Bool
  | .lc _ _ _ _ _ _ => true
  | _ => false
def parB (sc : Scope) (x y : Str) (px py : Pos) (a b : Expr) : Bool :=
  sc.names.lookup x == some .local && sc.names.lookup y == some .local && (py.line == px.line) && !(x == y) && nost a && nost b && !([a, b].all (foldedForSure 8)) && !([a, b].all (constantsAlone 8))
def proOf (it : It) (Pr : List Nat) : List Nat := match it with
  | .one (.var i) => i :: Pr
  | _ => Pr
mutual
def ckS (g : Gs) (N : List Str) (sc : Scope) (Pr : List Nat) : St → Stmt → Bool
  | .asg t e, s => match s with
    | .Assign [tg'] e' pos => match t with
      | .nm i => (match tg' with
        | .Name x xp => decide (N[i]? = some x) && stoB sc (fun _ => true) x && decide (i ∉ Pr) && ckE g N sc e e' && (nocomp e' || (isLc e' && lcB e))
        | _ => false)
      | .tu l => (match tg' with
        | .Tuple es k p => ckNms N sc (fun _ => true) l es && (l.all fun i => decide (i ∉ Pr)) && ckE g N sc e e' && noswp sc es e'
        | _ => false)
      | .ix i b => (match tg' with
        | .Subscript (.Name x xp) b' sp => decide (N[i]? = some x) && visB sc x && dbgB x && ckE g N sc e e' && ckE g N sc b b' && noslice b'
        | _ => false)
      | .kx i b => (match tg' with
        | .Subscript (.Name x xp) b' sp => decide (N[i]? = some x) && visB sc x && dbgB x && ckE g N sc e e' && ckE g N sc b b'
        | _ => false)
      | .fl i f => (match tg' with
        | .Attribute (.Name x xp) f' sp => decide (N[i]? = some x) && visB sc x && dbgB x && ckE g N sc e e' && decide (f' = f)
        | _ => false)
    | _ => false
  | .aug i o e, s => match s with
    | .AugAssign (.Name x xp) o' e' pos => decide (N[i]? = some x) && stoB sc (fun _ => true) x && decide (i ∉ Pr) && ckE g N sc e e' && decide (o' = o.op) && (match o with | .add => true | .sub => true | _ => false)
    | _ => false
  | .par i j a b, s => match s with
    | .Assign [.Tuple [.Name x px, .Name y py] _ _] (.Tuple [a', b'] _ _) pos => decide (N[i]? = some x) && decide (N[j]? = some y) && decide (i ≠ j) && decide (i ∉ Pr) && decide (j ∉ Pr) && ckE g N sc a a' && ckE g N sc b b' && parB sc x y px py a' b'
    | _ => false
  | .exp e, s => match s with
    | .Expr e' _ => ckE g N sc e e' && nocomp e'
    | _ => false
  | .ret e, s => match s with
    | .Return (some e') _ => ckE g N sc e e'
    | _ => false
  | .retN, s => match s with
    | .Return none _ => true
    | _ => false
  | .ifs c a b, s => match s with
    | .If c' a' b' _ => ckT g N sc c c' && ckSs g N sc Pr a a' && ckSs g N sc Pr b b'
    | _ => false
  | .wh c b, s => match s with
    | .While c' b' [] _ => ckT g N sc c c' && ckSs g N sc Pr b b'
    | _ => false
  | .fo tg one it b, s => match s with
    | .For tg' it' b' [] _ => ckI g N sc it it' tg' && ckTg N sc (fun _ => true) one tg tg' && noset it' && (tg.all fun i => decide (i ∉ proOf it Pr)) && ckSs g N sc (proOf it Pr) b b'
    | _ => false
  | .pas, s => match s with
    | .Pass _ => true
    | _ => false
  | .brk, s => match s with
    | .Break _ => true
    | _ => false
  | .cnt, s => match s with
    | .Continue _ => true
    | _ => false
  | .rai C l, s => match s with
    | .Raise (some (.Call (.Name x _) es [] _)) none _ => (x == C) && glB sc x && dbgB x && (g.xd C).isSome && cks g N sc l es && es.all nost && !es.isEmpty
    | _ => false
  | .tr b hs, s => match s with
    | .Try body hds [] [] _ => ckSs g N sc Pr b body && ckHs g N sc Pr hs hds && !hds.isEmpty
    | _ => false
  | .agf i f o e, s => match s with
    | .AugAssign (.Attribute (.Name x _) f' _) o' e' _ => decide (N[i]? = some x) && visB sc x && dbgB x && decide (f' = f) && decide (o' = o.op) && (match o with | .add => true | .sub => true | _ => false) && ckE g N sc e e'
    | _ => false
  | .agx i b o e, s => match s with
    | .AugAssign (.Subscript (.Name x _) b' _) o' e' _ => decide (N[i]? = some x) && visB sc x && dbgB x && decide (o' = o.op) && (match o with | .add => true | .sub => true | _ => false) && ckE g N sc b b' && noslice b' && ckE g N sc e e'
    | _ => false
  | .rsm e own it i, s => match s with
    | .Return (some (.Call (.Name x _) [.ListComp b [⟨t', it', [], ia⟩] scope _] [] _)) _ => ia == 0 && (x == ("sum" : Str)) && decide (x ∈ g.free) && glB sc x && blkC N sc scope own && decide (i ∈ own.map (·.2)) && noset it' && ckI g N sc it it' t' &&
        ckNm N (relb scope sc) (fun x => scope.names.lookup x == some .cell) i t' && ckE g N (relb scope sc) e b
    | _ => false
  | .bad, _ => true
def ckHs (g : Gs) (N : List Str) (sc : Scope) (Pr : List Nat) : Hds → List ExceptHandler → Bool
  | .nil, l => l.isEmpty
  | .cons C i s r, l => match l with
    | .ExceptHandler (some (.Name x _)) on (b0 :: su) _ :: l' => (x == C) && glB sc x && dbgB x && decide (C ∈ g.xn) && (match i, on with
        | none, none => true
        | some j, some nm => decide (N[j]? = some nm) && (sc.names.lookup nm == some .local) && decide (j ∉ Pr)
        | _, _ => false) && ckSs g N sc Pr s (b0 :: su) && ckHs g N sc Pr r l'
    | _ => false
def ckSs (g : Gs) (N : List Str) (sc : Scope) (Pr : List Nat) : Sts → List Stmt → Bool
  | .nil, l => l.isEmpty
  | .cons s ss, l => match l with
    | t :: ts => ckS g N sc Pr s t && ckSs g N sc Pr ss ts
    | [] => false
end
def starB : Expr → Bool
  | .Starred .. => true
  | _ => false
theorem swp_some {x y : Str} {px py pt pt2 : Pos} {kt k2 : Nat} {a b : Expr} {env : Env} (hk : env.scope.kind = .function) (h : parB env.scope x y px py a b = true) :
    swappedStores [.Tuple [.Name x px, .Name y py] kt pt] (.Tuple [a, b] k2 pt2) env = pure (some [x, y]) ∧ env.scope.names.lookup x = some .local ∧ env.scope.names.lookup y = some .local ∧ [a, b].all nost = true := by
  have hb : env.blockKind = .function := by unfold Env.blockKind; rw [hk]; rfl
  unfold parB at h
  simp only [Bool.and_eq_true, Bool.not_eq_true'] at h
  obtain ⟨⟨⟨⟨⟨⟨⟨h1, h2⟩, h3⟩, h4⟩, h5⟩, h6⟩, h7⟩, h8⟩ := h
  simp only [beq_iff_eq] at h1 h2
  refine ⟨?_, h1, h2, by simp [h5, h6]⟩
  have kx : env.kindOf x = some .local := h1
  have ky : env.kindOf y = some .local := h2
  have hxy : (y == x) = false := by
    have : x ≠ y := by simpa using h4
    simpa using Ne.symm this
  unfold swappedStores
  simp only [hb, h7, h8, kx, ky, h3, List.filterMap, List.head?, Option.map, Option.getD, Expr.pos, BEq.rfl, Bool.and_self, if_true]
  simp [List.eraseDups, List.eraseDupsBy, List.eraseDupsBy.loop, hxy]
  have key : ∀ e : Expr, nost e = true → starB e = false := fun e h => by cases e <;> first | rfl | cases h
  rintro (z | z)
  · exact (Bool.false_ne_true ((key a h5).symm.trans z)).elim
  · exact (Bool.false_ne_true ((key b h6).symm.trans z)).elim
theorem proOf_sub (it : It) {Pr : List Nat} : ∀ i ∈ Pr, i ∈ proOf it Pr := fun i h => by
  unfold proOf
  split
  · exact List.mem_cons_of_mem _ h
  · exact h
theorem proOf_var (it : It) {Pr : List Nat} : ∀ i, it.isVar i = true → i ∈ proOf it Pr := fun i h => by
  unfold It.isVar at h
  split at h
  · simp only [beq_iff_eq] at h
    subst h
    exact List.mem_cons_self
  · cases h
section
variable {c : Cc} {n : Nat} {ad : Nat → Addr} {fdt : Nat → FuncData}
theorem s_par {X : Cx} {W : WW} {Pr : List Nat} {i j : Nat} {x y : Str} {a b : Expr} {ea eb : En → Out Rv} {px py pt pos : Pos} {kt k2 : Nat} {pt2 : Pos} (hc : X.calm = true) (nd : X.N.Nodup) (hi : X.N[i]? = some x) (hj : X.N[j]? = some y) (hij : i ≠ j) (pi : i ∉ Pr) (pj : j ∉ Pr)
    (hk : X.env.scope.kind = .function) (h : parB X.env.scope x y px py a b = true) (ha : PE X a (tev X.K X.mG W ea)) (hb : PE X b (tev X.K X.mG W eb)) :
    PS X (.Assign [.Tuple [.Name x px, .Name y py] kt pt] (.Tuple [a, b] k2 pt2) pos) (tst X.K X.mG W Pr fun ρ => (ea ρ).then fun x ρ => (eb ρ).then fun y ρ => match x, y with
    | .val d, .val e => .nx ((ρ.set i (some (.val d))).set j (some (.val e)))
    | _, _ => .bad) := by
  obtain ⟨w1, w2, w3, w4⟩ := swp_some (pt := pt) (pt2 := pt2) (kt := kt) (k2 := k2) hk h
  simp only [List.all_cons, List.all_nil, Bool.and_true, Bool.and_eq_true] at w4
  refine PS.imp (ps_par (ta := tCons (tev X.K X.mG W ea) (tCons (tev X.K X.mG W eb) tNil)) hc nd hi hj hij w2 w3 (pa_cons ha (pa_cons hb pa_nil (star_of w4.2)) (star_of w4.1)) w1 swS_tup) fun D σ H ⟨F, ρ, en, h⟩ => ?_
  refine thenE (.refl en) h fun x F1 H1 ρ1 r q1 p1 v1 h1 => thenE p1 h1 fun y F2 H2 ρ2 r2 q2 p2 v2 h2 => ?_
  refine ⟨x, y, rfl, ?_⟩
  split at h2
  · exact h2 _ F2 H2 ((p2.set pi (RelD.mono q2.st.mono v1)).set pj v2)
  · exact h2.elim
end
section
variable {ad : Nat → Addr} {fdt : Nat → FuncData}
/-- a body's place, for its statements -/
structure SOk (X : Cx) : Prop where
  hk : X.env.scope.kind = .function
  hfn : ∀ x, X.fn x = true
  hp : PassesOwn (model X.prog X.w) X.A X.env X.xe
  hst : X.stack = X.env :: X.outer
  hfr : X.env.frame = some X.env.locals
theorem tr_mG {X : Cx} (hc : X.calm = true) (pn : List (Addr × Obj)) (xe : Value → Shared → Prop) : (X.tr pn xe).mG = X.mG := by
  show (⟨X.mg, cond X.calm none _⟩ : MG) = ⟨X.mg, cond X.calm none _⟩
  rw [hc]; rfl
theorem XOk.tr {c : Cc} {n : Nat} {X : Cx} {W W' : WW} (ok : XOk c n ad fdt X W) (hh : c.hot = false) {pn : List (Addr × Obj)} {xe : Value → Shared → Prop} (tk : L2N.Takes (X.tr pn xe) W') : XOk c n ad fdt (X.tr pn xe) W' :=
  ⟨ok.g, ok.calm, ok.nd, ok.room, ok.hd, tk, fun h f d e => by rw [tr_mG (ok.calm hh)]; exact ok.fn h f d e, ok.fnH, (fun h => by rw [hh] at h; cases h), ok.ra⟩
theorem XOk.suite {c : Cc} {n : Nat} {X : Cx} {W : WW} (ok : XOk c n ad fdt X W) (a : Addr) (oe : Obj) {cls : Value} {d : Option Addr} (hz : L2N.Zn cls d oe) (hf : ∃ vs, oe.data = .fields vs) (pn : List (Addr × Obj)) : XOk c.heat n ad fdt (X.suite a ((a, oe) :: pn)) W0 :=
  ⟨ok.g, (fun h => by cases h), ok.nd, ⟨ok.room.dp, ok.room.un⟩, (fun h => by cases h), takes0N, (fun h => by cases h), ok.fnH, fun _ => ⟨rfl, rfl, _, _, rfl, rfl, let ⟨vs, hv⟩ := hf; ⟨vs, hv, hz.2.2 vs hv⟩⟩, fun h => by cases h⟩
theorem suite_mG {X : Cx} {a : Addr} {oe : Obj} {cls : Value} {d : Option Addr} {pn : List (Addr × Obj)} (hz : L2N.Zn cls d oe) (hf : ∃ vs, oe.data = .fields vs) : (X.suite a ((a, oe) :: pn)).mG = ⟨X.mg, some (a, cls, d)⟩ := by
  obtain ⟨vs, hv⟩ := hf
  obtain ⟨h1, h2, _⟩ := hz
  show (⟨X.mg, match oe.data with | .fields _ => some (a, oe.cls, oe.dict) | _ => none⟩ : MG) = _
  rw [hv, h1, h2]
mutual
theorem ckS_ok : ∀ (s : St) {c : Cc} {n : Nat} {X : Cx} {W : WW}, XOk c n ad fdt X W → SOk X → 1 ≤ n → ∀ (Pr : List Nat) {s' : Stmt}, ckS c.g X.N X.env.scope Pr s s' = true → PS X s' (tst X.K X.mG W Pr (ex c s))
  | .asg (.nm i) e, c, n, X, W, ok, so, hn, Pr, s', h => by
    have hk := so.hk
    have hfn := so.hfn
    have hp := so.hp
    simp only [ckS] at h
    split at h
    · rename_i tg' e' pos
      split at h
      · rename_i x xp
        simp only [Bool.and_eq_true, decide_eq_true_eq, Bool.or_eq_true] at h
        obtain ⟨⟨⟨⟨h1, h2⟩, h3⟩, h4⟩, h5⟩ := h
        obtain ⟨l1, l2⟩ := loc_of (fnb := fun _ => true) (fun x _ => hfn x) h2
        rcases h5 with h5 | ⟨h5, h6⟩
        · exact s_asg ok.nd h1 l1 l2 h3 (ckE_ok e ok h4) (sw_none h5)
        · cases e' <;> first | (cases h5; done) | skip
          rename_i elt gs scope pe
          cases q : swB X.env.scope x xp pe scope with
          | false => exact s_asg ok.nd h1 l1 l2 h3 (ckE_ok e ok h4) (by rw [sw_comp hk, q])
          | true =>
            cases e <;> first | (cases h6; done) | skip
            rename_i e own it tg one ifs
            simp only [ckE] at h4
            split at h4
            · rename_i b t' it' ifs' ia sc2 pe2 heq
              injection heq with q1 q2 q3 q4
              subst q1; subst q2; subst q3; subst q4
              simp only [Bool.and_eq_true, List.all_eq_true, decide_eq_true_eq] at h4
              obtain ⟨⟨⟨⟨⟨⟨⟨k0, k1⟩, k2⟩, k3⟩, k4⟩, k5⟩, k6⟩, k7⟩ := h4
              simp only [beq_iff_eq] at k0
              subst k0
              have hl : X.env.scope.names.lookup x = some .local := by
                unfold swB at q
                simp only [Bool.and_eq_true, beq_iff_eq] at q
                exact q.1.1
              cases hh : c.hot with
              | true =>
                have : ex c (.asg (.nm i) (.lc e own it tg one ifs)) = fun _ => .bad := by
                  funext ρ
                  simp only [ex, ev, hh, if_true]
                  rfl
                rw [this]
                exact s_bad
              | false =>
              have hE : ev c (.lc e own it tg one ifs) = eLc (fun ρ => (evI c it ρ).bind frzS) (evF c ifs) (ev c e) own one tg := by
                funext ρ
                simp only [ev, hh, Bool.false_eq_true, if_false] <;> rfl
              have hX : ex c (.asg (.nm i) (.lc e own it tg one ifs)) = fun ρ => (eLc (fun ρ => (evI c it ρ).bind frzS) (evF c ifs) (ev c e) own one tg ρ).then fun r ρ => asgR i r ρ := by
                funext ρ
                simp only [ex, hE]
              rw [hX]
              exact s_asgLc (ok.calm hh) ok.nd h1 hl h3 (by rw [sw_comp hk, q]) (it_fz (ckI_ok it ok k4)) (blkOk_by k1) k2
                (fun s H C cl fp => tg_ok (X := X.blk s H scope (compEnvC scope cl C X.env) fp) (ok.calm hh) ok.nd (fun x hx => hx) k5)
                (fun s H C cl fp => by
                  have z := ckF_ok ifs (X := X.blk s H scope (compEnvC scope cl C X.env) fp) (ok.blk hh _ _ _ _ _) k6
                  rw [blk_mG (ok.calm hh)] at z
                  exact z)
                (fun s H C cl fp => by
                  have z := ckE_ok e (X := X.blk s H scope (compEnvC scope cl C X.env) fp) (ok.blk hh _ _ _ _ _) k7
                  rw [blk_mG (ok.calm hh)] at z
                  exact z) k3
            · cases h4
      · cases h
    · cases h
  | .asg (.tu l) e, c, n, X, W, ok, so, hn, Pr, s', h => by
    have hk := so.hk
    have hfn := so.hfn
    have hp := so.hp
    simp only [ckS] at h
    split at h
    · rename_i tg' e' pos
      split at h
      · rename_i es k p
        simp only [Bool.and_eq_true, List.all_eq_true, decide_eq_true_eq] at h
        obtain ⟨⟨⟨h1, h2⟩, h3⟩, h4⟩ := h
        exact s_if fun hh => s_tup (tg_ok (e' := .Tuple es k p) (one := false) (ok.calm hh) ok.nd (fun x _ => hfn x) (fnb := fun _ => true) h1) h2 (ckE_ok e ok h3) (noswp_none h4)
      · cases h
    · cases h
  | .asg (.ix i b) e, c, n, X, W, ok, so, hn, Pr, s', h => by
    have hk := so.hk
    have hfn := so.hfn
    have hp := so.hp
    simp only [ckS] at h
    split at h
    · rename_i tg' e' pos
      split at h
      · simp only [Bool.and_eq_true, decide_eq_true_eq] at h
        obtain ⟨⟨⟨⟨⟨h1, h2⟩, h3⟩, h4⟩, h5⟩, h6⟩ := h
        exact s_ix h1 h2 h3 (ckE_ok e ok h4) (ckE_ok b ok h5) h6
      · cases h
    · cases h
  | .asg (.kx i b) e, c, n, X, W, ok, so, hn, Pr, s', h => by
    have hk := so.hk
    have hfn := so.hfn
    have hp := so.hp
    simp only [ckS] at h
    split at h
    · rename_i tg' e' pos
      split at h
      · simp only [Bool.and_eq_true, decide_eq_true_eq] at h
        obtain ⟨⟨⟨⟨h1, h2⟩, h3⟩, h4⟩, h5⟩ := h
        exact s_kx ok h1 h2 h3 (ckE_ok e ok h4) (ckE_ok b ok h5)
      · cases h
    · cases h
  | .asg (.fl i f) e, c, n, X, W, ok, so, hn, Pr, s', h => by
    have hk := so.hk
    have hfn := so.hfn
    have hp := so.hp
    simp only [ckS] at h
    split at h
    · rename_i tg' e' pos
      split at h
      · simp only [Bool.and_eq_true, decide_eq_true_eq] at h
        obtain ⟨⟨⟨⟨h1, h2⟩, h3⟩, h4⟩, h5⟩ := h
        subst h5
        exact s_fl ok h1 h2 h3 (ckE_ok e ok h4)
      · cases h
    · cases h
  | .aug i o e, c, n, X, W, ok, so, hn, Pr, s', h => by
    have hk := so.hk
    have hfn := so.hfn
    have hp := so.hp
    simp only [ckS] at h
    split at h
    · rename_i x xp o' e' pos
      simp only [Bool.and_eq_true, decide_eq_true_eq] at h
      obtain ⟨⟨⟨⟨⟨h1, h2⟩, h3⟩, h4⟩, h5⟩, h6⟩ := h
      subst h5
      obtain ⟨l1, l2⟩ := loc_of (fnb := fun _ => true) (fun x _ => hfn x) h2
      exact s_aug ok.nd h1 l1 l2 h3 (ckE_ok e ok h4) (by cases o <;> first | exact .inl rfl | exact .inr rfl | cases h6)
    · cases h
  | .par i j a b, c, n, X, W, ok, so, hn, Pr, s', h => by
    have hk := so.hk
    have hfn := so.hfn
    have hp := so.hp
    simp only [ckS] at h
    split at h
    · simp only [Bool.and_eq_true, decide_eq_true_eq] at h
      obtain ⟨⟨⟨⟨⟨⟨⟨h1, h2⟩, h3⟩, h4⟩, h5⟩, h6⟩, h7⟩, h8⟩ := h
      exact s_if fun hh => s_par (ok.calm hh) ok.nd h1 h2 h3 h4 h5 hk h8 (ckE_ok a ok h6) (ckE_ok b ok h7)
    · cases h
  | .exp e, c, n, X, W, ok, so, hn, Pr, s', h => by
    have hk := so.hk
    have hfn := so.hfn
    have hp := so.hp
    simp only [ckS] at h
    split at h
    · simp only [Bool.and_eq_true] at h
      exact s_exp (ckE_ok e ok h.1) h.2
    · cases h
  | .ret e, c, n, X, W, ok, so, hn, Pr, s', h => by
    have hk := so.hk
    have hfn := so.hfn
    have hp := so.hp
    simp only [ckS] at h
    split at h
    · exact s_ret (ckE_ok e ok h)
    · cases h
  | .retN, c, n, X, W, ok, so, hn, Pr, s', h => by
    have hk := so.hk
    have hfn := so.hfn
    have hp := so.hp
    simp only [ckS] at h
    split at h
    · exact s_retN
    · cases h
  | .ifs t a b, c, n, X, W, ok, so, hn, Pr, s', h => by
    have hk := so.hk
    have hfn := so.hfn
    have hp := so.hp
    simp only [ckS] at h
    split at h
    · simp only [Bool.and_eq_true] at h
      exact s_ifs (ckT_ok t ok h.1.1) (ckSs_ok a ok so hn Pr h.1.2) (ckSs_ok b ok so hn Pr h.2)
    · cases h
  | .wh t b, c, n, X, W, ok, so, hn, Pr, s', h => by
    have hk := so.hk
    have hfn := so.hfn
    have hp := so.hp
    simp only [ckS] at h
    split at h
    · simp only [Bool.and_eq_true] at h
      exact s_wh (c := c) hp (ckT_ok t ok h.1) (ckSs_ok b ok so hn Pr h.2)
    · cases h
  | .fo tg one it b, c, n, X, W, ok, so, hn, Pr, s', h => by
    have hk := so.hk
    have hfn := so.hfn
    have hp := so.hp
    simp only [ckS] at h
    split at h
    · simp only [Bool.and_eq_true, List.all_eq_true, decide_eq_true_eq] at h
      obtain ⟨⟨⟨⟨h1, h2⟩, h3⟩, h4⟩, h5⟩ := h
      exact s_if fun hh => s_for (c := c) (iv := it.isVar) hp (ok.calm hh) (ckI_ok it ok h1) (tg_ok (ok.calm hh) ok.nd (fun x _ => hfn x) (fnb := fun _ => true) h2) (ckSs_ok b ok so hn (proOf it Pr) h5) h4 (proOf_sub it) (proOf_var it) h3
    · cases h
  | .pas, c, n, X, W, ok, so, hn, Pr, s', h => by
    have hk := so.hk
    have hfn := so.hfn
    have hp := so.hp
    simp only [ckS] at h
    split at h
    · exact s_pas
    · cases h
  | .brk, c, n, X, W, ok, so, hn, Pr, s', h => by
    have hk := so.hk
    have hfn := so.hfn
    have hp := so.hp
    simp only [ckS] at h
    split at h
    · exact s_brk
    · cases h
  | .cnt, c, n, X, W, ok, so, hn, Pr, s', h => by
    have hk := so.hk
    have hfn := so.hfn
    have hp := so.hp
    simp only [ckS] at h
    split at h
    · exact s_cnt
    · cases h
  | .rai C l, c, n, X, W, ok, so, hn, Pr, s', h => by
    simp only [ckS] at h
    split at h
    · rename_i x p es pos pos'
      simp only [Bool.and_eq_true] at h
      obtain ⟨⟨⟨⟨⟨⟨h1, h2⟩, h3⟩, h4⟩, h5⟩, h6⟩, h7⟩ := h
      simp only [beq_iff_eq] at h1
      subst h1
      obtain ⟨xd, hx⟩ := Option.isSome_iff_exists.mp h4
      cases es with
      | nil => simp at h7
      | cons e r => exact s_if fun hh => s_rai ok hh hx hn h2 h3 (cks_ok l ok h5 h6) h6
    · cases h
  | .tr b hs, c, n, X, W, ok, so, hn, Pr, s', h => by
    simp only [ckS] at h
    split at h
    · rename_i body hds pos
      simp only [Bool.and_eq_true] at h
      obtain ⟨⟨h1, h2⟩, h3⟩ := h
      refine s_if fun hh => ?_
      obtain ⟨l, cl, good⟩ := ckHs_ok hs ok so hn hh Pr h2
      cases hds with
      | nil => simp at h3
      | cons h0 hds =>
        refine PS.imp (ps_try_cl (tb := fun W' => tst X.K X.mG W' Pr (exs c b)) ok.nd so.hst so.hfr ok.tk (fun W' pn xe tk pa => ?_) cl) fun D σ H ⟨F, ρ, en, h⟩ => ?_
        · have z := ckSs_ok b (X := X.tr pn xe) (W := W') (ok.tr hh tk) ⟨so.hk, so.hfn, pa, so.hst, so.hfr⟩ hn Pr h1
          rw [tr_mG (ok.calm hh)] at z
          exact z
        · refine ⟨F, ρ, en, ?_⟩
          dsimp only at h
          cases q : exs c b ρ with
          | er x ρ1 => rw [q] at h; exact fun cl d σ1 F1 H1 p1 x1 => good D p1 x1 h
          | nx ρ1 => rw [q] at h; exact h
          | bk ρ1 => rw [q] at h; exact h
          | ct ρ1 => rw [q] at h; exact h
          | rt r ρ1 => rw [q] at h; exact h
          | bad => rw [q] at h; exact h.elim
    · cases h
  | .agf i f o e, c, n, X, W, ok, so, hn, Pr, s', h => by
    simp only [ckS] at h
    split at h
    · simp only [Bool.and_eq_true, decide_eq_true_eq] at h
      obtain ⟨⟨⟨⟨⟨⟨h1, h2⟩, h3⟩, h4⟩, h5⟩, h6⟩, h7⟩ := h
      subst h4; subst h5
      exact s_agf ok h1 h2 h3 (ckE_ok e ok h7) (by cases o <;> first | exact .inl rfl | exact .inr rfl | cases h6)
    · cases h
  | .agx i b o e, c, n, X, W, ok, so, hn, Pr, s', h => by
    simp only [ckS] at h
    split at h
    · simp only [Bool.and_eq_true, decide_eq_true_eq] at h
      obtain ⟨⟨⟨⟨⟨⟨⟨h1, h2⟩, h3⟩, h4⟩, h5⟩, h6⟩, h7⟩, h8⟩ := h
      subst h4
      exact s_agx h1 h2 h3 (ckE_ok b ok h6) h7 (ckE_ok e ok h8) (by cases o <;> first | exact .inl rfl | exact .inr rfl | cases h5)
    · cases h
  | .rsm e own it i, c, n, X, W, ok, so, hn, Pr, s', h => by
    simp only [ckS] at h
    split at h
    · rename_i x p b t' it' ia scope lp cp rp
      simp only [Bool.and_eq_true, decide_eq_true_eq] at h
      obtain ⟨⟨⟨⟨⟨⟨⟨⟨⟨h0, h1⟩, h2⟩, h3⟩, h4⟩, h5⟩, h6⟩, h7⟩, h8⟩, h9⟩ := h
      simp only [beq_iff_eq] at h0 h1
      subst h0; subst h1
      cases hh : c.hot with
      | true =>
        have : ex c (.rsm e own it i) = fun _ => .bad := by
          funext ρ
          simp only [ex, hh, if_true]
        rw [this]
        exact s_bad
      | false =>
        have hX : ex c (.rsm e own it i) = fun ρ => ((lcE (fun ρ => (evI c it ρ).bind frzS) (ev c e) (own.map (·.2)) i ρ).bind fun r ρ => opL Bi.sum.ap [r] ρ).then fun r ρ => .rt r ρ := by
          funext ρ
          simp only [ex, hh, Bool.false_eq_true, if_false]
        rw [hX]
        have q := l_bi (pos := cp) (p := p) ok .sum (by simp [hh]) h2 h3 (l_cons (l_lce (pos := lp) ok hh so.hst so.hfr (blkOk_by h4) h7 h8 h9 h5 h6) l_nil rfl) rfl
        have e2 : (fun ρ => ((lcE (fun ρ => (evI c it ρ).bind frzS) (ev c e) (own.map (·.2)) i ρ).bind fun x ρ => (Out.ok [] ρ).bind fun xs ρ => .ok (x :: xs) ρ).bind fun rs ρ => opL Bi.sum.ap rs ρ) = fun ρ => (lcE (fun ρ => (evI c it ρ).bind frzS) (ev c e) (own.map (·.2)) i ρ).bind fun r ρ => opL Bi.sum.ap [r] ρ := by
          funext ρ
          cases lcE (fun ρ => (evI c it ρ).bind frzS) (ev c e) (own.map (·.2)) i ρ <;> rfl
        rw [e2] at q
        exact s_ret q
    · cases h
  | .bad, c, n, X, W, ok, so, hn, Pr, s', h => s_bad
theorem ckHs_ok : ∀ (hs : Hds) {c : Cc} {n : Nat} {X : Cx} {W : WW}, XOk c n ad fdt X W → SOk X → 1 ≤ n → c.hot = false → ∀ (Pr : List Nat) {hds : List ExceptHandler}, ckHs c.g X.N X.env.scope Pr hs hds = true →
    ∃ l, ClOk X hds l ∧ ∀ (D : Ends) {F0 H0 F1 H1 : Hp} {σ0 σ1 : L2.St} {ρ0 ρ1 : En} {x : Xn} {cl : Value} {d : Option Addr}, Ps X.K X.mG Pr F0 H0 σ0 ρ0 F1 H1 σ1 ρ1 → XnR X.K X.mG F1 cl d x → FinS X.K X.mG W Pr F0 H0 σ0 ρ0 D (exh c hs x ρ1) → wCl X.K W D l cl d σ1 H1
  | .nil, c, n, X, W, ok, so, hn, hh, Pr, hds, h => by
    have : hds = [] := by simpa [ckHs] using h
    subst this
    exact ⟨[], .nil, fun D {_ _ F1 H1 _ σ1 _ ρ1 x cl d} p x1 h => h cl d σ1 F1 H1 p x1⟩
  | .cons C i s r, c, n, X, W, ok, so, hn, hh, Pr, hds, h => by
    simp only [ckHs] at h
    split at h
    · rename_i x np on b0 su po l'
      simp only [Bool.and_eq_true, decide_eq_true_eq] at h
      obtain ⟨⟨⟨⟨⟨⟨h1, h2⟩, h3⟩, h4⟩, h5⟩, h6⟩, h7⟩ := h
      simp only [beq_iff_eq] at h1
      subst h1
      obtain ⟨l, cl, good⟩ := ckHs_ok r ok so hn hh Pr h7
      obtain ⟨v, hv⟩ := ok.g.xnv _ h4
      refine ⟨(v, i, fun a cls d => tst X.K ⟨X.mg, some (a, cls, d)⟩ W0 Pr (exs c.heat s)) :: l, .cons ⟨gl_of h2, (dbg_of h3).1, ?_⟩ ?_ (fun a oe cls d pn hz hf => ?_) cl, ?_⟩
      · rcases hv with ⟨e1, _⟩ | ⟨e1, e2, e3⟩
        · exact .inl e1
        · exact .inr ⟨e1, by rw [e2, e3]; exact PyProof.Rows.Boot.«ValueError», (dbg_of h3).2.2⟩
      · cases i with
        | none =>
          cases on with
          | none => trivial
          | some nm => cases h5
        | some j =>
          cases on with
          | none => cases h5
          | some nm =>
            simp only [Bool.and_eq_true, decide_eq_true_eq, beq_iff_eq] at h5
            exact ⟨h5.1.1, h5.1.2⟩
      · have z := ckSs_ok s (X := X.suite a ((a, oe) :: pn)) (W := W0) (ok.suite a oe hz hf pn) ⟨so.hk, so.hfn, PassesOwn.never, so.hst, so.hfr⟩ hn Pr h6
        rw [suite_mG hz hf] at z
        exact z
      · intro D F0 H0 F1 H1 σ0 σ1 ρ0 ρ1 xn cv d p x1 hF
        have hi : ∀ j, i = some j → j ∉ Pr := fun j e => by
          subst e
          cases on with
          | none => cases h5
          | some nm =>
            simp only [Bool.and_eq_true, decide_eq_true_eq] at h5
            exact h5.2
        have hm : X.mG.xa = none := by
          show cond X.calm none _ = none
          rw [ok.calm hh]; rfl
        simp only [exh] at hF
        cases q : c.g.xm xn.C x with
        | none => rw [q] at hF; exact hF.elim
        | some b =>
          rw [q] at hF
          have hC : ∃ Ca, X.mg xn.C = some (.ref Ca) := by
            have q' := q
            unfold Gs.xm at q'
            split at q'
            · rename_i xd hxd
              obtain ⟨m1, m2⟩ := Gs.xd_mem hxd
              obtain ⟨Ca, k1, _⟩ := ok.g.xcs xd m1
              rw [m2] at k1
              exact ⟨Ca, k1⟩
            · cases q'
          obtain ⟨Ca, hC⟩ := hC
          have ecv : cv = .ref Ca := Option.some.inj (x1.1.symm.trans hC)
          subst ecv
          have ek := (xm_kit ok q hC hv).2
          cases b with
          | false => exact ⟨false, ek, (fun z => nomatch z), fun _ => good D p x1 hF⟩
          | true =>
            refine ⟨true, ek, fun _ a na => ⟨F1, inE xn ρ1 i, env_in p.en hm x1 i, ?_⟩, fun z => nomatch z⟩
            have hF' : FinS X.K X.mG W Pr F0 H0 σ0 ρ0 D (fixS i (exs c.heat s (inE xn ρ1 i))) := by
              cases i with
              | none => exact hF
              | some j => exact hF
            have cleanIf : ∀ {b : Bool} {s1 : So}, FinS X.K X.mG W Pr F0 H0 σ0 ρ0 D (if b = true then s1 else .bad) → b = true ∧ FinS X.K X.mG W Pr F0 H0 σ0 ρ0 D s1 := fun {b s1} z => by
              cases b with
              | true => exact ⟨rfl, by simpa only [if_true] using z⟩
              | false => rw [if_neg Bool.false_ne_true] at z; exact z.elim
            generalize hq : exs c.heat s (inE xn ρ1 i) = so1 at hF'
            cases so1 with
            | nx ρ2 =>
              obtain ⟨k1, k2⟩ := cleanIf hF'
              intro σ2 F2 H2 q2
              have z := (ps_out (K := X.K) (mg := X.mG) (mg' := ⟨X.mg, some (a, .ref Ca, d)⟩) rfl hi p q2 k1).1
              cases i with
              | none => exact k2 _ _ _ z
              | some j => exact k2 _ _ _ z
            | bk ρ2 =>
              obtain ⟨k1, k2⟩ := cleanIf hF'
              intro σ2 F2 H2 q2
              have z := (ps_out (K := X.K) (mg := X.mG) (mg' := ⟨X.mg, some (a, .ref Ca, d)⟩) rfl hi p q2 k1).1
              cases i with
              | none => exact k2 _ _ _ z
              | some j => exact k2 _ _ _ z
            | ct ρ2 =>
              obtain ⟨k1, k2⟩ := cleanIf hF'
              intro σ2 F2 H2 q2
              have z := (ps_out (K := X.K) (mg := X.mG) (mg' := ⟨X.mg, some (a, .ref Ca, d)⟩) rfl hi p q2 k1).1
              cases i with
              | none => exact k2 _ _ _ z
              | some j => exact k2 _ _ _ z
            | er x2 ρ2 => exact hF'.elim
            | bad => exact hF'.elim
            | rt r2 ρ2 =>
              cases r2 with
              | brw k => exact hF'.elim
              | val d2 =>
                obtain ⟨k1, k2⟩ := cleanIf hF'
                intro v2 σ2 F2 H2 q2 rv
                have z := (ps_out (K := X.K) (mg := X.mG) (mg' := ⟨X.mg, some (a, .ref Ca, d)⟩) rfl hi p q2 k1).1
                have rv' : RelD X.K X.mG F2 v2 d2 := RelD.mgc (mg := ⟨X.mg, some (a, .ref Ca, d)⟩) (mg' := X.mG) rfl rv
                cases i with
                | none => exact k2 v2 _ _ _ z rv'
                | some j => exact k2 v2 _ _ _ z rv'
              | tmp d2 =>
                obtain ⟨k1, k2⟩ := cleanIf hF'
                intro v2 σ2 F2 H2 q2 rv
                obtain ⟨z, zo⟩ := ps_out (K := X.K) (mg := X.mG) (mg' := ⟨X.mg, some (a, .ref Ca, d)⟩) rfl hi p q2 k1
                obtain ⟨pp, e1, e2, e3, e4, e5⟩ := rv
                have rv' : RvR X.K X.mG H0 F2 H2 (outS σ2 i) (wipe1 i ρ2) v2 (.tmp d2) := ⟨pp, e1, p.st.al pp e2, e3, OwnAt.mgc (mg := ⟨X.mg, some (a, .ref Ca, d)⟩) (mg' := X.mG) rfl e4, fun w => e5 (zo pp w)⟩
                cases i with
                | none => exact k2 v2 _ _ _ z rv'
                | some j => exact k2 v2 _ _ _ z rv'
    · cases h
theorem ckSs_ok : ∀ (s : Sts) {c : Cc} {n : Nat} {X : Cx} {W : WW}, XOk c n ad fdt X W → SOk X → 1 ≤ n → ∀ (Pr : List Nat) {s' : List Stmt}, ckSs c.g X.N X.env.scope Pr s s' = true → PSs X s' (tst X.K X.mG W Pr (exs c s))
  | .nil, c, n, X, W, ok, so, hn, Pr, s', h => by
    have hk := so.hk
    have hfn := so.hfn
    have hp := so.hp
    have : s' = [] := by simpa [ckSs] using h
    subst this
    exact s_nil
  | .cons s ss, c, n, X, W, ok, so, hn, Pr, s', h => by
    have hk := so.hk
    have hfn := so.hfn
    have hp := so.hp
    simp only [ckSs] at h
    split at h
    · simp only [Bool.and_eq_true] at h
      exact s_cons (ckS_ok s ok so hn Pr h.1) (ckSs_ok ss ok so hn Pr h.2)
    · cases h
end
end
end Mp

/-! Mp21: defs keep their promises. -/
namespace Mp
open PySem L2 PyProof.Rows
/-- the slots that a def may change -/
def muSl : List Bool → Nat → List Nat
  | [], _ => []
  | m :: ms, k => if m then k :: muSl ms (k + 1) else muSl ms (k + 1)
theorem muSl_mem : ∀ {ms : List Bool} {k i : Nat}, ms[i]? = some true → k + i ∈ muSl ms k
  | [], _, _, h => by simp at h
  | m :: ms, k, 0, h => by
    have : m = true := by simpa using h
    subst this
    simp [muSl]
  | m :: ms, k, i + 1, h => by
    have := muSl_mem (ms := ms) (k := k + 1) (i := i) (by simpa using h)
    have e : k + 1 + i = k + (i + 1) := by omega
    rw [e] at this
    unfold muSl
    split
    · exact List.mem_cons_of_mem _ this
    · exact this
theorem modes_len : ∀ {ms : List Bool} {ss : List S}, modes ms ss = true → ss.length = ms.length
  | [], [], _ => rfl
  | true :: ms, .own _ :: ss, h => by simp [modes_len (ms := ms) (ss := ss) h]
  | false :: ms, .val _ :: ss, h => by simp [modes_len (ms := ms) (ss := ss) h]
  | false :: ms, .exn _ :: ss, h => by simp [modes_len (ms := ms) (ss := ss) h]
  | true :: ms, .exn _ :: ss, h => by simp [modes] at h
  | true :: ms, .val _ :: ss, h => by simp [modes] at h
  | false :: ms, .own _ :: ss, h => by simp [modes] at h
  | [], _ :: _, h => by simp [modes] at h
  | true :: _, [], h => by simp [modes] at h
  | false :: _, [], h => by simp [modes] at h
theorem modes_get : ∀ {ms : List Bool} {ss : List S} {i : Nat} {s : S}, modes ms ss = true → ss[i]? = some s → (ms[i]? = some true ∧ ∃ d, s = .own d) ∨ (ms[i]? = some false ∧ ∀ d, s ≠ .own d)
  | [], [], _, _, _, e => by simp at e
  | true :: ms, .own d :: ss, 0, s, h, e => by simp at e; subst e; exact .inl ⟨rfl, d, rfl⟩
  | false :: ms, .exn x :: ss, 0, s, h, e => by simp at e; subst e; exact .inr ⟨rfl, fun d z => nomatch z⟩
  | false :: ms, .exn _ :: ss, i + 1, s, h, e => by simpa using modes_get (ms := ms) (ss := ss) (i := i) (s := s) h (by simpa using e)
  | true :: ms, .exn _ :: ss, _, _, h, _ => by simp [modes] at h
  | false :: ms, .val d :: ss, 0, s, h, e => by simp at e; subst e; exact .inr ⟨rfl, fun d z => nomatch z⟩
  | true :: ms, .own _ :: ss, i + 1, s, h, e => by simpa using modes_get (ms := ms) (ss := ss) (i := i) (s := s) h (by simpa using e)
  | false :: ms, .val _ :: ss, i + 1, s, h, e => by simpa using modes_get (ms := ms) (ss := ss) (i := i) (s := s) h (by simpa using e)
  | true :: ms, .val _ :: ss, _, _, h, _ => by simp [modes] at h
  | false :: ms, .own _ :: ss, _, _, h, _ => by simp [modes] at h
  | [], _ :: _, _, _, h, _ => by simp [modes] at h
  | true :: _, [], _, _, h, _ => by simp [modes] at h
  | false :: _, [], _, _, h, _ => by simp [modes] at h
theorem parm_get : ∀ {ms : List Bool} {ss : List S} {ρ : En} {k i : Nat}, ms.length = ss.length → (parm ms ss ρ k)[i]? = match ss[i]? with
    | some s => some (if ms[i]? = some true then (ρ.at (k + i)).getD s else s)
    | none => none
  | [], [], _, _, _, _ => by simp [parm]
  | m :: ms, s :: ss, ρ, k, 0, h => by
    cases m <;> simp [parm]
  | m :: ms, s :: ss, ρ, k, i + 1, h => by
    have := parm_get (ms := ms) (ss := ss) (ρ := ρ) (k := k + 1) (i := i) (by simpa using h)
    have e : k + 1 + i = k + (i + 1) := by omega
    simpa [parm, e] using this
  | [], _ :: _, _, _, _, h => by simp at h
  | _ :: _, [], _, _, _, h => by simp at h
theorem parm_len : ∀ {ms : List Bool} {ss : List S} {ρ : En} {k : Nat}, ms.length = ss.length → (parm ms ss ρ k).length = ss.length
  | [], [], _, _, _ => rfl
  | _ :: ms, _ :: ss, ρ, k, h => by
    have := parm_len (ms := ms) (ss := ss) (ρ := ρ) (k := k + 1) (by simpa using h)
    simp [parm, this]
  | [], _ :: _, _, _, h => by simp at h
  | _ :: _, [], _, _, h => by simp at h
theorem muOwn_get : ∀ {ms : List Bool} {ρ : En} {k i : Nat}, muOwn ms ρ k = true → ms[i]? = some true → ∃ d, ρ.at (k + i) = some (.own d)
  | [], _, _, _, _, e => by simp at e
  | m :: ms, ρ, k, 0, h, e => by
    have : m = true := by simpa using e
    subst this
    simp only [muOwn, if_true, Bool.and_eq_true] at h
    have h1 := h.1
    split at h1
    · rename_i d q; exact ⟨d, q⟩
    · cases h1
  | m :: ms, ρ, k, i + 1, h, e => by
    simp only [muOwn, Bool.and_eq_true] at h
    have := muOwn_get (ms := ms) (ρ := ρ) (k := k + 1) (i := i) h.2 (by simpa using e)
    have e : k + 1 + i = k + (i + 1) := by omega
    rwa [e] at this
/-- a body's slots at its start -/
def st0 (N : Nat) (ss : List S) : En := ss.map some ++ List.replicate (N - ss.length) none
theorem at_app {l : List S} {n i : Nat} : En.at (l.map some ++ List.replicate n none) i = l[i]? := by
  unfold En.at
  by_cases h : i < l.length
  · rw [List.getElem?_append_left (by simpa using h), List.getElem?_map]
    cases l[i]? <;> rfl
  · rw [List.getElem?_append_right (by simpa using Nat.le_of_not_lt h), List.getElem?_replicate, List.getElem?_eq_none_iff.mpr (Nat.le_of_not_lt h)]
    split <;> rfl
theorem stAt_app {l : List V} {n i : Nat} : stAt (l.map some ++ List.replicate n none) i = l[i]? := by
  unfold stAt
  by_cases h : i < l.length
  · rw [List.getElem?_append_left (by simpa using h), List.getElem?_map]
    cases l[i]? <;> rfl
  · rw [List.getElem?_append_right (by simpa using Nat.le_of_not_lt h), List.getElem?_replicate, List.getElem?_eq_none_iff.mpr (Nat.le_of_not_lt h)]
    split <;> rfl
section
variable {K : PySem.W.Frag} {mg : MG} {F H F' H' : Hp} {vs : List V} {ss : List S} {ms : List Bool} {N : List Str} {σ : L2.St} {ρ : En}
theorem own_app {N' : Nat} {p : Addr} : Own (L2.start N vs) (st0 N' ss) p ↔ Own (vs.map some) (ss.map some) p := by
  unfold Own L2.start st0
  constructor
  · rintro ⟨i, d, h1, h2⟩
    rw [at_app] at h1; rw [stAt_app] at h2
    exact ⟨i, d, by rw [at_map]; exact h1, by rw [stAt_map]; exact h2⟩
  · rintro ⟨i, d, h1, h2⟩
    rw [at_map] at h1; rw [stAt_map] at h2
    exact ⟨i, d, by rw [at_app]; exact h1, by rw [stAt_app]; exact h2⟩
theorem env_app (en : EnvR K mg F H (vs.map some) (ss.map some)) {M : Nat} : EnvR K mg F H (vs.map some ++ List.replicate (M - vs.length) none) (ss.map some ++ List.replicate (M - ss.length) none) := by
  have hl : vs.length = ss.length := by simpa using en.len
  refine ⟨by simp [hl], en.sub, fun i d e => ?_, fun i d e => ?_, fun i j d d' p e1 e2 e3 e4 => ?_, fun i x e => ?_⟩
  · rw [at_app] at e
    obtain ⟨v, h1, h2⟩ := en.val i d (by rw [at_map]; exact e)
    rw [stAt_map] at h1
    exact ⟨v, by rw [stAt_app]; exact h1, h2⟩
  · rw [at_app] at e
    obtain ⟨v, h1, h2⟩ := en.own i d (by rw [at_map]; exact e)
    rw [stAt_map] at h1
    exact ⟨v, by rw [stAt_app]; exact h1, h2⟩
  · rw [at_app] at e1 e2
    rw [stAt_app] at e3 e4
    exact en.inj i j d d' p (by rw [at_map]; exact e1) (by rw [at_map]; exact e2) (by rw [stAt_map]; exact e3) (by rw [stAt_map]; exact e4)
  · rw [at_app] at e
    obtain ⟨a, c, d, h1, h2, h3⟩ := en.exn i x (by rw [at_map]; exact e)
    rw [stAt_map] at h2
    exact ⟨a, c, d, h1, by rw [stAt_app]; exact h2, h3⟩
/-- a parameter behind the body -/
theorem slot_of (en0 : EnvR K mg F H (vs.map some) (ss.map some)) (hm : modes ms ss = true) (p : Ps K mg (muSl ms 0) F H (L2.start N vs) (st0 N.length ss) F' H' σ ρ) {i : Nat} {s : S} (h : (parm ms ss ρ 0)[i]? = some s) :
    (ms[i]? = some true ∧ ρ.at i = some s ∧ stAt σ i = stAt (vs.map some) i) ∨ ((∀ d, s ≠ .own d) ∧ ss[i]? = some s) := by
  rw [parm_get (modes_len hm).symm] at h
  cases q : ss[i]? with
  | none => rw [q] at h; cases h
  | some s0 =>
    rw [q] at h
    dsimp only at h
    rcases modes_get hm q with ⟨m, d, e⟩ | ⟨m, e⟩
    · rw [if_pos m] at h
      have mem : i ∈ muSl ms 0 := by simpa using muSl_mem (k := 0) m
      obtain ⟨s', e'⟩ := p.fil i mem s0 (by unfold st0; rw [at_app]; exact q)
      rw [Nat.zero_add, e'] at h
      refine .inl ⟨m, e'.trans h, ?_⟩
      rw [p.same i mem, stAt_map]
      unfold L2.start
      rw [stAt_app]
    · rw [m, if_neg (by simp)] at h
      cases h
      exact .inr ⟨e, rfl⟩
theorem end_po (en0 : EnvR K mg F H (vs.map some) (ss.map some)) (hm : modes ms ss = true) (p : Ps K mg (muSl ms 0) F H (L2.start N vs) (st0 N.length ss) F' H' σ ρ) :
    Po K mg F H (vs.map some) (ss.map some) F' H' ((parm ms ss ρ 0).map some) ∧ ∀ b, Own (vs.map some) ((parm ms ss ρ 0).map some) b → ∃ i d, ms[i]? = some true ∧ ρ.at i = some (.own d) ∧ stAt σ i = some (.ref b) := by
  have hl : vs.length = ss.length := by simpa using en0.len
  have ow : ∀ b, Own (vs.map some) ((parm ms ss ρ 0).map some) b → ∃ i d, ms[i]? = some true ∧ ρ.at i = some (.own d) ∧ stAt σ i = some (.ref b) := fun b ⟨i, d, e1, e2⟩ => by
    rw [at_map] at e1
    rcases slot_of en0 hm p e1 with ⟨h1, h2, h3⟩ | ⟨h1, h2⟩
    · exact ⟨i, d, h1, h2, h3.trans e2⟩
    · exact absurd rfl (h1 d)
  refine ⟨⟨⟨p.st.mono, fun a o e n => p.st.keep a o e fun z => n (own_app.mp z), p.st.al⟩, ⟨by simp [hl, parm_len (modes_len hm).symm], p.en.sub, fun i d e => ?_, fun i d e => ?_, fun i j d d' b e1 e2 e3 e4 => ?_, fun i x e => ?_⟩, fun b z => ?_, fun i s e => ?_⟩, ow⟩
  · rw [at_map] at e
    rcases slot_of en0 hm p e with ⟨h1, h2, h3⟩ | ⟨h1, h2⟩
    · obtain ⟨v, k1, k2⟩ := p.en.val i d h2
      exact ⟨v, h3.symm.trans k1, k2⟩
    · obtain ⟨v, k1, k2⟩ := en0.val i d (by rw [at_map]; exact h2)
      exact ⟨v, k1, k2.mono p.st.mono⟩
  · rw [at_map] at e
    rcases slot_of en0 hm p e with ⟨h1, h2, h3⟩ | ⟨h1, h2⟩
    · obtain ⟨v, k1, k2⟩ := p.en.own i d h2
      exact ⟨v, h3.symm.trans k1, k2⟩
    · exact absurd rfl (h1 d)
  · rw [at_map] at e1 e2
    rcases slot_of en0 hm p e1 with ⟨h1, h2, h3⟩ | ⟨h1, h2⟩
    · rcases slot_of en0 hm p e2 with ⟨k1, k2, k3⟩ | ⟨k1, k2⟩
      · exact p.en.inj i j d d' b h2 k2 (h3.trans e3) (k3.trans e4)
      · exact absurd rfl (k1 d')
    · exact absurd rfl (h1 d)
  · rw [at_map] at e
    rcases slot_of en0 hm p e with ⟨h1, h2, h3⟩ | ⟨h1, h2⟩
    · obtain ⟨a, c, d, k1, k2, k3⟩ := p.en.exn i x h2
      exact ⟨a, c, d, k1, h3.symm.trans k2, k3⟩
    · obtain ⟨a, c, d, k1, k2, k3⟩ := en0.exn i x (by rw [at_map]; exact h2)
      exact ⟨a, c, d, k1, k2, k3.mono p.st.mono⟩
  · obtain ⟨i, d, h1, h2, h3⟩ := ow b z
    have mem : i ∈ muSl ms 0 := by simpa using muSl_mem (k := 0) h1
    have hi : i < ss.length := by
      rw [modes_len hm]
      exact (List.getElem?_eq_some_iff.mp h1).1
    rcases modes_get hm (List.getElem?_eq_getElem hi) with ⟨m, d0, e0⟩ | ⟨m, e0⟩
    · refine ⟨i, d0, by rw [at_map, List.getElem?_eq_getElem hi, e0], ?_⟩
      have := p.same i mem
      unfold L2.start at this
      rw [stAt_app, ← stAt_map] at this
      rw [← this]; exact h3
    · rw [h1] at m; cases m
  · rw [at_map] at e
    have hi : i < (parm ms ss ρ 0).length := by
      rw [parm_len (modes_len hm).symm]
      exact (List.getElem?_eq_some_iff.mp e).1
    exact ⟨_, by rw [at_map]; exact List.getElem?_eq_getElem hi⟩
/-- behind the body: what the call answers -/
theorem end_ok {Q : VK} {E : XK} {so : So} {D : Ends} (en0 : EnvR K mg F H (vs.map some) (ss.map some)) (hm : modes ms ss = true) (dn : D.nx = fun _ H' => Q .non H') (dr : D.rt = Q)
    (h : match endR ms ss so with
      | .ok r ss' => ∀ v F' H', Po K mg F H (vs.map some) (ss.map some) F' H' (ss'.map some) → RvR K mg H F' H' (vs.map some) (ss'.map some) v (SvO r) → Q v H'
      | .er x ss' => ∀ c d F' H', Po K mg F H (vs.map some) (ss.map some) F' H' (ss'.map some) → XnR K mg F' c d x → E c d H'
      | .bad => False) : FinS K mg (fun cl d _ H => E cl d H) (muSl ms 0) F H (L2.start N vs) (st0 N.length ss) D so := by
  cases so with
  | nx ρ =>
    intro σ F' H' p
    rw [dn]
    exact h .non F' H' (end_po en0 hm p).1 .non
  | bk ρ => exact h.elim
  | ct ρ => exact h.elim
  | bad => exact h.elim
  | er x ρ =>
    intro cl d σ F' H' p xn
    exact h cl d F' H' (end_po en0 hm p).1 xn
  | rt r ρ =>
    intro v σ F' H' p rv
    rw [dr]
    cases r with
    | val d => exact h v F' H' (end_po en0 hm p).1 rv
    | tmp d =>
      obtain ⟨q1, q2⟩ := end_po en0 hm p
      obtain ⟨b, e, h0, f, o, nn⟩ := rv
      refine h v F' H' q1 ⟨b, e, h0, f, o, fun z => ?_⟩
      obtain ⟨i, d, _, k2, k3⟩ := q2 b z
      exact nn ⟨i, d, k2, k3⟩
    | brw i =>
      simp only [endR] at h
      by_cases hi : ms[i]? = some true
      · rw [if_pos hi] at h
        cases q : fz ρ (.brw i) with
        | none => rw [q] at h; exact h.elim
        | some x =>
          obtain ⟨d, ρ'⟩ := x
          rw [q] at h
          obtain ⟨F2, p2, k2, r2⟩ := fz_of (.refl p.en) (show RvW K mg H' F' H' σ ρ v (.brw i) from rv) q
          exact h v F2 H' (end_po en0 hm (p.po p2)).1 r2
      · rw [if_neg hi] at h
        obtain ⟨hv, s, hs⟩ := rv
        rw [hs] at h
        cases s with
        | val d =>
          obtain ⟨v', e1, r1⟩ := p.en.val i d hs
          rw [hv] at e1; cases e1
          exact h v F' H' (end_po en0 hm p).1 r1
        | own d =>
          dsimp only at h
          by_cases ho : muOwn ms ρ 0 = true
          · rw [if_pos ho] at h
            obtain ⟨q1, q2⟩ := end_po en0 hm p
            obtain ⟨b, e1, f, o⟩ := p.en.own i d hs
            rw [hv] at e1; cases e1
            refine h _ F' H' q1 ⟨b, rfl, ?_, f, o, fun z => ?_⟩
            · rcases p.ow b ⟨i, d, hs, hv⟩ with z | z
              · exfalso
                obtain ⟨j, d0, z1, z2⟩ := own_app.mp z
                rw [at_map] at z1
                rcases modes_get hm z1 with ⟨m, _, _⟩ | ⟨m, e0⟩
                · have mem : j ∈ muSl ms 0 := by simpa using muSl_mem (k := 0) m
                  obtain ⟨d1, e1⟩ := muOwn_get ho m
                  rw [Nat.zero_add] at e1
                  have e2 : stAt σ j = some (.ref b) := by
                    rw [p.same j mem]
                    unfold L2.start
                    rw [stAt_app, ← stAt_map]; exact z2
                  have := p.en.inj i j _ _ _ hs e1 hv e2
                  subst this
                  exact hi m
                · exact absurd rfl (e0 d0)
              · exact z
            · obtain ⟨j, d1, k1, k2, k3⟩ := q2 b z
              have := p.en.inj i j _ _ _ hs k2 hv k3
              subst this
              exact hi k1
          · rw [if_neg ho] at h; exact h.elim
        | exn x => exact h.elim
end
/-- a def of the table, as the text has it -/
def DefOk (g : Gs) (K : PySem.W.Frag) (d : Fd) (f : Addr) (fd : FuncData) : Prop :=
  ∃ (x qual : Str) (params : Arguments) (body : List Stmt) (scope : Scope) (dV kV doc pm cdv ct oc : Value) (an od : Option Addr) (osl : Array (Option Value)),
    fd = PySem.W.fnOf x qual params body scope dV kV doc pm an cdv ct ∧ K.lookup f = some ⟨oc, od, .func fd, osl⟩ ∧ PySem.W.codeIn K cdv qual = true ∧ FnScope d.N d.ps scope ∧ ckSs g d.N scope (muSl d.mu 0) d.bd body = true
section
variable {P : Program} {w : World} {K : PySem.W.Frag} {mg : Str → Option Value} {base : Heap} {ad : Nat → Addr} {fdt : Nat → FuncData} {g : Gs}
theorem fn_okH (G : GOk g ad fdt K mg) (fu : Nat) (hd : ∀ (f : Nat) (d : Fd), g.fd[f]? = some d → DefOk g K d (ad f) (fdt f)) : ∀ (n : Nat) (p : Addr × Obj) (f : Nat) (d : Fd), g.fd[f]? = some d →
    FnHp P w K mg base (2 * n + 1) (ad f) (fdt f) d.ps p (spC K ⟨mg, pinX [p]⟩ d.ps.length (runH g fu n f))
  | 0, p, f, d, e => ⟨fun vs H Q E h => h.1, fun A outer s H args us vs Q E hr _ hpin he hb hv h => by
      obtain ⟨_, F, ss, _, z⟩ := h
      simp only [runH] at z⟩
  | n + 1, p, f, d, e => by
    obtain ⟨x, qual, params, body, scope, dV, kV, doc, pm, cdv, ct, oc, an, od, osl, e1, lk, hcd, Sc, ck⟩ := hd f d e
    rw [e1] at lk
    rw [e1]
    refine (fnHp_of (k := 2 * n + 2) lk hcd Sc (fun vs H Q E h => h.1) fun A outer s H vs Q E hot hr hsp => ?_ : FnHp P w K mg base (2 * n + 2 + 1) (ad f) _ d.ps p (spC K ⟨mg, pinX [p]⟩ d.ps.length (runH g fu (n + 1) f)))
    have ok : XOk ⟨runH g fu n, runH g fu n, g, fu, true⟩ (2 * n + 1) ad fdt (L2H.cxH cx0 P w K mg base d.N qual scope (ad f) cdv A outer s H E p) W0 :=
      ⟨G, (fun h => by cases h), Sc.nd, hr, (fun h => by cases h), takes0N, (fun h => by cases h), fun p f d e => fn_okH G fu hd n p f d e, fun _ => ⟨rfl, rfl, p, [], rfl, hot⟩, fun h => by cases h⟩
    refine ⟨_, ckSs_ok d.bd ok ⟨Sc.kind, fun _ => rfl, passes_of rfl, rfl, rfl⟩ (by omega) (muSl d.mu 0) ck, ?_⟩
    obtain ⟨hl, F, ss, en, h⟩ := hsp
    simp only [runH, e] at h
    by_cases hm : modes d.mu ss = true
    · rw [if_pos hm] at h
      refine ⟨F, _, env_app en, end_ok (N := d.N) (Q := Q) (E := fun _ _ _ => False) (D := { nx := fun _ H' => Q .non H', rt := Q }) (so := exs ⟨runH g fu n, runH g fu n, g, fu, true⟩ d.bd (st0 d.N.length ss)) en hm rfl rfl ?_⟩
      revert h
      unfold st0
      generalize endR d.mu ss _ = co
      intro h
      cases co with
      | ok r ss' => exact h
      | er x ss' => exact h.elim
      | bad => exact h
    · rw [if_neg hm] at h; exact h.elim
theorem fn_ok (G : GOk g ad fdt K mg) (fu : Nat) (hd : ∀ (f : Nat) (d : Fd), g.fd[f]? = some d → DefOk g K d (ad f) (fdt f)) (hra : ∀ x ∈ g.xc, ∃ Ca, mg x.C = some (.ref Ca) ∧ RaOk P w K mg base Ca x.fs) : ∀ (n f : Nat) (d : Fd), g.fd[f]? = some d →
    FnOk P w K mg base (L2N.CX P w) (2 * n + 1) (ad f) (fdt f) d.ps (spC K ⟨mg, none⟩ d.ps.length (run g fu n f))
  | 0, f, d, e => ⟨fun vs H Q E h => h.1, fun A outer s H args us vs Q E hr he hb hv h => by
      obtain ⟨_, F, ss, _, z⟩ := h
      simp only [run] at z⟩
  | n + 1, f, d, e => by
    obtain ⟨x, qual, params, body, scope, dV, kV, doc, pm, cdv, ct, oc, an, od, osl, e1, lk, hcd, Sc, ck⟩ := hd f d e
    rw [e1] at lk
    rw [e1]
    refine (fn_of (k := 2 * n + 2) lk hcd Sc (fun vs H Q E h => h.1) fun A outer s H vs Q E hr hsp => ?_ : FnOk P w K mg base (L2N.CX P w) (2 * n + 2 + 1) (ad f) _ d.ps (spC K ⟨mg, none⟩ d.ps.length (run g fu (n + 1) f)))
    have ok : XOk ⟨run g fu n, runH g fu n, g, fu, false⟩ (2 * n + 1) ad fdt (cxOf (L2N.CX P w) P w K mg base d.N qual scope (ad f) cdv A outer s H E) (fun cl d _ H => E cl d H) :=
      ⟨G, fun _ => rfl, Sc.nd, ⟨hr.dp, hr.un⟩, fun _ => hr.hd, L2N.takes_of rfl rfl rfl rfl, fun _ f d e => fn_ok G fu hd hra n f d e, fun p f d e => fn_okH G fu hd n p f d e, (fun h => by cases h), fun _ => hra⟩
    refine ⟨_, ckSs_ok d.bd ok ⟨Sc.kind, fun _ => rfl, passes_of rfl, rfl, rfl⟩ (by omega) (muSl d.mu 0) ck, ?_⟩
    obtain ⟨hl, F, ss, en, h⟩ := hsp
    simp only [run, e] at h
    by_cases hm : modes d.mu ss = true
    · rw [if_pos hm] at h
      exact ⟨F, _, env_app en, end_ok (N := d.N) (Q := Q) (E := E) (D := { nx := fun _ H' => Q .non H', rt := Q }) (so := exs ⟨run g fu n, runH g fu n, g, fu, false⟩ d.bd (st0 d.N.length ss)) en hm rfl rfl h⟩
    · rw [if_neg hm] at h; exact h.elim
end
end Mp

/-! Mp25: __init__ of a class of exceptions of ours: super().__init__(text), then its fields. -/
namespace Mp
open PySem PySem.Spec PyProof.Rows L2
/-- the context of such a body -/
def cxI (P : Program) (w : World) (K : PySem.W.Frag) (mg : Str → Option Value) (base : Heap) (N : List Str) (qual : Str) (scope : Scope) (f : Addr) (cd : Value) (cc : Addr) (A : Around) (outer : List Env) (s : Shared) (H : Hp) (E : XK) : Cx :=
  { cxOf cx0 P w K mg base N qual scope f cd A outer s H E with
    A := A.deeper (PySem.W.ksEnv qual scope s.heap.objs.size f cd cc)
    env := PySem.W.ksEnv qual scope s.heap.objs.size f cd cc
    stack := PySem.W.ksEnv qual scope s.heap.objs.size f cd cc :: outer
    fn := fun x => !(x == ("__class__" : Str))
    xe := fun e s' => wpAny (model P w) (A.deeper (PySem.W.ksEnv qual scope s.heap.objs.size f cd cc)) (leaving (PySem.W.ksEnv qual scope s.heap.objs.size f cd cc) e) (fun _ s'' => cx0 outer H s E e s'') (fun e' s'' => cx0 outer H s E e' s'') s' }
/-- such a body's names: its parameters alone -/
structure ISc (ps : List Str) (sc : Scope) : Prop where
  kind : sc.kind = .function
  co : sc.isCoroutine = false
  gen : sc.isGenerator = false
  nd : ps.Nodup
  loc : ∀ x ∈ ps, sc.names.lookup x = some .local
  nocell : ∀ y ∈ sc.names, y.2 ≠ .cell
  free : ∀ y ∈ sc.names, y.2 = .free → y.1 = "__class__"
  sup : sc.names.lookup ("super" : Str) = some .globalImplicit
  cls : sc.names.lookup ("__class__" : Str) = some .free
section
variable {P : Program} {w : World} {K : PySem.W.Frag} {mg : Str → Option Value} {base : Heap} {ps : List Str} {qual : Str} {scope : Scope} {f cc : Addr} {cd : Value} {A : Around} {outer : List Env} {s : Shared} {H : Hp} {E : XK} {us : List Value} {vs : List V}
theorem zip_lookup : ∀ {ps : List Str} {us : List Value} {i : Nat} {x : Str} {u : Value}, ps.Nodup → ps[i]? = some x → us[i]? = some u → (ps.zip us).reverse.lookup x = some u := by
  have key : ∀ {ps : List Str} {us : List Value} {x : Str}, x ∉ ps → (ps.zip us).reverse.lookup x = none := by
    intro ps us x h
    cases q : (ps.zip us).reverse.lookup x with
    | none => rfl
    | some u =>
      exfalso
      have := PySem.mem_of_lookup q
      rw [List.mem_reverse] at this
      exact h (List.of_mem_zip this).1
  have app : ∀ {l m : List (Str × Value)} {x : Str}, (l ++ m).lookup x = match l.lookup x with | some u => some u | none => m.lookup x := by
    intro l
    induction l with
    | nil => intro m x; rfl
    | cons p l ih =>
      intro m x
      simp only [List.cons_append, List.lookup]
      cases q : x == p.1 with
      | true => rfl
      | false => exact ih
  intro ps
  induction ps with
  | nil => intro us i x u _ h; simp at h
  | cons p ps ih =>
    intro us i x u nd h1 h2
    cases us with
    | nil => simp at h2
    | cons v us =>
      rw [List.zip_cons_cons, List.reverse_cons, app]
      cases i with
      | zero =>
        simp at h1 h2
        subst h1; subst h2
        rw [key (List.nodup_cons.mp nd).1]
        simp [List.lookup]
      | succ i =>
        rw [ih (List.nodup_cons.mp nd).2 (by simpa using h1) (by simpa using h2)]
theorem inv_I {h1 : Heap} {tk : Nat} (S : ISc ps scope) (hd : A.handled = none) (e0 : Env0 P w K mg base A outer s H) (hl : vs.length = ps.length) (r : Vals vs us) {ccl : Value} {ccd : Option Addr} {ccs : Array (Option Value)} {u0 : Option Value} (hcc : K.lookup cc = some ⟨ccl, ccd, .cell u0, ccs⟩)
    (hns : h1.Ns s.heap.objs.size (fun x => (ps.zip us).reverse.lookup x)) (hk : ∀ b o, s.heap.get? b = some o → h1.get? b = some o) :
    Inv (cxI P w K mg base ps qual scope f cd cc A outer s H E) [] (L2.start ps vs) H { s with heap := h1, toks := tk } := by
  have KX : K.In s.heap := e0.mod.kin.keeps fun b o e => (e0.bs b o e).1
  have noA : ∀ b : Addr, b ∉ (cxI P w K mg base ps qual scope f cd cc A outer s H E).ex := fun b z => absurd (show b ∈ ([] : List Addr) from z) (by simp)
  have cel : ∀ {x : Str} {c : Addr}, (cxI P w K mg base ps qual scope f cd cc A outer s H E).env.cells.lookup x = some c → x = "__class__" ∧ c = cc := fun {x c} h => by
    have h' : List.lookup x [(("__class__" : Str), cc)] = some c := h
    simp only [List.lookup] at h'
    split at h'
    · rename_i q; exact ⟨eq_of_beq q, (Option.some.inj h').symm⟩
    · cases h'
  have hbase : base.get? cc = some ⟨ccl, ccd, .cell u0, ccs⟩ := e0.mod.kin _ _ hcc
  refine ⟨⟨e0.mod, S.kind, rfl, rfl, Nat.le_refl _, fun y z c h1 h2 => (cel h1).1.trans (cel h2).1.symm, fun y hy => ?_, fun y c hx h => ?_, fun _ => hd, Around.frames_deeper e0.frames, .inr ⟨rfl, rfl⟩, fun b z => absurd z (noA b), e0.bs, e0.bsz, fun b _ _ => noA b, fun b z => absurd z (noA b), e0.funs, e0.frf⟩,
    rfl, e0.bare, Un.kept hk, ⟨_, hns, fun i y v h1 h2 h3 => ?_⟩, fun y c h => ?_, e0.hok.fresh (Nat.le_refl _), fun y c h => ?_, fun p hp => absurd (show p ∈ ([] : List (Addr × Obj)) from hp) (by simp), e0.hok.kept hk, ?_⟩
  · have hy' : scope.names.lookup y = some .cell ∨ scope.names.lookup y = some .free := hy
    rcases hy' with hy' | hy'
    · exact absurd rfl (S.nocell _ (PySem.mem_of_lookup hy'))
    · have := S.free _ (PySem.mem_of_lookup hy') rfl
      dsimp only at this
      subst this
      exact ⟨cc, rfl⟩
  · obtain ⟨e1, e2⟩ := cel h
    subst e1
    have hx' : (!((("__class__" : Str)) == ("__class__" : Str))) = true := hx
    simp at hx'
  · have hi : i < vs.length := by
      unfold L2.start at h2
      by_cases hi : i < vs.length
      · exact hi
      · rw [List.getElem?_append_right (by simpa using hi)] at h2
        rw [List.getElem?_replicate] at h2
        split at h2 <;> cases h2
    have ha : vs[i]? = some v := by
      unfold L2.start at h2
      rw [List.getElem?_append_left (by simpa using hi), List.getElem?_map] at h2
      cases e : vs[i]? with
      | none => rw [e] at h2; cases h2
      | some a => rw [e] at h2; cases h2; rfl
    obtain ⟨u, hu, rv⟩ := r.get ha
    exact ⟨u, rv, .inl ⟨S.loc y (List.mem_of_getElem? h1), zip_lookup S.nd h1 hu⟩⟩
  · obtain ⟨_, e2⟩ := cel h
    subst e2
    exact ⟨u0, _, hk _ _ (KX _ _ hcc), rfl⟩
  · obtain ⟨_, e2⟩ := cel h
    subst e2
    exact (e0.bs _ _ hbase).2
  · unfold L2.start
    show _ = ps.length
    rw [List.length_append, List.length_map, List.length_replicate]
    omega
end
/-! ### super().__init__(text) -/
section
open PySem.W
variable {prog : Program} {w : World} {A : Around} {E : Value → Shared → Prop} {h : Heap} {g : Array GenState} {d : Drawn} {t : Nat} {os : OsState}
/-- the built-in __init__, bound, called: the arguments are laid anew -/
theorem call_mw {u e t0 C N : Addr} {nm q : Str} {bs bm : List Value} {hdct : Bool} {sn : List Str} {sub : List Value} {ab : Bool} {col : Option Bool} {dd : Option Addr} {k0 k1 k2 k3 k5 : Option Value} {rest : List Value} {Q : Value → Shared → Prop}
    (hC : h.get? C = some (excClassObj nm q C N bs bm hdct sn sub ab col dd k0 k1 k2 k3 k5 "ValueError.__new__")) (he : h.get? e = some (HandSPX.excO C t0)) (hu : h.get? u = some (kxs_mw "ValueError.__init__" e)) (hrest : rest.length ≤ sizeLine)
    (hq : ∀ h' t1, (∀ b o, b ≠ e → h.get? b = some o → h'.get? b = some o) → h'.get? e = some (HandSPX.excO C t1) → Q .none ⟨h', g, d, t, os⟩) :
    wpAny (model prog w) A (call (.ref u) rest) Q E ⟨h, g, d, t, os⟩ := by
  refine wpAny_call (codeAny_of_tree ?_)
  show wpAny _ A.in1 (callAny (.ref u) ⟨rest, []⟩) _ _ _
  simp only [callAny]
  refine wpAny_bind (wpAny_load hu ?_)
  simp only [kxs_mw, show (Value.type "method-wrapper" == Value.type "method" || Value.type "method-wrapper" == Value.type "builtin_function_or_method" || Value.type "method-wrapper" == Value.type "method-wrapper") = true by decide, if_true]
  refine KFB.if_so (by decide) ?_
  refine wpAny_bind (ESX.check_bound F.excBase_ValueError hC he rfl ?_)
  refine wpAny_bind (wpAny_pure (wpAny_pure ?_))
  refine ⟨plainId_quiet F.excBase_ValueError.init.plain _, codeAny_builtin F.excBase_ValueError.initEntry ?_⟩
  rw [Around.under_plainId F.excBase_ValueError.init.plain _]
  wp_walk
  refine hq _ h.objs.size (fun b o hb ho => ?_) ?_
  · rw [Heap.get?_update_other _ _ (Ne.symm hb)]
    exact Heap.get?_push_of_some _ ho
  · rw [Heap.get?_update_self _ (Heap.get?_push_of_some _ he) rfl]
    rfl
end
/-! ### the fields -/
def tRs (K : PySem.W.Frag) : List (Str × Nat) → TS
  | [] => tNext
  | (f, i) :: l => tSeq (tOst K f (tVar 0) (tVar i)) (tRs K l)
def rsB (ps : List Str) (sc : Scope) : List (Str × Nat) → List Stmt → Bool
  | [], [] => true
  | (f, i) :: l, .Assign [.Attribute (.Name x _) f' _] (.Name y _) _ :: r => decide (f' = f) && decide (ps[0]? = some x) && decide (ps[i]? = some y) && visB sc x && visB sc y && dbgB x && dbgB y && rsB ps sc l r
  | _, _ => false
theorem rs_ok {X : Cx} : ∀ {l : List (Str × Nat)} {r : List Stmt}, rsB X.N X.env.scope l r = true → PSs X r (tRs X.K l)
  | [], [], _ => pss_nil
  | (f, i) :: l, st :: r, h => by
    unfold rsB at h
    split at h
    · simp_all
    · rename_i f2 i2 l2 x px f' pf y py pa r2 e1 e2
      simp only [Bool.and_eq_true, decide_eq_true_eq] at h
      obtain ⟨⟨⟨⟨⟨⟨⟨h1, h2⟩, h3⟩, h4⟩, h5⟩, h6⟩, h7⟩, h8⟩ := h
      injection e1 with e1 e1'
      injection e1 with e3 e4
      injection e2 with e2 e2'
      subst e2 e2' e1' e3 e4
      subst h1
      exact pss_cons (ps_ost (pe_var h2 (vis_of h4) (dbg_of h6).1 (dbg_of h6).2.1) (pe_var h3 (vis_of h5) (dbg_of h7).1 (dbg_of h7).2.1) (by rfl)) (rs_ok h8)
    · cases h
  | [], _ :: _, h => by simp [rsB] at h
  | _ :: _, [], h => by simp [rsB] at h
theorem rs_rd {K : PySem.W.Frag} {Ca a dx : Addr} (T : OexC K Ca) {D : Ends} {σ : L2.St} (h0 : σ[0]? = some (some (.ref a))) (hda : dx ≠ a) : ∀ (l : List (Str × Nat)) (ws : List V) (acc : List (Str × V)) {H : Hp}, (∀ p ∈ l, PySem.W.findIn K (.ref Ca) p.1 = some none) → l.length = ws.length →
    (∀ (k : Nat) (p : Str × Nat) (v : V), l[k]? = some p → ws[k]? = some v → σ[p.2]? = some (some v)) → H a = some (exo a Ca (some dx)) → H dx = some (exd dx acc) → acc.length + l.length ≤ 900 →
    (∀ H', H' a = H a → H' dx = some (exd dx (((l.map (·.1)).zip ws).reverse ++ acc)) → (∀ b, b ≠ dx → H' b = H b) → D.nx σ H') → tRs K l D σ H
  | [], [], acc, H, _, _, _, ea, ed, _, q => q H rfl (by simpa using ed) fun _ _ => rfl
  | (f, i) :: l, w :: ws, acc, H, hf, hl, hs, ea, ed, hz, q => by
    refine ⟨_, hs 0 (f, i) w rfl rfl, _, h0, a, Ca, rfl, T, hf _ List.mem_cons_self, .inr ⟨dx, acc, ea, ed, by simp at hz; omega, ?_⟩⟩
    refine rs_rd T (a := a) h0 hda l ws ((f, w) :: acc) (fun p hp => hf p (List.mem_cons_of_mem _ hp)) (by simpa using hl) (fun k p v e1 e2 => hs (k + 1) p v (by simpa using e1) (by simpa using e2)) (by rw [upd_ne (Ne.symm hda)]; exact ea) upd_same (by simp at hz ⊢; omega) fun H' k1 k2 k3 => ?_
    refine q H' (by rw [k1, upd_ne (Ne.symm hda)]) ?_ fun b hb => by rw [k3 b hb, upd_ne hb]
    rw [k2]
    simp
  | [], _ :: _, _, _, _, hl, _, _, _, _, _ => by simp at hl
  | _ :: _, [], _, _, _, hl, _, _, _, _, _ => by simp at hl
/-! ### the whole -/
/-- what the written part says of such an __init__ -/
structure IniF (P : Program) (K : PySem.W.Frag) (mg : Str → Option Value) (Ca fI : Addr) (fd : FuncData) (fs ps : List Str) : Prop where
  oex : OexC K Ca
  iC : PySem.W.findIn K (.ref Ca) "__init__" = some (some (.ref fI))
  tI : PySem.W.typeIn K (.ref fI) = some (.type "function")
  ex : ∃ (fnm qual : Str) (params : Arguments) (ar : Arg) (z : Str) (kk : Nat) (p0 p1 p2 p3 p4 p5 : Pos) (rest : List Stmt) (scope : Scope) (dV kV doc pm ct oc ccl cl : Value) (an od cdd cld : Option Addr) (osl ccs csl : Array (Option Value)) (cc cda : Addr) (vs : Array Value) (file : Str) (tf : Tok),
    fd = PySem.W.ksFn fnm qual params (.Expr (.Call (.Attribute (.Call (.Name "super" p0) [] [] p1) "__init__" p2) [.Constant (.str z) kk p3] [] p4) p5 :: rest) scope dV kV doc pm an (.ref cda) ct cc ∧
    K.lookup fI = some ⟨oc, od, .func fd, osl⟩ ∧ PySem.W.codeIn K (.ref cda) qual = true ∧ ISc ps scope ∧ (params.posonlyargs ++ params.args).head? = some ar ∧ ps[0]? = some ar.arg ∧
    K.lookup cda = some ⟨ccl, cdd, .fields vs, ccs⟩ ∧ vs[2]? = some (.str file tf) ∧ ((P.main.file : Str) == file) = true ∧ (p2.endLine == p4.line) = true ∧ (P.main.scope.names.lookup ("super" : Str)).isSome = false ∧
    K.lookup cc = some ⟨cl, cld, .cell (some (.ref Ca)), csl⟩ ∧ rsB ps scope ((List.range fs.length).map fun i => (fs.getD i "", i + 1)) rest = true
  len : ps.length = fs.length + 1
  one : fs ≠ []
  few : fs.length ≤ 800
  sup : mg "super" = none
  opq : PySem.W.nsIn K cStatics "thirdparty.any" = some none
  mth : PySem.W.ks_superIn K Ca Ca "__init__" = some (some (.builtin "ValueError.__init__"))
  sVE : PySem.W.subIn K (.ref Ca) (.type "ValueError") = some true
  sC : PySem.W.mroIn K Ca (.ref Ca) = some true
  fld : ∀ f ∈ fs, PySem.W.findIn K (.ref Ca) f = some none
theorem meth_eval1 {o : Expr} {m : Str} {apos pos : Pos} {env : Env} {es : List Expr} (hs : es.all nost = true) (hn : es.length < 30) (hl : (apos.endLine == pos.line) = true) : eval (.Call (.Attribute o m apos) es [] pos) env = (do
      let ov ← attributeBase o m env (eval o env)
      standAt apos.atName
      let (f, first) ← holding [ov] (getMethod ov m (do return (← importBound o env).getD true))
      callWith pos f first (backTo pos (starEach es env)) []) := by
  show (do let ov ← attributeBase o m env (eval o env); standAt apos.atName; methodCall o m apos pos env ov (es.length + ([] : List Keyword).length) (backTo pos (starEach es env)) (backToKw pos (keywordEach [] env))) = _
  unfold methodCall
  rw [form_of hs hn]
  unfold methodCallPos
  rw [hl]
  rfl
section
variable {P : Program} {w : World} {K : PySem.W.Frag} {mg : Str → Option Value} {base : Heap} {Ca fI : Addr} {fd : FuncData} {fs ps : List Str}
theorem fn_init (F : IniF P K mg Ca fI fd fs ps) : FnOk P w K mg base cx0 1 fI fd ps (spI K Ca fs) := by
  obtain ⟨fnm, qual, params, ar, z, kk, p0, p1, p2, p3, p4, p5, rest, scope, dV, kV, doc, pm, ct, oc, ccl, cl, an, od, cdd, cld, osl, ccs, csl, cc, cda, vs0, file, tf, rfl, lk, hcd, S, hp, hp0, hcode, hvs, hfile, hline, htop, hcell, hrs⟩ := F.ex
  refine ⟨fun vs H Q E h => by obtain ⟨a, ws, rfl, hl, _⟩ := h; rw [List.length_cons, hl, F.len], fun A outer s H args us vs Q E hr e0 hb r hsp => ?_⟩
  obtain ⟨a, ws, rfl, hl, ha, hq⟩ := hsp
  have KX : K.In s.heap := e0.mod.kin.keeps fun b o e => (e0.bs b o e).1
  have lim : s.heap.NoLimit := e0.mod.nolimit.keeps fun b o e => (e0.bs b o e).1
  refine PySem.ks_codeAny_call_defAt (binds := ps.zip us) (by have := hr.dp; omega) (KX _ _ lk) rfl lim (PySem.W.codeRec_of KX hcd) rfl hb S.nocell (fun y hy => S.loc _ (List.of_mem_zip hy).1) (fun h1 hns hk => ?_) S.co S.gen S.kind
  have hl' : (V.ref a :: ws).length = ps.length := by rw [List.length_cons, hl, F.len]
  have I0 : Inv (cxI P w K mg base ps qual scope fI (.ref cda) cc A outer s H E) [] (L2.start ps (.ref a :: ws)) H { s with heap := h1, toks := s.toks + (ps.zip us).length } := inv_I S hr.hd e0 hl' r hcell hns hk
  have K1 : K.In h1 := I0.kIn
  obtain ⟨nm, q, N, bs, bm, sn, sub, ab, col, dd, k0, k1, k2, k3, k5, hC, hbm⟩ := F.oex.cls
  have hCh := K1 _ _ hC
  obtain ⟨t1, hx⟩ := exo_at I0.hok ha
  have hcl : PySem.W.clsIn K Ca = some { name := nm, bases := bs, mro := .ref Ca :: bm, ns := N, qualname := q, hasDict := true, slotNames := sn, subclasses := sub, abstract := ab, collection := col, hasDel := false } := by unfold PySem.W.clsIn; rw [hC] <;> rfl
  have hself : (ps.zip us).reverse.lookup ar.arg = some (.ref a) := by
    cases r with
    | @cons _ u0 _ us' ra rr =>
      obtain rfl : u0 = Value.ref a := ra
      exact zip_lookup S.nd hp0 rfl
  -- super()
  obtain ⟨mb, hb1, hb2⟩ := I0.ok.mod.blt
  have hint : interactive (PySem.W.ksEnv qual scope s.heap.objs.size fI (.ref cda) cc) = false := by
    unfold interactive
    simp [S.kind]
  refine PySem.ks_wpAt_execs_cons (PySem.ks_wpAt_Expr_any (PySem.ks_wpAt_MethodCall (PySem.ks_wpAt_super_base (env := PySem.W.ksEnv qual scope s.heap.objs.size fI (.ref cda) cc) S.sup S.cls (by decide) rfl (K1 _ _ lk) rfl hp rfl (K1 _ _ hcode) rfl hvs hfile htop ?_) (meth_eval1 rfl (by show 1 < 30; decide) hline)) (hi := hint) (hs := sw_none rfl))
  refine PySem.W.ks_loadName_global S.kind S.sup (PySem.Calls.loadGlobal_builtin (I0.ok.mod.glob.keeps I0.bk) F.sup (hb1.keeps I0.bk) ((hb2 _ (by decide)).trans (by decide +kernel)) ⟨rfl, ?_⟩)
  refine wpAny_loadName_free S.kind S.cls rfl ⟨_, K1 _ _ hcell, rfl⟩ ?_
  refine wpAny_loadName_local S.kind (S.loc _ (List.mem_of_getElem? hp0)) hns hself ?_
  refine PySem.ks_wpAny_isType_cls hCh rfl ⟨rfl, ?_⟩
  refine PySem.ks_wpAny_call_super hCh rfl hx rfl (fun c e => by cases e) (PySem.W.looks_mroIn K1 F.sC) (fun h2 e2 kk2 => ?_)
  -- .__init__
  have K2 : K.In h2 := K1.keeps kk2
  have hx2 := kk2 _ _ hx
  have J2 : PySem.W.InstAt h2 a _ Ca none := ⟨hx2, rfl, rfl, trivial⟩
  have hm := F.mth
  unfold PySem.W.ks_superIn at hm
  rw [hcl] at hm
  have nC : a ≠ Ca := fun z => by
    subst z
    have := hx.symm.trans hCh
    cases this
  refine PySem.W.kxs_getMethod PySem.W.kxs_ValueError e2 (PySem.W.looks_opaque K2 F.opq) (l₀ := .ref Ca :: bm) (fun A Q E s k q => wpAny_bind ((PySem.W.looks_clsIn K2 hcl) A _ E s k (wpAny_pure q))) rfl K2 hm (J2.type.andThen (PySem.W.looks_subIn K2 F.sVE)) nC (by decide) ?_
  -- called with the text
  refine PySem.W.kxs_callWith (i := "ValueError.__init__") (x := a) rfl (PySem.Calls.evalArgs_plain (PySem.Calls.spliced_cons (wpAny_Constant_str (k := kk) (pos := p3) (PySem.Calls.spliced_nil ⟨Heap.get?_push_size _ rfl, ?_⟩))))
  have kk3 : ∀ b o, h1.get? b = some o → (h2.push (PySem.W.kxs_mw "ValueError.__init__" a)).get? b = some o := fun b o e => Heap.get?_push_of_some _ (kk2 b o e)
  refine call_mw (kk3 _ _ hCh) (kk3 _ _ hx) (Heap.get?_push_size _ rfl) (by rw [sizeLine_eq]; simp) fun h5 t5 kk5 hx5 => ?_
  -- the state behind it
  have I3 : Inv (cxI P w K mg base ps qual scope fI (.ref cda) cc A outer s H E) [] (L2.start ps (.ref a :: ws)) H { heap := h2.push (PySem.W.kxs_mw "ValueError.__init__" a), gens := s.gens, drawn := s.drawn, toks := 0, os := s.os } := I0.kept (t' := 0) kk3
  have eu : upd H a (exo a Ca none) = H := by
    funext b
    by_cases hb : b = a
    · rw [hb, upd_same, ha]
    · rw [upd_ne hb]
  have I5 : ∀ tk, Inv (cxI P w K mg base ps qual scope fI (.ref cda) cc A outer s H E) [] (L2.start ps (.ref a :: ws)) H { heap := h5, gens := s.gens, drawn := s.drawn, toks := tk, os := s.os } := fun tk => by
    have J := I3.write (t' := tk) (x := a) (e := a) (o := exo a Ca none) (by rw [ha]; exact True.intro) (.inl rfl) kk5 ⟨_, hx5⟩ (exo_ok hx5)
    rw [eu] at J
    exact J
  -- the fields
  have hσ : ∀ (i : Nat) (v : V), (V.ref a :: ws)[i]? = some v → (L2.start ps (.ref a :: ws))[i]? = some (some v) := fun i v e => by
    unfold L2.start
    rw [List.getElem?_append_left (by have := (List.getElem?_eq_some_iff.mp e).1; simpa using this), List.getElem?_map, e]; rfl
  refine wpAt_of_wpAny ?_
  refine wpAny_mono ((rs_ok (X := cxI P w K mg base ps qual scope fI (.ref cda) cc A outer s H E) hrs).run [] _ (L2.start ps (.ref a :: ws)) H { nx := fun _ H' => Q .non H', rt := Q } (I5 _) ?_) (fun fl s' hs => ?_) fun e s' hs => hs
  rotate_left
  · cases fl with
    | next =>
      obtain ⟨σ', H', J, q⟩ := hs
      exact ⟨.non, H', J.os, J.bare, J.base, J.hok, rfl, q⟩
    | ret u =>
      obtain ⟨v, σ', H', J, rv, q⟩ := hs
      exact ⟨v, H', J.os, J.bare, J.base, J.hok, rv, q⟩
    | brk =>
      obtain ⟨_, _, _, q⟩ := hs
      exact False.elim q
    | cont =>
      obtain ⟨_, _, _, q⟩ := hs
      exact False.elim q
  · cases fs with
    | nil => exact absurd rfl F.one
    | cons f0 fr =>
      cases ws with
      | nil => simp at hl
      | cons w0 wr =>
        rw [List.length_cons, List.range_succ_eq_map, List.map_cons, List.map_map]
        refine ⟨w0, hσ 1 w0 rfl, _, hσ 0 _ rfl, a, Ca, rfl, F.oex, F.fld _ List.mem_cons_self, .inl ⟨ha, fun dx nd da => ?_⟩⟩
        refine rs_rd F.oex (a := a) (dx := dx) (hσ 0 _ rfl) da _ wr [(f0, w0)] (fun p hp => ?_) (by simpa using hl.symm) (fun k p v e1 e2 => ?_) upd_same (by rw [upd_ne da, upd_same]; rfl) (by have := F.few; simp at this ⊢; omega) fun H' k1 k2 k3 => ?_
        · obtain ⟨i, hi, rfl⟩ := List.mem_map.mp hp
          refine F.fld _ ?_
          have := List.mem_range.mp hi
          simp only [Function.comp, List.getD_eq_getElem?_getD, List.getElem?_cons_succ]
          rw [List.getElem?_eq_getElem this]
          exact List.mem_cons_of_mem _ (List.getElem_mem this)
        · rw [List.getElem?_map] at e1
          cases q : (List.range fr.length)[k]? with
          | none => rw [q] at e1; cases e1
          | some j =>
            rw [q] at e1
            have hj : j = k := by
              have := List.getElem?_range (n := fr.length) (i := k) (by have := (List.getElem?_eq_some_iff.mp q).1; simpa using this)
              rw [this] at q; cases q; rfl
            subst hj
            cases e1
            exact hσ (j + 2) v (by simpa using e2)
        · have efin : H' = upd (upd H dx (exd dx ((f0 :: fr).zip (w0 :: wr)).reverse)) a (exo a Ca (some dx)) := by
            funext b
            by_cases hb : b = a
            · rw [hb, upd_same, k1, upd_same]
            · rw [upd_ne hb]
              by_cases hd : b = dx
              · rw [hd, upd_same, k2]
                have em : ((List.range fr.length).map ((fun i => ((f0 :: fr).getD i "", i + 1)) ∘ Nat.succ)).map (·.1) = fr := by
                  rw [List.map_map]
                  apply List.ext_getElem?
                  intro i
                  rw [List.getElem?_map]
                  by_cases hi : i < fr.length
                  · rw [List.getElem?_range hi]
                    simp only [Option.map_some, Function.comp, List.getD_eq_getElem?_getD, List.getElem?_cons_succ]
                    rw [List.getElem?_eq_getElem hi]; rfl
                  · rw [List.getElem?_eq_none (by simpa using hi), List.getElem?_eq_none (by simpa using hi)]; rfl
                rw [em, List.zip_cons_cons, List.reverse_cons]
              · rw [upd_ne hd, k3 b hd, upd_ne hb, upd_ne hd]
          show Q .non H'
          rw [efin]
          exact hq dx nd da
theorem ra_of (F : IniF P K mg Ca fI fd fs ps) (hb : Binds K fd ps []) : RaOk P w K mg base Ca fs := ⟨F.oex, fI, fd, ps, F.iC, F.tI, hb, fn_init F⟩
end
end Mp

/-! Mp26: the facts of the head, as one check. -/
namespace Mp
open PySem PySem.Spec PyProof.Rows L2
theorem zip_get : ∀ {ps : List Str} {us : List Value}, ps.Nodup → us.length = ps.length → (∀ n ∈ ps, ((ps.zip us).lookup n).isSome = true) ∧ ps.filterMap (fun n => ((ps.zip us).lookup n).map fun v => (n, v)) = ps.zip us
  | [], us, _, h => by
    cases us with
    | nil => exact ⟨fun n h => (by simp at h), rfl⟩
    | cons _ _ => simp at h
  | p :: ps, [], _, h => by simp at h
  | p :: ps, u :: us, nd, h => by
    obtain ⟨n1, n2⟩ := List.nodup_cons.mp nd
    obtain ⟨i1, i2⟩ := zip_get (ps := ps) (us := us) n2 (by simpa using h)
    have e : ∀ n ∈ ps, ((p, u) :: ps.zip us).lookup n = (ps.zip us).lookup n := fun n hn => by
      have : (n == p) = false := by
        rw [beq_eq_false_iff_ne]
        intro z; subst z; exact n1 hn
      simp [List.lookup, this]
    refine ⟨fun n hn => ?_, ?_⟩
    · rcases List.mem_cons.mp hn with z | z
      · subst z; simp [List.lookup]
      · rw [List.zip_cons_cons, e n z]; exact i1 n z
    · rw [List.zip_cons_cons, List.filterMap_cons]
      simp only [List.lookup, BEq.rfl, Option.map_some]
      congr 1
      rw [← i2]
      refine filterMap_congr' fun n hn => ?_
      rw [i2]
      have := e n hn
      simp only [List.lookup] at this
      rw [this]
where
  filterMap_congr' {α β : Type} {l : List α} {f g : α → Option β} (h : ∀ x ∈ l, f x = g x) : l.filterMap f = l.filterMap g := by
    induction l with
    | nil => rfl
    | cons a l ih =>
      rw [List.filterMap_cons, List.filterMap_cons, h a List.mem_cons_self, ih fun x hx => h x (List.mem_cons_of_mem _ hx)]
def plainP (p : Arguments) (ps : List Str) : Bool := p.posonlyargs.isEmpty && p.kwonlyargs.isEmpty && p.vararg.isNone && p.kwarg.isNone && decide (p.args.map (·.arg) = ps)
theorem bind_all {fd : FuncData} {us : List Value} {ps : List Str} (h : plainP fd.params ps = true) (h5 : fd.defaults = .none) (nd : ps.Nodup) (hl : us.length = ps.length) : bindArgs fd ⟨us, []⟩ = pure (ps.zip us) := by
  unfold plainP at h
  simp only [Bool.and_eq_true, List.isEmpty_iff, Option.isNone_iff_eq_none, decide_eq_true_eq] at h
  obtain ⟨⟨⟨⟨h1, h2⟩, h3⟩, h4⟩, h6⟩ := h
  obtain ⟨z1, z2⟩ := zip_get nd hl
  have hm : ((ps.take ps.length).filter fun n => ((ps.zip us).lookup n).isNone) = [] := by
    rw [List.take_length, List.filter_eq_nil_iff]
    intro n hn
    have := z1 n hn
    cases q : (ps.zip us).lookup n with
    | none => rw [q] at this; cases this
    | some v => simp
  unfold bindArgs
  simp only [h1, h2, h3, h4, h5, h6, List.map_nil, List.nil_append, List.append_nil, List.forIn_nil, pure_bind, hl]
  have hs : seqItems? Value.none = pure none := rfl
  simp only [hs, pure_bind, Option.getD_none, List.drop_nil, List.length_nil, Nat.sub_zero, gt_iff_lt, Nat.lt_irrefl, decide_false, Bool.false_and, Bool.false_eq_true, if_false, hm, List.isEmpty_nil, Bool.not_true, List.zip_nil_right, List.forIn_nil, z2]
theorem kw_loop {f : Str × Value → List (Str × Value) × List (Str × Value) → Sem (ForInStep (List (Str × Value) × List (Str × Value)))} {E : List (Str × Value)} : ∀ (l S : List (Str × Value)), (∀ x ∈ l, ∀ S, (S.lookup x.1).isSome = false → f x (S, E) = pure (.yield (S ++ [x], E))) →
    (l.map (·.1)).Nodup → (∀ x ∈ l, (S.lookup x.1).isSome = false) → (forIn l (S, E) f : Sem _) = pure (S ++ l, E)
  | [], S, _, _, _ => by rw [List.forIn_nil, List.append_nil]
  | x :: l, S, hf, nd, hS => by
    rw [List.forIn_cons, hf x List.mem_cons_self S (hS x List.mem_cons_self), pure_bind]
    simp only [List.map_cons, List.nodup_cons] at nd
    show (forIn l (S ++ [x], E) f : Sem _) = _
    rw [kw_loop l (S ++ [x]) (fun y hy => hf y (List.mem_cons_of_mem _ hy)) nd.2 fun y hy => ?_, List.append_assoc]
    · rfl
    · rw [List.lookup_append, Option.isSome_or, hS y (List.mem_cons_of_mem _ hy), Bool.false_or]
      have : (y.1 == x.1) = false := beq_eq_false_iff_ne.mpr fun z => nd.1 (z ▸ List.mem_map_of_mem hy)
      obtain ⟨x1, x2⟩ := x
      simp only [List.lookup, this]
      rfl
theorem zip_split : ∀ {ps : List Str} {us : List Value} (j : Nat), us.length = ps.length → ps.zip (us.take j) ++ (ps.drop j).zip (us.drop j) = ps.zip us
  | ps, us, 0, h => by simp
  | [], [], j + 1, h => rfl
  | [], _ :: _, j + 1, h => by simp at h
  | _ :: _, [], j + 1, h => by simp at h
  | p :: ps, u :: us, j + 1, h => by
    show (p, u) :: (ps.zip (us.take j) ++ (ps.drop j).zip (us.drop j)) = _
    rw [zip_split j (by simpa using h)]
    rfl
theorem lookup_out {ps : List Str} {us : List Value} {n : Str} (h : n ∉ (ps.zip us).map (·.1)) : ((ps.zip us).lookup n).isSome = false := by
  cases q : (ps.zip us).lookup n with
  | none => rfl
  | some v =>
    refine absurd ?_ h
    have : ∀ l : List (Str × Value), l.lookup n = some v → n ∈ l.map (·.1) := fun l => by
      induction l with
      | nil => intro z; cases z
      | cons a l ih =>
        intro z
        obtain ⟨a1, a2⟩ := a
        simp only [List.lookup] at z
        split at z
        · rename_i e; rw [List.map_cons]; exact eq_of_beq e ▸ List.mem_cons_self
        · exact List.mem_cons_of_mem _ (ih z)
    exact this _ q
theorem map_zip_take : ∀ {ps : List Str} {us : List Value}, us.length ≤ ps.length → (ps.zip us).map (·.1) = ps.take us.length
  | _, [], _ => by simp
  | [], _ :: _, h => by simp at h
  | p :: ps, u :: us, h => by
    show p :: (ps.zip us).map (·.1) = p :: ps.take us.length
    rw [map_zip_take (by simpa using h)]
theorem bind_kw {fd : FuncData} {us : List Value} {ps : List Str} (j : Nat) (h : plainP fd.params ps = true) (h5 : fd.defaults = .none) (nd : ps.Nodup) (hl : us.length = ps.length) : bindArgs fd ⟨us.take j, (ps.drop j).zip (us.drop j)⟩ = pure (ps.zip us) := by
  unfold plainP at h
  simp only [Bool.and_eq_true, List.isEmpty_iff, Option.isNone_iff_eq_none, decide_eq_true_eq] at h
  obtain ⟨⟨⟨⟨h1, h2⟩, h3⟩, h4⟩, h6⟩ := h
  obtain ⟨z1, z2⟩ := zip_get nd hl
  have hm : ((ps.take ps.length).filter fun n => ((ps.zip us).lookup n).isNone) = [] := by
    rw [List.take_length, List.filter_eq_nil_iff]
    intro n hn
    have := z1 n hn
    cases q : (ps.zip us).lookup n with
    | none => rw [q] at this; cases this
    | some v => simp
  have mk : ((ps.drop j).zip (us.drop j)).map (·.1) = ps.drop j := by
    rw [map_zip_take (by simp [hl])]
    rw [List.length_drop, hl, ← List.length_drop, List.take_length]
  have dis : ∀ x ∈ (ps.drop j).zip (us.drop j), ((ps.zip (us.take j)).lookup x.1).isSome = false := fun x hx => by
    refine lookup_out fun z => ?_
    have q : x.1 ∈ ps.drop j := (List.of_mem_zip hx).1
    rw [map_zip_take (by simp [hl]; omega), List.length_take, hl] at z
    have q2 : ps.take (min j ps.length) = ps.take j := by
      rcases Nat.le_total j ps.length with e | e
      · rw [Nat.min_eq_left e]
      · rw [Nat.min_eq_right e, List.take_length, List.take_of_length_le e]
    rw [q2] at z
    rw [← List.take_append_drop j ps, List.nodup_append] at nd
    exact nd.2.2 _ z _ q rfl
  unfold bindArgs
  simp only [h1, h2, h3, h4, h5, h6, List.map_nil, List.nil_append, List.append_nil, List.forIn_nil, pure_bind, hl]
  rw [kw_loop ((ps.drop j).zip (us.drop j)) (ps.zip (us.take j)) (fun x hx S hS => ?_) (by rw [mk]; exact nd.sublist (List.drop_sublist _ _)) dis]
  · rw [zip_split j hl]
    have hs : seqItems? Value.none = pure none := rfl
    have hg : ¬ ((us.take j).length > ps.length) := by rw [List.length_take, hl]; omega
    simp only [hs, pure_bind, Option.getD_none, List.drop_nil, List.length_nil, Nat.sub_zero, hg, decide_false, Bool.false_and, Bool.false_eq_true, if_false, hm, List.isEmpty_nil, Bool.not_true, List.zip_nil_right, List.forIn_nil, z2, List.nil_append]
  · have hc : (ps.contains x.1 || ([] : List Str).contains x.1) = true := by
      rw [List.contains_iff_mem.mpr (List.mem_of_mem_drop (List.of_mem_zip hx).1)]
      rfl
    simp only [hc, if_true, hS, Bool.false_eq_true, if_false]
theorem binds_all {K : PySem.W.Frag} {fd : FuncData} {ps : List Str} (h : plainP fd.params ps = true) (h5 : fd.defaults = .none) (nd : ps.Nodup) : Binds K fd ps [] := .all fun us hl => bind_all h h5 nd hl
open He (ga ma fAd Fa ba eqO eqO_ok)
/-! ### the check -/
def atOf (d : Fd) : Str × Option Str := match d.cl with
  | none => (d.nm, none)
  | some C => (C, some d.nm)
def noFd : FuncData := PySem.W.fnOf "" "" { posonlyargs := [], args := [], vararg := none, kwonlyargs := [], kw_defaults := [], kwarg := none, defaults := [] } [] { kind := .function, names := [], isGenerator := false, isCoroutine := false, more := [] } .none .none .none .none none .none .none
def fdAt (K : PySem.W.Frag) (a : Addr) : FuncData := match K.lookup a with
  | some ⟨_, _, .func fd, _⟩ => fd
  | _ => noFd
def isNo : Value → Bool
  | .none => true
  | _ => false
def scB (N ps : List Str) (sc : Scope) : Bool := decide (sc.kind = .function) && !sc.isCoroutine && !sc.isGenerator && decide N.Nodup && decide (N.take ps.length = ps) &&
  (ps.all fun x => sc.names.lookup x == some .local || sc.names.lookup x == some .cell) && sc.names.all fun y => !(y.2 == .free)
def fdB (g : Gs) (K : PySem.W.Frag) (d : Fd) : Bool := match K.lookup (fAd K (atOf d)) with
  | some ⟨_, _, .func fd, _⟩ => (match fd.body with
      | .stmts body => ckSs g d.N fd.scope (muSl d.mu 0) d.bd body
      | _ => false) && (fd.globals == mainGlobals && fd.closure.isEmpty && fd.builtins == builtinsNs) && PySem.W.codeIn K fd.code fd.qualname && scB d.N d.ps fd.scope && plainP fd.params d.ps && isNo fd.defaults && decide (d.mu.length = d.ps.length) &&
      PySem.W.keepIn K (.ref (fAd K (atOf d))) && (match d.cl with
      | none => (Fa.glo d.nm).ok K
      | some C => (Fa.glo C).ok K && (if d.nm = ("__init__" : Str) then (Fa.mkr C).ok K else (Fa.cls C).ok K && (Fa.meth C d.nm).ok K))
  | _ => false
mutual
def relC (K : PySem.W.Frag) : D → Value → Bool
  | .non, u => match u with | .none => true | _ => false
  | .bl b, u => match u with | .bool c => b == c | _ => false
  | .int i, u => match u with | .int j _ => decide (i = j) | _ => false
  | .str z, u => match u with | .str y _ => decide (z = y) | _ => false
  | .tup l, u => match u with
    | .ref a => match K.lookup a with
      | some ⟨.type t, none, .seq its _, _⟩ => decide (t = "tuple") && decide (its.size ≤ lim) && relCs K l its.toList
      | _ => false
    | _ => false
  | .lst l, u => match u with
    | .ref a => match K.lookup a with
      | some ⟨.type t, none, .seq its _, _⟩ => decide (t = "list") && decide (its.size ≤ lim) && relCs K l its.toList
      | _ => false
    | _ => false
  | _, _ => false
def relCs (K : PySem.W.Frag) : List D → List Value → Bool
  | [], us => us.isEmpty
  | d :: l, us => match us with
    | u :: us => relC K d u && relCs K l us
    | [] => false
end
mutual
theorem relC_ok {K : PySem.W.Frag} {mg : MG} {F : Hp} : ∀ (d : D) (u : Value), relC K d u = true → ∃ v, RelV v u ∧ RelD K mg F v d
  | .non, u, h => by
    simp only [relC] at h
    split at h
    · exact ⟨.non, rfl, .non⟩
    · cases h
  | .bl b, u, h => by
    simp only [relC] at h
    split at h
    · rw [← eq_of_beq h]; exact ⟨.bl b, rfl, .bl b⟩
    · cases h
  | .int i, u, h => by
    simp only [relC] at h
    split at h
    · rw [← of_decide_eq_true h]; exact ⟨.int i, ⟨_, rfl⟩, .int i⟩
    · cases h
  | .str z, u, h => by
    simp only [relC] at h
    split at h
    · rw [← of_decide_eq_true h]; exact ⟨.str z, ⟨_, rfl⟩, .str z⟩
    · cases h
  | .tup l, u, h => by
    simp only [relC] at h
    split at h
    · rename_i a
      split at h
      · rename_i t its k sl hk
        simp only [Bool.and_eq_true, decide_eq_true_eq] at h
        obtain ⟨⟨h1, h2⟩, h3⟩ := h
        obtain ⟨vs, r1, r2⟩ := relCs_ok (mg := mg) (F := F) l its.toList h3
        exact ⟨.ref a, rfl, .tup (.inr ⟨⟨_, its, k, hk, congrArg Value.type h1, rfl, by rw [← lim_eq]; exact h2, r1⟩, fun o e => by rw [hk] at e; cases e; rfl⟩) r2⟩
      · cases h
    · cases h
  | .lst l, u, h => by
    simp only [relC] at h
    split at h
    · rename_i a
      split at h
      · rename_i t its k sl hk
        simp only [Bool.and_eq_true, decide_eq_true_eq] at h
        obtain ⟨⟨h1, h2⟩, h3⟩ := h
        obtain ⟨vs, r1, r2⟩ := relCs_ok (mg := mg) (F := F) l its.toList h3
        exact ⟨.ref a, rfl, .lst (.inr ⟨_, its, k, hk, congrArg Value.type h1, rfl, rfl, by rw [← lim_eq]; exact h2, r1⟩) r2⟩
      · cases h
    · cases h
  | .dct _ _, u, h => by simp [relC] at h
  | .ins _ _ _, u, h => by simp [relC] at h
theorem relCs_ok {K : PySem.W.Frag} {mg : MG} {F : Hp} : ∀ (l : List D) (us : List Value), relCs K l us = true → ∃ vs, Vals vs us ∧ RelL K mg F vs l
  | [], us, h => by
    have : us = [] := by simpa [relCs] using h
    subst this
    exact ⟨[], .nil, .nil⟩
  | d :: l, us, h => by
    simp only [relCs] at h
    split at h
    · rename_i u us
      simp only [Bool.and_eq_true] at h
      obtain ⟨v, r1, r2⟩ := relC_ok (mg := mg) (F := F) d u h.1
      obtain ⟨vs, s1, s2⟩ := relCs_ok (mg := mg) (F := F) l us h.2
      exact ⟨v :: vs, .cons r1 s1, .cons r2 s2⟩
    · cases h
end
def conB (K : PySem.W.Frag) (p : Str × D) : Bool := match PySem.W.nsIn K mainGlobals p.1 with
  | some (some u) => relC K p.2 u
  | _ => false
def klsB (K : PySem.W.Frag) (C : Str) : Bool := (Fa.glo C).ok K && (Fa.cls C).ok K && eqO (PySem.W.findIn K (.ref (ga K C)) "__class__") (some (some (.builtin "object.__class__"))) &&
  eqO (PySem.W.specialIn K (.builtin "object.__class__") "__get__") (some (some (.builtin "getset_descriptor.__get__"))) && decide (PySem.W.takesIn K (.builtin "object.__class__") = some true) && decide (PySem.W.mroIn K (ga K C) (.type "object") = some true) &&
  (tyNames.all fun n => decide (PySem.W.kitOne K (.ref (ga K C)) (.type n) = some false)) && (("NoneType" :: "dict" :: tyNames).all fun n => decide (PySem.W.kitOne K (.type n) (.ref (ga K C)) = some false)) && decide (PySem.W.kitOne K (.ref (ga K C)) (.ref (ga K C)) = some true)
def xnV (K : PySem.W.Frag) (B : Str) : Value := if B = ("ValueError" : Str) then .type "ValueError" else .ref (ga K B)
def xnB (K : PySem.W.Frag) (B : Str) : Bool := if B = ("ValueError" : Str) then (Fa.free B).ok K else (Fa.glo B).ok K
def xcB (g : Gs) (K : PySem.W.Frag) (x : Xd) : Bool := (Fa.glo x.C).ok K && (PySem.W.clsIn K (ga K x.C)).isSome && eqO (PySem.W.findIn K (.ref (ga K x.C)) "__getattribute__") (some (some (.builtin "BaseException.__getattribute__"))) &&
  eqO (PySem.W.findIn K (.ref (ga K x.C)) "__getattr__") (some none) && decide (PySem.W.subIn K (.ref (ga K x.C)) (.type "BaseException") = some true) && PySem.W.hasDictIn K (ga K x.C) &&
  eqO (PySem.W.findIn K (.ref (ga K x.C)) "__class__") (some (some (.builtin "object.__class__"))) && eqO (PySem.W.specialIn K (.builtin "object.__class__") "__get__") (some (some (.builtin "getset_descriptor.__get__"))) &&
  decide (PySem.W.takesIn K (.builtin "object.__class__") = some true) && decide (PySem.W.mroIn K (ga K x.C) (.type "object") = some true) && (x.fs.all fun f => eqO (PySem.W.findIn K (.ref (ga K x.C)) f) (some none)) &&
  g.xn.all fun B => decide (PySem.W.exmOne K (.ref (ga K x.C)) (xnV K B) = some (decide (B ∈ x.sup))) && decide (PySem.W.kitOne K (.ref (ga K x.C)) (xnV K B) = some (decide (B ∈ x.sup)))
def oexB (K : PySem.W.Frag) (Ca : Addr) : Bool := (match K.lookup Ca with
  | some ⟨.type t, _, .cls cd, sl⟩ => decide (t = "type") && (match cd.mro, sl.toList with
    | .ref C' :: bm, [_, _, _, _, some (.builtin n), _] => decide (C' = Ca) && decide (n = "ValueError.__new__") && !cd.hasDel && cd.hasDict && PySem.HandSPX.refsVE bm
    | _, _ => false)
  | _ => false) && eqO (PySem.W.findIn K (.ref Ca) "__setattr__") (some (some (.builtin "object.__setattr__"))) && decide (PySem.W.subIn K (.ref Ca) (.type "BaseException") = some true) && decide (PySem.W.typeIn K (.ref Ca) = some (.type "type")) && PySem.W.keepIn K (.ref Ca)
def iscB (ps : List Str) (sc : Scope) : Bool := decide (sc.kind = .function) && !sc.isCoroutine && !sc.isGenerator && decide ps.Nodup && (ps.all fun x => sc.names.lookup x == some .local) && (sc.names.all fun y => !(y.2 == .cell)) &&
  (sc.names.all fun y => !(y.2 == .free) || y.1 == ("__class__" : Str)) && (sc.names.lookup ("super" : Str) == some .globalImplicit) && (sc.names.lookup ("__class__" : Str) == some .free)
def iniB (file : Str) (K : PySem.W.Frag) (Ca : Addr) (fs : List Str) (fd : FuncData) : Bool := match fd.body with
  | .stmts (.Expr (.Call (.Attribute (.Call (.Name sx _) [] [] _) ix p2) [.Constant (.str _) _ _] [] p4) _ :: rest) => (sx == ("super" : Str)) && (ix == ("__init__" : Str)) && (p2.endLine == p4.line) && (fd.globals == mainGlobals && fd.builtins == builtinsNs) && (match fd.closure, fd.code with
      | [(k, cc)], .ref cda => (k == ("__class__" : Str)) && PySem.W.codeIn K (.ref cda) fd.qualname && (match K.lookup cda with
          | some ⟨_, _, .fields vs, _⟩ => (match (vs[2]? : Option Value) with
            | some (Value.str f _) => file == f
            | _ => false)
          | _ => false) && (match K.lookup cc with
          | some ⟨_, _, .cell (some (.ref D)), _⟩ => decide (D = Ca)
          | _ => false)
      | _, _ => false) && plainP fd.params (fd.params.args.map (·.arg)) && isNo fd.defaults && iscB (fd.params.args.map (·.arg)) fd.scope && decide ((fd.params.args.map (·.arg)).length = fs.length + 1) && rsB (fd.params.args.map (·.arg)) fd.scope ((List.range fs.length).map fun i => (fs.getD i "", i + 1)) rest
  | _ => false
def raB (file : Str) (K : PySem.W.Frag) (x : Xd) : Bool := oexB K (ga K x.C) && !x.fs.isEmpty && decide (x.fs.length ≤ 800) && (Fa.free "super").ok K && eqO (PySem.W.nsIn K cStatics "thirdparty.any") (some none) &&
  eqO (PySem.W.ks_superIn K (ga K x.C) (ga K x.C) "__init__") (some (some (.builtin "ValueError.__init__"))) && decide (PySem.W.subIn K (.ref (ga K x.C)) (.type "ValueError") = some true) && decide (PySem.W.mroIn K (ga K x.C) (.ref (ga K x.C)) = some true) &&
  (match PySem.W.findIn K (.ref (ga K x.C)) "__init__" with
  | some (some (.ref fI)) => decide (PySem.W.typeIn K (.ref fI) = some (.type "function")) && (match K.lookup fI with
    | some ⟨_, _, .func fd, _⟩ => iniB file K (ga K x.C) x.fs fd
    | _ => false)
  | _ => false)
def gB (g : Gs) (file : Str) (K : PySem.W.Frag) : Bool := (g.fd.all fun d => fdB g K d) && (g.na.all fun p => (Fa.glo p.1).ok K && (Fa.cls p.1).ok K && (Fa.noat p.1 p.2).ok K) && (g.cls.all fun C => klsB K C) && (g.free.all fun x => (Fa.free x).ok K) && (g.con.all fun p => conB K p) &&
  (g.xn.all fun B => xnB K B) && (g.xc.all fun x => xcB g K x && raB file K x)
section
variable {g : Gs} {file : Str} {K : PySem.W.Frag} {h : Heap} {mg : Str → Option Value}
def adM (g : Gs) (K : PySem.W.Frag) (f : Nat) : Addr := match g.fd[f]? with
  | some d => fAd K (atOf d)
  | none => 0
def fdM (g : Gs) (K : PySem.W.Frag) (f : Nat) : FuncData := fdAt K (adM g K f)
theorem adM_eq {f : Nat} {d : Fd} (e : g.fd[f]? = some d) : adM g K f = fAd K (atOf d) := by unfold adM; rw [e]
theorem scB_ok {N ps : List Str} {sc : Scope} (h : scB N ps sc = true) : FnScope N ps sc := by
  unfold scB at h
  simp only [Bool.and_eq_true, decide_eq_true_eq, Bool.not_eq_true', List.all_eq_true, Bool.or_eq_true, beq_iff_eq, beq_eq_false_iff_ne] at h
  obtain ⟨⟨⟨⟨⟨⟨h1, h2⟩, h3⟩, h4⟩, h5⟩, h6⟩, h7⟩ := h
  exact ⟨h1, h2, h3, h4, h5, h6, h7⟩
theorem isNo_ok {v : Value} (h : isNo v = true) : v = .none := by
  cases v <;> first | rfl | cases h
/-- a def's object -/
theorem fdB_ok {d : Fd} (h : fdB g K d = true) : DefOk g K d (fAd K (atOf d)) (fdAt K (fAd K (atOf d))) ∧ Binds K (fdAt K (fAd K (atOf d))) d.ps [] ∧ d.mu.length = d.ps.length ∧ PySem.W.keepIn K (.ref (fAd K (atOf d))) = true ∧
    (match d.cl with
      | none => (Fa.glo d.nm).ok K
      | some C => (Fa.glo C).ok K && (if d.nm = ("__init__" : Str) then (Fa.mkr C).ok K else (Fa.cls C).ok K && (Fa.meth C d.nm).ok K)) = true := by
  unfold fdB at h
  split at h
  · rename_i oc od fd sl hk
    simp only [Bool.and_eq_true, beq_iff_eq, List.isEmpty_iff, decide_eq_true_eq] at h
    obtain ⟨⟨⟨⟨⟨⟨⟨⟨h1, ⟨h2, h3⟩, h4⟩, h5⟩, h6⟩, h7⟩, h8⟩, h9⟩, h10⟩, h11⟩ := h
    have e : fdAt K (fAd K (atOf d)) = fd := by unfold fdAt; rw [hk]
    rw [e]
    split at h1
    · rename_i body hb
      have S := scB_ok h6
      refine ⟨⟨fd.name, fd.qualname, fd.params, body, fd.scope, fd.defaults, fd.kwdefaults, fd.doc, fd.pyModule, fd.code, fd.closureTuple, oc, fd.annotations, od, sl, ?_, hk, h5, S, h1⟩, binds_all h7 (isNo_ok h8) (by rw [← S.pre]; exact S.nd.sublist (List.take_sublist _ _)), h9, h10, h11⟩
      obtain ⟨n1, n2, n3, n4, n5, n6, n7, n8, n9, n10, n11, n12, n13, n14, n15⟩ := fd
      dsimp only at hb h2 h3 h4
      subst hb h2 h3 h4
      rfl
    · cases h1
  · cases h
theorem fdB_all {d : Fd} (h : fdB g K d = true) (us : List Value) (hl : us.length = d.ps.length) (j : Nat) : bindArgs (fdAt K (fAd K (atOf d))) ⟨us.take j, (d.ps.drop j).zip (us.drop j)⟩ = pure (d.ps.zip us) := by
  unfold fdB at h
  split at h
  · rename_i oc od fd sl hk
    simp only [Bool.and_eq_true, beq_iff_eq, List.isEmpty_iff, decide_eq_true_eq] at h
    obtain ⟨⟨⟨⟨⟨⟨⟨⟨h1, ⟨h2, h3⟩, h4⟩, h5⟩, h6⟩, h7⟩, h8⟩, h9⟩, h10⟩, h11⟩ := h
    have e : fdAt K (fAd K (atOf d)) = fd := by unfold fdAt; rw [hk]
    rw [e]
    have S := scB_ok h6
    exact bind_kw j h7 (isNo_ok h8) (by rw [← S.pre]; exact S.nd.sublist (List.take_sublist _ _)) hl
  · cases h
theorem xnB_ok (X : K.In h) (G : h.Ns mainGlobals mg) {B : Str} (e : xnB K B = true) : XnV mg B (xnV K B) := by
  unfold xnB at e
  unfold xnV
  split at e
  · rename_i hb
    rw [if_pos hb]
    exact .inr ⟨He.free_ok X G e, hb, rfl⟩
  · rename_i hb
    rw [if_neg hb]
    exact .inl ⟨He.glo_ok X G e, _, rfl⟩
theorem oexB_ok {Ca : Addr} (e : oexB K Ca = true) : OexC K Ca := by
  unfold oexB at e
  simp only [Bool.and_eq_true, decide_eq_true_eq] at e
  obtain ⟨⟨⟨⟨h1, h2⟩, h3⟩, h4⟩, h5⟩ := e
  refine ⟨?_, eqO_ok h2, h3, h4, h5⟩
  split at h1
  · rename_i t dd cd sl hk
    simp only [Bool.and_eq_true, decide_eq_true_eq] at h1
    obtain ⟨ht, h1⟩ := h1
    subst ht
    split at h1
    · rename_i C' bm k0 k1 k2 k3 n k5 hm hs
      simp only [Bool.and_eq_true, decide_eq_true_eq, Bool.not_eq_true'] at h1
      obtain ⟨⟨⟨⟨e1, e2⟩, e3⟩, e4⟩, e5⟩ := h1
      obtain ⟨nm, bs, mro, ns, qn, hd, sn, sub, ab, col, del⟩ := cd
      dsimp only at hm e3 e4
      subst hm e3 e4 e1 e2
      have hsl : sl = #[k0, k1, k2, k3, some (.builtin "ValueError.__new__"), k5] := by
        rw [← Array.toArray_toList (xs := sl), hs]
      subst hsl
      exact ⟨nm, qn, ns, bs, bm, sn, sub, ab, col, dd, k0, k1, k2, k3, k5, hk, e5⟩
    · cases h1
  · cases h1
theorem iscB_ok {ps : List Str} {sc : Scope} (h : iscB ps sc = true) : ISc ps sc := by
  unfold iscB at h
  simp only [Bool.and_eq_true, decide_eq_true_eq, Bool.not_eq_true', List.all_eq_true, Bool.or_eq_true, beq_iff_eq, beq_eq_false_iff_ne] at h
  obtain ⟨⟨⟨⟨⟨⟨⟨⟨h1, h2⟩, h3⟩, h4⟩, h5⟩, h6⟩, h7⟩, h8⟩, h9⟩ := h
  exact ⟨h1, h2, h3, h4, h5, h6, fun y m e => (h7 y m).elim (fun z => absurd e z) id, h8, h9⟩
theorem raB_ok {P : Program} (X : K.In h) (G : h.Ns mainGlobals mg) (hfile : P.main.file = file) (htop : (P.main.scope.names.lookup ("super" : Str)).isSome = false) {x : Xd} (hf : ∀ f ∈ x.fs, PySem.W.findIn K (.ref (ga K x.C)) f = some none) (e : raB file K x = true) :
    ∃ fI fd ps, IniF P K mg (ga K x.C) fI fd x.fs ps ∧ Binds K fd ps [] := by
  unfold raB at e
  simp only [Bool.and_eq_true, decide_eq_true_eq, Bool.not_eq_true'] at e
  obtain ⟨⟨⟨⟨⟨⟨⟨⟨h1, h2⟩, h3⟩, h4⟩, h5⟩, h6⟩, h7⟩, h8⟩, h9⟩ := e
  split at h9
  · rename_i fI hI
    simp only [Bool.and_eq_true, decide_eq_true_eq] at h9
    obtain ⟨hT, h9⟩ := h9
    split at h9
    · rename_i oc od fd sl hk
      unfold iniB at h9
      split at h9
      · rename_i sx p0 p1 ix p2 z kk p3 p4 p5 rest hb
        simp only [Bool.and_eq_true, beq_iff_eq, decide_eq_true_eq] at h9
        obtain ⟨⟨⟨⟨⟨⟨⟨⟨⟨e1, e2⟩, e3⟩, e4, e5⟩, e6⟩, e7⟩, e8⟩, e9⟩, e10⟩, e11⟩ := h9
        split at e6
        · rename_i k cc cda hcl hcd
          simp only [Bool.and_eq_true, beq_iff_eq] at e6
          obtain ⟨⟨⟨f1, f2⟩, f3⟩, f4⟩ := e6
          split at f3
          · rename_i c1 c2 vs c3 hk2
            split at f3
            · rename_i f t hv
              split at f4
              · rename_i d1 d2 D d3 hk3
                have f4 := of_decide_eq_true f4
                have I := iscB_ok e9
                obtain ⟨n1, n2, n3, n4, n5, n6, n7, n8, n9, n10, n11, n12, n13, n14, n15⟩ := fd
                dsimp only at hb hcl hcd e4 e5 e7 e8 e9 e10 e11 f2 I
                subst hb hcl hcd e4 e5 e1 e2 f1 f4
                have e8 := isNo_ok e8
                subst e8
                cases hp : n3.args with
                | nil => rw [hp] at e10; simp at e10
                | cons ar as =>
                  have hpo : n3.posonlyargs = [] := by
                    unfold plainP at e7
                    simp only [Bool.and_eq_true, List.isEmpty_iff] at e7
                    exact e7.1.1.1.1
                  exact ⟨fI, _, _, ⟨oexB_ok h1, hI, hT, ⟨n1, n2, n3, ar, z, kk, p0, p1, p2, p3, p4, p5, rest, n5, .none, n9, n10, n11, n14, oc, c1, d1, n12, od, c2, d2, sl, c3, d3, cc, cda, vs, f, t, rfl, hk, f2, I, by rw [hpo, hp]; rfl, by rw [hp]; rfl, hk2, hv, by rw [hfile]; exact beq_iff_eq.mpr (eq_of_beq (by simpa using f3)), by simpa using e3, htop, hk3, e11⟩,
                    e10, by intro z; rw [z] at h2; simp at h2, h3, He.free_ok X G h4, eqO_ok h5, eqO_ok h6, h7, h8, hf⟩, binds_all e7 rfl I.nd⟩
              · cases f4
            · cases f3
          · cases f3
        · cases e6
      · cases h9
    · cases h9
  · cases h9
theorem gB_ok (X : K.In h) (G : h.Ns mainGlobals mg) (e : gB g file K = true) : GOk g (adM g K) (fdM g K) K mg ∧ ∀ (f : Nat) (d : Fd), g.fd[f]? = some d → DefOk g K d (adM g K f) (fdM g K f) := by
  unfold gB at e
  simp only [Bool.and_eq_true, List.all_eq_true] at e
  obtain ⟨⟨⟨⟨⟨⟨h1, h2⟩, h3⟩, h4⟩, h5⟩, h6⟩, h7⟩ := e
  have fd : ∀ {f : Nat} {d : Fd}, g.fd[f]? = some d → _ := fun {f d} e => fdB_ok (h1 d (List.mem_of_getElem? e))
  refine ⟨⟨fun f d e hc => ?_, fun f d e => ?_, fun f d e s us j hl => ?_, fun f d e => (fd e).2.2.1, fun f d C e hc hn => ?_, fun f d C e hc hn => ?_, fun p hp => ?_, fun C hC => ?_, fun x hx => He.free_ok X G (h4 x hx), fun p hp => ?_, fun B hB => ⟨_, xnB_ok X G (h6 B hB)⟩, fun x hx => ?_⟩, fun f d e => ?_⟩
  · obtain ⟨k1, k2, k3, k4, k5⟩ := fd e
    rw [adM_eq e]
    rw [hc] at k5
    refine ⟨?_, k4⟩
    have := He.glo_ok X G k5
    rw [this]
    unfold atOf
    rw [hc]
    rfl
  · unfold fdM
    rw [adM_eq e]
    exact (fd e).2.1
  · unfold fdM
    rw [adM_eq e]
    exact .of_eq (fdB_all (h1 d (List.mem_of_getElem? e)) us hl j)
  · obtain ⟨k1, k2, k3, k4, k5⟩ := fd e
    rw [adM_eq e]
    rw [hc] at k5
    dsimp only at k5
    rw [if_neg hn] at k5
    simp only [Bool.and_eq_true] at k5
    refine ⟨ga K C, He.glo_ok X G k5.1, He.cls_ok k5.2.1, ?_⟩
    have := He.meth_ok k5.2.2
    unfold atOf
    rw [hc]
    exact this
  · obtain ⟨k1, k2, k3, k4, k5⟩ := fd e
    rw [adM_eq e]
    rw [hc] at k5
    dsimp only at k5
    rw [if_pos hn] at k5
    simp only [Bool.and_eq_true] at k5
    refine ⟨ga K C, He.glo_ok X G k5.1, ?_⟩
    have := He.mkr_ok k5.2
    unfold atOf
    rw [hc, hn]
    exact this
  · obtain ⟨⟨k1, k2⟩, k3⟩ := h2 p hp
    exact ⟨ga K p.1, He.glo_ok X G k1, He.cls_ok k2, He.noat_ok k3⟩
  · have k := h3 C hC
    unfold klsB at k
    simp only [Bool.and_eq_true, List.all_eq_true, decide_eq_true_eq] at k
    obtain ⟨⟨⟨⟨⟨⟨⟨⟨k1, k2⟩, k3⟩, k4⟩, k5⟩, k6⟩, k7⟩, k8⟩, k9⟩ := k
    exact ⟨ga K C, He.glo_ok X G k1, He.cls_ok k2, eqO_ok k3, eqO_ok k4, k5, k6, k7, k8, k9⟩
  · have k := h5 p hp
    unfold conB at k
    split at k
    · rename_i u hu
      exact ⟨u, PySem.W.mg_of X G hu, fun xa F => relC_ok p.2 u k⟩
    · cases k
  · have k := (h7 x hx).1
    unfold xcB at k
    simp only [Bool.and_eq_true, List.all_eq_true, decide_eq_true_eq] at k
    obtain ⟨⟨⟨⟨⟨⟨⟨⟨⟨⟨⟨k1, k2⟩, k3⟩, k4⟩, k5⟩, k6⟩, k7⟩, k8⟩, k9⟩, k10⟩, k11⟩, k12⟩ := k
    exact ⟨ga K x.C, He.glo_ok X G k1, ⟨k2, eqO_ok k3, eqO_ok k4, k5, k6, eqO_ok k7, eqO_ok k8, k9, k10⟩, fun f hf => eqO_ok (k11 f hf), fun B hB => ⟨_, xnB_ok X G (h6 B hB), (k12 B hB).1, (k12 B hB).2⟩⟩
  · unfold fdM
    rw [adM_eq e]
    exact (fd e).1
theorem gB_ra {P : Program} {w : World} {base : Heap} (X : K.In h) (G : h.Ns mainGlobals mg) (hfile : P.main.file = file) (htop : (P.main.scope.names.lookup ("super" : Str)).isSome = false) (e : gB g file K = true) : ∀ x ∈ g.xc, ∃ Ca, mg x.C = some (.ref Ca) ∧ RaOk P w K mg base Ca x.fs := fun x hx => by
  unfold gB at e
  simp only [Bool.and_eq_true, List.all_eq_true] at e
  obtain ⟨k1, k2⟩ := e.2 x hx
  unfold xcB at k1
  simp only [Bool.and_eq_true, List.all_eq_true, decide_eq_true_eq] at k1
  obtain ⟨⟨⟨⟨⟨⟨⟨⟨⟨⟨⟨j1, _⟩, _⟩, _⟩, _⟩, _⟩, _⟩, _⟩, _⟩, _⟩, j11⟩, _⟩ := k1
  obtain ⟨fI, fd, ps, F, b⟩ := raB_ok (P := P) (mg := mg) X G hfile htop (fun f hf => eqO_ok (j11 f hf)) k2
  exact ⟨ga K x.C, He.glo_ok X G j1, ra_of F b⟩
end
end Mp

/-! Mp27: a law, by the evaluator. -/
namespace Mp
open PySem PySem.Spec PyProof.Rows L2
/-- the head's look -/
def hookM (n : Nat) (g : Gs) (file : Str) : PySem.W.Hook where
  α := Bool
  obs := fun s => gB g file (He.frG s.heap.get? (cStatics :: He.asD s.heap.get? n))
  val := fun _ => true
  says := fun _ h => ∃ K : PySem.W.Frag, K.In h ∧ gB g file K = true
  of := fun _ _ e => ⟨_, He.frG_in, e⟩
  keeps := fun _ _ _ ⟨K, hK, c⟩ k => ⟨K, PySem.W.Frag.In.keeps hK k, c⟩
def obM (n : Nat) (g : Gs) (file : Str) (s : PySem.W.SharedT) : Bool := gB g file (He.frG (HandSHeadRun.getT s) (cStatics :: He.asD (HandSHeadRun.getT s) n))
theorem obM_eq {n : Nat} {g : Gs} {file : Str} (s : PySem.W.SharedT) : obM n g file s = (hookM n g file).obs s.abs := by
  have e : HandSHeadRun.getT s = s.abs.heap.get? := funext (HandSHeadRun.getT_eq s)
  unfold obM
  rw [e] <;> rfl
theorem relL_int {K : PySem.W.Frag} {mg : MG} {F : Hp} : ∀ ns : List Int, RelL K mg F (ns.map V.int) (ns.map D.int)
  | [] => .nil
  | n :: ns => .cons (.int n) (relL_int ns)
/-- the law holds if the evaluator says so of every script -/
theorem mp_walk {l : PySem.W.OpenLaw} {N i : Nat} {q : Program} {loose : List Str} {XP : (Str → Option Value) → Heap → Prop} {d : DefRec} {g : Gs} {file : Str} {nh fu : Nat} {df : Fd} {x : Str}
    (hn : l.most = some 63) (hdf : d.params.defaults = []) (hi : g.fd[i]? = some df) (hx : df.ps = [x]) (hdn : d.name = df.nm) (hcl : df.cl = none) (hr : Room (2 * N + 1) callerA) (hfile : l.prog.main.file = file) (htop : (l.prog.main.scope.names.lookup ("super" : Str)).isSome = false)
    (law : ∀ ns : List Int, ns.length ≤ 63 → ∃ ss, run g fu N i [.val (.lst (ns.map .int))] = .ok (.val (.bl true)) ss) :
    PySem.W.WalkO q loose XP (hookM nh g file).says l.row.toRowW d [] (fun f vs => PySem.call f vs) := by
  refine Att.attach_call hn hdf fun w s₀ s₁ mg mb fa o pm cd doc a vs ns G Y ho hd hcd hmg hobj hints hlen hg => ?_
  obtain ⟨K, KX, c⟩ := Y
  obtain ⟨GO, DO⟩ := gB_ok KX G.T.g c
  have e1 := (GO.fn i df hi hcl).1
  rw [← hdn, hmg] at e1
  have efa : fa = adM g K i := by cases e1; rfl
  subst efa
  have hb : ∀ (s : Shared) (u : Value), BindsTo s (fdM g K i) ⟨[u], []⟩ [(x, u)] := fun s u => by
    unfold gB at c
    simp only [Bool.and_eq_true, List.all_eq_true] at c
    have k := fdB_all (c.1.1.1.1.1.1 df (List.mem_of_getElem? hi)) [u] (by rw [hx]; rfl) 1
    rw [hx] at k
    unfold fdM
    rw [adM_eq hi]
    exact .of_eq k
  refine law_call (CX := L2N.CX l.prog w) (k := 2 * N + 1) KX G.T.g G.T.b G.T.builtins G.T.nolimit hg hobj hints (Nat.le_trans hlen (by rw [sizeLine_eq]; decide)) hr (fun base hK hG => ?_) hb (sp := spC K ⟨mg, none⟩ 1 (run g fu N i)) (fun H hO hS => ?_) (fun H e s' z => ?_)
  · have f := fn_ok (P := l.prog) (w := w) (base := base) GO fu DO (gB_ra KX G.T.g hfile htop c) N i df hi
    rw [hx] at f
    exact f
  · obtain ⟨ss', hrun⟩ := law ns hlen
    classical
    refine ⟨rfl, (fun b => if b = a ∧ Rd H a (.lst (ns.map V.int)) then some (.lst (ns.map V.int)) else none), [.val (.lst (ns.map .int))], ?_, ?_⟩
    · refine ⟨rfl, ?_, ?_, ?_, ?_, ?_⟩
      · intro b o e
        dsimp only at e
        split at e
        · rename_i hb
          cases e
          rw [hb.1]
          exact hb.2.imp id fun z => ⟨trivial, z⟩
        · cases e
      · intro j d e
        cases j with
        | zero =>
          cases e
          refine ⟨.ref a, rfl, .lst (xs := ns.map V.int) ?_ (relL_int ns)⟩
          rcases hS with z | z
          · exact .inl (if_pos ⟨rfl, z⟩)
          · exact .inr z
        | succ j => cases e
      · intro j d e
        cases j with
        | zero => cases e
        | succ j => cases e
      · intro j l d d' p e
        cases j with
        | zero => cases e
        | succ j => cases e
      · intro j x e
        cases j with
        | zero => cases e
        | succ j => cases e
    · rw [hrun]
      intro v F' H' p r
      cases r
      rfl
  · obtain ⟨_, _, _, _, _, _, _, _, _, _, _, _, z⟩ := z
    exact z
end Mp

namespace K05
open Mp
def G_0_b0 : Sts := .cons (.ifs (.no (.va (.cal 16 (.cons (.cal 3 (.cons (.var 12) (.cons (.var 2) (.cons (.var 11) (.cons (.ix (.lst (.cons (.con (D.str (tx [89]))) (.cons (.var 7) .nil))) (.cal 1 (.cons (.var 0) (.cons (.var 1) (.cons (.con (D.int (2))) .nil))))) (.cons (.var 14) .nil)))))) (.cons (.tup (.cons (.con (D.str (tx [110, 111, 100, 101]))) (.cons (.var 11) .nil))) .nil))))) (.cons (.ret (.con (D.bl false))) .nil) (.nil)) (.cons (.ifs (.no (.va (.cal 16 (.cons (.cal 3 (.cons (.var 12) (.cons (.var 2) (.cons (.var 7) (.cons (.var 11) (.cons (.ix (.var 8) (.con (D.int (1)))) .nil)))))) (.cons (.tup (.cons (.con (D.str (tx [110, 111, 100, 101]))) (.cons (.var 11) .nil))) .nil))))) (.cons (.ret (.con (D.bl false))) .nil) (.nil)) .nil)
def G_0_i1 : Te := .va (.isi (.var 19) [.b "str"] true)
def G_0_e2 : Ex := .var 19
def G_0_l3 : Ex := .lc G_0_e2 [("_law_label", 19)] (.one (.ix (.var 8) (.con (D.int (1))))) [19] true (.so G_0_i1)
def G_0_b4 : Sts := .cons (.asg (.nm 17) (.tup (.cons (.con (D.str (tx []))) (.cons (.cal 14 (.cons (.var 6) (.cons (.var 7) (.cons (.var 16) (.cons (.var 9) (.cons (.con (D.bl true)) .nil)))))) .nil)))) (.cons (.asg (.nm 18) (.tup (.cons (.con (D.str (tx []))) (.cons (.cal 14 (.cons (.var 6) (.cons (.var 7) (.cons (.var 16) (.cons (.var 9) (.cons (.con (D.bl false)) .nil)))))) .nil)))) (.cons (.ifs (.no (.va (.cal 16 (.cons (.cal 3 (.cons (.con (D.int (0))) (.cons (.var 2) (.cons (.var 7) (.cons (.var 16) (.cons (.var 9) .nil)))))) (.cons (.var 17) .nil))))) (.cons (.ret (.con (D.bl false))) .nil) (.nil)) (.cons (.ifs (.no (.va (.cal 16 (.cons (.cal 3 (.cons (.con (D.int (1))) (.cons (.var 2) (.cons (.var 7) (.cons (.var 16) (.cons (.var 9) .nil)))))) (.cons (.var 18) .nil))))) (.cons (.ret (.con (D.bl false))) .nil) (.nil)) .nil)))
def G_0_b5 : Sts := .cons (.fo [16] true (.one (.lst (.cons (.var 15) (.cons (.ix (.var 5) (.cal 1 (.cons (.var 0) (.cons (.var 1) (.cons (.bi .len (.cons (.var 5) .nil)) .nil))))) .nil)))) G_0_b4) .nil
def G_0_b6 : Sts := .cons (.asg (.nm 7) (.ix (.var 5) (.cal 1 (.cons (.var 0) (.cons (.var 1) (.cons (.bi .len (.cons (.var 5) .nil)) .nil)))))) (.cons (.asg (.tu [14, 15]) (.cal 19 (.cons (.var 0) (.cons (.var 1) (.cons (.var 6) (.cons (.var 7) (.cons (.cmp .eq (.bin .mod (.bi .int (.cons (.var 4) .nil)) (.con (D.int (2)))) (.con (D.int (0)))) .nil))))))) (.cons (.asg (.nm 8) (.lst (.cons (.var 14) (.cons (.cal 18 (.cons (.var 0) (.cons (.var 1) (.cons (.var 14) (.cons (.var 3) .nil))))) (.cons (.cal 18 (.cons (.var 0) (.cons (.var 1) (.cons (.var 14) (.cons (.var 3) .nil))))) .nil))))) (.cons (.fo [9] true (.one (.var 8)) G_0_b5) (.cons (.ifs (.no (.va (.cal 16 (.cons (.cal 3 (.cons (.con (D.int (3))) (.cons (.var 2) (.cons (.var 7) (.cons (.var 15) (.cons (.var 14) .nil)))))) (.cons (.tup (.cons (.con (D.str (tx []))) (.cons (.cal 14 (.cons (.var 6) (.cons (.var 7) (.cons (.var 15) (.cons (.var 14) (.cons (.con (D.bl true)) .nil)))))) .nil))) .nil))))) (.cons (.ret (.con (D.bl false))) .nil) (.nil)) (.cons (.ifs (.no (.va (.cal 16 (.cons (.cal 3 (.cons (.con (D.int (4))) (.cons (.var 2) (.cons (.var 7) (.cons (.var 15) (.cons (.var 14) .nil)))))) (.cons (.tup (.cons (.con (D.str (tx []))) (.cons (.cal 14 (.cons (.var 6) (.cons (.var 7) (.cons (.var 15) (.cons (.var 14) (.cons (.con (D.bl false)) .nil)))))) .nil))) .nil))))) (.cons (.ret (.con (D.bl false))) .nil) (.nil)) (.cons (.asg (.nm 10) (.bi .list (.cons (.var 14) .nil))) (.cons (.ifs (.va (.cmp .eq (.cal 1 (.cons (.var 0) (.cons (.var 1) (.cons (.con (D.int (3))) .nil)))) (.con (D.int (1))))) (.cons (.asg (.nm 10) (.ife (.va (.isi (.ix (.var 8) (.con (D.int (1)))) [.b "tuple"] true)) (G_0_l3) (.var 10))) .nil) (.nil)) (.cons (.ifs (.no (.va (.cal 16 (.cons (.cal 3 (.cons (.con (D.int (2))) (.cons (.var 2) (.cons (.var 7) (.cons (.var 7) (.cons (.var 10) .nil)))))) (.cons (.cal 17 (.cons (.var 6) (.cons (.var 10) .nil))) .nil))))) (.cons (.ret (.con (D.bl false))) .nil) (.nil)) (.cons (.ifs (.no (.va (.cal 16 (.cons (.cal 3 (.cons (.con (D.int (2))) (.cons (.var 2) (.cons (.var 7) (.cons (.var 7) (.cons (.bi .tuple (.cons (.var 10) .nil)) .nil)))))) (.cons (.cal 17 (.cons (.var 6) (.cons (.var 10) .nil))) .nil))))) (.cons (.ret (.con (D.bl false))) .nil) (.nil)) (.cons (.asg (.nm 11) (.ix (.lst (.cons (.con (D.str (tx [122, 122, 122, 122, 122, 122, 122, 122]))) (.cons (.con (D.str (tx []))) (.cons (.con (D.int (5))) (.cons (.con (D.non)) (.cons (.lst (.cons (.con (D.str (tx [97]))) .nil)) .nil)))))) (.cal 1 (.cons (.var 0) (.cons (.var 1) (.cons (.con (D.int (5))) .nil)))))) (.cons (.ifs (.va (.cmp .isin (.var 11) (.var 5))) (.cons (.asg (.nm 11) (.con (D.str (tx [90])))) .nil) (.nil)) (.cons (.fo [12] true (.rng1 (.con (D.int (2)))) G_0_b0) .nil))))))))))))
def G_0_e7 : Ex := .ix (.var 13) (.con (D.int (0)))
def G_0_l8 : Ex := .lc G_0_e7 [("_law_edge_here", 13)] (.one (.var 6)) [13] true .no
def G_0 : Fd := ⟨"law", none, ["_law_script"], ["_law_script", "_law_state", "_law_graph", "_law_known", "_law_turn", "_law_nodes", "_law_edges", "_law_s", "_law_values", "_law_value", "_law_row", "_law_odd", "_law_kind", "_law_edge_here", "_law_labels", "_law_end_here", "_law_t", "_law_ways", "_law_walks", "_law_label"], [false], .cons (.asg (.nm 1) (.dd [.inr (tx [114, 101, 115, 116]), .inr (tx [110, 101, 120, 116]), .inr (tx [99, 111, 117, 110, 116]), .inr (tx [100, 105, 103, 105, 116, 115])] (.cons (.con (D.int (0))) (.cons (.con (D.int (0))) (.cons (.con (D.int (0))) (.cons (.con (D.int (0))) .nil)))))) (.cons (.asg (.tu [5, 6]) (.cal 27 (.cons (.var 0) (.cons (.var 1) (.cons (.con (D.int (7))) (.cons (.con (D.int (12))) .nil)))))) (.cons (.ifs (.va (.cmp .eq (.bi .len (.cons (.var 5) .nil)) (.con (D.int (0))))) (.cons (.asg (.nm 5) (.tup (.cons (.con (D.str (tx [97]))) .nil))) .nil) (.nil)) (.cons (.asg (.nm 2) (.mak "Graph" 20 (.cons (.var 5) (.cons (.var 6) .nil)))) (.cons (.asg (.nm 3) (G_0_l8)) (.cons (.fo [4] true (.rng1 (.con (D.int (4)))) G_0_b6) (.cons (.ret (.con (D.bl true))) .nil))))))⟩
def G_1 : Fd := ⟨"_law_draw", none, ["_law_script", "_law_state", "_law_many"], ["_law_script", "_law_state", "_law_many", "_law_cell", "_law_digit"], [false, true, false], .cons (.asg (.kx 1 (.con (D.str (tx [99, 111, 117, 110, 116])))) (.bin .add (.ix (.var 1) (.con (D.str (tx [99, 111, 117, 110, 116])))) (.con (D.int (1))))) (.cons (.ifs (.an (.cons (.va (.cmp .eq (.ix (.var 1) (.con (D.str (tx [114, 101, 115, 116])))) (.con (D.int (0))))) (.cons (.va (.cmp .lt (.ix (.var 1) (.con (D.str (tx [110, 101, 120, 116])))) (.bi .len (.cons (.var 0) .nil)))) .nil))) (.cons (.asg (.nm 3) (.ix (.var 0) (.ix (.var 1) (.con (D.str (tx [110, 101, 120, 116])))))) (.cons (.asg (.kx 1 (.con (D.str (tx [110, 101, 120, 116])))) (.bin .add (.ix (.var 1) (.con (D.str (tx [110, 101, 120, 116])))) (.con (D.int (1))))) (.cons (.ifs (.or (.cons (.va (.cmp .lt (.var 3) (.bin .pow (.con (D.int (10))) (.con (D.int (18)))))) (.cons (.va (.cmp .eq (.bin .mod (.bi .int (.cons (.ix (.var 0) (.con (D.int (0)))) .nil)) (.con (D.int (2)))) (.con (D.int (1))))) .nil))) (.cons (.ret (.bin .mod (.bi .int (.cons (.cal 2 (.cons (.var 3) (.cons (.ix (.var 1) (.con (D.str (tx [99, 111, 117, 110, 116])))) .nil))) .nil)) (.var 2))) .nil) (.nil)) (.cons (.asg (.kx 1 (.con (D.str (tx [114, 101, 115, 116])))) (.bin .fdiv (.var 3) (.con (D.int (2))))) (.cons (.asg (.kx 1 (.con (D.str (tx [100, 105, 103, 105, 116, 115])))) (.con (D.int (60)))) .nil))))) (.nil)) (.cons (.ifs (.va (.cmp .gt (.ix (.var 1) (.con (D.str (tx [114, 101, 115, 116])))) (.con (D.int (0))))) (.cons (.asg (.nm 4) (.bin .mod (.bi .int (.cons (.ix (.var 1) (.con (D.str (tx [114, 101, 115, 116])))) .nil)) (.var 2))) (.cons (.asg (.kx 1 (.con (D.str (tx [100, 105, 103, 105, 116, 115])))) (.bin .sub (.ix (.var 1) (.con (D.str (tx [100, 105, 103, 105, 116, 115])))) (.con (D.int (1))))) (.cons (.asg (.kx 1 (.con (D.str (tx [114, 101, 115, 116])))) (.bin .mul (.bin .fdiv (.ix (.var 1) (.con (D.str (tx [114, 101, 115, 116])))) (.var 2)) (.bi .int (.cons (.cmp .gt (.ix (.var 1) (.con (D.str (tx [100, 105, 103, 105, 116, 115])))) (.con (D.int (0)))) .nil)))) (.cons (.ret (.var 4)) .nil)))) (.nil)) (.cons (.asg (.nm 3) (.con (D.int (0)))) (.cons (.ifs (.va (.cmp .gt (.bi .len (.cons (.var 0) .nil)) (.con (D.int (0))))) (.cons (.asg (.nm 3) (.ix (.var 0) (.bin .mod (.bi .int (.cons (.ix (.var 1) (.con (D.str (tx [99, 111, 117, 110, 116])))) .nil)) (.bi .len (.cons (.var 0) .nil))))) .nil) (.nil)) (.cons (.ret (.bin .mod (.bi .int (.cons (.cal 2 (.cons (.var 3) (.cons (.ix (.var 1) (.con (D.str (tx [99, 111, 117, 110, 116])))) .nil))) .nil)) (.var 2))) .nil)))))⟩
def G_2 : Fd := ⟨"_law_mixed", none, ["_law_cell", "_law_count"], ["_law_cell", "_law_count", "_law_once"], [false, false], .cons (.asg (.nm 2) (.bin .mod (.bi .int (.cons (.bin .add (.bin .add (.bin .mul (.bi .int (.cons (.var 0) .nil)) (.con (D.int (48271)))) (.bin .mul (.var 1) (.con (D.int (69621))))) (.con (D.int (11)))) .nil)) (.con (D.int (2147483647))))) (.cons (.ret (.bin .mod (.bi .int (.cons (.bin .add (.bin .add (.bin .mul (.var 2) (.con (D.int (40692)))) (.bin .mul (.bin .fdiv (.var 2) (.con (D.int (127)))) (.con (D.int (131))))) (.bin .mul (.var 1) (.con (D.int (7))))) .nil)) (.con (D.int (2147483399))))) .nil)⟩
def G_3 : Fd := ⟨"_law_asked", none, ["_law_kind", "_law_graph", "_law_s", "_law_t", "_law_labels"], ["_law_kind", "_law_graph", "_law_s", "_law_t", "_law_labels", "_law_e"], [false, false, false, false, false], .cons (.tr (.cons (.ifs (.va (.cmp .eq (.var 0) (.con (D.int (0))))) (.cons (.ret (.tup (.cons (.con (D.str (tx []))) (.cons (.cal 6 (.cons (.var 1) (.cons (.var 2) (.cons (.var 3) (.cons (.var 4) .nil))))) .nil)))) .nil) (.nil)) (.cons (.ifs (.va (.cmp .eq (.var 0) (.con (D.int (1))))) (.cons (.ret (.tup (.cons (.con (D.str (tx []))) (.cons (.cal 13 (.cons (.var 1) (.cons (.var 2) (.cons (.var 3) (.cons (.var 4) .nil))))) .nil)))) .nil) (.nil)) (.cons (.ifs (.va (.cmp .eq (.var 0) (.con (D.int (2))))) (.cons (.ret (.tup (.cons (.con (D.str (tx []))) (.cons (.cal 12 (.cons (.var 1) (.cons (.var 4) .nil))) .nil)))) .nil) (.nil)) (.cons (.ifs (.va (.cmp .eq (.var 0) (.con (D.int (3))))) (.cons (.ret (.tup (.cons (.con (D.str (tx []))) (.cons (.cal 6 (.cons (.var 1) (.cons (.var 2) (.cons (.var 3) (.cons (.var 4) .nil))))) .nil)))) .nil) (.nil)) (.cons (.ret (.tup (.cons (.con (D.str (tx []))) (.cons (.cal 13 (.cons (.var 1) (.cons (.var 2) (.cons (.var 3) (.cons (.var 4) .nil))))) .nil)))) .nil))))) (.cons "UnknownNode" (some 5) (.cons (.ret (.tup (.cons (.ix (.lst (.cons (.con (D.str (tx [110, 111, 100, 101]))) (.cons (.con (D.str (tx [110, 111, 110, 101]))) .nil))) (.bi .int (.cons (.not (.calx 4 5)) .nil))) (.cons (.xf 5 "name") .nil)))) .nil) (.cons "UnknownEdge" (some 5) (.cons (.ret (.tup (.cons (.ix (.lst (.cons (.con (D.str (tx [101, 100, 103, 101]))) (.cons (.con (D.str (tx [110, 111, 110, 101]))) .nil))) (.bi .int (.cons (.not (.calx 4 5)) .nil))) (.cons (.xf 5 "label") .nil)))) .nil) (.nil)))) .nil⟩
def G_4_e0 : Ex := .bi .int (.cons (.var 1) .nil)
def G_4_l1 : Ex := .lch G_4_e0 [("_law_held", 1)] (.calx 5 0) 1
def G_4 : Fd := ⟨"_law_lone", none, ["_law_e"], ["_law_e", "_law_held"], [false], .cons (.ret (.and (.cons (.cmp .eq (.bi .sum (.cons (G_4_l1) .nil)) (.con (D.int (1)))) (.cons (.xi 0 ["WardError"] true) (.cons (.xi 0 ["ValueError"] true) .nil))))) .nil⟩
def G_5 : Fd := ⟨"_law_classes", none, ["_law_e"], ["_law_e", "_law_first", "_law_second", "_law_third"], [false], .cons (.asg (.nm 1) (.tup (.cons (.xi 0 ["InvalidGraph"] true) (.cons (.xi 0 ["InvalidText"] true) (.cons (.xi 0 ["UnknownNode"] true) (.cons (.xi 0 ["UnknownEdge"] true) .nil)))))) (.cons (.asg (.nm 2) (.tup (.cons (.xi 0 ["Taken"] true) (.cons (.xi 0 ["InvalidNumber"] true) (.cons (.xi 0 ["Undefined"] true) (.cons (.xi 0 ["InvalidClaim"] true) .nil)))))) (.cons (.asg (.nm 3) (.tup (.cons (.xi 0 ["Refused"] true) (.cons (.xi 0 ["InvalidQuestion"] true) (.cons (.xi 0 ["NotWatched"] true) (.cons (.xi 0 ["NothingToUndo"] true) .nil)))))) (.cons (.ret (.bin .add (.bin .add (.bin .add (.var 1) (.var 2)) (.var 3)) (.tup (.cons (.xi 0 ["InvalidEdit"] true) .nil)))) .nil)))⟩
def G_6 : Fd := ⟨"is_way", none, ["graph", "s", "t", "labels"], ["graph", "s", "t", "labels"], [false, false, false, false], .cons (.exp (.met "Graph" 11 (.var 0) (.cons (.var 1) .nil))) (.cons (.exp (.met "Graph" 11 (.var 0) (.cons (.var 2) .nil))) (.cons (.ret (.cal 7 (.cons (.var 0) (.cons (.var 1) (.cons (.var 2) (.cons (.var 3) (.cons (.con (D.bl true)) .nil))))))) .nil))⟩
def G_7_b0 : Sts := .cons (.ifs (.or (.cons (.no (.va (.cal 8 (.cons (.var 7) .nil)))) (.cons (.va (.cmp .notin (.var 7) (.var 5))) .nil))) (.cons (.ret (.con (D.bl false))) .nil) (.nil)) (.cons (.asg (.tu [8, 9]) (.sl (.cal 9 (.cons (.var 0) (.cons (.var 7) .nil))) (.so (.con (D.int (1)))) (.so (.con (D.int (3)))))) (.cons (.ifs (.va (.cmp .eq (.var 6) (.var 8))) (.cons (.asg (.nm 6) (.var 9)) .nil) (.cons (.ifs (.an (.cons (.va (.cmp .eq (.var 6) (.var 9))) (.cons (.no (.va (.var 4))) .nil))) (.cons (.asg (.nm 6) (.var 8)) .nil) (.cons (.ret (.con (D.bl false))) .nil)) .nil)) .nil))
def G_7 : Fd := ⟨"_is_led", none, ["graph", "s", "t", "labels", "is_directed"], ["graph", "s", "t", "labels", "is_directed", "there", "at", "label", "tail", "head"], [false, false, false, false, false], .cons (.ifs (.no (.va (.isi (.var 3) [.b "tuple"] true))) (.cons (.ret (.con (D.bl false))) .nil) (.nil)) (.cons (.asg (.nm 5) (.cal 10 (.cons (.var 0) .nil))) (.cons (.asg (.nm 6) (.var 1)) (.cons (.fo [7] true (.one (.var 3)) G_7_b0) (.cons (.ret (.cmp .eq (.var 6) (.var 2))) .nil))))⟩
def G_8_e0 : Ex := .cmp .isin (.var 1) (.gl 0)
def G_8_l1 : Ex := .lc G_8_e0 [("sign", 1)] (.one (.var 0)) [1] true .no
def G_8 : Fd := ⟨"is_name", none, ["value"], ["value", "sign"], [false], .cons (.ifs (.or (.cons (.no (.va (.isi (.var 0) [.b "str"] true))) (.cons (.no (.va (.chn .le .le (.con (D.int (1))) (.bi .len (.cons (.var 0) .nil)) (.gl 1)))) .nil))) (.cons (.ret (.con (D.bl false))) .nil) (.nil)) (.cons (.ret (.bi .all (.cons (G_8_l1) .nil))) .nil)⟩
def G_9 : Fd := ⟨"edge_with", none, ["graph", "label"], ["graph", "label"], [false, false], .cons (.ifs (.or (.cons (.no (.va (.cal 8 (.cons (.var 1) .nil)))) (.cons (.va (.cmp .notin (.var 1) (.cal 10 (.cons (.var 0) .nil)))) .nil))) (.cons (.rai "UnknownEdge" (.cons (.var 1) .nil)) .nil) (.nil)) (.cons (.ret (.ix (.fld (.var 0) "edges") (.qme .index (.cal 10 (.cons (.var 0) .nil)) (.var 1)))) .nil)⟩
def G_10_e0 : Ex := .ix (.var 1) (.con (D.int (0)))
def G_10_l1 : Ex := .lc G_10_e0 [("edge", 1)] (.one (.fld (.var 0) "edges")) [1] true .no
def G_10 : Fd := ⟨"labels_of", none, ["graph"], ["graph", "edge"], [false], .cons (.ret (.bi .tuple (.cons (G_10_l1) .nil))) .nil⟩
def G_11 : Fd := ⟨"place", some "Graph", ["self", "name"], ["self", "name"], [false, false], .cons (.ifs (.or (.cons (.no (.va (.cal 8 (.cons (.var 1) .nil)))) (.cons (.va (.cmp .notin (.var 1) (.fld (.var 0) "nodes"))) .nil))) (.cons (.rai "UnknownNode" (.cons (.var 1) .nil)) .nil) (.nil)) (.cons (.ret (.qme .index (.fld (.var 0) "nodes") (.var 1))) .nil)⟩
def G_12_e0 : Ex := .ix (.cal 9 (.cons (.var 0) (.cons (.var 2) .nil))) (.con (D.int (3)))
def G_12 : Fd := ⟨"price_of", none, ["graph", "labels"], ["graph", "labels", "label"], [false, false], .cons (.rsm G_12_e0 [("label", 2)] (.one (.var 1)) 2) .nil⟩
def G_13 : Fd := ⟨"is_walk", none, ["graph", "s", "t", "labels"], ["graph", "s", "t", "labels"], [false, false, false, false], .cons (.exp (.met "Graph" 11 (.var 0) (.cons (.var 1) .nil))) (.cons (.exp (.met "Graph" 11 (.var 0) (.cons (.var 2) .nil))) (.cons (.ret (.cal 7 (.cons (.var 0) (.cons (.var 1) (.cons (.var 2) (.cons (.var 3) (.cons (.con (D.bl false)) .nil))))))) .nil))⟩
def G_14_b0 : Sts := .cons (.ifs (.or (.cons (.no (.va (.isi (.var 6) [.b "str"] true))) (.cons (.va (.cmp .eq (.var 5) (.con (D.str (tx []))))) .nil))) (.cons (.ret (.con (D.bl false))) .nil) (.nil)) (.cons (.asg (.nm 5) (.cal 15 (.cons (.var 0) (.cons (.var 6) (.cons (.var 5) (.cons (.var 4) .nil)))))) .nil)
def G_14 : Fd := ⟨"_law_leads", none, ["_law_edges", "_law_s", "_law_t", "_law_labels", "_law_way"], ["_law_edges", "_law_s", "_law_t", "_law_labels", "_law_way", "_law_here", "_law_label"], [false, false, false, false, false], .cons (.ifs (.no (.va (.isi (.var 3) [.b "tuple"] true))) (.cons (.ret (.con (D.bl false))) .nil) (.nil)) (.cons (.asg (.nm 5) (.var 1)) (.cons (.fo [6] true (.one (.var 3)) G_14_b0) (.cons (.ret (.cmp .eq (.var 5) (.var 2))) .nil)))⟩
def G_15_b0 : Sts := .cons (.ifs (.va (.cmp .eq (.ix (.var 4) (.con (D.int (0)))) (.var 1))) (.cons (.ifs (.va (.cmp .eq (.ix (.var 4) (.con (D.int (1)))) (.var 2))) (.cons (.ret (.ix (.var 4) (.con (D.int (2))))) .nil) (.nil)) (.cons (.ifs (.an (.cons (.no (.va (.var 3))) (.cons (.va (.cmp .eq (.ix (.var 4) (.con (D.int (2)))) (.var 2))) .nil))) (.cons (.ret (.ix (.var 4) (.con (D.int (1))))) .nil) (.nil)) .nil)) (.nil)) .nil
def G_15 : Fd := ⟨"_law_end", none, ["_law_edges", "_law_label", "_law_here", "_law_way"], ["_law_edges", "_law_label", "_law_here", "_law_way", "_law_edge_here"], [false, false, false, false], .cons (.fo [4] true (.one (.var 0)) G_15_b0) (.cons (.ret (.con (D.str (tx [])))) .nil)⟩
def G_16_b0 : Sts := .cons (.ifs (.no (.va (.cal 16 (.cons (.ix (.var 0) (.var 2)) (.cons (.ix (.var 1) (.var 2)) .nil))))) (.cons (.ret (.con (D.bl false))) .nil) (.nil)) .nil
def G_16 : Fd := ⟨"_law_alike", none, ["_law_told", "_law_due"], ["_law_told", "_law_due", "_law_k"], [false, false], .cons (.ifs (.va (.isn false (.var 1))) (.cons (.ret (.isn false (.var 0))) .nil) (.nil)) (.cons (.ifs (.va (.isi (.var 1) [.b "bool"] true)) (.cons (.ret (.and (.cons (.isi (.var 0) [.b "bool"] true) (.cons (.cmp .eq (.var 0) (.var 1)) .nil)))) .nil) (.nil)) (.cons (.ifs (.va (.isi (.var 1) [.b "int"] true)) (.cons (.ret (.and (.cons (.isi (.var 0) [.b "int"] true) (.cons (.not (.isi (.var 0) [.b "bool"] true)) (.cons (.cmp .eq (.var 0) (.var 1)) .nil))))) .nil) (.nil)) (.cons (.ifs (.va (.isi (.var 1) [.b "str"] true)) (.cons (.ret (.and (.cons (.isi (.var 0) [.b "str"] true) (.cons (.cmp .eq (.var 0) (.var 1)) .nil)))) .nil) (.nil)) (.cons (.ifs (.or (.cons (.va (.cmp .ne (.isi (.var 1) [.b "tuple"] true) (.isi (.var 0) [.b "tuple"] true))) (.cons (.va (.cmp .ne (.isi (.var 1) [.b "list"] true) (.isi (.var 0) [.b "list"] true))) .nil))) (.cons (.ret (.con (D.bl false))) .nil) (.nil)) (.cons (.ifs (.va (.cmp .ne (.bi .len (.cons (.var 0) .nil)) (.bi .len (.cons (.var 1) .nil)))) (.cons (.ret (.con (D.bl false))) .nil) (.nil)) (.cons (.fo [2] true (.rng1 (.bi .len (.cons (.var 1) .nil))) G_16_b0) (.cons (.ret (.con (D.bl true))) .nil)))))))⟩
def G_17_i0 : Te := .va (.cmp .eq (.ix (.var 5) (.con (D.int (0)))) (.var 3))
def G_17_e1 : Ex := .ix (.var 5) (.con (D.int (3)))
def G_17_l2 : Ex := .lc G_17_e1 [("_law_edge_here", 5)] (.one (.var 0)) [5] true (.so G_17_i0)
def G_17_b3 : Sts := .cons (.asg (.nm 4) (G_17_l2)) (.cons (.ifs (.va (.cmp .eq (.bi .len (.cons (.var 4) .nil)) (.con (D.int (0))))) (.cons (.ret (.tup (.cons (.con (D.str (tx [101, 100, 103, 101]))) (.cons (.var 3) .nil)))) .nil) (.nil)) (.cons (.asg (.nm 2) (.bin .add (.var 2) (.ix (.var 4) (.con (D.int (0)))))) .nil))
def G_17 : Fd := ⟨"_law_price", none, ["_law_edges", "_law_labels"], ["_law_edges", "_law_labels", "_law_total", "_law_label", "_law_prices", "_law_edge_here"], [false, false], .cons (.asg (.nm 2) (.con (D.int (0)))) (.cons (.fo [3] true (.one (.var 1)) G_17_b3) (.cons (.ret (.tup (.cons (.con (D.str (tx []))) (.cons (.var 2) .nil)))) .nil))⟩
def G_18 : Fd := ⟨"_law_spoilt", none, ["_law_script", "_law_state", "_law_labels", "_law_known"], ["_law_script", "_law_state", "_law_labels", "_law_known", "_law_pick", "_law_at", "_law_label", "_law_odd"], [false, true, false, false], .cons (.asg (.nm 4) (.cal 1 (.cons (.var 0) (.cons (.var 1) (.cons (.con (D.int (10))) .nil))))) (.cons (.asg (.nm 5) (.cal 1 (.cons (.var 0) (.cons (.var 1) (.cons (.bin .add (.bi .len (.cons (.var 2) .nil)) (.con (D.int (1)))) .nil))))) (.cons (.asg (.nm 6) (.ix (.bin .add (.var 3) (.lst (.cons (.con (D.str (tx [122, 122, 122, 122, 122, 122, 122, 122]))) .nil))) (.cal 1 (.cons (.var 0) (.cons (.var 1) (.cons (.bin .add (.bi .len (.cons (.var 3) .nil)) (.con (D.int (1)))) .nil)))))) (.cons (.ifs (.va (.cmp .lt (.var 4) (.con (D.int (2))))) (.cons (.ret (.bin .add (.bin .add (.sl (.var 2) .no (.so (.var 5))) (.tup (.cons (.var 6) .nil))) (.sl (.var 2) (.so (.bin .add (.var 5) (.var 4))) .no))) .nil) (.nil)) (.cons (.ifs (.va (.cmp .eq (.var 4) (.con (D.int (2))))) (.cons (.ret (.bin .add (.sl (.var 2) .no (.so (.var 5))) (.sl (.var 2) (.so (.bin .add (.var 5) (.con (D.int (1))))) .no))) .nil) (.nil)) (.cons (.ifs (.va (.cmp .eq (.var 4) (.con (D.int (3))))) (.cons (.ret (.bin .add (.bin .add (.sl (.var 2) .no (.so (.var 5))) (.sl (.var 2) (.so (.var 5)) (.so (.bin .add (.var 5) (.con (D.int (1))))))) (.sl (.var 2) (.so (.var 5)) .no))) .nil) (.nil)) (.cons (.ifs (.va (.cmp .eq (.var 4) (.con (D.int (4))))) (.cons (.ret (.rev true (.bi .list (.cons (.var 2) .nil)))) .nil) (.nil)) (.cons (.ifs (.va (.cmp .eq (.var 4) (.con (D.int (5))))) (.cons (.ret (.bin .add (.var 2) (.var 2))) .nil) (.nil)) (.cons (.asg (.nm 7) (.ix (.lst (.cons (.con (D.non)) (.cons (.con (D.int (0))) (.cons (.con (D.bl true)) (.cons (.tup (.cons (.var 6) .nil)) (.cons (.lst (.cons (.var 6) .nil)) (.cons (.con (D.str (tx [65]))) (.cons (.con (D.str (tx []))) .nil)))))))) (.cal 1 (.cons (.var 0) (.cons (.var 1) (.cons (.con (D.int (7))) .nil)))))) (.cons (.ifs (.va (.cmp .eq (.var 4) (.con (D.int (6))))) (.cons (.ret (.bin .add (.bin .add (.sl (.var 2) .no (.so (.var 5))) (.tup (.cons (.var 7) .nil))) (.sl (.var 2) (.so (.var 5)) .no))) .nil) (.nil)) (.cons (.ifs (.va (.cmp .eq (.var 4) (.con (D.int (7))))) (.cons (.ret (.ix (.lst (.cons (.bi .list (.cons (.var 2) .nil)) (.cons (.con (D.non)) (.cons (.con (D.int (5))) (.cons (.var 6) (.cons (.con (D.bl true)) (.cons (.con (D.str (tx []))) (.cons (.tup (.cons (.var 2) .nil)) .nil)))))))) (.cal 1 (.cons (.var 0) (.cons (.var 1) (.cons (.con (D.int (7))) .nil)))))) .nil) (.nil)) (.cons (.ret (.var 2)) .nil)))))))))))⟩
def G_19_i0 : Te := .va (.cmp .ne (.cal 15 (.cons (.var 2) (.cons (.ix (.var 8) (.con (D.int (0)))) (.cons (.var 3) (.cons (.var 4) .nil))))) (.con (D.str (tx []))))
def G_19_e1 : Ex := .ix (.var 8) (.con (D.int (0)))
def G_19_l2 : Ex := .lc G_19_e1 [("_law_edge_here", 8)] (.one (.var 2)) [8] true (.so G_19_i0)
def G_19_b3 : Sts := .cons (.asg (.nm 7) (G_19_l2)) (.cons (.ifs (.va (.cmp .gt (.bi .len (.cons (.var 7) .nil)) (.con (D.int (0))))) (.cons (.exp (.mu .append 5 (.cons (.ix (.var 7) (.cal 1 (.cons (.var 0) (.cons (.var 1) (.cons (.bi .len (.cons (.var 7) .nil)) .nil))))) .nil))) (.cons (.asg (.nm 3) (.cal 15 (.cons (.var 2) (.cons (.ix (.var 5) (.neg (.con (D.int (1))))) (.cons (.var 3) (.cons (.var 4) .nil)))))) .nil)) (.nil)) .nil)
def G_19 : Fd := ⟨"_law_led", none, ["_law_script", "_law_state", "_law_edges", "_law_here", "_law_way"], ["_law_script", "_law_state", "_law_edges", "_law_here", "_law_way", "_law_labels", "_law_k", "_law_fits", "_law_edge_here"], [false, true, false, false, false], .cons (.asg (.nm 5) (.lst (.nil))) (.cons (.fo [6] true (.rng1 (.cal 1 (.cons (.var 0) (.cons (.var 1) (.cons (.con (D.int (13))) .nil))))) G_19_b3) (.cons (.ret (.tup (.cons (.bi .tuple (.cons (.var 5) .nil)) (.cons (.var 3) .nil)))) .nil))⟩
def G_20 : Fd := ⟨"__init__", some "Graph", ["self", "nodes", "edges"], ["self", "nodes", "edges"], [true, false, false], .cons (.ifs (.no (.va (.cal 21 (.cons (.var 1) .nil)))) (.cons (.rai "InvalidGraph" (.cons (.var 1) .nil)) .nil) (.nil)) (.cons (.exp (.cal 22 (.cons (.var 1) (.cons (.var 2) .nil)))) (.cons (.asg (.fl 0 "nodes") (.bi .tuple (.cons (.var 1) .nil))) (.cons (.asg (.fl 0 "edges") (.bi .tuple (.cons (.var 2) .nil))) .nil)))⟩
def G_21_e0 : Ex := .cmp .notin (.ix (.var 0) (.var 1)) (.sl (.var 0) .no (.so (.var 1)))
def G_21_l1 : Ex := .lc G_21_e0 [("at", 1)] (.rng1 (.bi .len (.cons (.var 0) .nil))) [1] true .no
def G_21_e2 : Ex := .cal 8 (.cons (.var 2) .nil)
def G_21_l3 : Ex := .lc G_21_e2 [("name", 2)] (.one (.var 0)) [2] true .no
def G_21 : Fd := ⟨"_are_nodes", none, ["value"], ["value", "at", "name"], [false], .cons (.ifs (.or (.cons (.no (.va (.isi (.var 0) [.b "list", .b "tuple"] false))) (.cons (.no (.va (.bi .all (.cons (G_21_l3) .nil)))) .nil))) (.cons (.ret (.con (D.bl false))) .nil) (.nil)) (.cons (.ret (.bi .all (.cons (G_21_l1) .nil))) .nil)⟩
def G_22_b0 : Sts := .cons (.ifs (.or (.cons (.no (.va (.cal 23 (.cons (.var 3) .nil)))) (.cons (.va (.cmp .notin (.ix (.var 3) (.con (D.int (1)))) (.var 0))) (.cons (.va (.cmp .notin (.ix (.var 3) (.con (D.int (2)))) (.var 0))) (.cons (.va (.cmp .isin (.ix (.var 3) (.con (D.int (0)))) (.var 2))) .nil))))) (.cons (.rai "InvalidGraph" (.cons (.var 3) .nil)) .nil) (.nil)) (.cons (.asg (.kx 2 (.ix (.var 3) (.con (D.int (0))))) (.con (D.bl true))) .nil)
def G_22 : Fd := ⟨"_need_edges", none, ["nodes", "edges"], ["nodes", "edges", "seen", "edge"], [false, false], .cons (.ifs (.no (.va (.isi (.var 1) [.b "list", .b "tuple"] false))) (.cons (.rai "InvalidGraph" (.cons (.var 1) .nil)) .nil) (.nil)) (.cons (.asg (.nm 2) (.dd [] (.nil))) (.cons (.fo [3] true (.one (.var 1)) G_22_b0) .nil))⟩
def G_23_e0 : Ex := .cal 8 (.cons (.var 1) .nil)
def G_23_l1 : Ex := .lc G_23_e0 [("part", 1)] (.one (.sl (.var 0) .no (.so (.con (D.int (3)))))) [1] true .no
def G_23 : Fd := ⟨"is_edge_value", none, ["value"], ["value", "part"], [false], .cons (.ifs (.or (.cons (.no (.va (.cal 24 (.cons (.var 0) (.cons (.con (D.int (5))) .nil))))) (.cons (.no (.va (.bi .all (.cons (G_23_l1) .nil)))) .nil))) (.cons (.ret (.con (D.bl false))) .nil) (.nil)) (.cons (.ret (.and (.cons (.cal 26 (.cons (.ix (.var 0) (.con (D.int (3)))) .nil)) (.cons (.cal 25 (.cons (.ix (.var 0) (.con (D.int (4)))) .nil)) .nil)))) .nil)⟩
def G_24 : Fd := ⟨"has_size", none, ["value", "size"], ["value", "size"], [false, false], .cons (.ret (.and (.cons (.isi (.var 0) [.b "tuple"] true) (.cons (.cmp .eq (.bi .len (.cons (.var 0) .nil)) (.var 1)) .nil)))) .nil⟩
def G_25 : Fd := ⟨"is_number", none, ["value"], ["value"], [false], .cons (.ret (.and (.cons (.cal 26 (.cons (.var 0) .nil)) (.cons (.cmp .ge (.var 0) (.con (D.int (0)))) .nil)))) .nil⟩
def G_26 : Fd := ⟨"is_int", none, ["value"], ["value"], [false], .cons (.ret (.and (.cons (.isi (.var 0) [.b "int"] true) (.cons (.not (.isi (.var 0) [.b "bool"] true)) .nil)))) .nil⟩
def G_27_b0 : Sts := .cons (.exp (.mu .append 7 (.cons (.cal 28 (.cons (.var 0) (.cons (.var 1) (.cons (.var 6) (.cons (.ix (.var 5) (.var 8)) .nil))))) .nil))) .nil
def G_27 : Fd := ⟨"_law_drawn", none, ["_law_script", "_law_state", "_law_most", "_law_many"], ["_law_script", "_law_state", "_law_most", "_law_many", "_law_names_here", "_law_labels", "_law_nodes", "_law_edges", "_law_k"], [false, true, false, false], .cons (.asg (.nm 4) (.cal 29 (.cons (.var 0) (.cons (.var 1) (.cons (.var 2) .nil))))) (.cons (.asg (.nm 5) (.cal 29 (.cons (.var 0) (.cons (.var 1) (.cons (.var 3) .nil))))) (.cons (.asg (.nm 6) (.sl (.var 4) .no (.so (.cal 1 (.cons (.var 0) (.cons (.var 1) (.cons (.bin .add (.var 2) (.con (D.int (1)))) .nil))))))) (.cons (.ifs (.va (.cmp .eq (.cal 1 (.cons (.var 0) (.cons (.var 1) (.cons (.con (D.int (2))) .nil)))) (.con (D.int (1))))) (.cons (.asg (.nm 6) (.rev false (.bi .list (.cons (.var 6) .nil)))) .nil) (.nil)) (.cons (.asg (.nm 7) (.lst (.nil))) (.cons (.ifs (.va (.cmp .gt (.bi .len (.cons (.var 6) .nil)) (.con (D.int (0))))) (.cons (.fo [8] true (.rng1 (.cal 1 (.cons (.var 0) (.cons (.var 1) (.cons (.bin .add (.var 3) (.con (D.int (1)))) .nil))))) G_27_b0) .nil) (.nil)) (.cons (.ret (.tup (.cons (.bi .tuple (.cons (.var 6) .nil)) (.cons (.bi .tuple (.cons (.var 7) .nil)) .nil)))) .nil))))))⟩
def G_28 : Fd := ⟨"_law_edge", none, ["_law_script", "_law_state", "_law_nodes", "_law_label"], ["_law_script", "_law_state", "_law_nodes", "_law_label", "_law_tail", "_law_head", "_law_price_here"], [false, true, false, false], .cons (.asg (.nm 4) (.ix (.var 2) (.cal 1 (.cons (.var 0) (.cons (.var 1) (.cons (.bi .len (.cons (.var 2) .nil)) .nil)))))) (.cons (.asg (.nm 5) (.ix (.var 2) (.cal 1 (.cons (.var 0) (.cons (.var 1) (.cons (.bi .len (.cons (.var 2) .nil)) .nil)))))) (.cons (.asg (.nm 6) (.ix (.lst (.cons (.bin .sub (.cal 1 (.cons (.var 0) (.cons (.var 1) (.cons (.con (D.int (199))) .nil)))) (.con (D.int (99)))) (.cons (.bin .sub (.cal 1 (.cons (.var 0) (.cons (.var 1) (.cons (.con (D.int (7))) .nil)))) (.con (D.int (3)))) (.cons (.con (D.int (0))) (.cons (.neg (.con (D.int (99)))) (.cons (.con (D.int (99))) .nil)))))) (.cal 1 (.cons (.var 0) (.cons (.var 1) (.cons (.con (D.int (5))) .nil)))))) (.cons (.ret (.tup (.cons (.var 3) (.cons (.var 4) (.cons (.var 5) (.cons (.var 6) (.cons (.ix (.lst (.cons (.cal 1 (.cons (.var 0) (.cons (.var 1) (.cons (.con (D.int (21))) .nil)))) (.cons (.con (D.int (0))) (.cons (.con (D.int (20))) (.cons (.con (D.int (1))) .nil))))) (.cal 1 (.cons (.var 0) (.cons (.var 1) (.cons (.con (D.int (4))) .nil))))) .nil))))))) .nil)))⟩
def G_29_e0 : Ex := .bin .add (.bin .add (.var 4) (.ix (.var 3) (.bin .mod (.bi .int (.cons (.bin .add (.var 7) (.var 5)) .nil)) (.con (D.int (26)))))) (.var 6)
def G_29_l1 : Ex := .lc G_29_e0 [("_law_k", 5)] (.rng1 (.var 2)) [5] true .no
def G_29_e2 : Ex := .sl (.bin .add (.ix (.var 3) (.bin .mod (.bi .int (.cons (.bin .add (.var 7) (.var 5)) .nil)) (.con (D.int (26))))) (.bin .mul (.con (D.str (tx [122]))) (.con (D.int (7))))) .no (.so (.bin .add (.con (D.int (1))) (.bin .mod (.bi .int (.cons (.bin .add (.var 7) (.bin .mul (.con (D.int (5))) (.var 5))) .nil)) (.con (D.int (8))))))
def G_29_l3 : Ex := .lc G_29_e2 [("_law_k", 5)] (.rng1 (.var 2)) [5] true .no
def G_29_b4 : Sts := .cons (.asg (.nm 6) (.bin .add (.var 6) (.ix (.var 3) (.cal 1 (.cons (.var 0) (.cons (.var 1) (.cons (.con (D.int (26))) .nil))))))) .nil
def G_29_b5 : Sts := .cons (.asg (.nm 4) (.bin .add (.var 4) (.ix (.var 3) (.cal 1 (.cons (.var 0) (.cons (.var 1) (.cons (.con (D.int (26))) .nil))))))) .nil
def G_29 : Fd := ⟨"_law_names", none, ["_law_script", "_law_state", "_law_many"], ["_law_script", "_law_state", "_law_many", "_law_letters", "_law_ahead", "_law_k", "_law_behind", "_law_first"], [false, true, false], .cons (.asg (.nm 3) (.con (D.str (tx [97, 98, 99, 100, 101, 102, 103, 104, 105, 106, 107, 108, 109, 110, 111, 112, 113, 114, 115, 116, 117, 118, 119, 120, 121, 122])))) (.cons (.asg (.nm 4) (.con (D.str (tx [])))) (.cons (.fo [5] true (.rng1 (.bin .mul (.cal 1 (.cons (.var 0) (.cons (.var 1) (.cons (.con (D.int (4))) .nil)))) (.cal 1 (.cons (.var 0) (.cons (.var 1) (.cons (.con (D.int (2))) .nil)))))) G_29_b5) (.cons (.asg (.nm 6) (.con (D.str (tx [])))) (.cons (.fo [5] true (.rng1 (.bin .mul (.cal 1 (.cons (.var 0) (.cons (.var 1) (.cons (.con (D.int (5))) .nil)))) (.cal 1 (.cons (.var 0) (.cons (.var 1) (.cons (.con (D.int (2))) .nil)))))) G_29_b4) (.cons (.asg (.nm 7) (.cal 1 (.cons (.var 0) (.cons (.var 1) (.cons (.con (D.int (26))) .nil))))) (.cons (.ifs (.va (.cmp .eq (.cal 1 (.cons (.var 0) (.cons (.var 1) (.cons (.con (D.int (3))) .nil)))) (.con (D.int (1))))) (.cons (.ret (G_29_l3)) .nil) (.nil)) (.cons (.ret (G_29_l1)) .nil)))))))⟩
def G : Gs where
  fd := [G_0, G_1, G_2, G_3, G_4, G_5, G_6, G_7, G_8, G_9, G_10, G_11, G_12, G_13, G_14, G_15, G_16, G_17, G_18, G_19, G_20, G_21, G_22, G_23, G_24, G_25, G_26, G_27, G_28, G_29]
  cls := ["Graph"]
  na := [("Graph", "edges"), ("Graph", "nodes")]
  free := ["range", "tuple", "isinstance", "str", "list", "len", "int", "sum", "all", "bool", "reversed"]
  con := [("LETTERS", D.str (tx [97, 98, 99, 100, 101, 102, 103, 104, 105, 106, 107, 108, 109, 110, 111, 112, 113, 114, 115, 116, 117, 118, 119, 120, 121, 122])), ("MOST_LETTERS", D.int (8))]
  xc := [⟨"UnknownEdge", ["label"], ["UnknownEdge", "WardError", "ValueError"]⟩, ⟨"UnknownNode", ["name"], ["UnknownNode", "WardError", "ValueError"]⟩, ⟨"InvalidGraph", ["value"], ["InvalidGraph", "WardError", "ValueError"]⟩]
  xn := ["UnknownEdge", "UnknownNode", "ValueError", "WardError", "InvalidEdit", "NothingToUndo", "NotWatched", "InvalidQuestion", "Refused", "InvalidClaim", "Undefined", "InvalidNumber", "Taken", "InvalidText", "InvalidGraph"]
section
variable {fu n : Nat}
theorem g0 : G.fd[0]? = some G_0 := rfl
theorem m0 : (CC G fu n).mus 0 = [false] := rfl
theorem o0 : (CC G fu n).nmOf 0 = ("law" : PySem.Str) := rfl
theorem r0 {ss : List S} (h : modes [false] ss = true) : Mp.run G fu (n + 1) 0 ss = endR [false] ss (exs (CC G fu n) G_0.bd (ss.map some ++ List.replicate (20 - ss.length) none)) := run_at g0 h
theorem g1 : G.fd[1]? = some G_1 := rfl
theorem m1 : (CC G fu n).mus 1 = [false, true, false] := rfl
theorem o1 : (CC G fu n).nmOf 1 = ("_law_draw" : PySem.Str) := rfl
theorem r1 {ss : List S} (h : modes [false, true, false] ss = true) : Mp.run G fu (n + 1) 1 ss = endR [false, true, false] ss (exs (CC G fu n) G_1.bd (ss.map some ++ List.replicate (5 - ss.length) none)) := run_at g1 h
theorem g2 : G.fd[2]? = some G_2 := rfl
theorem m2 : (CC G fu n).mus 2 = [false, false] := rfl
theorem o2 : (CC G fu n).nmOf 2 = ("_law_mixed" : PySem.Str) := rfl
theorem r2 {ss : List S} (h : modes [false, false] ss = true) : Mp.run G fu (n + 1) 2 ss = endR [false, false] ss (exs (CC G fu n) G_2.bd (ss.map some ++ List.replicate (3 - ss.length) none)) := run_at g2 h
theorem g3 : G.fd[3]? = some G_3 := rfl
theorem m3 : (CC G fu n).mus 3 = [false, false, false, false, false] := rfl
theorem o3 : (CC G fu n).nmOf 3 = ("_law_asked" : PySem.Str) := rfl
theorem r3 {ss : List S} (h : modes [false, false, false, false, false] ss = true) : Mp.run G fu (n + 1) 3 ss = endR [false, false, false, false, false] ss (exs (CC G fu n) G_3.bd (ss.map some ++ List.replicate (6 - ss.length) none)) := run_at g3 h
theorem g4 : G.fd[4]? = some G_4 := rfl
theorem m4 : (CC G fu n).mus 4 = [false] := rfl
theorem o4 : (CC G fu n).nmOf 4 = ("_law_lone" : PySem.Str) := rfl
theorem r4 {ss : List S} (h : modes [false] ss = true) : Mp.run G fu (n + 1) 4 ss = endR [false] ss (exs (CC G fu n) G_4.bd (ss.map some ++ List.replicate (2 - ss.length) none)) := run_at g4 h
theorem g5 : G.fd[5]? = some G_5 := rfl
theorem m5 : (CC G fu n).mus 5 = [false] := rfl
theorem o5 : (CC G fu n).nmOf 5 = ("_law_classes" : PySem.Str) := rfl
theorem r5 {ss : List S} (h : modes [false] ss = true) : Mp.run G fu (n + 1) 5 ss = endR [false] ss (exs (CC G fu n) G_5.bd (ss.map some ++ List.replicate (4 - ss.length) none)) := run_at g5 h
theorem g6 : G.fd[6]? = some G_6 := rfl
theorem m6 : (CC G fu n).mus 6 = [false, false, false, false] := rfl
theorem o6 : (CC G fu n).nmOf 6 = ("is_way" : PySem.Str) := rfl
theorem r6 {ss : List S} (h : modes [false, false, false, false] ss = true) : Mp.run G fu (n + 1) 6 ss = endR [false, false, false, false] ss (exs (CC G fu n) G_6.bd (ss.map some ++ List.replicate (4 - ss.length) none)) := run_at g6 h
theorem g7 : G.fd[7]? = some G_7 := rfl
theorem m7 : (CC G fu n).mus 7 = [false, false, false, false, false] := rfl
theorem o7 : (CC G fu n).nmOf 7 = ("_is_led" : PySem.Str) := rfl
theorem r7 {ss : List S} (h : modes [false, false, false, false, false] ss = true) : Mp.run G fu (n + 1) 7 ss = endR [false, false, false, false, false] ss (exs (CC G fu n) G_7.bd (ss.map some ++ List.replicate (10 - ss.length) none)) := run_at g7 h
theorem g8 : G.fd[8]? = some G_8 := rfl
theorem m8 : (CC G fu n).mus 8 = [false] := rfl
theorem o8 : (CC G fu n).nmOf 8 = ("is_name" : PySem.Str) := rfl
theorem r8 {ss : List S} (h : modes [false] ss = true) : Mp.run G fu (n + 1) 8 ss = endR [false] ss (exs (CC G fu n) G_8.bd (ss.map some ++ List.replicate (2 - ss.length) none)) := run_at g8 h
theorem g9 : G.fd[9]? = some G_9 := rfl
theorem m9 : (CC G fu n).mus 9 = [false, false] := rfl
theorem o9 : (CC G fu n).nmOf 9 = ("edge_with" : PySem.Str) := rfl
theorem r9 {ss : List S} (h : modes [false, false] ss = true) : Mp.run G fu (n + 1) 9 ss = endR [false, false] ss (exs (CC G fu n) G_9.bd (ss.map some ++ List.replicate (2 - ss.length) none)) := run_at g9 h
theorem g10 : G.fd[10]? = some G_10 := rfl
theorem m10 : (CC G fu n).mus 10 = [false] := rfl
theorem o10 : (CC G fu n).nmOf 10 = ("labels_of" : PySem.Str) := rfl
theorem r10 {ss : List S} (h : modes [false] ss = true) : Mp.run G fu (n + 1) 10 ss = endR [false] ss (exs (CC G fu n) G_10.bd (ss.map some ++ List.replicate (2 - ss.length) none)) := run_at g10 h
theorem g11 : G.fd[11]? = some G_11 := rfl
theorem m11 : (CC G fu n).mus 11 = [false, false] := rfl
theorem o11 : (CC G fu n).nmOf 11 = ("place" : PySem.Str) := rfl
theorem r11 {ss : List S} (h : modes [false, false] ss = true) : Mp.run G fu (n + 1) 11 ss = endR [false, false] ss (exs (CC G fu n) G_11.bd (ss.map some ++ List.replicate (2 - ss.length) none)) := run_at g11 h
theorem g12 : G.fd[12]? = some G_12 := rfl
theorem m12 : (CC G fu n).mus 12 = [false, false] := rfl
theorem o12 : (CC G fu n).nmOf 12 = ("price_of" : PySem.Str) := rfl
theorem r12 {ss : List S} (h : modes [false, false] ss = true) : Mp.run G fu (n + 1) 12 ss = endR [false, false] ss (exs (CC G fu n) G_12.bd (ss.map some ++ List.replicate (3 - ss.length) none)) := run_at g12 h
theorem g13 : G.fd[13]? = some G_13 := rfl
theorem m13 : (CC G fu n).mus 13 = [false, false, false, false] := rfl
theorem o13 : (CC G fu n).nmOf 13 = ("is_walk" : PySem.Str) := rfl
theorem r13 {ss : List S} (h : modes [false, false, false, false] ss = true) : Mp.run G fu (n + 1) 13 ss = endR [false, false, false, false] ss (exs (CC G fu n) G_13.bd (ss.map some ++ List.replicate (4 - ss.length) none)) := run_at g13 h
theorem g14 : G.fd[14]? = some G_14 := rfl
theorem m14 : (CC G fu n).mus 14 = [false, false, false, false, false] := rfl
theorem o14 : (CC G fu n).nmOf 14 = ("_law_leads" : PySem.Str) := rfl
theorem r14 {ss : List S} (h : modes [false, false, false, false, false] ss = true) : Mp.run G fu (n + 1) 14 ss = endR [false, false, false, false, false] ss (exs (CC G fu n) G_14.bd (ss.map some ++ List.replicate (7 - ss.length) none)) := run_at g14 h
theorem g15 : G.fd[15]? = some G_15 := rfl
theorem m15 : (CC G fu n).mus 15 = [false, false, false, false] := rfl
theorem o15 : (CC G fu n).nmOf 15 = ("_law_end" : PySem.Str) := rfl
theorem r15 {ss : List S} (h : modes [false, false, false, false] ss = true) : Mp.run G fu (n + 1) 15 ss = endR [false, false, false, false] ss (exs (CC G fu n) G_15.bd (ss.map some ++ List.replicate (5 - ss.length) none)) := run_at g15 h
theorem g16 : G.fd[16]? = some G_16 := rfl
theorem m16 : (CC G fu n).mus 16 = [false, false] := rfl
theorem o16 : (CC G fu n).nmOf 16 = ("_law_alike" : PySem.Str) := rfl
theorem r16 {ss : List S} (h : modes [false, false] ss = true) : Mp.run G fu (n + 1) 16 ss = endR [false, false] ss (exs (CC G fu n) G_16.bd (ss.map some ++ List.replicate (3 - ss.length) none)) := run_at g16 h
theorem g17 : G.fd[17]? = some G_17 := rfl
theorem m17 : (CC G fu n).mus 17 = [false, false] := rfl
theorem o17 : (CC G fu n).nmOf 17 = ("_law_price" : PySem.Str) := rfl
theorem r17 {ss : List S} (h : modes [false, false] ss = true) : Mp.run G fu (n + 1) 17 ss = endR [false, false] ss (exs (CC G fu n) G_17.bd (ss.map some ++ List.replicate (6 - ss.length) none)) := run_at g17 h
theorem g18 : G.fd[18]? = some G_18 := rfl
theorem m18 : (CC G fu n).mus 18 = [false, true, false, false] := rfl
theorem o18 : (CC G fu n).nmOf 18 = ("_law_spoilt" : PySem.Str) := rfl
theorem r18 {ss : List S} (h : modes [false, true, false, false] ss = true) : Mp.run G fu (n + 1) 18 ss = endR [false, true, false, false] ss (exs (CC G fu n) G_18.bd (ss.map some ++ List.replicate (8 - ss.length) none)) := run_at g18 h
theorem g19 : G.fd[19]? = some G_19 := rfl
theorem m19 : (CC G fu n).mus 19 = [false, true, false, false, false] := rfl
theorem o19 : (CC G fu n).nmOf 19 = ("_law_led" : PySem.Str) := rfl
theorem r19 {ss : List S} (h : modes [false, true, false, false, false] ss = true) : Mp.run G fu (n + 1) 19 ss = endR [false, true, false, false, false] ss (exs (CC G fu n) G_19.bd (ss.map some ++ List.replicate (9 - ss.length) none)) := run_at g19 h
theorem g20 : G.fd[20]? = some G_20 := rfl
theorem m20 : (CC G fu n).mus 20 = [true, false, false] := rfl
theorem o20 : (CC G fu n).nmOf 20 = ("__init__" : PySem.Str) := rfl
theorem r20 {ss : List S} (h : modes [true, false, false] ss = true) : Mp.run G fu (n + 1) 20 ss = endR [true, false, false] ss (exs (CC G fu n) G_20.bd (ss.map some ++ List.replicate (3 - ss.length) none)) := run_at g20 h
theorem g21 : G.fd[21]? = some G_21 := rfl
theorem m21 : (CC G fu n).mus 21 = [false] := rfl
theorem o21 : (CC G fu n).nmOf 21 = ("_are_nodes" : PySem.Str) := rfl
theorem r21 {ss : List S} (h : modes [false] ss = true) : Mp.run G fu (n + 1) 21 ss = endR [false] ss (exs (CC G fu n) G_21.bd (ss.map some ++ List.replicate (3 - ss.length) none)) := run_at g21 h
theorem g22 : G.fd[22]? = some G_22 := rfl
theorem m22 : (CC G fu n).mus 22 = [false, false] := rfl
theorem o22 : (CC G fu n).nmOf 22 = ("_need_edges" : PySem.Str) := rfl
theorem r22 {ss : List S} (h : modes [false, false] ss = true) : Mp.run G fu (n + 1) 22 ss = endR [false, false] ss (exs (CC G fu n) G_22.bd (ss.map some ++ List.replicate (4 - ss.length) none)) := run_at g22 h
theorem g23 : G.fd[23]? = some G_23 := rfl
theorem m23 : (CC G fu n).mus 23 = [false] := rfl
theorem o23 : (CC G fu n).nmOf 23 = ("is_edge_value" : PySem.Str) := rfl
theorem r23 {ss : List S} (h : modes [false] ss = true) : Mp.run G fu (n + 1) 23 ss = endR [false] ss (exs (CC G fu n) G_23.bd (ss.map some ++ List.replicate (2 - ss.length) none)) := run_at g23 h
theorem g24 : G.fd[24]? = some G_24 := rfl
theorem m24 : (CC G fu n).mus 24 = [false, false] := rfl
theorem o24 : (CC G fu n).nmOf 24 = ("has_size" : PySem.Str) := rfl
theorem r24 {ss : List S} (h : modes [false, false] ss = true) : Mp.run G fu (n + 1) 24 ss = endR [false, false] ss (exs (CC G fu n) G_24.bd (ss.map some ++ List.replicate (2 - ss.length) none)) := run_at g24 h
theorem g25 : G.fd[25]? = some G_25 := rfl
theorem m25 : (CC G fu n).mus 25 = [false] := rfl
theorem o25 : (CC G fu n).nmOf 25 = ("is_number" : PySem.Str) := rfl
theorem r25 {ss : List S} (h : modes [false] ss = true) : Mp.run G fu (n + 1) 25 ss = endR [false] ss (exs (CC G fu n) G_25.bd (ss.map some ++ List.replicate (1 - ss.length) none)) := run_at g25 h
theorem g26 : G.fd[26]? = some G_26 := rfl
theorem m26 : (CC G fu n).mus 26 = [false] := rfl
theorem o26 : (CC G fu n).nmOf 26 = ("is_int" : PySem.Str) := rfl
theorem r26 {ss : List S} (h : modes [false] ss = true) : Mp.run G fu (n + 1) 26 ss = endR [false] ss (exs (CC G fu n) G_26.bd (ss.map some ++ List.replicate (1 - ss.length) none)) := run_at g26 h
theorem g27 : G.fd[27]? = some G_27 := rfl
theorem m27 : (CC G fu n).mus 27 = [false, true, false, false] := rfl
theorem o27 : (CC G fu n).nmOf 27 = ("_law_drawn" : PySem.Str) := rfl
theorem r27 {ss : List S} (h : modes [false, true, false, false] ss = true) : Mp.run G fu (n + 1) 27 ss = endR [false, true, false, false] ss (exs (CC G fu n) G_27.bd (ss.map some ++ List.replicate (9 - ss.length) none)) := run_at g27 h
theorem g28 : G.fd[28]? = some G_28 := rfl
theorem m28 : (CC G fu n).mus 28 = [false, true, false, false] := rfl
theorem o28 : (CC G fu n).nmOf 28 = ("_law_edge" : PySem.Str) := rfl
theorem r28 {ss : List S} (h : modes [false, true, false, false] ss = true) : Mp.run G fu (n + 1) 28 ss = endR [false, true, false, false] ss (exs (CC G fu n) G_28.bd (ss.map some ++ List.replicate (7 - ss.length) none)) := run_at g28 h
theorem g29 : G.fd[29]? = some G_29 := rfl
theorem m29 : (CC G fu n).mus 29 = [false, true, false] := rfl
theorem o29 : (CC G fu n).nmOf 29 = ("_law_names" : PySem.Str) := rfl
theorem r29 {ss : List S} (h : modes [false, true, false] ss = true) : Mp.run G fu (n + 1) 29 ss = endR [false, true, false] ss (exs (CC G fu n) G_29.bd (ss.map some ++ List.replicate (8 - ss.length) none)) := run_at g29 h
theorem c0 : G.con[0]? = some (("LETTERS" : PySem.Str), (D.str (tx [97, 98, 99, 100, 101, 102, 103, 104, 105, 106, 107, 108, 109, 110, 111, 112, 113, 114, 115, 116, 117, 118, 119, 120, 121, 122]) : D)) := rfl
theorem c1 : G.con[1]? = some (("MOST_LETTERS" : PySem.Str), (D.int (8) : D)) := rfl
end
end K05

namespace Mp
open L2
theorem at_cons_zero {a : Option S} {l : En} : En.at (a :: l) 0 = a := rfl
theorem at_cons_succ {a : Option S} {l : En} {i : Nat} : En.at (a :: l) (i + 1) = En.at l i := rfl
theorem cEq_str {a b : PySem.Str} : cEq (.str a) (.str b) = some (a == b) := rfl
theorem cEq_int {a b : Int} : cEq (.int a) (.int b) = some (a == b) := rfl
theorem tx_beq {a b : List Nat} : ((tx a : PySem.Str) == tx b) = (a == b) := by
  rw [Bool.eq_iff_iff]
  simp [tx]
theorem len_tx {a : List Nat} : (tx a).length = a.length := by
  show (a.toArray).size = _
  simp
theorem add_tx {a b : List Nat} : (tx a : PySem.Str) ++ tx b = tx (a ++ b) := by
  show PySem.Str.append _ _ = _
  simp [PySem.Str.append, tx]
theorem cutS_tx {a : List Nat} {lo hi : Option Int} : cutS (tx a) lo hi = tx (cutD a lo hi) := by
  unfold cutS cutD
  rw [len_tx]
theorem cutD_nat {α : Type} {a : List α} {i j : Nat} (h : j ≤ a.length) : cutD a (some (i : Int)) (some (j : Int)) = (a.drop i).take (j - i) := by
  unfold cutD
  rw [HT.sIx_nat, HT.sIx_nat, Nat.min_eq_left h]
  by_cases hi : i ≤ a.length
  · rw [Nat.min_eq_left hi]
  · rw [Nat.min_eq_right (by omega), List.drop_length, List.drop_of_length_le (by omega)]
    simp
theorem cIn_tx {c : Nat} {z : List Nat} : cIn (.str (tx [c])) (.str (tx z)) = some (decide (c ∈ z)) := by
  simp [cIn, tx]
theorem whL_count {t : En → Out Bool} {f : En → So} {ρ : Nat → En} : ∀ (k fu i : Nat), (∀ j, i ≤ j → j < i + k → t (ρ j) = .ok true (ρ j) ∧ f (ρ j) = .nx (ρ (j + 1))) → t (ρ (i + k)) = .ok false (ρ (i + k)) → k < fu → whL t f fu (ρ i) = .nx (ρ (i + k))
  | 0, 0, i, h, e, hf => by omega
  | 0, fu + 1, i, h, e, hf => by
    simp only [whL]
    rw [Nat.add_zero] at e
    rw [e]
    rfl
  | k + 1, 0, i, h, e, hf => by omega
  | k + 1, fu + 1, i, h, e, hf => by
    simp only [whL]
    obtain ⟨h1, h2⟩ := h i (Nat.le_refl _) (by omega)
    rw [h1]
    simp only [Out.then, if_true]
    rw [h2]
    have r := whL_count k fu (i + 1) (fun j a b => h j (by omega) (by omega)) (by rw [show i + 1 + k = i + (k + 1) by omega]; exact e) (by omega)
    rw [show i + (k + 1) = i + 1 + k by omega]
    exact r
theorem tw_at {α : Type} {P : α → Bool} : ∀ (r : List α) (j : Nat), j < (r.takeWhile P).length → ∃ c s, r.drop j = c :: s ∧ P c = true
  | [], j, h => by simp at h
  | a :: r, j, h => by
    by_cases q : P a = true
    · rw [List.takeWhile_cons_of_pos q, List.length_cons] at h
      cases j with
      | zero => exact ⟨a, r, rfl, q⟩
      | succ j => exact tw_at r j (by omega)
    · rw [List.takeWhile_cons_of_neg q] at h
      simp at h
theorem tw_drop {α : Type} {P : α → Bool} : ∀ (r : List α), r.drop (r.takeWhile P).length = r.dropWhile P
  | [] => rfl
  | a :: r => by
    by_cases q : P a = true
    · rw [List.takeWhile_cons_of_pos q, List.dropWhile_cons_of_pos q, List.length_cons]
      exact tw_drop r
    · rw [List.takeWhile_cons_of_neg q, List.dropWhile_cons_of_neg q]
      rfl
theorem tw_take {α : Type} {P : α → Bool} : ∀ (r : List α), r.take (r.takeWhile P).length = r.takeWhile P
  | [] => rfl
  | a :: r => by
    by_cases q : P a = true
    · rw [List.takeWhile_cons_of_pos q, List.length_cons, List.take_succ_cons, tw_take r]
    · rw [List.takeWhile_cons_of_neg q]
      rfl
theorem dw_head {α : Type} {P : α → Bool} : ∀ (r : List α) {c : α} {s : List α}, r.dropWhile P = c :: s → P c = false
  | [], _, _, h => by simp at h
  | a :: r, c, s, h => by
    by_cases q : P a = true
    · rw [List.dropWhile_cons_of_pos q] at h
      exact dw_head r h
    · rw [List.dropWhile_cons_of_neg q] at h
      cases h
      simpa using q
theorem drop_ge {α : Type} {t : List α} {p : Nat} {c : α} {s : List α} (h : t.drop p = c :: s) : p + 1 ≤ t.length ∧ t.drop (p + 1) = s := by
  refine ⟨?_, ?_⟩
  · rcases Nat.lt_or_ge p t.length with k | k
    · exact k
    · rw [List.drop_of_length_le k] at h; cases h
  · rw [← List.drop_drop, h]; rfl
theorem at_nat {α : Type} {f : List α} {k : Nat} (h : k < f.length) : atI f (k : Int) = f[k]? := by
  unfold atI ixN
  rw [if_pos (by omega), if_pos (by omega)]
  rfl
theorem at_zero {α : Type} {x : α} {f : List α} : atI (x :: f) 0 = some x := at_nat (k := 0) (by simp)
def Sts.drop : Nat → Sts → Sts
  | 0, l => l
  | k + 1, .cons _ l => l.drop k
  | _ + 1, .nil => .nil
theorem tw_take_min {α : Type} {P : α → Bool} (r : List α) (m : Nat) : r.take ((r.takeWhile P).take m).length = (r.takeWhile P).take m := by
  rw [List.length_take, ← List.take_take, tw_take]
theorem bo_int {i j : Int} : Bo.ap .add (.int i) (.int j) = some (.val (.int (i + j))) := rfl
/-! ### loops -/
inductive All2 {α β : Type} (R : α → β → Prop) : List α → List β → Prop
  | nil : All2 R [] []
  | cons {a : α} {b : β} {l : List α} {m : List β} : R a b → All2 R l m → All2 R (a :: l) (b :: m)
theorem All2.map {α β : Type} {R : α → β → Prop} {F : α → β} : ∀ {l : List α}, (∀ a ∈ l, R a (F a)) → All2 R l (l.map F)
  | [], _ => .nil
  | a :: l, h => .cons (h a List.mem_cons_self) (All2.map fun b hb => h b (List.mem_cons_of_mem _ hb))
theorem All2.ex {α β : Type} {R : α → β → Prop} : ∀ {l : List α}, (∀ a ∈ l, ∃ b, R a b) → ∃ m, All2 R l m
  | [], _ => ⟨[], .nil⟩
  | a :: l, h => by
    obtain ⟨b, hb⟩ := h a List.mem_cons_self
    obtain ⟨m, hm⟩ := All2.ex (l := l) fun x hx => h x (List.mem_cons_of_mem _ hx)
    exact ⟨b :: m, .cons hb hm⟩
theorem All2.length {α β : Type} {R : α → β → Prop} {l : List α} {m : List β} (h : All2 R l m) : m.length = l.length := by
  induction h with
  | nil => rfl
  | cons _ _ ih => simp [ih]
theorem All2.mem {α β : Type} {R : α → β → Prop} {l : List α} {m : List β} (h : All2 R l m) : ∀ b ∈ m, ∃ a ∈ l, R a b := by
  induction h with
  | nil => intro b hb; cases hb
  | cons h _ ih =>
    intro b hb
    rcases List.mem_cons.mp hb with z | z
    · subst z; exact ⟨_, List.mem_cons_self, h⟩
    · obtain ⟨a, ha, r⟩ := ih b z; exact ⟨a, List.mem_cons_of_mem _ ha, r⟩
def stepF (c : Cc) (e : Ex) (i : Nat) (ρ : En) : D → List D × En → Out (List D × En) := fun d a => match bindT true [i] d (wipeE a.2 [i]) with
  | some ρ1 => (evF c .no ρ1).bind fun k ρ2 => if k then (ev c e ρ2).bind fun r ρ3 => match fz ρ3 r with
      | some (x, ρ4) => if a.1.length < lim then .ok (a.1 ++ [x], mend [i] ρ ρ4) ρ4 else .bad
      | none => .bad
    else .ok (a.1, mend [i] ρ ρ2) ρ2
  | none => .bad
theorem mend_set {ρ : En} {i : Nat} {a : Option S} (hi : i < ρ.length) : mend [i] ρ (ρ.set i a) = ρ := by
  simp only [mend, List.foldr_cons, List.foldr_nil, List.set_set]
  apply List.ext_getElem?
  intro j
  by_cases q : i = j
  · subst q
    rw [List.getElem?_set_self hi, List.getElem?_eq_getElem hi]
    rfl
  · rw [List.getElem?_set_ne q]
theorem stepF_ok {c : Cc} {e : Ex} {i : Nat} {ρ : En} {d r : D} {acc : List D} (hi : i < ρ.length) (h : ev c e (ρ.set i (some (.val d))) = .ok (.val r) (ρ.set i (some (.val d)))) (hl : acc.length < lim) :
    stepF c e i ρ d (acc, ρ) = .ok (acc ++ [r], ρ) (ρ.set i (some (.val d))) := by
  simp only [stepF, wipeE, bindT, evF, if_true, List.set_set, Out.bind, h, fz]
  rw [if_pos hl, mend_set hi]
theorem turns_map {c : Cc} {e : Ex} {i : Nat} {ρ : En} (hi : i < ρ.length) : ∀ {l rs acc : List D}, All2 (fun d r => ev c e (ρ.set i (some (.val d))) = .ok (.val r) (ρ.set i (some (.val d)))) l rs → acc.length + l.length ≤ lim →
    turns (stepF c e i ρ) (·.2) l (acc, ρ) = .ok (acc ++ rs, ρ) ρ
  | [], _, acc, .nil, _ => by simp [turns]
  | d :: l, r :: rs, acc, .cons h t, hl => by
    simp only [turns]
    rw [List.length_cons] at hl
    rw [stepF_ok hi h (by omega)]
    dsimp only
    have k := turns_map hi (l := l) (rs := rs) (acc := acc ++ [r]) t (by rw [List.length_append, List.length_singleton]; omega)
    rw [List.append_assoc] at k
    exact k
theorem lc_okz {c : Cc} {e : Ex} {i : Nat} {x : PySem.Str} {it : It} {ρ ρ0 : En} {l rs : List D} (hh : c.hot = false) (hi : i < ρ.length) (hit : (evI c it ρ0).bind frzS = .ok (.fix l) ρ) (h : All2 (fun d r => ev c e (ρ.set i (some (.val d))) = .ok (.val r) (ρ.set i (some (.val d)))) l rs) (hl : l.length ≤ lim) :
    ev c (.lc e [(x, i)] it [i] true .no) ρ0 = .ok (.tmp (.lst rs)) ρ := by
  have k := turns_map hi h (acc := []) (by simpa using hl)
  have u : ev c (.lc e [(x, i)] it [i] true .no) ρ0 = if c.hot = true then .bad else ((evI c it ρ0).bind frzS).bind fun s ρ => match s with
    | .fix l => match turns (stepF c e i ρ) (·.2) l ([], ρ) with
      | .ok a ρ => .ok (.tmp (.lst a.1)) ρ
      | .er _ _ => .bad
      | .bad => .bad
    | .dyn _ => .bad := by simp only [ev]; rfl
  rw [u, if_neg (by rw [hh]; decide), hit]
  simp only [Out.bind]
  rw [k]
  rfl
theorem lc_ok {c : Cc} {e : Ex} {i : Nat} {x : PySem.Str} {it : It} {ρ : En} {l rs : List D} (hh : c.hot = false) (hi : i < ρ.length) (hit : evI c it ρ = .ok (.fix l) ρ) (h : All2 (fun d r => ev c e (ρ.set i (some (.val d))) = .ok (.val r) (ρ.set i (some (.val d)))) l rs) (hl : l.length ≤ lim) :
    ev c (.lc e [(x, i)] it [i] true .no) ρ = .ok (.tmp (.lst rs)) ρ := lc_okz hh hi (by rw [hit]; rfl) h hl
theorem evI_rng1 {c : Cc} {a : Ex} {ρ z : En} {i : Int} (hb : big62 i = true) (h : ev c a ρ = .ok (.val (.int i)) z) : evI c (.rng1 a) ρ = .ok (.fix (rngD 0 i)) z := by
  simp only [evI]
  rw [h]
  show cond (big62 i) (Out.ok (Sr.fix (rngD 0 i)) z) .bad = _
  rw [hb]
  rfl
theorem evI_rng1s {c : Cc} {a : Ex} {ρ : En} {i : Int} (hb : big62 i = true) (h : ev c a ρ = .ok (.val (.int i)) ρ) : evI c (.rng1 a) ρ = .ok (.fix (rngD 0 i)) ρ := evI_rng1 hb h
theorem big_of {a : Nat} (h : a ≤ 1000000) : big62 (a : Int) = true := by
  exact big62_iff.mpr ⟨by omega, by omega⟩
theorem forL_inv {f : D → En → So} (P : Nat → En → Prop) : ∀ (l : List D) (k : Nat) (ρ : En), P k ρ → (∀ j d ρ, l[j]? = some d → P (k + j) ρ → ∃ ρ', f d ρ = .nx ρ' ∧ P (k + j + 1) ρ') → ∃ ρ', forL f l ρ = .nx ρ' ∧ P (k + l.length) ρ'
  | [], k, ρ, h, _ => ⟨ρ, rfl, h⟩
  | d :: l, k, ρ, h, st => by
    obtain ⟨ρ1, e1, p1⟩ := st 0 d ρ rfl h
    obtain ⟨ρ2, e2, p2⟩ := forL_inv P l (k + 1) ρ1 p1 fun j d ρ hd hp => by
      have := st (j + 1) d ρ hd (by rw [show k + (j + 1) = k + 1 + j by omega]; exact hp)
      rw [show k + (j + 1) + 1 = k + 1 + j + 1 by omega] at this
      exact this
    refine ⟨ρ2, ?_, by rw [List.length_cons, show k + (l.length + 1) = k + 1 + l.length by omega]; exact p2⟩
    simp only [forL]
    rw [e1]
    exact e2
theorem rng_len {n : Nat} : (rngD 0 (n : Int)).length = n := by simp [rngD]
theorem rng_at {n j : Nat} {d : D} (h : (rngD 0 (n : Int))[j]? = some d) : j < n ∧ d = .int (j : Int) := by
  have hj : j < (rngD 0 (n : Int)).length := by
    rcases Nat.lt_or_ge j (rngD 0 (n : Int)).length with z | z
    · exact z
    · rw [List.getElem?_eq_none z] at h; cases h
  rw [rng_len] at hj
  refine ⟨hj, ?_⟩
  simp [rngD, hj] at h
  exact h.symm
end Mp
namespace Mp
open L2
theorem bo_sub {i j : Int} : Bo.ap .sub (.int i) (.int j) = some (.val (.int (i - j))) := rfl
theorem bo_mulc {i j : Int} (h : -(2 ^ 64) < j ∧ j < 2 ^ 64) : Bo.ap .mul (.int i) (.int j) = some (.val (.int (i * j))) := by
  simp only [Bo.ap]; rw [if_pos (.inr ⟨h.1, Int.not_le.mpr h.2⟩)]
theorem bo_mul2 {i j : Int} (h : -(2 ^ 64) < i ∧ i < 2 ^ 64) : Bo.ap .mul (.int i) (.int j) = some (.val (.int (i * j))) := by
  simp only [Bo.ap]; rw [if_pos (.inl ⟨h.1, Int.not_le.mpr h.2⟩)]
theorem bo_mod {i j : Int} (h : j ≠ 0) : Bo.ap .mod (.int i) (.int j) = some (.val (.int (i.fmod j))) := by
  simp only [Bo.ap]; rw [if_pos h]
theorem bo_fdiv {i j : Int} (h : j ≠ 0 ∧ j.natAbs < 1073741824) : Bo.ap .fdiv (.int i) (.int j) = some (.val (.int (i.fdiv j))) := by
  simp only [Bo.ap]; rw [if_pos h]
theorem p18 : Bo.ap .pow (.int 10) (.int 18) = some (.val (.int 1000000000000000000)) := rfl
abbrev li (l : List Int) : D := .lst (l.map .int)
theorem li_at {bs : List Int} {j : Nat} {b : Int} (h : bs[j]? = some b) : atD (bs.map D.int) (j : Int) = some (.int b) := by
  have hj : j < bs.length := by
    rcases Nat.lt_or_ge j bs.length with z | z
    · exact z
    · rw [List.getElem?_eq_none z] at h; cases h
  unfold atD
  rw [at_nat (by rw [List.length_map]; exact hj), List.getElem?_map, h]
  rfl
/-! ### the state of the draws -/
abbrev K4 : List Key := [.inr (tx [114, 101, 115, 116]), .inr (tx [110, 101, 120, 116]), .inr (tx [99, 111, 117, 110, 116]), .inr (tx [100, 105, 103, 105, 116, 115])]
section
variable {a b c d x : D}
theorem get_rest : dGet K4 [a, b, c, d] (.inr (tx [114, 101, 115, 116])) = some a := rfl
theorem get_next : dGet K4 [a, b, c, d] (.inr (tx [110, 101, 120, 116])) = some b := rfl
theorem get_count : dGet K4 [a, b, c, d] (.inr (tx [99, 111, 117, 110, 116])) = some c := rfl
theorem get_digits : dGet K4 [a, b, c, d] (.inr (tx [100, 105, 103, 105, 116, 115])) = some d := rfl
theorem put_rest : dPut K4 [a, b, c, d] (.inr (tx [114, 101, 115, 116])) x = (K4, [x, b, c, d]) := rfl
theorem put_next : dPut K4 [a, b, c, d] (.inr (tx [110, 101, 120, 116])) x = (K4, [a, x, c, d]) := rfl
theorem put_count : dPut K4 [a, b, c, d] (.inr (tx [99, 111, 117, 110, 116])) x = (K4, [a, b, x, d]) := rfl
theorem put_digits : dPut K4 [a, b, c, d] (.inr (tx [100, 105, 103, 105, 116, 115])) x = (K4, [a, b, c, x]) := rfl
end
/-- the draws' state -/
abbrev dst (r nx c d : Int) : D := .dct K4 [.int r, .int nx, .int c, .int d]
end Mp

namespace Mp
open L2
/-! for graphs: comprehensions, rows of texts -/
theorem dBls_map : ∀ (bs : List Bool), dBls (bs.map D.bl) = some bs
  | [] => rfl
  | b :: bs => by simp only [List.map_cons, dBls, dBls_map bs]; rfl
theorem dStrs_map : ∀ (ss : List PySem.Str), dStrs (ss.map D.str) = some ss
  | [] => rfl
  | b :: bs => by simp only [List.map_cons, dStrs, dStrs_map bs]; rfl
theorem dInts_mapI : ∀ (ss : List Int), dInts (ss.map D.int) = some ss
  | [] => rfl
  | b :: bs => by simp only [List.map_cons, dInts, dInts_mapI bs]; rfl
theorem lc_okM {c : Cc} {e : Ex} {i : Nat} {x : PySem.Str} {it : It} {ρ : En} {l : List D} (F : D → D) (hh : c.hot = false) (hi : i < ρ.length) (hit : evI c it ρ = .ok (.fix l) ρ)
    (h : ∀ d ∈ l, ev c e (ρ.set i (some (.val d))) = .ok (.val (F d)) (ρ.set i (some (.val d)))) (hl : l.length ≤ lim) : ev c (.lc e [(x, i)] it [i] true .no) ρ = .ok (.tmp (.lst (l.map F))) ρ :=
  lc_ok hh hi hit (All2.map h) hl
def stepT (c : Cc) (e : Ex) (t : Te) (i : Nat) (ρ : En) : D → List D × En → Out (List D × En) := fun d a => match bindT true [i] d (wipeE a.2 [i]) with
  | some ρ1 => (evF c (.so t) ρ1).bind fun k ρ2 => if k then (ev c e ρ2).bind fun r ρ3 => match fz ρ3 r with
      | some (x, ρ4) => if a.1.length < lim then .ok (a.1 ++ [x], mend [i] ρ ρ4) ρ4 else .bad
      | none => .bad
    else .ok (a.1, mend [i] ρ ρ2) ρ2
  | none => .bad
theorem stepT_yes {c : Cc} {e : Ex} {t : Te} {i : Nat} {ρ : En} {d r : D} {acc : List D} (hi : i < ρ.length) (ht : evT c t (ρ.set i (some (.val d))) = .ok true (ρ.set i (some (.val d)))) (h : ev c e (ρ.set i (some (.val d))) = .ok (.val r) (ρ.set i (some (.val d)))) (hl : acc.length < lim) :
    stepT c e t i ρ d (acc, ρ) = .ok (acc ++ [r], ρ) (ρ.set i (some (.val d))) := by
  simp only [stepT, wipeE, bindT, evF, if_true, List.set_set, Out.bind, ht, h, fz]
  rw [if_pos hl, mend_set hi]
theorem stepT_no {c : Cc} {e : Ex} {t : Te} {i : Nat} {ρ : En} {d : D} {acc : List D} (hi : i < ρ.length) (ht : evT c t (ρ.set i (some (.val d))) = .ok false (ρ.set i (some (.val d)))) :
    stepT c e t i ρ d (acc, ρ) = .ok (acc, ρ) (ρ.set i (some (.val d))) := by
  simp only [stepT, wipeE, bindT, evF, if_true, List.set_set, Out.bind, ht]
  rw [if_neg (by decide), mend_set hi]
theorem turns_fil {c : Cc} {e : Ex} {t : Te} {i : Nat} {ρ : En} {P : D → Bool} {F : D → D} (hi : i < ρ.length) : ∀ {l acc : List D}, (∀ d ∈ l, evT c t (ρ.set i (some (.val d))) = .ok (P d) (ρ.set i (some (.val d)))) →
    (∀ d ∈ l, P d = true → ev c e (ρ.set i (some (.val d))) = .ok (.val (F d)) (ρ.set i (some (.val d)))) → acc.length + l.length ≤ lim → turns (stepT c e t i ρ) (·.2) l (acc, ρ) = .ok (acc ++ (l.filter P).map F, ρ) ρ
  | [], acc, _, _, _ => by simp [turns]
  | d :: l, acc, h1, h2, hl => by
    simp only [turns]
    rw [List.length_cons] at hl
    cases q : P d with
    | true =>
      rw [stepT_yes hi (by rw [h1 d List.mem_cons_self, q]) (h2 d List.mem_cons_self q) (by omega)]
      dsimp only
      rw [turns_fil (P := P) (F := F) hi (fun a ha => h1 a (List.mem_cons_of_mem _ ha)) (fun a ha => h2 a (List.mem_cons_of_mem _ ha)) (by rw [List.length_append, List.length_singleton]; omega), List.filter_cons_of_pos q, List.map_cons, List.append_assoc]
      rfl
    | false =>
      rw [stepT_no hi (by rw [h1 d List.mem_cons_self, q])]
      dsimp only
      rw [turns_fil (P := P) (F := F) hi (fun a ha => h1 a (List.mem_cons_of_mem _ ha)) (fun a ha => h2 a (List.mem_cons_of_mem _ ha)) (by omega), List.filter_cons_of_neg (by rw [q]; decide)]
theorem lc_okMz {c : Cc} {e : Ex} {i : Nat} {x : PySem.Str} {it : It} {ρ ρ0 : En} {l : List D} (F : D → D) (hh : c.hot = false) (hi : i < ρ.length) (hit : (evI c it ρ0).bind frzS = .ok (.fix l) ρ)
    (h : ∀ d ∈ l, ev c e (ρ.set i (some (.val d))) = .ok (.val (F d)) (ρ.set i (some (.val d)))) (hl : l.length ≤ lim) : ev c (.lc e [(x, i)] it [i] true .no) ρ0 = .ok (.tmp (.lst (l.map F))) ρ :=
  lc_okz hh hi hit (All2.map h) hl
theorem lc_okFz {c : Cc} {e : Ex} {i : Nat} {x : PySem.Str} {it : It} {t : Te} {ρ ρ0 : En} {l : List D} (P : D → Bool) (F : D → D) (hh : c.hot = false) (hi : i < ρ.length) (hit : (evI c it ρ0).bind frzS = .ok (.fix l) ρ)
    (h1 : ∀ d ∈ l, evT c t (ρ.set i (some (.val d))) = .ok (P d) (ρ.set i (some (.val d)))) (h2 : ∀ d ∈ l, P d = true → ev c e (ρ.set i (some (.val d))) = .ok (.val (F d)) (ρ.set i (some (.val d)))) (hl : l.length ≤ lim) :
    ev c (.lc e [(x, i)] it [i] true (.so t)) ρ0 = .ok (.tmp (.lst ((l.filter P).map F))) ρ := by
  have k := turns_fil hi h1 h2 (acc := []) (by simpa using hl)
  have u : ev c (.lc e [(x, i)] it [i] true (.so t)) ρ0 = if c.hot = true then .bad else ((evI c it ρ0).bind frzS).bind fun s ρ => match s with
    | .fix l => match turns (stepT c e t i ρ) (·.2) l ([], ρ) with
      | .ok a ρ => .ok (.tmp (.lst a.1)) ρ
      | .er _ _ => .bad
      | .bad => .bad
    | .dyn _ => .bad := by simp only [ev]; rfl
  rw [u, if_neg (by rw [hh]; decide), hit]
  simp only [Out.bind]
  rw [k]
  rfl
theorem lc_okF {c : Cc} {e : Ex} {i : Nat} {x : PySem.Str} {it : It} {t : Te} {ρ : En} {l : List D} (P : D → Bool) (F : D → D) (hh : c.hot = false) (hi : i < ρ.length) (hit : evI c it ρ = .ok (.fix l) ρ)
    (h1 : ∀ d ∈ l, evT c t (ρ.set i (some (.val d))) = .ok (P d) (ρ.set i (some (.val d)))) (h2 : ∀ d ∈ l, P d = true → ev c e (ρ.set i (some (.val d))) = .ok (.val (F d)) (ρ.set i (some (.val d)))) (hl : l.length ≤ lim) :
    ev c (.lc e [(x, i)] it [i] true (.so t)) ρ = .ok (.tmp (.lst ((l.filter P).map F))) ρ := lc_okFz P F hh hi (by rw [hit]; rfl) h1 h2 hl
/-- signs that may stand in a text -/
def okS (s : PySem.Str) : Prop := PySem.PyData.strOk s = true
/-- values that may stand where a name is asked -/
inductive Odd : D → Prop
  | str (s : PySem.Str) (h : s.length ≤ 1000) (k : okS s) : Odd (.str s)
  | int (i : Int) : Odd (.int i)
  | bl (b : Bool) : Odd (.bl b)
  | non : Odd .non
  | lst (s : PySem.Str) (k : okS s) : Odd (.lst [.str s])
  | tup (s : PySem.Str) (k : okS s) : Odd (.tup [.str s])
def inSd (d : D) (l : List PySem.Str) : Bool := match d with
  | .str s => decide (s ∈ l)
  | _ => false
def eqS (d : D) (a : PySem.Str) : Bool := match d with
  | .str s => a == s
  | _ => false
theorem flat_strs (l : List PySem.Str) : (l.map D.str).all D.flat = true := by simp [D.flat]
theorem pys_strs : ∀ (l : List PySem.Str), D.pys (l.map D.str) = some (l.map PySem.PyData.str)
  | [] => rfl
  | s :: l => by simp only [List.map_cons, D.pys, D.py, pys_strs l]
theorem lay_strs : ∀ (l : List PySem.Str), (∀ s ∈ l, okS s) → PySem.PyData.canLayAll0 (l.map PySem.PyData.str) = true
  | [], _ => rfl
  | s :: l, h => by
    simp only [List.map_cons, PySem.PyData.canLayAll0, PySem.PyData.canLay0, lay_strs l fun a ha => h a (List.mem_cons_of_mem _ ha)]
    have := h s List.mem_cons_self
    simp only [okS] at this
    rw [this]; rfl
theorem depth_strs : ∀ (l : List PySem.Str), PySem.PyData.depthAll (l.map PySem.PyData.str) = 0
  | [] => rfl
  | s :: l => by simp [PySem.PyData.depthAll, PySem.PyData.depth, depth_strs l]
theorem shaped_strs {l : List PySem.Str} (h : ∀ s ∈ l, okS s) : PySem.SeqAt.shaped (.tuple (l.map PySem.PyData.str)) = true := by
  simp [PySem.SeqAt.shaped, PySem.PyData.canLay0, PySem.PyData.depth, lay_strs l h, depth_strs]
theorem shaped_strsL {l : List PySem.Str} (h : ∀ s ∈ l, okS s) : PySem.SeqAt.shaped (.list (l.map PySem.PyData.str)) = true := by
  simp [PySem.SeqAt.shaped, PySem.PyData.canLay0, PySem.PyData.depth, lay_strs l h, depth_strs]
theorem shaped_str {s : PySem.Str} (h : okS s) : PySem.SeqAt.shaped (.str s) = true := by
  simp only [okS] at h
  simp [PySem.SeqAt.shaped, PySem.PyData.canLay0, PySem.PyData.depth, h]
theorem one_str {s : PySem.Str} (h : okS s) : ∀ a ∈ [s], okS a := fun a ha => by rw [List.mem_singleton.mp ha]; exact h
theorem eqf_ss {a b : PySem.Str} : D.eqf (.str a) (.str b) = (a == b) := rfl
theorem any_strs {s : PySem.Str} : ∀ (l : List PySem.Str), (l.map D.str).any (fun y => D.eqf y (.str s)) = decide (s ∈ l)
  | [] => by simp
  | a :: l => by
    rw [List.map_cons, List.any_cons, any_strs l, eqf_ss, Bool.eq_iff_iff]
    simp only [Bool.or_eq_true, beq_iff_eq, decide_eq_true_eq, List.mem_cons]
    exact ⟨fun h => h.imp Eq.symm id, fun h => h.imp Eq.symm id⟩
theorem any_off {d : D} (h : ∀ s, D.eqf (.str s) d = false) (l : List PySem.Str) : (l.map D.str).any (fun y => D.eqf y d) = false := by
  simp [List.any_eq_false, h]
theorem cIn_strs {d : D} (h : Odd d) {l : List PySem.Str} (hl : ∀ s ∈ l, okS s) : cIn d (.tup (l.map .str)) = some (inSd d l) := by
  have f := flat_strs l
  have sl := shaped_strs hl
  cases h with
  | str s _ _ => simp only [cIn, D.flat, f, any_strs]; rfl
  | int i => simp only [cIn, D.flat, f, any_off (d := .int i) fun s => rfl]; rfl
  | bl b => simp only [cIn, D.flat, f, any_off (d := .bl b) fun s => rfl]; rfl
  | non => simp only [cIn, D.flat, f, any_off (d := .non) fun s => rfl]; rfl
  | lst s k =>
    have s1 := shaped_strsL (one_str k)
    simp only [List.map_cons, List.map_nil] at s1
    simp [cIn, D.flat, D.py, D.pys, pys_strs, sl, s1, inSd, PySem.PyData.eqv]
  | tup s k =>
    have s1 := shaped_strs (one_str k)
    simp only [List.map_cons, List.map_nil] at s1
    simp [cIn, D.flat, D.py, D.pys, pys_strs, sl, s1, inSd, PySem.PyData.eqv]
theorem cIn_strsL {s : PySem.Str} {l : List PySem.Str} : cIn (.str s) (.lst (l.map .str)) = some (decide (s ∈ l)) := by
  have f := flat_strs l
  simp only [cIn, D.flat, f, any_strs]; rfl
theorem cEq_so {d : D} (h : Odd d) {a : PySem.Str} (ha : okS a) : cEq (.str a) d = some (eqS d a) := by
  cases h with
  | str s _ _ => rfl
  | int i => rfl
  | bl b => rfl
  | non => rfl
  | lst s k =>
    have s1 := shaped_strsL (one_str k)
    simp only [List.map_cons, List.map_nil] at s1
    simp [cEq, D.sc, D.py, D.pys, s1, shaped_str ha, eqS, PySem.PyData.eqv]
  | tup s k =>
    have s1 := shaped_strs (one_str k)
    simp only [List.map_cons, List.map_nil] at s1
    simp [cEq, D.sc, D.py, D.pys, s1, shaped_str ha, eqS, PySem.PyData.eqv]
/-! ### names -/
abbrev ab : List Nat := [97, 98, 99, 100, 101, 102, 103, 104, 105, 106, 107, 108, 109, 110, 111, 112, 113, 114, 115, 116, 117, 118, 119, 120, 121, 122]
def inAb (c : Nat) : Bool := decide (c ∈ ab)
theorem cIn_ab {c : Nat} : cIn (.str ⟨#[c]⟩) (.str (tx ab)) = some (inAb c) := cIn_tx
def nmB (s : PySem.Str) : Bool := decide (1 ≤ s.length) && decide (s.length ≤ 8) && s.cps.toList.all inAb
def nameD : D → Bool
  | .str s => nmB s
  | _ => false
theorem nmB_ok {s : PySem.Str} (h : nmB s = true) : okS s := by
  simp only [nmB, inAb, Bool.and_eq_true, List.all_eq_true, decide_eq_true_eq] at h
  simp only [okS, PySem.PyData.strOk]
  rw [Array.all_eq_true]
  intro i hi
  have := h.2 s.cps[i] (by simp)
  have k : ∀ c ∈ ab, c < 123 := by decide
  have := k _ this
  simp only [decide_eq_true_eq]
  omega
theorem nmB_len {s : PySem.Str} (h : nmB s = true) : s.length ≤ 8 := by
  simp only [nmB, Bool.and_eq_true, decide_eq_true_eq] at h
  exact h.1.2
theorem nmB_odd {s : PySem.Str} (h : nmB s = true) : Odd (.str s) := .str s (by have := nmB_len h; omega) (nmB_ok h)
end Mp

namespace K05
open Mp L2
variable {fu n : Nat}
def mix1 (a c : Int) : Int := (a * 48271 + c * 69621 + 11).fmod 2147483647
def mix (a c : Int) : Int := (mix1 a c * 40692 + (mix1 a c).fdiv 127 * 131 + c * 7).fmod 2147483399
theorem mixed_ok (a c : Int) : Mp.run G fu (n + 1) 2 [.val (.int a), .val (.int c)] = .ok (.val (.int (mix a c))) [.val (.int a), .val (.int c)] := by
  rw [r2 rfl]
  simp [G_2, exs, ex, ev, evs, evT, evA, evW, evO, evF, evI, exh, En.at, Out.bind, Out.then, So.then, op1, op2, opL, view, views, lift, Co.ap, bR, slD, ixD, endR, parm, modes, fz, fzs, tr1, truth, asgR, tupR, ixR, kxR, D.key, flR, fPut, agfR, augI, agxR, raiR, callR, makeR, muR, Mu.ap, Qm.apT, Qm.apL, revD, Bi.ap, Bi.cool, prep, lent, back, D.isNon, D.isAny, D.isA, bindT, srOf, turnB, muOwn, CC_call, CC_g, CC_fu, CC_hot, CC_heat, cEq_str, cEq_int, tx_beq, len_tx, add_tx, cutS_tx, tyNames, bo_int, bo_mulc, bo_mod, bo_fdiv, mix, mix1]
theorem draw_ok {ns : List Int} {r c d m : Int} {nx : Nat} (m0 : 0 < m) (m1 : m < 1073741824) :
    ∃ (k : Int) (r' c' d' : Int) (nx' : Nat), 0 ≤ k ∧ k < m ∧ Mp.run G fu (n + 2) 1 [.val (li ns), .own (dst r nx c d), .val (.int m)] = .ok (.val (.int k)) [.val (li ns), .own (dst r' nx' c' d'), .val (.int m)] := by
  have mn : m ≠ 0 := by omega
  have mf : m ≠ 0 ∧ m.natAbs < 1073741824 := ⟨mn, by omega⟩
  have md : ∀ x : Int, 0 ≤ x.fmod m ∧ x.fmod m < m := fun x => ⟨Int.fmod_nonneg_of_pos x m0, Int.fmod_lt_of_pos x m0⟩
  have mx := fun a c => mixed_ok (fu := fu) (n := n) a c
  have hnx : (((nx : Nat) : Int) + 1) = (((nx + 1 : Nat)) : Int) := by omega
  by_cases q : r = 0 ∧ nx < ns.length
  · obtain ⟨q1, q2⟩ := q
    subst q1
    have e1 : atD (ns.map D.int) (nx : Int) = some (.int ns[nx]) := li_at (List.getElem?_eq_getElem q2)
    have hl : 0 < ns.length := by omega
    have e0 : atD (ns.map D.int) 0 = some (.int ns[0]) := li_at (j := 0) (List.getElem?_eq_getElem hl)
    have q3 : ((nx : Nat) : Int) < ((ns.length : Nat) : Int) := by omega
    by_cases t1 : ns[nx] < 1000000000000000000
    · refine ⟨(mix ns[nx] (c + 1)).fmod m, 0, c + 1, d, nx + 1, (md _).1, (md _).2, ?_⟩
      rw [r1 rfl]
      simp [G_1, exs, ex, ev, evs, evT, evA, evW, evO, evF, evI, exh, En.at, Out.bind, Out.then, So.then, op1, op2, opL, view, views, lift, Co.ap, bR, slD, ixD, endR, parm, modes, fz, fzs, tr1, truth, asgR, tupR, ixR, kxR, D.key, flR, fPut, agfR, augI, agxR, raiR, callR, makeR, muR, Mu.ap, Qm.apT, Qm.apL, revD, Bi.ap, Bi.cool, prep, lent, back, D.isNon, D.isAny, D.isA, bindT, srOf, turnB, muOwn, CC_call, CC_g, CC_fu, CC_hot, CC_heat, cEq_str, cEq_int, tx_beq, len_tx, add_tx, cutS_tx, tyNames, bo_int, bo_mulc, bo_mod, bo_fdiv, bo_sub, p18, e1, e0, q2, t1, mn, mf, mx, m2, get_rest, get_next, get_count, get_digits, put_rest, put_next, put_count, put_digits]
    · by_cases t2 : (ns[0]).fmod 2 = 1
      · refine ⟨(mix ns[nx] (c + 1)).fmod m, 0, c + 1, d, nx + 1, (md _).1, (md _).2, ?_⟩
        rw [r1 rfl]
        simp [G_1, exs, ex, ev, evs, evT, evA, evW, evO, evF, evI, exh, En.at, Out.bind, Out.then, So.then, op1, op2, opL, view, views, lift, Co.ap, bR, slD, ixD, endR, parm, modes, fz, fzs, tr1, truth, asgR, tupR, ixR, kxR, D.key, flR, fPut, agfR, augI, agxR, raiR, callR, makeR, muR, Mu.ap, Qm.apT, Qm.apL, revD, Bi.ap, Bi.cool, prep, lent, back, D.isNon, D.isAny, D.isA, bindT, srOf, turnB, muOwn, CC_call, CC_g, CC_fu, CC_hot, CC_heat, cEq_str, cEq_int, tx_beq, len_tx, add_tx, cutS_tx, tyNames, bo_int, bo_mulc, bo_mod, bo_fdiv, bo_sub, p18, e1, e0, q2, t1, mn, mf, mx, m2, get_rest, get_next, get_count, get_digits, put_rest, put_next, put_count, put_digits, t2]
      · have hp : 0 < (ns[nx]).fdiv 2 := by
          have := Int.mul_fdiv_add_fmod ns[nx] 2
          have := Int.fmod_lt_of_pos ns[nx] (b := 2) (by decide)
          omega
        refine ⟨((ns[nx]).fdiv 2).fmod m, ((ns[nx]).fdiv 2).fdiv m * 1, c + 1, 59, nx + 1, (md _).1, (md _).2, ?_⟩
        rw [r1 rfl]
        simp [G_1, exs, ex, ev, evs, evT, evA, evW, evO, evF, evI, exh, En.at, Out.bind, Out.then, So.then, op1, op2, opL, view, views, lift, Co.ap, bR, slD, ixD, endR, parm, modes, fz, fzs, tr1, truth, asgR, tupR, ixR, kxR, D.key, flR, fPut, agfR, augI, agxR, raiR, callR, makeR, muR, Mu.ap, Qm.apT, Qm.apL, revD, Bi.ap, Bi.cool, prep, lent, back, D.isNon, D.isAny, D.isA, bindT, srOf, turnB, muOwn, CC_call, CC_g, CC_fu, CC_hot, CC_heat, cEq_str, cEq_int, tx_beq, len_tx, add_tx, cutS_tx, tyNames, bo_int, bo_mulc, bo_mod, bo_fdiv, bo_sub, p18, e1, e0, q2, t1, mn, mf, mx, m2, get_rest, get_next, get_count, get_digits, put_rest, put_next, put_count, put_digits, t2, hp]
  · have q' : (r = 0 ∧ ((nx : Nat) : Int) < ((ns.length : Nat) : Int)) = False := eq_false fun z => q ⟨z.1, by omega⟩
    by_cases t3 : 0 < r
    · refine ⟨r.fmod m, r.fdiv m * (if 1 < d then 1 else 0), c + 1, d - 1, nx, (md _).1, (md _).2, ?_⟩
      have rn : r ≠ 0 := by omega
      have bm : Bo.ap .mul (.int (r.fdiv m)) (.int (if 1 < d then 1 else 0)) = some (.val (.int (r.fdiv m * (if 1 < d then 1 else 0)))) := bo_mulc (by split <;> decide)
      rw [r1 rfl]
      simp [G_1, exs, ex, ev, evs, evT, evA, evW, evO, evF, evI, exh, En.at, Out.bind, Out.then, So.then, op1, op2, opL, view, views, lift, Co.ap, bR, slD, ixD, endR, parm, modes, fz, fzs, tr1, truth, asgR, tupR, ixR, kxR, D.key, flR, fPut, agfR, augI, agxR, raiR, callR, makeR, muR, Mu.ap, Qm.apT, Qm.apL, revD, Bi.ap, Bi.cool, prep, lent, back, D.isNon, D.isAny, D.isA, bindT, srOf, turnB, muOwn, CC_call, CC_g, CC_fu, CC_hot, CC_heat, cEq_str, cEq_int, tx_beq, len_tx, add_tx, cutS_tx, tyNames, bo_int, bo_mod, bo_fdiv, bo_sub, bm, rn, t3, mn, mf, get_rest, get_next, get_count, get_digits, put_rest, put_next, put_count, put_digits]
    · by_cases t4 : 0 < ns.length
      · have i0 := Int.fmod_nonneg_of_pos (c + 1) (b := (ns.length : Int)) (by omega)
        have i1 := Int.fmod_lt_of_pos (c + 1) (b := (ns.length : Int)) (by omega)
        obtain ⟨j, ej⟩ := Int.eq_ofNat_of_zero_le i0
        have hj : j < ns.length := by omega
        have e2 : atD (ns.map D.int) ((c + 1).fmod (ns.length : Int)) = some (.int ns[j]) := by rw [ej]; exact li_at (List.getElem?_eq_getElem hj)
        have ln : Bo.ap .mod (.int (c + 1)) (.int ((ns.length : Nat) : Int)) = some (.val (.int ((c + 1).fmod (ns.length : Int)))) := bo_mod (by omega)
        refine ⟨(mix ns[j] (c + 1)).fmod m, r, c + 1, d, nx, (md _).1, (md _).2, ?_⟩
        rw [r1 rfl]
        by_cases rz : r = 0
        · have q2 : ¬ nx < ns.length := fun z => q ⟨rz, z⟩
          simp [G_1, exs, ex, ev, evs, evT, evA, evW, evO, evF, evI, exh, En.at, Out.bind, Out.then, So.then, op1, op2, opL, view, views, lift, Co.ap, bR, slD, ixD, endR, parm, modes, fz, fzs, tr1, truth, asgR, tupR, ixR, kxR, D.key, flR, fPut, agfR, augI, agxR, raiR, callR, makeR, muR, Mu.ap, Qm.apT, Qm.apL, revD, Bi.ap, Bi.cool, prep, lent, back, D.isNon, D.isAny, D.isA, bindT, srOf, turnB, muOwn, CC_call, CC_g, CC_fu, CC_hot, CC_heat, cEq_str, cEq_int, tx_beq, len_tx, add_tx, cutS_tx, tyNames, bo_int, bo_mod, bo_fdiv, bo_sub, rz, q2, t4, e2, ln, mn, mf, mx, m2, get_rest, get_next, get_count, get_digits, put_rest, put_next, put_count, put_digits]
        · simp [G_1, exs, ex, ev, evs, evT, evA, evW, evO, evF, evI, exh, En.at, Out.bind, Out.then, So.then, op1, op2, opL, view, views, lift, Co.ap, bR, slD, ixD, endR, parm, modes, fz, fzs, tr1, truth, asgR, tupR, ixR, kxR, D.key, flR, fPut, agfR, augI, agxR, raiR, callR, makeR, muR, Mu.ap, Qm.apT, Qm.apL, revD, Bi.ap, Bi.cool, prep, lent, back, D.isNon, D.isAny, D.isA, bindT, srOf, turnB, muOwn, CC_call, CC_g, CC_fu, CC_hot, CC_heat, cEq_str, cEq_int, tx_beq, len_tx, add_tx, cutS_tx, tyNames, bo_int, bo_mod, bo_fdiv, bo_sub, rz, t3, t4, e2, ln, mn, mf, mx, m2, get_rest, get_next, get_count, get_digits, put_rest, put_next, put_count, put_digits]
      · have l0 : ns.length = 0 := by omega
        have ns0 : ns = [] := List.length_eq_zero_iff.mp l0
        subst ns0
        refine ⟨(mix 0 (c + 1)).fmod m, r, c + 1, d, nx, (md _).1, (md _).2, ?_⟩
        rw [r1 rfl]
        by_cases rz : r = 0
        · have nn : ¬ ((nx : Nat) : Int) < 0 := by omega
          simp [G_1, exs, ex, ev, evs, evT, evA, evW, evO, evF, evI, exh, En.at, Out.bind, Out.then, So.then, op1, op2, opL, view, views, lift, Co.ap, bR, slD, ixD, endR, parm, modes, fz, fzs, tr1, truth, asgR, tupR, ixR, kxR, D.key, flR, fPut, agfR, augI, agxR, raiR, callR, makeR, muR, Mu.ap, Qm.apT, Qm.apL, revD, Bi.ap, Bi.cool, prep, lent, back, D.isNon, D.isAny, D.isA, bindT, srOf, turnB, muOwn, CC_call, CC_g, CC_fu, CC_hot, CC_heat, cEq_str, cEq_int, tx_beq, len_tx, add_tx, cutS_tx, tyNames, bo_int, bo_mod, bo_fdiv, bo_sub, rz, nn, mn, mf, mx, m2, get_rest, get_next, get_count, get_digits, put_rest, put_next, put_count, put_digits]
        · simp [G_1, exs, ex, ev, evs, evT, evA, evW, evO, evF, evI, exh, En.at, Out.bind, Out.then, So.then, op1, op2, opL, view, views, lift, Co.ap, bR, slD, ixD, endR, parm, modes, fz, fzs, tr1, truth, asgR, tupR, ixR, kxR, D.key, flR, fPut, agfR, augI, agxR, raiR, callR, makeR, muR, Mu.ap, Qm.apT, Qm.apL, revD, Bi.ap, Bi.cool, prep, lent, back, D.isNon, D.isAny, D.isA, bindT, srOf, turnB, muOwn, CC_call, CC_g, CC_fu, CC_hot, CC_heat, cEq_str, cEq_int, tx_beq, len_tx, add_tx, cutS_tx, tyNames, bo_int, bo_mod, bo_fdiv, bo_sub, rz, t3, mn, mf, mx, m2, get_rest, get_next, get_count, get_digits, put_rest, put_next, put_count, put_digits]
end K05

namespace K05
open Mp L2
variable {fu n : Nat}
def alkB : Nat → D → Bool
  | 0, _ => false
  | _ + 1, .non => true
  | _ + 1, .bl _ => true
  | _ + 1, .int _ => true
  | _ + 1, .str _ => true
  | k + 1, .tup l => decide (l.length ≤ 1000000) && l.all (alkB k)
  | k + 1, .lst l => decide (l.length ≤ 1000000) && l.all (alkB k)
  | _ + 1, _ => false
theorem cEq_bl {a b : Bool} : cEq (.bl a) (.bl b) = some (a == b) := rfl
theorem alike_ok : ∀ (k : Nat) (d : D), alkB k d = true → Mp.run G fu (n + k) 16 [.val d, .val d] = .ok (.val (.bl true)) [.val d, .val d]
  | 0, _, h => by simp [alkB] at h
  | k + 1, .non, h => by rw [← Nat.add_assoc, r16 rfl]; simp [G_16, Bo.ap, exs, ex, ev, evs, evT, evA, evW, evO, evF, evI, exh, En.at, Out.bind, Out.then, So.then, op1, op2, opL, view, views, lift, Co.ap, bR, slD, ixD, endR, parm, modes, fz, fzs, tr1, truth, asgR, tupR, ixR, kxR, D.key, flR, fPut, agfR, augI, agxR, raiR, callR, makeR, muR, Mu.ap, Qm.apT, Qm.apL, revD, Bi.ap, Bi.cool, prep, lent, back, D.isNon, D.isAny, D.isA, bindT, srOf, turnB, muOwn, CC_call, CC_g, CC_fu, CC_hot, CC_heat, cEq_str, cEq_int, tx_beq, len_tx, add_tx, cutS_tx, tyNames]
  | k + 1, .bl b, h => by rw [← Nat.add_assoc, r16 rfl]; cases b <;> simp [G_16, Bo.ap, exs, ex, ev, evs, evT, evA, evW, evO, evF, evI, exh, En.at, Out.bind, Out.then, So.then, op1, op2, opL, view, views, lift, Co.ap, bR, slD, ixD, endR, parm, modes, fz, fzs, tr1, truth, asgR, tupR, ixR, kxR, D.key, flR, fPut, agfR, augI, agxR, raiR, callR, makeR, muR, Mu.ap, Qm.apT, Qm.apL, revD, Bi.ap, Bi.cool, prep, lent, back, D.isNon, D.isAny, D.isA, bindT, srOf, turnB, muOwn, CC_call, CC_g, CC_fu, CC_hot, CC_heat, cEq_str, cEq_int, tx_beq, len_tx, add_tx, cutS_tx, tyNames, cEq_bl]
  | k + 1, .int b, h => by rw [← Nat.add_assoc, r16 rfl]; simp [G_16, Bo.ap, exs, ex, ev, evs, evT, evA, evW, evO, evF, evI, exh, En.at, Out.bind, Out.then, So.then, op1, op2, opL, view, views, lift, Co.ap, bR, slD, ixD, endR, parm, modes, fz, fzs, tr1, truth, asgR, tupR, ixR, kxR, D.key, flR, fPut, agfR, augI, agxR, raiR, callR, makeR, muR, Mu.ap, Qm.apT, Qm.apL, revD, Bi.ap, Bi.cool, prep, lent, back, D.isNon, D.isAny, D.isA, bindT, srOf, turnB, muOwn, CC_call, CC_g, CC_fu, CC_hot, CC_heat, cEq_str, cEq_int, tx_beq, len_tx, add_tx, cutS_tx, tyNames]
  | k + 1, .str b, h => by rw [← Nat.add_assoc, r16 rfl]; simp [G_16, Bo.ap, exs, ex, ev, evs, evT, evA, evW, evO, evF, evI, exh, En.at, Out.bind, Out.then, So.then, op1, op2, opL, view, views, lift, Co.ap, bR, slD, ixD, endR, parm, modes, fz, fzs, tr1, truth, asgR, tupR, ixR, kxR, D.key, flR, fPut, agfR, augI, agxR, raiR, callR, makeR, muR, Mu.ap, Qm.apT, Qm.apL, revD, Bi.ap, Bi.cool, prep, lent, back, D.isNon, D.isAny, D.isA, bindT, srOf, turnB, muOwn, CC_call, CC_g, CC_fu, CC_hot, CC_heat, cEq_str, cEq_int, tx_beq, len_tx, add_tx, cutS_tx, tyNames]
  | k + 1, .tup l, h => by
    simp only [alkB, Bool.and_eq_true, decide_eq_true_eq, List.all_eq_true] at h
    have hB : big62 ((l.length : Nat) : Int) = true := big_of h.1
    obtain ⟨ρ', e, o, rfl⟩ := forL_inv (f := turnB (exs (CC G fu (n + k)) G_16_b0) true [2]) (fun j ρ => ∃ o : Option S, ρ = [some (.val (.tup l)), some (.val (.tup l)), o]) (rngD 0 ((l.length : Nat) : Int)) 0 [some (.val (.tup l)), some (.val (.tup l)), none] ⟨none, rfl⟩ (by
      rintro j d ρ hd ⟨o, rfl⟩
      obtain ⟨hj, rfl⟩ := rng_at hd
      have e1 : atD l (j : Int) = some l[j] := by unfold atD; rw [at_nat hj, List.getElem?_eq_getElem hj]
      have e2 := alike_ok k l[j] (h.2 _ (List.getElem_mem hj))
      refine ⟨_, ?_, some (.val (.int j)), rfl⟩
      simp [G_16_b0, Bo.ap, exs, ex, ev, evs, evT, evA, evW, evO, evF, evI, exh, En.at, Out.bind, Out.then, So.then, op1, op2, opL, view, views, lift, Co.ap, bR, slD, ixD, endR, parm, modes, fz, fzs, tr1, truth, asgR, tupR, ixR, kxR, D.key, flR, fPut, agfR, augI, agxR, raiR, callR, makeR, muR, Mu.ap, Qm.apT, Qm.apL, revD, Bi.ap, Bi.cool, prep, lent, back, D.isNon, D.isAny, D.isA, bindT, srOf, turnB, muOwn, CC_call, CC_g, CC_fu, CC_hot, CC_heat, cEq_str, cEq_int, tx_beq, len_tx, add_tx, cutS_tx, tyNames, e1, e2, m16])
    have hI := evI_rng1s (c := CC G fu (n + k)) (a := .bi .len (.cons (.var 1) .nil)) (ρ := [some (.val (.tup l)), some (.val (.tup l)), none]) hB (by simp [Bo.ap, exs, ex, ev, evs, evT, evA, evW, evO, evF, evI, exh, En.at, Out.bind, Out.then, So.then, op1, op2, opL, view, views, lift, Co.ap, bR, slD, ixD, endR, parm, modes, fz, fzs, tr1, truth, asgR, tupR, ixR, kxR, D.key, flR, fPut, agfR, augI, agxR, raiR, callR, makeR, muR, Mu.ap, Qm.apT, Qm.apL, revD, Bi.ap, Bi.cool, prep, lent, back, D.isNon, D.isAny, D.isA, bindT, srOf, turnB, muOwn, CC_call, CC_g, CC_fu, CC_hot, CC_heat, cEq_str, cEq_int, tx_beq, len_tx, add_tx, cutS_tx, tyNames])
    show Mp.run G fu ((n + k) + 1) 16 _ = _
    rw [r16 rfl]
    simp [G_16, exs, ex, ev, evs, evT, evA, evW, evO, evF, exh, En.at, Out.bind, Out.then, So.then, op1, op2, opL, view, views, lift, Co.ap, bR, slD, ixD, endR, parm, modes, fz, fzs, tr1, truth, asgR, tupR, ixR, kxR, D.key, flR, fPut, agfR, augI, agxR, raiR, callR, makeR, muR, Mu.ap, Qm.apT, Qm.apL, revD, Bi.ap, Bi.cool, prep, lent, back, D.isNon, D.isAny, D.isA, bindT, srOf, turnB, muOwn, CC_call, CC_g, CC_fu, CC_hot, CC_heat, cEq_str, cEq_int, tx_beq, len_tx, add_tx, cutS_tx, tyNames, Bo.ap, hI, e, cEq_bl]
  | k + 1, .lst l, h => by
    simp only [alkB, Bool.and_eq_true, decide_eq_true_eq, List.all_eq_true] at h
    have hB : big62 ((l.length : Nat) : Int) = true := big_of h.1
    obtain ⟨ρ', e, o, rfl⟩ := forL_inv (f := turnB (exs (CC G fu (n + k)) G_16_b0) true [2]) (fun j ρ => ∃ o : Option S, ρ = [some (.val (.lst l)), some (.val (.lst l)), o]) (rngD 0 ((l.length : Nat) : Int)) 0 [some (.val (.lst l)), some (.val (.lst l)), none] ⟨none, rfl⟩ (by
      rintro j d ρ hd ⟨o, rfl⟩
      obtain ⟨hj, rfl⟩ := rng_at hd
      have e1 : atD l (j : Int) = some l[j] := by unfold atD; rw [at_nat hj, List.getElem?_eq_getElem hj]
      have e2 := alike_ok k l[j] (h.2 _ (List.getElem_mem hj))
      refine ⟨_, ?_, some (.val (.int j)), rfl⟩
      simp [G_16_b0, Bo.ap, exs, ex, ev, evs, evT, evA, evW, evO, evF, evI, exh, En.at, Out.bind, Out.then, So.then, op1, op2, opL, view, views, lift, Co.ap, bR, slD, ixD, endR, parm, modes, fz, fzs, tr1, truth, asgR, tupR, ixR, kxR, D.key, flR, fPut, agfR, augI, agxR, raiR, callR, makeR, muR, Mu.ap, Qm.apT, Qm.apL, revD, Bi.ap, Bi.cool, prep, lent, back, D.isNon, D.isAny, D.isA, bindT, srOf, turnB, muOwn, CC_call, CC_g, CC_fu, CC_hot, CC_heat, cEq_str, cEq_int, tx_beq, len_tx, add_tx, cutS_tx, tyNames, e1, e2, m16])
    have hI := evI_rng1s (c := CC G fu (n + k)) (a := .bi .len (.cons (.var 1) .nil)) (ρ := [some (.val (.lst l)), some (.val (.lst l)), none]) hB (by simp [Bo.ap, exs, ex, ev, evs, evT, evA, evW, evO, evF, evI, exh, En.at, Out.bind, Out.then, So.then, op1, op2, opL, view, views, lift, Co.ap, bR, slD, ixD, endR, parm, modes, fz, fzs, tr1, truth, asgR, tupR, ixR, kxR, D.key, flR, fPut, agfR, augI, agxR, raiR, callR, makeR, muR, Mu.ap, Qm.apT, Qm.apL, revD, Bi.ap, Bi.cool, prep, lent, back, D.isNon, D.isAny, D.isA, bindT, srOf, turnB, muOwn, CC_call, CC_g, CC_fu, CC_hot, CC_heat, cEq_str, cEq_int, tx_beq, len_tx, add_tx, cutS_tx, tyNames])
    show Mp.run G fu ((n + k) + 1) 16 _ = _
    rw [r16 rfl]
    simp [G_16, exs, ex, ev, evs, evT, evA, evW, evO, evF, exh, En.at, Out.bind, Out.then, So.then, op1, op2, opL, view, views, lift, Co.ap, bR, slD, ixD, endR, parm, modes, fz, fzs, tr1, truth, asgR, tupR, ixR, kxR, D.key, flR, fPut, agfR, augI, agxR, raiR, callR, makeR, muR, Mu.ap, Qm.apT, Qm.apL, revD, Bi.ap, Bi.cool, prep, lent, back, D.isNon, D.isAny, D.isA, bindT, srOf, turnB, muOwn, CC_call, CC_g, CC_fu, CC_hot, CC_heat, cEq_str, cEq_int, tx_beq, len_tx, add_tx, cutS_tx, tyNames, Bo.ap, hI, e, cEq_bl]
  | k + 1, .dct _ _, h => by simp [alkB] at h
  | k + 1, .ins _ _ _, h => by simp [alkB] at h
end K05

namespace K05
open Mp L2
variable {fu n : Nat}
/-! values of names and edges -/
theorem isint_ok (i : Int) : Mp.run G fu (n + 1) 26 [.val (.int i)] = .ok (.val (.bl true)) [.val (.int i)] := by
  rw [r26 rfl]
  simp [G_26, Bo.ap, exs, ex, ev, evs, evT, evA, evW, evO, evF, evI, exh, En.at, Out.bind, Out.then, So.then, op1, op2, opL, view, views, lift, Co.ap, bR, slD, ixD, endR, parm, modes, fz, fzs, tr1, truth, asgR, tupR, ixR, kxR, D.key, flR, fPut, agfR, augI, agxR, raiR, callR, makeR, muR, Mu.ap, Qm.apT, Qm.apL, revD, Bi.ap, Bi.cool, prep, lent, back, D.isNon, D.isAny, D.isA, bindT, srOf, turnB, muOwn, CC_call, CC_g, CC_fu, CC_hot, CC_heat, cEq_str, cEq_int, tx_beq, len_tx, add_tx, cutS_tx, tyNames]
theorem isnum_ok {i : Int} (h : 0 ≤ i) : Mp.run G fu (n + 2) 25 [.val (.int i)] = .ok (.val (.bl true)) [.val (.int i)] := by
  rw [r25 rfl]
  simp [G_25, Bo.ap, exs, ex, ev, evs, evT, evA, evW, evO, evF, evI, exh, En.at, Out.bind, Out.then, So.then, op1, op2, opL, view, views, lift, Co.ap, bR, slD, ixD, endR, parm, modes, fz, fzs, tr1, truth, asgR, tupR, ixR, kxR, D.key, flR, fPut, agfR, augI, agxR, raiR, callR, makeR, muR, Mu.ap, Qm.apT, Qm.apL, revD, Bi.ap, Bi.cool, prep, lent, back, D.isNon, D.isAny, D.isA, bindT, srOf, turnB, muOwn, CC_call, CC_g, CC_fu, CC_hot, CC_heat, cEq_str, cEq_int, tx_beq, len_tx, add_tx, cutS_tx, tyNames, m26, isint_ok, h]
theorem size_ok {l : List D} {k : Nat} (h : l.length = k) : Mp.run G fu (n + 1) 24 [.val (.tup l), .val (.int (k : Int))] = .ok (.val (.bl true)) [.val (.tup l), .val (.int (k : Int))] := by
  rw [r24 rfl]
  simp [G_24, Bo.ap, exs, ex, ev, evs, evT, evA, evW, evO, evF, evI, exh, En.at, Out.bind, Out.then, So.then, op1, op2, opL, view, views, lift, Co.ap, bR, slD, ixD, endR, parm, modes, fz, fzs, tr1, truth, asgR, tupR, ixR, kxR, D.key, flR, fPut, agfR, augI, agxR, raiR, callR, makeR, muR, Mu.ap, Qm.apT, Qm.apL, revD, Bi.ap, Bi.cool, prep, lent, back, D.isNon, D.isAny, D.isA, bindT, srOf, turnB, muOwn, CC_call, CC_g, CC_fu, CC_hot, CC_heat, cEq_str, cEq_int, tx_beq, len_tx, add_tx, cutS_tx, tyNames, h]
theorem len_signs (s : PySem.Str) : (signs s).length = s.length := by
  simp [signs, PySem.Str.length]
theorem all_signs (s : PySem.Str) (P : Nat → Bool) : ((signs s).map fun d => match d with | .str z => D.bl (z.cps.toList.all P) | _ => .non) = (s.cps.toList.map P).map D.bl := by
  simp [signs, List.map_map, Function.comp_def]
theorem isname_lc (s : PySem.Str) (h : s.length ≤ 1000) : ev (CC G fu n) G_8_l1 [some (.val (.str s)), none] = .ok (.tmp (.lst ((s.cps.toList.map inAb).map D.bl))) [some (.val (.str s)), none] := by
  have hl : (signs s).length ≤ lim := by rw [len_signs]; exact Nat.le_trans h (by decide)
  have k := lc_okM (c := CC G fu n) (e := G_8_e0) (i := 1) (x := "sign") (it := .one (.var 0)) (ρ := [some (.val (.str s)), none]) (l := signs s) (fun d => match d with | .str z => D.bl (z.cps.toList.all inAb) | _ => .non) rfl (by simp) (by simp [Bo.ap, exs, ex, ev, evs, evT, evA, evW, evO, evF, evI, exh, En.at, Out.bind, Out.then, So.then, op1, op2, opL, view, views, lift, Co.ap, bR, slD, ixD, endR, parm, modes, fz, fzs, tr1, truth, asgR, tupR, ixR, kxR, D.key, flR, fPut, agfR, augI, agxR, raiR, callR, makeR, muR, Mu.ap, Qm.apT, Qm.apL, revD, Bi.ap, Bi.cool, prep, lent, back, D.isNon, D.isAny, D.isA, bindT, srOf, turnB, muOwn, CC_call, CC_g, CC_fu, CC_hot, CC_heat, cEq_str, cEq_int, tx_beq, len_tx, add_tx, cutS_tx, tyNames]) (by
    intro d hd
    obtain ⟨c, hc, rfl⟩ := List.mem_map.mp hd
    simp [G_8_e0, Bo.ap, exs, ex, ev, evs, evT, evA, evW, evO, evF, evI, exh, En.at, Out.bind, Out.then, So.then, op1, op2, opL, view, views, lift, Co.ap, bR, slD, ixD, endR, parm, modes, fz, fzs, tr1, truth, asgR, tupR, ixR, kxR, D.key, flR, fPut, agfR, augI, agxR, raiR, callR, makeR, muR, Mu.ap, Qm.apT, Qm.apL, revD, Bi.ap, Bi.cool, prep, lent, back, D.isNon, D.isAny, D.isA, bindT, srOf, turnB, muOwn, CC_call, CC_g, CC_fu, CC_hot, CC_heat, cEq_str, cEq_int, tx_beq, len_tx, add_tx, cutS_tx, tyNames, c0, cIn_ab]) hl
  rw [all_signs] at k
  exact k
theorem isname_ok {d : D} (h : Odd d) : Mp.run G fu (n + 1) 8 [.val d] = .ok (.val (.bl (nameD d))) [.val d] := by
  cases h with
  | str s h _ =>
    have hs : s.length ≤ lim := Nat.le_trans h (by decide)
    have k := isname_lc (fu := fu) (n := n) s h
    have di := dBls_map (s.cps.toList.map inAb)
    rw [r8 rfl]
    by_cases h1 : 1 ≤ s.length
    · have h1' : (1 : Int) ≤ (s.length : Int) := by omega
      by_cases h2 : s.length ≤ 8
      · have h2' : (s.length : Int) ≤ 8 := by omega
        simp [-List.map_map, G_8, Bo.ap, exs, ex, ev, evs, evT, evA, evW, evO, evF, evI, exh, En.at, Out.bind, Out.then, So.then, op1, op2, opL, view, views, lift, Co.ap, bR, slD, ixD, endR, parm, modes, fz, fzs, tr1, truth, asgR, tupR, ixR, kxR, D.key, flR, fPut, agfR, augI, agxR, raiR, callR, makeR, muR, Mu.ap, Qm.apT, Qm.apL, revD, Bi.ap, Bi.cool, prep, lent, back, D.isNon, D.isAny, D.isA, bindT, srOf, turnB, muOwn, CC_call, CC_g, CC_fu, CC_hot, CC_heat, cEq_str, cEq_int, tx_beq, len_tx, add_tx, cutS_tx, tyNames, c0, c1, hs, h1, h2, h1', h2', k, di, nameD, nmB]
      · have h2' : ¬ (s.length : Int) ≤ 8 := by omega
        simp [G_8, Bo.ap, exs, ex, ev, evs, evT, evA, evW, evO, evF, evI, exh, En.at, Out.bind, Out.then, So.then, op1, op2, opL, view, views, lift, Co.ap, bR, slD, ixD, endR, parm, modes, fz, fzs, tr1, truth, asgR, tupR, ixR, kxR, D.key, flR, fPut, agfR, augI, agxR, raiR, callR, makeR, muR, Mu.ap, Qm.apT, Qm.apL, revD, Bi.ap, Bi.cool, prep, lent, back, D.isNon, D.isAny, D.isA, bindT, srOf, turnB, muOwn, CC_call, CC_g, CC_fu, CC_hot, CC_heat, cEq_str, cEq_int, tx_beq, len_tx, add_tx, cutS_tx, tyNames, c0, c1, hs, h1, h2, h1', h2', nameD, nmB]
    · have h1' : ¬ (1 : Int) ≤ (s.length : Int) := by omega
      simp [G_8, Bo.ap, exs, ex, ev, evs, evT, evA, evW, evO, evF, evI, exh, En.at, Out.bind, Out.then, So.then, op1, op2, opL, view, views, lift, Co.ap, bR, slD, ixD, endR, parm, modes, fz, fzs, tr1, truth, asgR, tupR, ixR, kxR, D.key, flR, fPut, agfR, augI, agxR, raiR, callR, makeR, muR, Mu.ap, Qm.apT, Qm.apL, revD, Bi.ap, Bi.cool, prep, lent, back, D.isNon, D.isAny, D.isA, bindT, srOf, turnB, muOwn, CC_call, CC_g, CC_fu, CC_hot, CC_heat, cEq_str, cEq_int, tx_beq, len_tx, add_tx, cutS_tx, tyNames, c0, c1, hs, h1, h1', nameD, nmB]
  | int i => rw [r8 rfl]; simp [G_8, Bo.ap, exs, ex, ev, evs, evT, evA, evW, evO, evF, evI, exh, En.at, Out.bind, Out.then, So.then, op1, op2, opL, view, views, lift, Co.ap, bR, slD, ixD, endR, parm, modes, fz, fzs, tr1, truth, asgR, tupR, ixR, kxR, D.key, flR, fPut, agfR, augI, agxR, raiR, callR, makeR, muR, Mu.ap, Qm.apT, Qm.apL, revD, Bi.ap, Bi.cool, prep, lent, back, D.isNon, D.isAny, D.isA, bindT, srOf, turnB, muOwn, CC_call, CC_g, CC_fu, CC_hot, CC_heat, cEq_str, cEq_int, tx_beq, len_tx, add_tx, cutS_tx, tyNames, nameD]
  | bl b => rw [r8 rfl]; simp [G_8, Bo.ap, exs, ex, ev, evs, evT, evA, evW, evO, evF, evI, exh, En.at, Out.bind, Out.then, So.then, op1, op2, opL, view, views, lift, Co.ap, bR, slD, ixD, endR, parm, modes, fz, fzs, tr1, truth, asgR, tupR, ixR, kxR, D.key, flR, fPut, agfR, augI, agxR, raiR, callR, makeR, muR, Mu.ap, Qm.apT, Qm.apL, revD, Bi.ap, Bi.cool, prep, lent, back, D.isNon, D.isAny, D.isA, bindT, srOf, turnB, muOwn, CC_call, CC_g, CC_fu, CC_hot, CC_heat, cEq_str, cEq_int, tx_beq, len_tx, add_tx, cutS_tx, tyNames, nameD]
  | non => rw [r8 rfl]; simp [G_8, Bo.ap, exs, ex, ev, evs, evT, evA, evW, evO, evF, evI, exh, En.at, Out.bind, Out.then, So.then, op1, op2, opL, view, views, lift, Co.ap, bR, slD, ixD, endR, parm, modes, fz, fzs, tr1, truth, asgR, tupR, ixR, kxR, D.key, flR, fPut, agfR, augI, agxR, raiR, callR, makeR, muR, Mu.ap, Qm.apT, Qm.apL, revD, Bi.ap, Bi.cool, prep, lent, back, D.isNon, D.isAny, D.isA, bindT, srOf, turnB, muOwn, CC_call, CC_g, CC_fu, CC_hot, CC_heat, cEq_str, cEq_int, tx_beq, len_tx, add_tx, cutS_tx, tyNames, nameD]
  | lst s k => rw [r8 rfl]; simp [G_8, Bo.ap, exs, ex, ev, evs, evT, evA, evW, evO, evF, evI, exh, En.at, Out.bind, Out.then, So.then, op1, op2, opL, view, views, lift, Co.ap, bR, slD, ixD, endR, parm, modes, fz, fzs, tr1, truth, asgR, tupR, ixR, kxR, D.key, flR, fPut, agfR, augI, agxR, raiR, callR, makeR, muR, Mu.ap, Qm.apT, Qm.apL, revD, Bi.ap, Bi.cool, prep, lent, back, D.isNon, D.isAny, D.isA, bindT, srOf, turnB, muOwn, CC_call, CC_g, CC_fu, CC_hot, CC_heat, cEq_str, cEq_int, tx_beq, len_tx, add_tx, cutS_tx, tyNames, nameD]
  | tup s k => rw [r8 rfl]; simp [G_8, Bo.ap, exs, ex, ev, evs, evT, evA, evW, evO, evF, evI, exh, En.at, Out.bind, Out.then, So.then, op1, op2, opL, view, views, lift, Co.ap, bR, slD, ixD, endR, parm, modes, fz, fzs, tr1, truth, asgR, tupR, ixR, kxR, D.key, flR, fPut, agfR, augI, agxR, raiR, callR, makeR, muR, Mu.ap, Qm.apT, Qm.apL, revD, Bi.ap, Bi.cool, prep, lent, back, D.isNon, D.isAny, D.isA, bindT, srOf, turnB, muOwn, CC_call, CC_g, CC_fu, CC_hot, CC_heat, cEq_str, cEq_int, tx_beq, len_tx, add_tx, cutS_tx, tyNames, nameD]
end K05

namespace Mp
open L2
/-! graphs -/
structure Edge where
  l : PySem.Str
  t : PySem.Str
  h : PySem.Str
  p : Int
  r : Int
abbrev ed (e : Edge) : D := .tup [.str e.l, .str e.t, .str e.h, .int e.p, .int e.r]
abbrev gD (vs : List PySem.Str) (es : List Edge) : D := .ins "Graph" ["nodes", "edges"] [.tup (vs.map .str), .tup (es.map ed)]
structure WF (vs : List PySem.Str) (es : List Edge) : Prop where
  nv : vs.length ≤ 100
  ne : es.length ≤ 100
  vn : ∀ v ∈ vs, nmB v = true
  vd : vs.Nodup
  el : ∀ e ∈ es, nmB e.l = true
  ld : (es.map (·.l)).Nodup
  te : ∀ e ∈ es, e.t ∈ vs
  he : ∀ e ∈ es, e.h ∈ vs
  rm : ∀ e ∈ es, 0 ≤ e.r
theorem cut3 {a b c d e : D} : cutD [a, b, c, d, e] none (some 3) = [a, b, c] := rfl
theorem cut13 {a b c d e : D} : cutD [a, b, c, d, e] (some 1) (some 3) = [b, c] := rfl
theorem cut_take {α : Type} {xs : List α} {i : Nat} : cutD xs none (some (i : Int)) = xs.take i := by
  unfold cutD
  rw [HT.sIx_nat, show HT.sIx xs.length 0 none = 0 from rfl, List.drop_zero, Nat.sub_zero, Nat.min_def]
  split
  · rfl
  · rw [List.take_of_length_le (Nat.le_refl _), List.take_of_length_le (by omega)]
theorem at_strs {l : List PySem.Str} {j : Nat} (h : j < l.length) : atD (l.map D.str) (j : Int) = some (.str l[j]) := by
  unfold atD
  rw [at_nat (by rw [List.length_map]; exact h), List.getElem?_map, List.getElem?_eq_getElem h]
  rfl
theorem dget_none {x : Key} : ∀ {ks : List Key} {ds : List D}, x ∉ ks → dGet ks ds x = none
  | [], _, _ => rfl
  | k :: ks, [], _ => rfl
  | k :: ks, d :: ds, h => by
    simp only [dGet]
    rw [if_neg fun z => h (by rw [z]; exact List.mem_cons_self), dget_none fun z => h (List.mem_cons_of_mem _ z)]
theorem dput_new {x : Key} {ks : List Key} {ds : List D} {d : D} (h : x ∉ ks) : dPut ks ds x d = (ks ++ [x], ds ++ [d]) := by
  unfold dPut
  rw [if_neg]
  simp only [List.any_eq_true, decide_eq_true_eq, not_exists, not_and]
  intro k hk e
  exact h (e ▸ hk)
theorem ne_ne : ¬ (PySem.Str.ofString "nodes" = PySem.Str.ofString "edges") := by decide
theorem fp1 {a : D} : fPut [] [] ("nodes" : PySem.Str) a = ([("nodes" : PySem.Str)], [a]) := rfl
theorem fp2 {a b : D} : fPut [("nodes" : PySem.Str)] [a] ("edges" : PySem.Str) b = ([("nodes" : PySem.Str), ("edges" : PySem.Str)], [a, b]) := rfl
end Mp
namespace K05
open Mp L2
variable {fu n : Nat}
theorem na1 : (("Graph" : PySem.Str), ("nodes" : PySem.Str)) ∈ G.na := by decide
theorem na2 : (("Graph" : PySem.Str), ("edges" : PySem.Str)) ∈ G.na := by decide
theorem fld_nodes {a b : D} : fldD G.na (.ins "Graph" ["nodes", "edges"] [a, b]) "nodes" = some (.val a) := by
  simp only [fldD]; rw [if_pos na1]; rfl
theorem fld_edges {a b : D} : fldD G.na (.ins "Graph" ["nodes", "edges"] [a, b]) "edges" = some (.val b) := by
  simp only [fldD]; rw [if_pos na2]; rfl
theorem cls1 : ("Graph" : PySem.Str) ∈ G.cls := by decide
theorem edval_lc {e : Edge} (h1 : nmB e.l = true) (h2 : nmB e.t = true) (h3 : nmB e.h = true) : ev (CC G fu (n + 1)) G_23_l1 [some (.val (ed e)), none] = .ok (.tmp (.lst [.bl true, .bl true, .bl true])) [some (.val (ed e)), none] := by
  have k := lc_okM (c := CC G fu (n + 1)) (e := G_23_e0) (i := 1) (x := "part") (it := .one (.sl (.var 0) .no (.so (.con (D.int (3)))))) (ρ := [some (.val (ed e)), none]) (l := [.str e.l, .str e.t, .str e.h]) (fun _ => D.bl true) rfl (by simp) (by simp [Bo.ap, exs, ex, ev, evs, evT, evA, evW, evO, evF, evI, exh, En.at, Out.bind, Out.then, So.then, op1, op2, opL, view, views, lift, Co.ap, bR, slD, ixD, endR, parm, modes, fz, fzs, tr1, truth, asgR, tupR, ixR, kxR, D.key, flR, fPut, agfR, augI, agxR, raiR, callR, makeR, muR, Mu.ap, Qm.apT, Qm.apL, revD, Bi.ap, Bi.cool, prep, lent, back, D.isNon, D.isAny, D.isA, bindT, srOf, turnB, muOwn, CC_call, CC_g, CC_fu, CC_hot, CC_heat, cEq_str, cEq_int, tx_beq, len_tx, add_tx, cutS_tx, tyNames, cut3]) (by
    intro d hd
    have q : ∃ s, d = .str s ∧ nmB s = true := by
      simp only [List.mem_cons, List.mem_nil_iff, or_false] at hd
      rcases hd with rfl | rfl | rfl
      · exact ⟨_, rfl, h1⟩
      · exact ⟨_, rfl, h2⟩
      · exact ⟨_, rfl, h3⟩
    obtain ⟨s, rfl, hs⟩ := q
    simp [G_23_e0, Bo.ap, exs, ex, ev, evs, evT, evA, evW, evO, evF, evI, exh, En.at, Out.bind, Out.then, So.then, op1, op2, opL, view, views, lift, Co.ap, bR, slD, ixD, endR, parm, modes, fz, fzs, tr1, truth, asgR, tupR, ixR, kxR, D.key, flR, fPut, agfR, augI, agxR, raiR, callR, makeR, muR, Mu.ap, Qm.apT, Qm.apL, revD, Bi.ap, Bi.cool, prep, lent, back, D.isNon, D.isAny, D.isA, bindT, srOf, turnB, muOwn, CC_call, CC_g, CC_fu, CC_hot, CC_heat, cEq_str, cEq_int, tx_beq, len_tx, add_tx, cutS_tx, tyNames, m8, isname_ok (nmB_odd hs), nameD, hs]) (show 3 ≤ lim by decide)
  exact k
theorem edval_ok {e : Edge} (h1 : nmB e.l = true) (h2 : nmB e.t = true) (h3 : nmB e.h = true) (h4 : 0 ≤ e.r) : Mp.run G fu (n + 3) 23 [.val (ed e)] = .ok (.val (.bl true)) [.val (ed e)] := by
  have k := edval_lc (fu := fu) (n := n + 1) h1 h2 h3
  have s5 := size_ok (fu := fu) (n := n + 1) (l := [.str e.l, .str e.t, .str e.h, .int e.p, .int e.r]) (k := 5) rfl
  have e3 : atD [.str e.l, .str e.t, .str e.h, .int e.p, .int e.r] 3 = some (D.int e.p) := rfl
  have e4 : atD [.str e.l, .str e.t, .str e.h, .int e.p, .int e.r] 4 = some (D.int e.r) := rfl
  have s5' : Mp.run G fu (n + 2) 24 [.val (ed e), .val (.int 5)] = .ok (.val (.bl true)) [.val (ed e), .val (.int 5)] := s5
  rw [r23 rfl]
  simp [G_23, Bo.ap, exs, ex, ev, evs, evT, evA, evW, evO, evF, evI, exh, En.at, Out.bind, Out.then, So.then, op1, op2, opL, view, views, lift, Co.ap, bR, slD, ixD, endR, parm, modes, fz, fzs, tr1, truth, asgR, tupR, ixR, kxR, D.key, flR, fPut, agfR, augI, agxR, raiR, callR, makeR, muR, Mu.ap, Qm.apT, Qm.apL, revD, Bi.ap, Bi.cool, prep, lent, back, D.isNon, D.isAny, D.isA, bindT, srOf, turnB, muOwn, CC_call, CC_g, CC_fu, CC_hot, CC_heat, cEq_str, cEq_int, tx_beq, len_tx, add_tx, cutS_tx, tyNames, m24, m26, m25, s5', k, dBls, isint_ok, isnum_ok h4, e3, e4]
theorem arenodes_lc {vs : List PySem.Str} (h : ∀ v ∈ vs, nmB v = true) (hl : vs.length ≤ 1000) : ev (CC G fu (n + 1)) G_21_l3 [some (.val (.lst (vs.map .str))), none, none] = .ok (.tmp (.lst ((vs.map fun _ => true).map .bl))) [some (.val (.lst (vs.map .str))), none, none] := by
  have k := lc_okM (c := CC G fu (n + 1)) (e := G_21_e2) (i := 2) (x := "name") (it := .one (.var 0)) (ρ := [some (.val (.lst (vs.map .str))), none, none]) (l := vs.map .str) (fun _ => D.bl true) rfl (by simp) (by simp [Bo.ap, exs, ex, ev, evs, evT, evA, evW, evO, evF, evI, exh, En.at, Out.bind, Out.then, So.then, op1, op2, opL, view, views, lift, Co.ap, bR, slD, ixD, endR, parm, modes, fz, fzs, tr1, truth, asgR, tupR, ixR, kxR, D.key, flR, fPut, agfR, augI, agxR, raiR, callR, makeR, muR, Mu.ap, Qm.apT, Qm.apL, revD, Bi.ap, Bi.cool, prep, lent, back, D.isNon, D.isAny, D.isA, bindT, srOf, turnB, muOwn, CC_call, CC_g, CC_fu, CC_hot, CC_heat, cEq_str, cEq_int, tx_beq, len_tx, add_tx, cutS_tx, tyNames]) (by
    intro d hd
    obtain ⟨s, hs, rfl⟩ := List.mem_map.mp hd
    simp [G_21_e2, Bo.ap, exs, ex, ev, evs, evT, evA, evW, evO, evF, evI, exh, En.at, Out.bind, Out.then, So.then, op1, op2, opL, view, views, lift, Co.ap, bR, slD, ixD, endR, parm, modes, fz, fzs, tr1, truth, asgR, tupR, ixR, kxR, D.key, flR, fPut, agfR, augI, agxR, raiR, callR, makeR, muR, Mu.ap, Qm.apT, Qm.apL, revD, Bi.ap, Bi.cool, prep, lent, back, D.isNon, D.isAny, D.isA, bindT, srOf, turnB, muOwn, CC_call, CC_g, CC_fu, CC_hot, CC_heat, cEq_str, cEq_int, tx_beq, len_tx, add_tx, cutS_tx, tyNames, m8, isname_ok (nmB_odd (h s hs)), nameD, h s hs]) (by rw [List.length_map]; exact Nat.le_trans hl (by decide))
  rw [List.map_map] at k
  rw [List.map_map]
  exact k
theorem nodup_take {vs : List PySem.Str} (h : vs.Nodup) {j : Nat} (hj : j < vs.length) : vs[j] ∉ vs.take j := by
  intro hm
  obtain ⟨i, hi, e⟩ := List.getElem_of_mem hm
  rw [List.length_take] at hi
  rw [List.getElem_take] at e
  have := (List.getElem_inj (i := i) (j := j) h).mp e
  omega
theorem arenodes_lc2 {vs : List PySem.Str} (h : vs.Nodup) (hl : vs.length ≤ 1000) (o : Option S) : ev (CC G fu n) G_21_l1 [some (.val (.lst (vs.map .str))), none, o] = .ok (.tmp (.lst ((vs.map fun _ => true).map .bl))) [some (.val (.lst (vs.map .str))), none, o] := by
  have hB : big62 ((vs.length : Nat) : Int) = true := big_of (by omega)
  have hI := evI_rng1s (c := CC G fu n) (a := .bi .len (.cons (.var 0) .nil)) (ρ := [some (.val (.lst (vs.map .str))), none, o]) hB (by simp [Bo.ap, exs, ex, ev, evs, evT, evA, evW, evO, evF, evI, exh, En.at, Out.bind, Out.then, So.then, op1, op2, opL, view, views, lift, Co.ap, bR, slD, ixD, endR, parm, modes, fz, fzs, tr1, truth, asgR, tupR, ixR, kxR, D.key, flR, fPut, agfR, augI, agxR, raiR, callR, makeR, muR, Mu.ap, Qm.apT, Qm.apL, revD, Bi.ap, Bi.cool, prep, lent, back, D.isNon, D.isAny, D.isA, bindT, srOf, turnB, muOwn, CC_call, CC_g, CC_fu, CC_hot, CC_heat, cEq_str, cEq_int, tx_beq, len_tx, add_tx, cutS_tx, tyNames])
  have k := lc_okM (c := CC G fu n) (e := G_21_e0) (i := 1) (x := "at") (it := .rng1 (.bi .len (.cons (.var 0) .nil))) (ρ := [some (.val (.lst (vs.map .str))), none, o]) (l := rngD 0 ((vs.length : Nat) : Int)) (fun _ => D.bl true) rfl (by simp) hI (by
    intro d hd
    obtain ⟨j, hj, e⟩ := List.getElem_of_mem hd
    obtain ⟨hj', rfl⟩ := rng_at (List.getElem?_eq_some_iff.mpr ⟨hj, e⟩)
    have e1 := at_strs hj'
    have e2 : cutD (vs.map D.str) none (some (j : Int)) = (vs.take j).map D.str := by rw [cut_take, List.map_take]
    have e3 : cIn (.str vs[j]) (.lst ((vs.take j).map .str)) = some false := by rw [cIn_strsL, decide_eq_false (nodup_take h hj')]
    simp [-List.map_take, G_21_e0, Bo.ap, exs, ex, ev, evs, evT, evA, evW, evO, evF, evI, exh, En.at, Out.bind, Out.then, So.then, op1, op2, opL, view, views, lift, Co.ap, bR, slD, ixD, endR, parm, modes, fz, fzs, tr1, truth, asgR, tupR, ixR, kxR, D.key, flR, fPut, agfR, augI, agxR, raiR, callR, makeR, muR, Mu.ap, Qm.apT, Qm.apL, revD, Bi.ap, Bi.cool, prep, lent, back, D.isNon, D.isAny, D.isA, bindT, srOf, turnB, muOwn, CC_call, CC_g, CC_fu, CC_hot, CC_heat, cEq_str, cEq_int, tx_beq, len_tx, add_tx, cutS_tx, tyNames, e1, e2, e3]) (by rw [rng_len]; exact Nat.le_trans hl (by decide))
  have z : List.map (fun _ => D.bl true) (rngD 0 ((vs.length : Nat) : Int)) = (vs.map fun _ => true).map .bl := by
    apply List.ext_getElem?
    intro i
    have := rng_len (n := vs.length)
    by_cases q : i < vs.length
    · rw [List.getElem?_map, List.getElem?_eq_getElem (by omega), List.getElem?_map, List.getElem?_map, List.getElem?_eq_getElem q]; rfl
    · rw [List.getElem?_eq_none (by rw [List.length_map]; omega), List.getElem?_eq_none (by rw [List.length_map, List.length_map]; omega)]
  rw [z] at k
  exact k
theorem all_true {α : Type} (l : List α) : (l.map fun _ => true).all id = true := by simp
theorem arenodes_ok {vs : List PySem.Str} (h : ∀ v ∈ vs, nmB v = true) (hd : vs.Nodup) (hl : vs.length ≤ 1000) : Mp.run G fu (n + 2) 21 [.val (.lst (vs.map .str))] = .ok (.val (.bl true)) [.val (.lst (vs.map .str))] := by
  have k := arenodes_lc (fu := fu) (n := n) h hl
  have k2 := arenodes_lc2 (fu := fu) (n := n + 1) hd hl none
  have di := dBls_map (vs.map fun _ => true)
  have at_ := all_true vs
  rw [r21 rfl]
  simp only [List.map_map] at k k2 di
  simp [-List.all_map, G_21, Bo.ap, exs, ex, ev, evs, evT, evA, evW, evO, evF, evI, exh, En.at, Out.bind, Out.then, So.then, op1, op2, opL, view, views, lift, Co.ap, bR, slD, ixD, endR, parm, modes, fz, fzs, tr1, truth, asgR, tupR, ixR, kxR, D.key, flR, fPut, agfR, augI, agxR, raiR, callR, makeR, muR, Mu.ap, Qm.apT, Qm.apL, revD, Bi.ap, Bi.cool, prep, lent, back, D.isNon, D.isAny, D.isA, bindT, srOf, turnB, muOwn, CC_call, CC_g, CC_fu, CC_hot, CC_heat, cEq_str, cEq_int, tx_beq, len_tx, add_tx, cutS_tx, tyNames, k, k2, di, at_]
end K05

namespace K05
open Mp L2
variable {fu n : Nat}
def seenK (es : List Edge) (j : Nat) : List Key := (es.take j).map fun e => .inr e.l
def seenD (es : List Edge) (j : Nat) : List D := (es.take j).map fun _ => .bl true
theorem seen_new {es : List Edge} (h : (es.map (·.l)).Nodup) {j : Nat} (hj : j < es.length) : (Sum.inr es[j].l : Key) ∉ seenK es j := by
  intro hm
  obtain ⟨e, he, q⟩ := List.mem_map.mp hm
  have q' : e.l = es[j].l := Sum.inr.inj q
  have := nodup_take h (j := j) (by rw [List.length_map]; exact hj)
  rw [List.getElem_map, ← List.map_take] at this
  exact this (List.mem_map.mpr ⟨e, he, q'⟩)
theorem need_step {vs : List PySem.Str} {es : List Edge} (w : WF vs es) {j : Nat} (hj : j < es.length) (o : Option S) :
    turnB (exs (CC G fu (n + 3)) G_22_b0) true [3] (ed es[j]) [some (.val (.lst (vs.map .str))), some (.val (.lst (es.map ed))), some (.own (.dct (seenK es j) (seenD es j))), o] =
      .nx [some (.val (.lst (vs.map .str))), some (.val (.lst (es.map ed))), some (.own (.dct (seenK es (j + 1)) (seenD es (j + 1)))), some (.val (ed es[j]))] := by
  have hm : es[j] ∈ es := List.getElem_mem hj
  have h1 := edval_ok (fu := fu) (n := n) (w.el _ hm) (w.vn _ (w.te _ hm)) (w.vn _ (w.he _ hm)) (w.rm _ hm)
  have e0 : atD [.str es[j].l, .str es[j].t, .str es[j].h, .int es[j].p, .int es[j].r] 0 = some (D.str es[j].l) := rfl
  have e1 : atD [.str es[j].l, .str es[j].t, .str es[j].h, .int es[j].p, .int es[j].r] 1 = some (D.str es[j].t) := rfl
  have e2 : atD [.str es[j].l, .str es[j].t, .str es[j].h, .int es[j].p, .int es[j].r] 2 = some (D.str es[j].h) := rfl
  have c1 : cIn (.str es[j].t) (.lst (vs.map .str)) = some true := by rw [cIn_strsL, decide_eq_true (w.te _ hm)]
  have c2 : cIn (.str es[j].h) (.lst (vs.map .str)) = some true := by rw [cIn_strsL, decide_eq_true (w.he _ hm)]
  have nk := seen_new w.ld hj
  have c3 : cIn (.str es[j].l) (.dct (seenK es j) (seenD es j)) = some false := by
    simp only [cIn, D.key, Option.map_some, dget_none nk]; rfl
  have pk : dPut (seenK es j) (seenD es j) (.inr es[j].l) (.bl true) = (seenK es (j + 1), seenD es (j + 1)) := by
    rw [dput_new nk]
    simp only [seenK, seenD]
    rw [List.take_succ_eq_append_getElem hj, List.map_append, List.map_append]
    rfl
  have lk : (seenK es j).length < 1000000 := by
    have := w.ne
    simp only [seenK, List.length_map, List.length_take]
    omega
  simp [G_22_b0, Bo.ap, exs, ex, ev, evs, evT, evA, evW, evO, evF, evI, exh, En.at, Out.bind, Out.then, So.then, op1, op2, opL, view, views, lift, Co.ap, bR, slD, ixD, endR, parm, modes, fz, fzs, tr1, truth, asgR, tupR, ixR, kxR, D.key, flR, fPut, agfR, augI, agxR, raiR, callR, makeR, muR, Mu.ap, Qm.apT, Qm.apL, revD, Bi.ap, Bi.cool, prep, lent, back, D.isNon, D.isAny, D.isA, bindT, srOf, turnB, muOwn, CC_call, CC_g, CC_fu, CC_hot, CC_heat, cEq_str, cEq_int, tx_beq, len_tx, add_tx, cutS_tx, tyNames, m23, h1, e0, e1, e2, c1, c2, c3, pk, lk]
theorem need_ok {vs : List PySem.Str} {es : List Edge} (w : WF vs es) : Mp.run G fu (n + 4) 22 [.val (.lst (vs.map .str)), .val (.lst (es.map ed))] = .ok (.val .non) [.val (.lst (vs.map .str)), .val (.lst (es.map ed))] := by
  obtain ⟨ρ', e, o, rfl⟩ := forL_inv (f := turnB (exs (CC G fu (n + 3)) G_22_b0) true [3]) (fun j ρ => ∃ o : Option S, ρ = [some (.val (.lst (vs.map .str))), some (.val (.lst (es.map ed))), some (.own (.dct (seenK es j) (seenD es j))), o]) (es.map ed) 0 [some (.val (.lst (vs.map .str))), some (.val (.lst (es.map ed))), some (.own (.dct [] [])), none] ⟨none, rfl⟩ (by
    rintro j d ρ hd ⟨o, rfl⟩
    rw [List.getElem?_map] at hd
    obtain ⟨e, he, rfl⟩ := Option.map_eq_some_iff.mp hd
    obtain ⟨hj, rfl⟩ := List.getElem?_eq_some_iff.mp he
    rw [Nat.zero_add]
    exact ⟨_, need_step w hj o, _, rfl⟩)
  rw [r22 rfl]
  simp [G_22, Bo.ap, exs, ex, ev, evs, evT, evA, evW, evO, evF, evI, exh, En.at, Out.bind, Out.then, So.then, op1, op2, opL, view, views, lift, Co.ap, bR, slD, ixD, endR, parm, modes, fz, fzs, tr1, truth, asgR, tupR, ixR, kxR, D.key, flR, fPut, agfR, augI, agxR, raiR, callR, makeR, muR, Mu.ap, Qm.apT, Qm.apL, revD, Bi.ap, Bi.cool, prep, lent, back, D.isNon, D.isAny, D.isA, bindT, srOf, turnB, muOwn, CC_call, CC_g, CC_fu, CC_hot, CC_heat, cEq_str, cEq_int, tx_beq, len_tx, add_tx, cutS_tx, tyNames, e]
theorem init_ok {vs : List PySem.Str} {es : List Edge} (w : WF vs es) : Mp.run G fu (n + 5) 20 [.own (.ins "Graph" [] []), .val (.lst (vs.map .str)), .val (.lst (es.map ed))] = .ok (.val .non) [.own (gD vs es), .val (.lst (vs.map .str)), .val (.lst (es.map ed))] := by
  have k1 := arenodes_ok (fu := fu) (n := n + 2) w.vn w.vd (by have := w.nv; omega)
  have k2 := need_ok (fu := fu) (n := n) w
  rw [r20 rfl]
  simp [G_20, Bo.ap, exs, ex, ev, evs, evT, evA, evW, evO, evF, evI, exh, En.at, Out.bind, Out.then, So.then, op1, op2, opL, view, views, lift, Co.ap, bR, slD, ixD, endR, parm, modes, fz, fzs, tr1, truth, asgR, tupR, ixR, kxR, D.key, flR, fPut, agfR, augI, agxR, raiR, callR, makeR, muR, Mu.ap, Qm.apT, Qm.apL, revD, Bi.ap, Bi.cool, prep, lent, back, D.isNon, D.isAny, D.isA, bindT, srOf, turnB, muOwn, CC_call, CC_g, CC_fu, CC_hot, CC_heat, cEq_str, cEq_int, tx_beq, len_tx, add_tx, cutS_tx, tyNames, m21, m22, k1, k2, CC_g, na1, na2, ne_ne]
end K05

namespace Mp
open L2
theorem okS_all {l : List PySem.Str} (h : ∀ s ∈ l, nmB s = true) : ∀ s ∈ l, okS s := fun s hs => nmB_ok (h s hs)
theorem WF.vo {vs : List PySem.Str} {es : List Edge} (w : WF vs es) : ∀ s ∈ vs, okS s := okS_all w.vn
theorem WF.ln {vs : List PySem.Str} {es : List Edge} (w : WF vs es) : ∀ s ∈ es.map (·.l), nmB s = true := fun s hs => by
  obtain ⟨e, he, rfl⟩ := List.mem_map.mp hs
  exact w.el e he
theorem WF.lo {vs : List PySem.Str} {es : List Edge} (w : WF vs es) : ∀ s ∈ es.map (·.l), okS s := okS_all w.ln
/-- what stands in a row of names is a name -/
theorem inS_name {d : D} {l : List PySem.Str} (h : ∀ s ∈ l, nmB s = true) (q : inSd d l = true) : ∃ s, d = .str s ∧ nmB s = true ∧ s ∈ l := by
  cases d with
  | str s => simp only [inSd, decide_eq_true_eq] at q; exact ⟨s, rfl, h s q, q⟩
  | _ => simp [inSd] at q
/-- the edge of a label -/
def edgeAt (es : List Edge) (d : D) : Option Edge := es.find? fun e => eqS d e.l
theorem eqS_iff {d : D} {a : PySem.Str} : eqS d a = true ↔ d = .str a := by
  cases d with
  | str s => simp only [eqS, beq_iff_eq]; exact ⟨fun h => by rw [h], fun h => by cases h; rfl⟩
  | _ => simp [eqS]
theorem edgeAt_none {es : List Edge} {d : D} : edgeAt es d = none ↔ inSd d (es.map (·.l)) = false := by
  unfold edgeAt
  rw [List.find?_eq_none]
  constructor
  · intro h
    cases d with
    | str s =>
      simp only [inSd, decide_eq_false_iff_not]
      intro hm
      obtain ⟨e, he, q⟩ := List.mem_map.mp hm
      exact h e he (eqS_iff.mpr (by rw [q]))
    | _ => rfl
  · intro h e he q
    rw [eqS_iff] at q
    subst q
    simp only [inSd, decide_eq_false_iff_not] at h
    exact h (List.mem_map.mpr ⟨e, he, rfl⟩)
theorem edgeAt_some {es : List Edge} {d : D} {e : Edge} (h : edgeAt es d = some e) : e ∈ es ∧ d = .str e.l := ⟨List.mem_of_find?_eq_some h, eqS_iff.mp (List.find?_some (p := fun e : Edge => eqS d e.l) h)⟩
theorem edge_idx {es : List Edge} (hd : (es.map (·.l)).Nodup) {e : Edge} (he : e ∈ es) : ∃ h : (es.map (·.l)).idxOf e.l < es.length, es[(es.map (·.l)).idxOf e.l] = e := by
  have hm : e.l ∈ es.map (·.l) := List.mem_map.mpr ⟨e, he, rfl⟩
  have h1 := List.idxOf_lt_length_of_mem hm
  have h2 := List.getElem_idxOf h1
  rw [List.length_map] at h1
  refine ⟨h1, ?_⟩
  rw [List.getElem_map] at h2
  obtain ⟨j, hj, ej⟩ := List.getElem_of_mem he
  have hij : (es.map (·.l)).idxOf e.l = j := by
    apply (List.getElem_inj (xs := es.map (·.l)) (h₀ := by rw [List.length_map]; exact h1) (h₁ := by rw [List.length_map]; exact hj) hd).mp
    rw [List.getElem_map, List.getElem_map, h2, ej]
  subst hij
  exact ej
theorem edgeAt_mem {es : List Edge} (hd : (es.map (·.l)).Nodup) {e : Edge} (he : e ∈ es) : edgeAt es (.str e.l) = some e := by
  cases q : edgeAt es (.str e.l) with
  | none =>
    rw [edgeAt_none] at q
    simp only [inSd, decide_eq_false_iff_not] at q
    exact absurd (List.mem_map.mpr ⟨e, he, rfl⟩) q
  | some e' =>
    obtain ⟨h1, h2⟩ := edgeAt_some q
    have h3 : e'.l = e.l := (D.str.inj h2).symm
    obtain ⟨a1, a2⟩ := edge_idx hd h1
    obtain ⟨b1, b2⟩ := edge_idx hd he
    have : e' = e := by rw [← a2, ← b2]; congr 1; rw [h3]
    rw [this]
theorem at_eds {es : List Edge} {j : Nat} (h : j < es.length) : atD (es.map ed) (j : Int) = some (ed es[j]) := by
  unfold atD
  rw [at_nat (by rw [List.length_map]; exact h), List.getElem?_map, List.getElem?_eq_getElem h]
  rfl
end Mp
namespace K05
open Mp L2
variable {fu n : Nat}
theorem l1000 : 1 ≤ 1000 := by decide
theorem place_ok {vs : List PySem.Str} {es : List Edge} (w : WF vs es) {s : PySem.Str} (hs : s ∈ vs) : Mp.run G fu (n + 2) 11 [.val (gD vs es), .val (.str s)] = .ok (.val (.int (vs.idxOf s : Nat))) [.val (gD vs es), .val (.str s)] := by
  have h1 := isname_ok (fu := fu) (n := n) (nmB_odd (w.vn s hs))
  have h2 : cIn (.str s) (.tup (vs.map .str)) = some true := by rw [cIn_strs (nmB_odd (w.vn s hs)) w.vo]; simp [inSd, hs]
  have h3 := dStrs_map vs
  rw [r11 rfl]
  simp [G_11, Bo.ap, exs, ex, ev, evs, evT, evA, evW, evO, evF, evI, exh, En.at, Out.bind, Out.then, So.then, op1, op2, opL, view, views, lift, Co.ap, bR, slD, ixD, endR, parm, modes, fz, fzs, tr1, truth, asgR, tupR, ixR, kxR, D.key, flR, fPut, agfR, augI, agxR, raiR, callR, makeR, muR, Mu.ap, Qm.apT, Qm.apL, revD, Bi.ap, Bi.cool, prep, lent, back, D.isNon, D.isAny, D.isA, bindT, srOf, turnB, muOwn, CC_call, CC_g, CC_fu, CC_hot, CC_heat, cEq_str, cEq_int, tx_beq, len_tx, add_tx, cutS_tx, tyNames, m8, h1, nameD, w.vn s hs, fld_nodes, h2, Qm.on, h3, hs]
end K05

namespace K05
open Mp L2
variable {fu n : Nat}
theorem xdN : G.xd "UnknownNode" = some ⟨"UnknownNode", ["name"], ["UnknownNode", "WardError", "ValueError"]⟩ := rfl
theorem place_no {vs : List PySem.Str} {es : List Edge} (w : WF vs es) {d : D} (h : Odd d) (hs : inSd d vs = false) : Mp.run G fu (n + 2) 11 [.val (gD vs es), .val d] = .er ⟨"UnknownNode", ["name"], [d]⟩ [.val (gD vs es), .val d] := by
  have h1 := isname_ok (fu := fu) (n := n) h
  have h2 : cIn d (.tup (vs.map .str)) = some false := by rw [cIn_strs h w.vo, hs]
  rw [r11 rfl]
  cases q : nameD d <;> simp [G_11, Bo.ap, exs, ex, ev, evs, evT, evA, evW, evO, evF, evI, exh, En.at, Out.bind, Out.then, So.then, op1, op2, opL, view, views, lift, Co.ap, bR, slD, ixD, endR, parm, modes, fz, fzs, tr1, truth, asgR, tupR, ixR, kxR, D.key, flR, fPut, agfR, augI, agxR, raiR, callR, makeR, muR, Mu.ap, Qm.apT, Qm.apL, revD, Bi.ap, Bi.cool, prep, lent, back, D.isNon, D.isAny, D.isA, bindT, srOf, turnB, muOwn, CC_call, CC_g, CC_fu, CC_hot, CC_heat, cEq_str, cEq_int, tx_beq, len_tx, add_tx, cutS_tx, tyNames, m8, h1, q, fld_nodes, h2, xdN]
theorem xdE : G.xd "UnknownEdge" = some ⟨"UnknownEdge", ["label"], ["UnknownEdge", "WardError", "ValueError"]⟩ := rfl
theorem labels_lc {vs : List PySem.Str} {es : List Edge} (w : WF vs es) : ev (CC G fu n) G_10_l1 [some (.val (gD vs es)), none] = .ok (.tmp (.lst ((es.map (·.l)).map .str))) [some (.val (gD vs es)), none] := by
  have k := lc_okM (c := CC G fu n) (e := G_10_e0) (i := 1) (x := "edge") (it := .one (.fld (.var 0) "edges")) (ρ := [some (.val (gD vs es)), none]) (l := es.map ed) (fun d => match d with | .tup (x :: _) => x | _ => .non) rfl (by simp) (by simp [Bo.ap, exs, ex, ev, evs, evT, evA, evW, evO, evF, evI, exh, En.at, Out.bind, Out.then, So.then, op1, op2, opL, view, views, lift, Co.ap, bR, slD, ixD, endR, parm, modes, fz, fzs, tr1, truth, asgR, tupR, ixR, kxR, D.key, flR, fPut, agfR, augI, agxR, raiR, callR, makeR, muR, Mu.ap, Qm.apT, Qm.apL, revD, Bi.ap, Bi.cool, prep, lent, back, D.isNon, D.isAny, D.isA, bindT, srOf, turnB, muOwn, CC_call, CC_g, CC_fu, CC_hot, CC_heat, cEq_str, cEq_int, tx_beq, len_tx, add_tx, cutS_tx, tyNames, fld_edges]) (by
    intro d hd
    obtain ⟨e, he, rfl⟩ := List.mem_map.mp hd
    have e0 : atD [.str e.l, .str e.t, .str e.h, .int e.p, .int e.r] 0 = some (D.str e.l) := rfl
    simp [G_10_e0, Bo.ap, exs, ex, ev, evs, evT, evA, evW, evO, evF, evI, exh, En.at, Out.bind, Out.then, So.then, op1, op2, opL, view, views, lift, Co.ap, bR, slD, ixD, endR, parm, modes, fz, fzs, tr1, truth, asgR, tupR, ixR, kxR, D.key, flR, fPut, agfR, augI, agxR, raiR, callR, makeR, muR, Mu.ap, Qm.apT, Qm.apL, revD, Bi.ap, Bi.cool, prep, lent, back, D.isNon, D.isAny, D.isA, bindT, srOf, turnB, muOwn, CC_call, CC_g, CC_fu, CC_hot, CC_heat, cEq_str, cEq_int, tx_beq, len_tx, add_tx, cutS_tx, tyNames, e0]) (by rw [List.length_map]; exact Nat.le_trans w.ne (by decide))
  rw [List.map_map] at k
  rw [List.map_map]
  exact k
theorem labels_ok {vs : List PySem.Str} {es : List Edge} (w : WF vs es) : Mp.run G fu (n + 1) 10 [.val (gD vs es)] = .ok (.val (.tup ((es.map (·.l)).map .str))) [.val (gD vs es)] := by
  have k := labels_lc (fu := fu) (n := n) w
  rw [r10 rfl]
  simp [-List.map_map, G_10, Bo.ap, exs, ex, ev, evs, evT, evA, evW, evO, evF, evI, exh, En.at, Out.bind, Out.then, So.then, op1, op2, opL, view, views, lift, Co.ap, bR, slD, ixD, endR, parm, modes, fz, fzs, tr1, truth, asgR, tupR, ixR, kxR, D.key, flR, fPut, agfR, augI, agxR, raiR, callR, makeR, muR, Mu.ap, Qm.apT, Qm.apL, revD, Bi.ap, Bi.cool, prep, lent, back, D.isNon, D.isAny, D.isA, bindT, srOf, turnB, muOwn, CC_call, CC_g, CC_fu, CC_hot, CC_heat, cEq_str, cEq_int, tx_beq, len_tx, add_tx, cutS_tx, tyNames, k]
theorem edge_ok {vs : List PySem.Str} {es : List Edge} (w : WF vs es) {e : Edge} (he : e ∈ es) : Mp.run G fu (n + 2) 9 [.val (gD vs es), .val (.str e.l)] = .ok (.val (ed e)) [.val (gD vs es), .val (.str e.l)] := by
  have hm : e.l ∈ es.map (·.l) := List.mem_map.mpr ⟨e, he, rfl⟩
  have h0 := nmB_odd (w.el e he)
  have h1 := isname_ok (fu := fu) (n := n) h0
  have h2 : cIn (.str e.l) (.tup ((es.map (·.l)).map .str)) = some true := by rw [cIn_strs h0 w.lo]; simp only [inSd, decide_eq_true hm]
  have h3 := dStrs_map (es.map (·.l))
  have h4 := labels_ok (fu := fu) (n := n) w
  obtain ⟨a1, a2⟩ := edge_idx w.ld he
  have h5 : atD (es.map ed) (((es.map (·.l)).idxOf e.l : Nat) : Int) = some (ed e) := by rw [at_eds a1, a2]
  rw [r9 rfl]
  simp [-List.map_map, -List.mem_map, G_9, Bo.ap, exs, ex, ev, evs, evT, evA, evW, evO, evF, evI, exh, En.at, Out.bind, Out.then, So.then, op1, op2, opL, view, views, lift, Co.ap, bR, slD, ixD, endR, parm, modes, fz, fzs, tr1, truth, asgR, tupR, ixR, kxR, D.key, flR, fPut, agfR, augI, agxR, raiR, callR, makeR, muR, Mu.ap, Qm.apT, Qm.apL, revD, Bi.ap, Bi.cool, prep, lent, back, D.isNon, D.isAny, D.isA, bindT, srOf, turnB, muOwn, CC_call, CC_g, CC_fu, CC_hot, CC_heat, cEq_str, cEq_int, tx_beq, len_tx, add_tx, cutS_tx, tyNames, m8, m10, h1, nameD, w.el e he, fld_edges, h2, Qm.on, h3, h4, hm, h5]
theorem edge_no {vs : List PySem.Str} {es : List Edge} (w : WF vs es) {d : D} (h : Odd d) (hs : edgeAt es d = none) : Mp.run G fu (n + 2) 9 [.val (gD vs es), .val d] = .er ⟨"UnknownEdge", ["label"], [d]⟩ [.val (gD vs es), .val d] := by
  have h1 := isname_ok (fu := fu) (n := n) h
  have h2 : cIn d (.tup ((es.map (·.l)).map .str)) = some false := by rw [cIn_strs h w.lo, edgeAt_none.mp hs]
  have h4 := labels_ok (fu := fu) (n := n) w
  rw [r9 rfl]
  cases q : nameD d <;> simp [-List.map_map, G_9, Bo.ap, exs, ex, ev, evs, evT, evA, evW, evO, evF, evI, exh, En.at, Out.bind, Out.then, So.then, op1, op2, opL, view, views, lift, Co.ap, bR, slD, ixD, endR, parm, modes, fz, fzs, tr1, truth, asgR, tupR, ixR, kxR, D.key, flR, fPut, agfR, augI, agxR, raiR, callR, makeR, muR, Mu.ap, Qm.apT, Qm.apL, revD, Bi.ap, Bi.cool, prep, lent, back, D.isNon, D.isAny, D.isA, bindT, srOf, turnB, muOwn, CC_call, CC_g, CC_fu, CC_hot, CC_heat, cEq_str, cEq_int, tx_beq, len_tx, add_tx, cutS_tx, tyNames, m8, m10, h1, q, h4, h2, xdE]
end K05

namespace Mp
open L2
def row (es : List Edge) (P : Edge → Bool) : List D := (es.filter P).map fun e => .str e.l
theorem filt {es : List Edge} {P : D → Bool} {F : D → D} : ((es.map ed).filter P).map F = (es.filter fun e => P (ed e)).map fun e => F (ed e) := by
  rw [List.filter_map, List.map_map]; rfl
theorem ix_l {e : Edge} : atD [.str e.l, .str e.t, .str e.h, .int e.p, .int e.r] 0 = some (D.str e.l) := rfl
theorem ix_t {e : Edge} : atD [.str e.l, .str e.t, .str e.h, .int e.p, .int e.r] 1 = some (D.str e.t) := rfl
theorem ix_h {e : Edge} : atD [.str e.l, .str e.t, .str e.h, .int e.p, .int e.r] 2 = some (D.str e.h) := rfl
theorem ix_p {e : Edge} : atD [.str e.l, .str e.t, .str e.h, .int e.p, .int e.r] 3 = some (D.int e.p) := rfl
theorem ix_r {e : Edge} : atD [.str e.l, .str e.t, .str e.h, .int e.p, .int e.r] 4 = some (D.int e.r) := rfl
def dl : D → D
  | .tup (x :: _) => x
  | _ => .non
def dt : D → PySem.Str
  | .tup [_, .str t, _, _, _] => t
  | _ => ⟨#[]⟩
def dh : D → PySem.Str
  | .tup [_, _, .str t, _, _] => t
  | _ => ⟨#[]⟩
theorem dl_ed {e : Edge} : dl (ed e) = .str e.l := rfl
theorem dt_ed {e : Edge} : dt (ed e) = e.t := rfl
theorem dh_ed {e : Edge} : dh (ed e) = e.h := rfl
theorem cIn_two {d : D} (h : Odd d) {a b : PySem.Str} (ha : okS a) (hb : okS b) : cIn d (.tup [.str a, .str b]) = some (inSd d [a, b]) :=
  cIn_strs h (l := [a, b]) (by intro s hs; simp only [List.mem_cons, List.mem_nil_iff, or_false] at hs; rcases hs with rfl | rfl <;> assumption)
/-- how many ends of edges are at a name -/
def degS (es : List Edge) (s : PySem.Str) : Nat := (es.filter fun e => e.t == s).length + (es.filter fun e => e.h == s).length
theorem deg_sum (s : PySem.Str) : ∀ (es : List Edge), (es.map fun e => (([e.t, e.h].count s : Nat) : Int)).sum = (degS es s : Nat)
  | [] => rfl
  | e :: es => by
    rw [List.map_cons, List.sum_cons, deg_sum s es]
    simp only [degS, List.filter_cons, List.count_cons, List.count_nil]
    cases e.t == s <;> cases e.h == s <;> simp <;> omega
theorem WF.lim {vs : List PySem.Str} {es : List Edge} (w : WF vs es) : (es.map ed).length ≤ lim := by rw [List.length_map]; exact Nat.le_trans w.ne (by decide)
end Mp
namespace K05
open Mp L2
theorem pl1 : ¬ (PySem.Str.ofString "place" = PySem.Str.ofString "nodes") := by decide
theorem pl2 : ¬ (PySem.Str.ofString "place" = PySem.Str.ofString "edges") := by decide
theorem l2 : 2 ≤ lim := by decide
theorem at0 {a : D} {r : List D} : atD (a :: r) 0 = some a := at_zero
theorem at1 {a b : D} {r : List D} : atD (a :: b :: r) 1 = some b := at_nat (k := 1) (by simp)
end K05

namespace Mp
open L2
theorem lch_ok {c : Cc} {e : Ex} {i : Nat} {x : PySem.Str} {a : Ex} {ρ : En} {l rs : List D} (hh : c.hot = true) (hi : i < ρ.length) (ha : ev c a ρ = .ok (.val (.tup l)) ρ) (h : All2 (fun d r => ev c e (ρ.set i (some (.val d))) = .ok (.val r) (ρ.set i (some (.val d)))) l rs) (hl : l.length ≤ lim) :
    ev c (.lch e [(x, i)] a i) ρ = .ok (.tmp (.lst rs)) ρ := by
  have k := turns_map hi h (acc := []) (by simpa using hl)
  have u : ev c (.lch e [(x, i)] a i) ρ = if c.hot = true then ((ev c a ρ).bind fun x ρ => match x with | .val (.tup l) => .ok (Sr.fix l) ρ | _ => .bad).bind fun s ρ => match s with
    | .fix l => match turns (stepF c e i ρ) (·.2) l ([], ρ) with
      | .ok a ρ => .ok (.tmp (.lst a.1)) ρ
      | .er _ _ => .bad
      | .bad => .bad
    | .dyn _ => .bad
    else .bad := by simp only [ev, evF, stepF]; rfl
  rw [u, if_pos hh, ha]
  simp only [Out.bind]
  rw [k]
  rfl
theorem All2.map2 {α β γ : Type} {R : α → β → Prop} {f : γ → α} {g : γ → β} (h : ∀ b, R (f b) (g b)) : ∀ bs : List γ, All2 R (bs.map f) (bs.map g)
  | [] => .nil
  | b :: bs => .cons (h b) (All2.map2 h bs)
theorem runH_at {g : Gs} {fu n f : Nat} {d : Fd} {ss : List S} (e : g.fd[f]? = some d) (h : modes d.mu ss = true) : runH g fu (n + 1) f ss = coolO (endR d.mu ss (exs (CH g fu n) d.bd (ss.map some ++ List.replicate (d.N.length - ss.length) none))) := by
  simp only [runH, e, h, if_true]
  rfl
end Mp
namespace K05
open Mp L2
variable {fu n : Nat}
theorem hlone {ss : List S} (h : modes [false] ss = true) : runH G fu (n + 1) 4 ss = coolO (endR [false] ss (exs (CH G fu n) G_4.bd (ss.map some ++ List.replicate (2 - ss.length) none))) := runH_at g4 h
theorem hclasses {ss : List S} (h : modes [false] ss = true) : runH G fu (n + 1) 5 ss = coolO (endR [false] ss (exs (CH G fu n) G_5.bd (ss.map some ++ List.replicate (4 - ss.length) none))) := runH_at g5 h
def b01 (b : Bool) : Int := if b then 1 else 0
theorem held (x : Xn) (bs : List Bool) (h : runH G fu n 5 [.exn x] = .ok (.val (.tup (bs.map D.bl))) [.exn x]) (hl : bs.length ≤ 100) :
    ev (CH G fu n) G_4_l1 [some (.exn x), none] = .ok (.tmp (.lst ((bs.map b01).map D.int))) [some (.exn x), none] := by
  refine lch_ok (l := bs.map D.bl) rfl (by simp) ?_ ?_ (by rw [List.length_map]; exact Nat.le_trans hl (by decide))
  · simp [Bo.ap, exs, ex, ev, evs, evT, evA, evW, evO, evF, evI, exh, En.at, Out.bind, Out.then, So.then, op1, op2, opL, view, views, lift, Co.ap, bR, slD, ixD, endR, parm, modes, fz, fzs, tr1, truth, asgR, tupR, ixR, kxR, D.key, flR, fPut, agfR, augI, agxR, raiR, callR, makeR, muR, Mu.ap, Qm.apT, Qm.apL, revD, Bi.ap, Bi.cool, prep, lent, back, D.isNon, D.isAny, D.isA, bindT, srOf, turnB, muOwn, CC_call, CC_g, CC_fu, CC_hot, CC_heat, cEq_str, cEq_int, tx_beq, len_tx, add_tx, cutS_tx, tyNames, CH_hot, CH_call, h]
  · rw [List.map_map]
    refine All2.map2 (fun b => ?_) bs
    simp [G_4_e0, Bo.ap, exs, ex, ev, evs, evT, evA, evW, evO, evF, evI, exh, En.at, Out.bind, Out.then, So.then, op1, op2, opL, view, views, lift, Co.ap, bR, slD, ixD, endR, parm, modes, fz, fzs, tr1, truth, asgR, tupR, ixR, kxR, D.key, flR, fPut, agfR, augI, agxR, raiR, callR, makeR, muR, Mu.ap, Qm.apT, Qm.apL, revD, Bi.ap, Bi.cool, prep, lent, back, D.isNon, D.isAny, D.isA, bindT, srOf, turnB, muOwn, CC_call, CC_g, CC_fu, CC_hot, CC_heat, cEq_str, cEq_int, tx_beq, len_tx, add_tx, cutS_tx, tyNames, CH_hot, CH_call, b01]
theorem lone_ok (x : Xn) (bs : List Bool) (h : runH G fu n 5 [.exn x] = .ok (.val (.tup (bs.map D.bl))) [.exn x]) (hl : bs.length ≤ 100) (hs : (bs.map b01).sum = 1) (w1 : G.xms x.C ["WardError"] = some true) (w2 : G.xms x.C ["ValueError"] = some true) :
    runH G fu (n + 1) 4 [.exn x] = .ok (.val (.bl true)) [.exn x] := by
  have e := held (fu := fu) x bs h hl
  have di := dInts_mapI (bs.map b01)
  rw [hlone rfl]
  simp [-List.map_map, G_4, Bo.ap, exs, ex, ev, evs, evT, evA, evW, evO, evF, evI, exh, En.at, Out.bind, Out.then, So.then, op1, op2, opL, view, views, lift, Co.ap, bR, slD, ixD, endR, parm, modes, fz, fzs, tr1, truth, asgR, tupR, ixR, kxR, D.key, flR, fPut, agfR, augI, agxR, raiR, callR, makeR, muR, Mu.ap, Qm.apT, Qm.apL, revD, Bi.ap, Bi.cool, prep, lent, back, D.isNon, D.isAny, D.isA, bindT, srOf, turnB, muOwn, CC_call, CC_g, CC_fu, CC_hot, CC_heat, cEq_str, cEq_int, tx_beq, len_tx, add_tx, cutS_tx, tyNames, CH_call, CH_g, CH_fu, CH_hot, coolO, e, di, hs, w1, w2]
theorem x2_0 : G.xms "UnknownNode" ["InvalidGraph"] = some false := rfl
theorem x2_1 : G.xms "UnknownNode" ["InvalidText"] = some false := rfl
theorem x2_2 : G.xms "UnknownNode" ["UnknownNode"] = some true := rfl
theorem x2_3 : G.xms "UnknownNode" ["UnknownEdge"] = some false := rfl
theorem x2_4 : G.xms "UnknownNode" ["Taken"] = some false := rfl
theorem x2_5 : G.xms "UnknownNode" ["InvalidNumber"] = some false := rfl
theorem x2_6 : G.xms "UnknownNode" ["Undefined"] = some false := rfl
theorem x2_7 : G.xms "UnknownNode" ["InvalidClaim"] = some false := rfl
theorem x2_8 : G.xms "UnknownNode" ["Refused"] = some false := rfl
theorem x2_9 : G.xms "UnknownNode" ["InvalidQuestion"] = some false := rfl
theorem x2_10 : G.xms "UnknownNode" ["NotWatched"] = some false := rfl
theorem x2_11 : G.xms "UnknownNode" ["NothingToUndo"] = some false := rfl
theorem x2_12 : G.xms "UnknownNode" ["InvalidEdit"] = some false := rfl
theorem x2_13 : G.xms "UnknownNode" ["WardError"] = some true := rfl
theorem x2_14 : G.xms "UnknownNode" ["ValueError"] = some true := rfl
abbrev cl2 : D := .tup [.bl false, .bl false, .bl true, .bl false, .bl false, .bl false, .bl false, .bl false, .bl false, .bl false, .bl false, .bl false, .bl false]
theorem classes2 (fs : List PySem.Str) (vs : List D) : runH G fu (n + 1) 5 [.exn ⟨"UnknownNode", fs, vs⟩] = .ok (.val cl2) [.exn ⟨"UnknownNode", fs, vs⟩] := by
  rw [hclasses rfl]
  simp [G_5, Bo.ap, exs, ex, ev, evs, evT, evA, evW, evO, evF, evI, exh, En.at, Out.bind, Out.then, So.then, op1, op2, opL, view, views, lift, Co.ap, bR, slD, ixD, endR, parm, modes, fz, fzs, tr1, truth, asgR, tupR, ixR, kxR, D.key, flR, fPut, agfR, augI, agxR, raiR, callR, makeR, muR, Mu.ap, Qm.apT, Qm.apL, revD, Bi.ap, Bi.cool, prep, lent, back, D.isNon, D.isAny, D.isA, bindT, srOf, turnB, muOwn, CC_call, CC_g, CC_fu, CC_hot, CC_heat, cEq_str, cEq_int, tx_beq, len_tx, add_tx, cutS_tx, tyNames, CH_call, CH_g, CH_fu, CH_hot, coolO, x2_0, x2_1, x2_2, x2_3, x2_4, x2_5, x2_6, x2_7, x2_8, x2_9, x2_10, x2_11, x2_12, x2_13, x2_14, lim]
theorem lone2 (fs : List PySem.Str) (vs : List D) : runH G fu (n + 2) 4 [.exn ⟨"UnknownNode", fs, vs⟩] = .ok (.val (.bl true)) [.exn ⟨"UnknownNode", fs, vs⟩] :=
  lone_ok _ [false, false, true, false, false, false, false, false, false, false, false, false, false] (classes2 fs vs) (by decide) (by decide) x2_13 x2_14
theorem x3_0 : G.xms "UnknownEdge" ["InvalidGraph"] = some false := rfl
theorem x3_1 : G.xms "UnknownEdge" ["InvalidText"] = some false := rfl
theorem x3_2 : G.xms "UnknownEdge" ["UnknownNode"] = some false := rfl
theorem x3_3 : G.xms "UnknownEdge" ["UnknownEdge"] = some true := rfl
theorem x3_4 : G.xms "UnknownEdge" ["Taken"] = some false := rfl
theorem x3_5 : G.xms "UnknownEdge" ["InvalidNumber"] = some false := rfl
theorem x3_6 : G.xms "UnknownEdge" ["Undefined"] = some false := rfl
theorem x3_7 : G.xms "UnknownEdge" ["InvalidClaim"] = some false := rfl
theorem x3_8 : G.xms "UnknownEdge" ["Refused"] = some false := rfl
theorem x3_9 : G.xms "UnknownEdge" ["InvalidQuestion"] = some false := rfl
theorem x3_10 : G.xms "UnknownEdge" ["NotWatched"] = some false := rfl
theorem x3_11 : G.xms "UnknownEdge" ["NothingToUndo"] = some false := rfl
theorem x3_12 : G.xms "UnknownEdge" ["InvalidEdit"] = some false := rfl
theorem x3_13 : G.xms "UnknownEdge" ["WardError"] = some true := rfl
theorem x3_14 : G.xms "UnknownEdge" ["ValueError"] = some true := rfl
abbrev cl3 : D := .tup [.bl false, .bl false, .bl false, .bl true, .bl false, .bl false, .bl false, .bl false, .bl false, .bl false, .bl false, .bl false, .bl false]
theorem classes3 (fs : List PySem.Str) (vs : List D) : runH G fu (n + 1) 5 [.exn ⟨"UnknownEdge", fs, vs⟩] = .ok (.val cl3) [.exn ⟨"UnknownEdge", fs, vs⟩] := by
  rw [hclasses rfl]
  simp [G_5, Bo.ap, exs, ex, ev, evs, evT, evA, evW, evO, evF, evI, exh, En.at, Out.bind, Out.then, So.then, op1, op2, opL, view, views, lift, Co.ap, bR, slD, ixD, endR, parm, modes, fz, fzs, tr1, truth, asgR, tupR, ixR, kxR, D.key, flR, fPut, agfR, augI, agxR, raiR, callR, makeR, muR, Mu.ap, Qm.apT, Qm.apL, revD, Bi.ap, Bi.cool, prep, lent, back, D.isNon, D.isAny, D.isA, bindT, srOf, turnB, muOwn, CC_call, CC_g, CC_fu, CC_hot, CC_heat, cEq_str, cEq_int, tx_beq, len_tx, add_tx, cutS_tx, tyNames, CH_call, CH_g, CH_fu, CH_hot, coolO, x3_0, x3_1, x3_2, x3_3, x3_4, x3_5, x3_6, x3_7, x3_8, x3_9, x3_10, x3_11, x3_12, x3_13, x3_14, lim]
theorem lone3 (fs : List PySem.Str) (vs : List D) : runH G fu (n + 2) 4 [.exn ⟨"UnknownEdge", fs, vs⟩] = .ok (.val (.bl true)) [.exn ⟨"UnknownEdge", fs, vs⟩] :=
  lone_ok _ [false, false, false, true, false, false, false, false, false, false, false, false, false] (classes3 fs vs) (by decide) (by decide) x3_13 x3_14
end K05

namespace Mp
open L2
/-- a state of the draws -/
def Sta (σ : D) : Prop := ∃ (r : Int) (nx : Nat) (c d : Int), σ = dst r nx c d
theorem at_ab {k : Nat} (h : k < 26) : ixD (.str (tx ab)) (.int (k : Int)) = some (.val (.str (tx [97 + k]))) := by
  have hl : (tx ab : PySem.Str).length ≤ lim := by rw [len_tx]; decide
  have e : ∀ k < 26, ab[k]? = some (97 + k) := by decide
  simp only [ixD]
  rw [if_pos hl, at_nat (by show k < 26; exact h), e k h]
  rfl
theorem mem_ab {k : Nat} (h : k < 26) : 97 + k ∈ ab := by
  have : ∀ k < 26, 97 + k ∈ ab := by decide
  exact this k h
theorem nmB_tx {l : List Nat} (h0 : 1 ≤ l.length) (h1 : l.length ≤ 8) (h : ∀ c ∈ l, c ∈ ab) : nmB (tx l) = true := by
  simp only [nmB, len_tx, Bool.and_eq_true, decide_eq_true_eq, List.all_eq_true, inAb]
  refine ⟨⟨h0, h1⟩, fun c hc => h c ?_⟩
  simpa [tx] using hc
theorem tx_inj {a b : List Nat} (h : (tx a : PySem.Str) = tx b) : a = b := by
  have := congrArg (fun s : PySem.Str => s.cps.toList) h
  simpa [tx] using this
theorem fmod_nat {a b : Nat} : ((a : Nat) : Int).fmod (b : Nat) = ((a % b : Nat) : Int) := by
  rw [Int.fmod_eq_emod_of_nonneg _ (by omega)]
  exact (Int.natCast_emod a b).symm
theorem add_str {a b : List Nat} (h : a.length + b.length ≤ 1000) : Bo.ap .add (.str (tx a)) (.str (tx b)) = some (.val (.str (tx (a ++ b)))) := by
  simp only [Bo.ap, len_tx]
  rw [if_pos (Nat.le_trans h (by decide)), add_tx]
theorem cut_take' {α : Type} {xs : List α} {i : Nat} : cutD xs none (some (i : Int)) = xs.take i := by
  unfold cutD
  rw [HT.sIx_nat, show HT.sIx xs.length 0 none = 0 from rfl, List.drop_zero, Nat.sub_zero, Nat.min_def]
  split
  · rfl
  · rw [List.take_of_length_le (Nat.le_refl _), List.take_of_length_le (by omega)]
end Mp
namespace K05
open Mp L2
variable {fu n : Nat}
theorem draw_s {ns : List Int} {σ : D} (hσ : Sta σ) {m : Int} (m0 : 0 < m) (m1 : m < 1073741824) :
    ∃ (k : Nat) (σ' : D), Sta σ' ∧ (k : Int) < m ∧ Mp.run G fu (n + 2) 1 [.val (li ns), .own σ, .val (.int m)] = .ok (.val (.int (k : Int))) [.val (li ns), .own σ', .val (.int m)] := by
  obtain ⟨r, nx, c, d, rfl⟩ := hσ
  obtain ⟨k, r', c', d', nx', k0, k1, e⟩ := draw_ok (fu := fu) (n := n) (ns := ns) (r := r) (c := c) (d := d) (nx := nx) m0 m1
  obtain ⟨j, rfl⟩ := Int.eq_ofNat_of_zero_le k0
  exact ⟨j, _, ⟨r', nx', c', d', rfl⟩, k1, e⟩
abbrev nρ (ns : List Int) (σ : D) (m : Int) (a b : List Nat) (o f : Option S) : En := [some (.val (li ns)), some (.own σ), some (.val (.int m)), some (.val (.str (tx ab))), some (.val (.str (tx a))), o, some (.val (.str (tx b))), f]
theorem names_ahead {ns : List Int} {σ : D} {m : Int} (hσ : Sta σ) {k : Nat} (hk : k ≤ 100) (o2 o3 : Option S) : ∃ σ' a o, Sta σ' ∧ a.length = k ∧ (∀ c ∈ a, c ∈ ab) ∧
    forL (turnB (exs (CC G fu (n + 2)) G_29_b5) true [5]) (rngD 0 ((k : Nat) : Int)) [some (.val (li ns)), some (.own σ), some (.val (.int m)), some (.val (.str (tx ab))), some (.val (.str (tx []))), none, o2, o3] =
      .nx [some (.val (li ns)), some (.own σ'), some (.val (.int m)), some (.val (.str (tx ab))), some (.val (.str (tx a))), o, o2, o3] := by
  obtain ⟨ρ', e, σ', a, o, h1, h2, h3, rfl⟩ := forL_inv (f := turnB (exs (CC G fu (n + 2)) G_29_b5) true [5]) (fun j ρ => ∃ σ a o, Sta σ ∧ a.length = min j k ∧ (∀ c ∈ a, c ∈ ab) ∧ ρ = [some (.val (li ns)), some (.own σ), some (.val (.int m)), some (.val (.str (tx ab))), some (.val (.str (tx a))), o, o2, o3])
    (rngD 0 ((k : Nat) : Int)) 0 [some (.val (li ns)), some (.own σ), some (.val (.int m)), some (.val (.str (tx ab))), some (.val (.str (tx []))), none, o2, o3] ⟨σ, [], none, hσ, by simp, by simp, rfl⟩ (by
      rintro j d ρ hd ⟨σ, a, o, h1, h2, h3, rfl⟩
      obtain ⟨hj, rfl⟩ := rng_at hd
      obtain ⟨q, σ', g1, g2, g3⟩ := draw_s (fu := fu) (n := n) (ns := ns) h1 (m := 26) (by decide) (by decide)
      have hq : q < 26 := by omega
      have e1 := at_ab hq
      have e2 := add_str (a := a) (b := [97 + q]) (by rw [List.length_singleton]; omega)
      refine ⟨_, ?_, σ', a ++ [97 + q], some (.val (.int j)), g1, by rw [List.length_append, List.length_singleton]; omega, ?_, rfl⟩
      · simp [G_29_b5, exs, ex, ev, evs, evT, evA, evW, evO, evF, evI, exh, En.at, Out.bind, Out.then, So.then, op1, op2, opL, view, views, lift, Co.ap, bR, slD, endR, parm, modes, fz, fzs, tr1, truth, asgR, tupR, ixR, kxR, D.key, flR, fPut, agfR, augI, agxR, raiR, callR, makeR, muR, Mu.ap, Qm.apT, Qm.apL, revD, Bi.ap, Bi.cool, prep, lent, back, D.isNon, D.isAny, D.isA, bindT, srOf, turnB, muOwn, CC_call, CC_g, CC_fu, CC_hot, CC_heat, cEq_str, cEq_int, tx_beq, len_tx, add_tx, cutS_tx, tyNames, m1, g3, e1, e2]
      · intro c hc
        rcases List.mem_append.mp hc with z | z
        · exact h3 c z
        · rw [List.mem_singleton.mp z]; exact mem_ab hq)
  rw [rng_len] at h2
  exact ⟨σ', a, o, h1, by omega, h3, e⟩
theorem names_behind {ns : List Int} {σ : D} {m : Int} (hσ : Sta σ) {k : Nat} (hk : k ≤ 100) (o1 o5 o3 : Option S) : ∃ σ' a o, Sta σ' ∧ a.length = k ∧ (∀ c ∈ a, c ∈ ab) ∧
    forL (turnB (exs (CC G fu (n + 2)) G_29_b4) true [5]) (rngD 0 ((k : Nat) : Int)) [some (.val (li ns)), some (.own σ), some (.val (.int m)), some (.val (.str (tx ab))), o1, o5, some (.val (.str (tx []))), o3] =
      .nx [some (.val (li ns)), some (.own σ'), some (.val (.int m)), some (.val (.str (tx ab))), o1, o, some (.val (.str (tx a))), o3] := by
  obtain ⟨ρ', e, σ', a, o, h1, h2, h3, rfl⟩ := forL_inv (f := turnB (exs (CC G fu (n + 2)) G_29_b4) true [5]) (fun j ρ => ∃ σ a o, Sta σ ∧ a.length = min j k ∧ (∀ c ∈ a, c ∈ ab) ∧ ρ = [some (.val (li ns)), some (.own σ), some (.val (.int m)), some (.val (.str (tx ab))), o1, o, some (.val (.str (tx a))), o3])
    (rngD 0 ((k : Nat) : Int)) 0 [some (.val (li ns)), some (.own σ), some (.val (.int m)), some (.val (.str (tx ab))), o1, o5, some (.val (.str (tx []))), o3] ⟨σ, [], o5, hσ, by simp, by simp, rfl⟩ (by
      rintro j d ρ hd ⟨σ, a, o, h1, h2, h3, rfl⟩
      obtain ⟨hj, rfl⟩ := rng_at hd
      obtain ⟨q, σ', g1, g2, g3⟩ := draw_s (fu := fu) (n := n) (ns := ns) h1 (m := 26) (by decide) (by decide)
      have hq : q < 26 := by omega
      have e1 := at_ab hq
      have e2 := add_str (a := a) (b := [97 + q]) (by rw [List.length_singleton]; omega)
      refine ⟨_, ?_, σ', a ++ [97 + q], some (.val (.int j)), g1, by rw [List.length_append, List.length_singleton]; omega, ?_, rfl⟩
      · simp [G_29_b4, exs, ex, ev, evs, evT, evA, evW, evO, evF, evI, exh, En.at, Out.bind, Out.then, So.then, op1, op2, opL, view, views, lift, Co.ap, bR, slD, endR, parm, modes, fz, fzs, tr1, truth, asgR, tupR, ixR, kxR, D.key, flR, fPut, agfR, augI, agxR, raiR, callR, makeR, muR, Mu.ap, Qm.apT, Qm.apL, revD, Bi.ap, Bi.cool, prep, lent, back, D.isNon, D.isAny, D.isA, bindT, srOf, turnB, muOwn, CC_call, CC_g, CC_fu, CC_hot, CC_heat, cEq_str, cEq_int, tx_beq, len_tx, add_tx, cutS_tx, tyNames, m1, g3, e1, e2]
      · intro c hc
        rcases List.mem_append.mp hc with z | z
        · exact h3 c z
        · rw [List.mem_singleton.mp z]; exact mem_ab hq)
  rw [rng_len] at h2
  exact ⟨σ', a, o, h1, by omega, h3, e⟩
def zs : List Nat := List.replicate 7 122
theorem zs_len : zs.length = 7 := rfl
theorem zs_mem {c : Nat} (h : c ∈ zs) : c = 122 := List.eq_of_mem_replicate h
/-- names of unlike lengths -/
def nm1 (f k : Nat) : PySem.Str := tx (((97 + (f + k) % 26) :: zs).take (1 + (f + 5 * k) % 8))
def nm2 (f : Nat) (a b : List Nat) (k : Nat) : PySem.Str := tx (a ++ [97 + (f + k) % 26] ++ b)
theorem nm1_ok (f k : Nat) : nmB (nm1 f k) = true := by
  unfold nm1
  refine nmB_tx ?_ ?_ fun c hc => ?_
  · rw [List.length_take, List.length_cons, zs_len]; omega
  · rw [List.length_take, List.length_cons, zs_len]; omega
  · rcases List.mem_cons.mp (List.mem_of_mem_take hc) with z | z
    · rw [z]; exact mem_ab (Nat.mod_lt _ (by decide))
    · rw [zs_mem z]; decide
theorem nm2_ok (f k : Nat) {a b : List Nat} (ha : a.length ≤ 3) (hb : b.length ≤ 4) (a1 : ∀ c ∈ a, c ∈ ab) (b1 : ∀ c ∈ b, c ∈ ab) : nmB (nm2 f a b k) = true := by
  unfold nm2
  refine nmB_tx ?_ ?_ fun c hc => ?_
  · simp; omega
  · simp; omega
  · simp only [List.append_assoc, List.mem_append, List.mem_singleton] at hc
    rcases hc with z | z | z
    · exact a1 c z
    · rw [z]; exact mem_ab (Nat.mod_lt _ (by decide))
    · exact b1 c z
theorem nm1_inj {f i j : Nat} (hi : i < 26) (hj : j < 26) (h : nm1 f i = nm1 f j) : i = j := by
  have := tx_inj h
  rw [Nat.add_comm 1, Nat.add_comm 1, List.take_succ_cons, List.take_succ_cons] at this
  have := List.head_eq_of_cons_eq this
  omega
theorem nm2_inj {f i j : Nat} {a b : List Nat} (hi : i < 26) (hj : j < 26) (h : nm2 f a b i = nm2 f a b j) : i = j := by
  have := tx_inj h
  rw [List.append_assoc, List.append_assoc] at this
  have := List.head_eq_of_cons_eq (List.append_cancel_left this)
  omega
theorem nodup_map {α : Type} {g : Nat → α} {m : Nat} (h : ∀ i < m, ∀ j < m, g i = g j → i = j) : ((List.range m).map g).Nodup := by
  rw [List.nodup_iff_pairwise_ne, List.pairwise_map]
  refine List.Pairwise.imp_of_mem ?_ (List.nodup_range (n := m))
  intro i j hi hj hne e
  exact hne (h i (List.mem_range.mp hi) j (List.mem_range.mp hj) e)
theorem rngD_map {m : Nat} {F : D → D} {g : Nat → PySem.Str} (h : ∀ k < m, F (.int (k : Int)) = .str (g k)) : (rngD 0 (m : Int)).map F = ((List.range m).map g).map .str := by
  simp only [rngD, Int.sub_zero, Int.toNat_natCast, List.map_map]
  apply List.map_congr_left
  intro k hk
  simp only [Function.comp_def, Int.zero_add]
  exact h k (List.mem_range.mp hk)
theorem modN {a : Nat} {b : Nat} (h : 0 < b) : Bo.ap .mod (.int (a : Int)) (.int (b : Int)) = some (.val (.int ((a % b : Nat) : Int))) := by
  rw [bo_mod (by omega), fmod_nat]
theorem z7 : Bo.ap .mul (.str (tx [122])) (.int 7) = some (.val (.str (tx (zs)))) := by rfl
theorem names_l1 {ns : List Int} {σ : D} {m : Nat} (hm : m ≤ 26) {a b : List Nat} (ha : a.length ≤ 3) (hb : b.length ≤ 4) (f : Nat) (o : Option S) :
    ev (CC G fu n) G_29_l1 [some (.val (li ns)), some (.own σ), some (.val (.int (m : Int))), some (.val (.str (tx ab))), some (.val (.str (tx a))), o, some (.val (.str (tx b))), some (.val (.int (f : Int)))] =
      .ok (.tmp (.lst (((List.range m).map (nm2 f a b)).map .str))) [some (.val (li ns)), some (.own σ), some (.val (.int (m : Int))), some (.val (.str (tx ab))), some (.val (.str (tx a))), o, some (.val (.str (tx b))), some (.val (.int (f : Int)))] := by
  have hB : big62 ((m : Nat) : Int) = true := big_of (by omega)
  have hI := evI_rng1s (c := CC G fu n) (a := .var 2) (ρ := [some (.val (li ns)), some (.own σ), some (.val (.int (m : Int))), some (.val (.str (tx ab))), some (.val (.str (tx a))), o, some (.val (.str (tx b))), some (.val (.int (f : Int)))]) hB (by simp [Bo.ap, exs, ex, ev, evs, evT, evA, evW, evO, evF, evI, exh, En.at, Out.bind, Out.then, So.then, op1, op2, opL, view, views, lift, Co.ap, bR, slD, ixD, endR, parm, modes, fz, fzs, tr1, truth, asgR, tupR, ixR, kxR, D.key, flR, fPut, agfR, augI, agxR, raiR, callR, makeR, muR, Mu.ap, Qm.apT, Qm.apL, revD, Bi.ap, Bi.cool, prep, lent, back, D.isNon, D.isAny, D.isA, bindT, srOf, turnB, muOwn, CC_call, CC_g, CC_fu, CC_hot, CC_heat, cEq_str, cEq_int, tx_beq, len_tx, add_tx, cutS_tx, tyNames])
  have k := lc_okM (c := CC G fu n) (e := G_29_e0) (i := 5) (x := "_law_k") (it := .rng1 (.var 2)) (ρ := [some (.val (li ns)), some (.own σ), some (.val (.int (m : Int))), some (.val (.str (tx ab))), some (.val (.str (tx a))), o, some (.val (.str (tx b))), some (.val (.int (f : Int)))]) (l := rngD 0 ((m : Nat) : Int))
    (fun d => match d with | .int i => .str (nm2 f a b i.toNat) | _ => .non) rfl (by simp) hI (by
    intro d hd
    obtain ⟨j, hj, e⟩ := List.getElem_of_mem hd
    obtain ⟨hj', rfl⟩ := rng_at (List.getElem?_eq_some_iff.mpr ⟨hj, e⟩)
    have e0 : Bo.ap .add (.int (f : Int)) (.int (j : Int)) = some (.val (.int ((f + j : Nat) : Int))) := rfl
    have e1 : Bo.ap .mod (.int ((f + j : Nat) : Int)) (.int 26) = some (.val (.int (((f + j) % 26 : Nat) : Int))) := modN (a := f + j) (b := 26) (by decide)
    have e2 := at_ab (Nat.mod_lt (f + j) (y := 26) (by decide))
    have e3 := add_str (a := a) (b := [97 + (f + j) % 26]) (by rw [List.length_singleton]; omega)
    have e4 := add_str (a := a ++ [97 + (f + j) % 26]) (b := b) (by rw [List.length_append, List.length_singleton]; omega)
    simp only [Int.toNat_natCast, nm2]
    generalize ((f + j : Nat) : Int) = z at e0 e1
    simp [-Int.natCast_emod, -List.append_assoc, G_29_e0, exs, ex, ev, evs, evT, evA, evW, evO, evF, evI, exh, En.at, Out.bind, Out.then, So.then, op1, op2, opL, view, views, lift, Co.ap, bR, slD, endR, parm, modes, fz, fzs, tr1, truth, asgR, tupR, ixR, kxR, D.key, flR, fPut, agfR, augI, agxR, raiR, callR, makeR, muR, Mu.ap, Qm.apT, Qm.apL, revD, Bi.ap, Bi.cool, prep, lent, back, D.isNon, D.isAny, D.isA, bindT, srOf, turnB, muOwn, CC_call, CC_g, CC_fu, CC_hot, CC_heat, cEq_str, cEq_int, tx_beq, len_tx, add_tx, cutS_tx, tyNames, e0, e1, e2, e3, e4]) (by rw [rng_len]; exact Nat.le_trans hm (by decide))
  rw [rngD_map (g := nm2 f a b) fun k _ => rfl] at k
  exact k
theorem names_l3 {ns : List Int} {σ : D} {m : Nat} (hm : m ≤ 26) (f : Nat) (o o4 o6 : Option S) :
    ev (CC G fu n) G_29_l3 [some (.val (li ns)), some (.own σ), some (.val (.int (m : Int))), some (.val (.str (tx ab))), o4, o, o6, some (.val (.int (f : Int)))] =
      .ok (.tmp (.lst (((List.range m).map (nm1 f)).map .str))) [some (.val (li ns)), some (.own σ), some (.val (.int (m : Int))), some (.val (.str (tx ab))), o4, o, o6, some (.val (.int (f : Int)))] := by
  have hB : big62 ((m : Nat) : Int) = true := big_of (by omega)
  have hI := evI_rng1s (c := CC G fu n) (a := .var 2) (ρ := [some (.val (li ns)), some (.own σ), some (.val (.int (m : Int))), some (.val (.str (tx ab))), o4, o, o6, some (.val (.int (f : Int)))]) hB (by simp [Bo.ap, exs, ex, ev, evs, evT, evA, evW, evO, evF, evI, exh, En.at, Out.bind, Out.then, So.then, op1, op2, opL, view, views, lift, Co.ap, bR, slD, ixD, endR, parm, modes, fz, fzs, tr1, truth, asgR, tupR, ixR, kxR, D.key, flR, fPut, agfR, augI, agxR, raiR, callR, makeR, muR, Mu.ap, Qm.apT, Qm.apL, revD, Bi.ap, Bi.cool, prep, lent, back, D.isNon, D.isAny, D.isA, bindT, srOf, turnB, muOwn, CC_call, CC_g, CC_fu, CC_hot, CC_heat, cEq_str, cEq_int, tx_beq, len_tx, add_tx, cutS_tx, tyNames])
  have k := lc_okM (c := CC G fu n) (e := G_29_e2) (i := 5) (x := "_law_k") (it := .rng1 (.var 2)) (ρ := [some (.val (li ns)), some (.own σ), some (.val (.int (m : Int))), some (.val (.str (tx ab))), o4, o, o6, some (.val (.int (f : Int)))]) (l := rngD 0 ((m : Nat) : Int))
    (fun d => match d with | .int i => .str (nm1 f i.toNat) | _ => .non) rfl (by simp) hI (by
    intro d hd
    obtain ⟨j, hj, e⟩ := List.getElem_of_mem hd
    obtain ⟨hj', rfl⟩ := rng_at (List.getElem?_eq_some_iff.mpr ⟨hj, e⟩)
    have e0 : Bo.ap .add (.int (f : Int)) (.int (j : Int)) = some (.val (.int ((f + j : Nat) : Int))) := rfl
    have e1 : Bo.ap .mod (.int ((f + j : Nat) : Int)) (.int 26) = some (.val (.int (((f + j) % 26 : Nat) : Int))) := modN (a := f + j) (b := 26) (by decide)
    have e2 := at_ab (Nat.mod_lt (f + j) (y := 26) (by decide))
    have e3 := add_str (a := [97 + (f + j) % 26]) (b := zs) (by rw [List.length_singleton, zs_len]; omega)
    have e5 : Bo.ap .mul (.int 5) (.int (j : Int)) = some (.val (.int ((5 * j : Nat) : Int))) := bo_mul2 (by decide)
    have e6 : Bo.ap .add (.int (f : Int)) (.int ((5 * j : Nat) : Int)) = some (.val (.int ((f + 5 * j : Nat) : Int))) := rfl
    have e7 : Bo.ap .mod (.int ((f + 5 * j : Nat) : Int)) (.int 8) = some (.val (.int (((f + 5 * j) % 8 : Nat) : Int))) := modN (a := f + 5 * j) (b := 8) (by decide)
    have e8 : Bo.ap .add (.int 1) (.int (((f + 5 * j) % 8 : Nat) : Int)) = some (.val (.int ((1 + (f + 5 * j) % 8 : Nat) : Int))) := rfl
    have e9 := @cut_take' Nat ([97 + (f + j) % 26] ++ zs) (1 + (f + 5 * j) % 8)
    have l9 : ([97 + (f + j) % 26] ++ zs).length ≤ lim := by
      rw [List.length_append, List.length_singleton, zs_len]; decide
    have hh : nm1 f j = tx (([97 + (f + j) % 26] ++ zs).take (1 + (f + 5 * j) % 8)) := rfl
    simp only [Int.toNat_natCast, hh]
    generalize ([97 + (f + j) % 26] ++ zs) = zl at e3 e9 l9
    generalize ((1 + (f + 5 * j) % 8 : Nat) : Int) = z4 at e8 e9
    generalize (((f + 5 * j) % 8 : Nat) : Int) = z3 at e7 e8
    generalize ((f + 5 * j : Nat) : Int) = z2 at e6 e7
    generalize ((5 * j : Nat) : Int) = z1 at e5 e6
    generalize ((f + j : Nat) : Int) = z at e0 e1
    simp [-Int.natCast_emod, G_29_e2, exs, ex, ev, evs, evT, evA, evW, evO, evF, evI, exh, En.at, Out.bind, Out.then, So.then, op1, op2, opL, view, views, lift, Co.ap, bR, slD, endR, parm, modes, fz, fzs, tr1, truth, asgR, tupR, ixR, kxR, D.key, flR, fPut, agfR, augI, agxR, raiR, callR, makeR, muR, Mu.ap, Qm.apT, Qm.apL, revD, Bi.ap, Bi.cool, prep, lent, back, D.isNon, D.isAny, D.isA, bindT, srOf, turnB, muOwn, CC_call, CC_g, CC_fu, CC_hot, CC_heat, cEq_str, cEq_int, tx_beq, len_tx, add_tx, cutS_tx, tyNames, z7, e0, e1, e2, e3, e5, e6, e7, e8, e9, l9]) (by rw [rng_len]; exact Nat.le_trans hm (by decide))
  rw [rngD_map (g := nm1 f) fun k _ => rfl] at k
  exact k
end K05

namespace K05
open Mp L2
variable {fu n : Nat}
abbrev drw (k : Int) : Ex := .cal 1 (.cons (.var 0) (.cons (.var 1) (.cons (.con (D.int k)) .nil)))
theorem mul_small {a b p q : Nat} (ha : a < p) (hb : b < q) (hp : p * q ≤ 1000) : ∃ c : Nat, c ≤ (p - 1) * (q - 1) ∧ Bo.ap .mul (.int (a : Int)) (.int (b : Int)) = some (.val (.int (c : Int))) := by
  refine ⟨a * b, Nat.mul_le_mul (by omega) (by omega), ?_⟩
  have h0 : 0 < q := by omega
  have h2 : p ≤ p * q := Nat.le_mul_of_pos_right p h0
  rw [bo_mul2 (i := a) (j := b) (by omega), Int.natCast_mul]
theorem names_ok {ns : List Int} {σ : D} (hσ : Sta σ) {m : Nat} (hm : m ≤ 26) : ∃ (l : List PySem.Str) (σ' : D), Sta σ' ∧ l.length = m ∧ l.Nodup ∧ (∀ s ∈ l, nmB s = true) ∧
    Mp.run G fu (n + 3) 29 [.val (li ns), .own σ, .val (.int (m : Int))] = .ok (.own (.lst (l.map .str))) [.val (li ns), .own σ', .val (.int (m : Int))] := by
  obtain ⟨k1, σ1, s1, b1, g1⟩ := draw_s (fu := fu) (n := n) (ns := ns) hσ (m := 4) (by decide) (by decide)
  obtain ⟨k2, σ2, s2, b2, g2⟩ := draw_s (fu := fu) (n := n) (ns := ns) s1 (m := 2) (by decide) (by decide)
  obtain ⟨p, hp, ep⟩ := mul_small (a := k1) (b := k2) (p := 4) (q := 2) (by omega) (by omega) (by decide)
  have hp' : p ≤ 3 := hp
  have hI1 := evI_rng1 (c := CC G fu (n + 2)) (a := .bin .mul (drw 4) (drw 2)) (ρ := [some (.val (li ns)), some (.own σ), some (.val (.int (m : Int))), some (.val (.str (tx ab))), some (.val (.str (tx []))), none, none, none]) (z := [some (.val (li ns)), some (.own σ2), some (.val (.int (m : Int))), some (.val (.str (tx ab))), some (.val (.str (tx []))), none, none, none]) (i := (p : Int)) (big_of (by omega)) (by simp [exs, ex, ev, evs, evT, evA, evW, evO, evF, evI, exh, En.at, Out.bind, Out.then, So.then, op1, op2, opL, view, views, lift, Co.ap, bR, slD, ixD, endR, parm, modes, fz, fzs, tr1, truth, asgR, tupR, ixR, kxR, D.key, flR, fPut, agfR, augI, agxR, raiR, callR, makeR, muR, Mu.ap, Qm.apT, Qm.apL, revD, Bi.ap, Bi.cool, prep, lent, back, D.isNon, D.isAny, D.isA, bindT, srOf, turnB, muOwn, CC_call, CC_g, CC_fu, CC_hot, CC_heat, cEq_str, cEq_int, tx_beq, len_tx, add_tx, cutS_tx, tyNames, m1, g1, g2, ep])
  obtain ⟨σ3, a, o3, s3, a1, a2, F1⟩ := names_ahead (fu := fu) (n := n) (ns := ns) (m := (m : Int)) s2 (k := p) (by omega) none none
  obtain ⟨k4, σ4, s4, b4, g4⟩ := draw_s (fu := fu) (n := n) (ns := ns) s3 (m := 5) (by decide) (by decide)
  obtain ⟨k5, σ5, s5, b5, g5⟩ := draw_s (fu := fu) (n := n) (ns := ns) s4 (m := 2) (by decide) (by decide)
  obtain ⟨q, hq, eq⟩ := mul_small (a := k4) (b := k5) (p := 5) (q := 2) (by omega) (by omega) (by decide)
  have hq' : q ≤ 4 := hq
  have hI2 := evI_rng1 (c := CC G fu (n + 2)) (a := .bin .mul (drw 5) (drw 2)) (ρ := [some (.val (li ns)), some (.own σ3), some (.val (.int (m : Int))), some (.val (.str (tx ab))), some (.val (.str (tx a))), o3, some (.val (.str (tx []))), none]) (z := [some (.val (li ns)), some (.own σ5), some (.val (.int (m : Int))), some (.val (.str (tx ab))), some (.val (.str (tx a))), o3, some (.val (.str (tx []))), none]) (i := (q : Int)) (big_of (by omega)) (by simp [exs, ex, ev, evs, evT, evA, evW, evO, evF, evI, exh, En.at, Out.bind, Out.then, So.then, op1, op2, opL, view, views, lift, Co.ap, bR, slD, ixD, endR, parm, modes, fz, fzs, tr1, truth, asgR, tupR, ixR, kxR, D.key, flR, fPut, agfR, augI, agxR, raiR, callR, makeR, muR, Mu.ap, Qm.apT, Qm.apL, revD, Bi.ap, Bi.cool, prep, lent, back, D.isNon, D.isAny, D.isA, bindT, srOf, turnB, muOwn, CC_call, CC_g, CC_fu, CC_hot, CC_heat, cEq_str, cEq_int, tx_beq, len_tx, add_tx, cutS_tx, tyNames, m1, g4, g5, eq])
  obtain ⟨σ6, b, o6, s6, c1, c2, F2⟩ := names_behind (fu := fu) (n := n) (ns := ns) (m := (m : Int)) s5 (k := q) (by omega) (some (.val (.str (tx a)))) o3 none
  obtain ⟨f, σ7, s7, b7, g7⟩ := draw_s (fu := fu) (n := n) (ns := ns) s6 (m := 26) (by decide) (by decide)
  obtain ⟨w, σ8, s8, b8, g8⟩ := draw_s (fu := fu) (n := n) (ns := ns) s7 (m := 3) (by decide) (by decide)
  by_cases hw : w = 1
  · subst hw
    have N := names_l3 (fu := fu) (n := n + 2) (ns := ns) (σ := σ8) hm f o6 (some (.val (.str (tx a)))) (some (.val (.str (tx b))))
    refine ⟨(List.range m).map (nm1 f), σ8, s8, by simp, nodup_map fun i hi j hj e => nm1_inj (by omega) (by omega) e, fun s hs => ?_, ?_⟩
    · obtain ⟨k, _, rfl⟩ := List.mem_map.mp hs
      exact nm1_ok f k
    · rw [r29 rfl]
      simp [-List.map_map, G_29, exs, ex, ev, evs, evT, evA, evW, evO, evF, exh, En.at, Out.bind, Out.then, So.then, op1, op2, opL, view, views, lift, Co.ap, bR, slD, ixD, endR, parm, modes, fz, fzs, tr1, truth, asgR, tupR, ixR, kxR, D.key, flR, fPut, agfR, augI, agxR, raiR, callR, makeR, muR, Mu.ap, Qm.apT, Qm.apL, revD, Bi.ap, Bi.cool, prep, lent, back, D.isNon, D.isAny, D.isA, bindT, srOf, turnB, muOwn, CC_call, CC_g, CC_fu, CC_hot, CC_heat, cEq_str, cEq_int, tx_beq, len_tx, add_tx, cutS_tx, tyNames, m1, hI1, F1, hI2, F2, g7, g8, N]
  · have N := names_l1 (fu := fu) (n := n + 2) (ns := ns) (σ := σ8) hm (a := a) (b := b) (by omega) (by omega) f o6
    have hw' : ¬ ((w : Int) = 1) := by omega
    refine ⟨(List.range m).map (nm2 f a b), σ8, s8, by simp, nodup_map fun i hi j hj e => nm2_inj (by omega) (by omega) e, fun s hs => ?_, ?_⟩
    · obtain ⟨k, _, rfl⟩ := List.mem_map.mp hs
      exact nm2_ok f k (by omega) (by omega) a2 c2
    · rw [r29 rfl]
      simp [-List.map_map, G_29, exs, ex, ev, evs, evT, evA, evW, evO, evF, exh, En.at, Out.bind, Out.then, So.then, op1, op2, opL, view, views, lift, Co.ap, bR, slD, ixD, endR, parm, modes, fz, fzs, tr1, truth, asgR, tupR, ixR, kxR, D.key, flR, fPut, agfR, augI, agxR, raiR, callR, makeR, muR, Mu.ap, Qm.apT, Qm.apL, revD, Bi.ap, Bi.cool, prep, lent, back, D.isNon, D.isAny, D.isA, bindT, srOf, turnB, muOwn, CC_call, CC_g, CC_fu, CC_hot, CC_heat, cEq_str, cEq_int, tx_beq, len_tx, add_tx, cutS_tx, tyNames, m1, hI1, F1, hI2, F2, g7, g8, hw', N]
theorem pick {l : List Int} {q : Nat} (h : q < l.length) : atD (l.map .int) (q : Int) = some (.int l[q]) := li_at (List.getElem?_eq_getElem h)
theorem edge_made {ns : List Int} {σ : D} (hσ : Sta σ) {vs : List PySem.Str} (h0 : 0 < vs.length) (h1 : vs.length ≤ 1000) (lab : PySem.Str) : ∃ (e : Edge) (σ' : D), Sta σ' ∧ e.l = lab ∧ e.t ∈ vs ∧ e.h ∈ vs ∧ 0 ≤ e.r ∧
    Mp.run G fu (n + 3) 28 [.val (li ns), .own σ, .val (.lst (vs.map .str)), .val (.str lab)] = .ok (.val (ed e)) [.val (li ns), .own σ', .val (.lst (vs.map .str)), .val (.str lab)] := by
  obtain ⟨k1, σ1, s1, b1, g1⟩ := draw_s (fu := fu) (n := n) (ns := ns) hσ (m := ((vs.length : Nat) : Int)) (by omega) (by omega)
  obtain ⟨k2, σ2, s2, b2, g2⟩ := draw_s (fu := fu) (n := n) (ns := ns) s1 (m := ((vs.length : Nat) : Int)) (by omega) (by omega)
  obtain ⟨k3, σ3, s3, b3, g3⟩ := draw_s (fu := fu) (n := n) (ns := ns) s2 (m := 199) (by decide) (by decide)
  obtain ⟨k4, σ4, s4, b4, g4⟩ := draw_s (fu := fu) (n := n) (ns := ns) s3 (m := 7) (by decide) (by decide)
  obtain ⟨k5, σ5, s5, b5, g5⟩ := draw_s (fu := fu) (n := n) (ns := ns) s4 (m := 5) (by decide) (by decide)
  obtain ⟨k6, σ6, s6, b6, g6⟩ := draw_s (fu := fu) (n := n) (ns := ns) s5 (m := 21) (by decide) (by decide)
  obtain ⟨k7, σ7, s7, b7, g7⟩ := draw_s (fu := fu) (n := n) (ns := ns) s6 (m := 4) (by decide) (by decide)
  have e1 := at_strs (l := vs) (j := k1) (by omega)
  have e2 := at_strs (l := vs) (j := k2) (by omega)
  have e3 : atD [.int ((k3 : Int) - 99), .int ((k4 : Int) - 3), .int 0, .int (-99), .int 99] (k5 : Int) = some (.int ([(k3 : Int) - 99, (k4 : Int) - 3, 0, -99, 99][k5]'(by show k5 < 5; omega))) := pick (l := [(k3 : Int) - 99, (k4 : Int) - 3, 0, -99, 99]) (by show k5 < 5; omega)
  have e4 : atD [.int (k6 : Int), .int 0, .int 20, .int 1] (k7 : Int) = some (.int ([(k6 : Int), 0, 20, 1][k7]'(by show k7 < 4; omega))) := pick (l := [(k6 : Int), 0, 20, 1]) (by show k7 < 4; omega)
  have hr : 0 ≤ ([(k6 : Int), 0, 20, 1][k7]'(by show k7 < 4; omega)) := by
    have hm : ([(k6 : Int), 0, 20, 1][k7]'(by show k7 < 4; omega)) ∈ [(k6 : Int), 0, 20, 1] := List.getElem_mem _
    generalize ([(k6 : Int), 0, 20, 1][k7]'(by show k7 < 4; omega)) = x at hm
    simp only [List.mem_cons, List.mem_nil_iff, or_false] at hm
    omega
  generalize ([(k3 : Int) - 99, (k4 : Int) - 3, 0, -99, 99][k5]'(by show k5 < 5; omega)) = pr at e3
  generalize ([(k6 : Int), 0, 20, 1][k7]'(by show k7 < 4; omega)) = rm at e4 hr
  have l5 : 5 ≤ lim := by decide
  have l4 : 4 ≤ lim := by decide
  refine ⟨⟨lab, vs[k1], vs[k2], pr, rm⟩, σ7, s7, rfl, List.getElem_mem _, List.getElem_mem _, hr, ?_⟩
  rw [r28 rfl]
  simp [G_28, exs, ex, ev, evs, evT, evA, evW, evO, evF, evI, exh, En.at, Out.bind, Out.then, So.then, op1, op2, opL, view, views, lift, Co.ap, bR, slD, ixD, endR, parm, modes, fz, fzs, tr1, truth, asgR, tupR, ixR, kxR, D.key, flR, fPut, agfR, augI, agxR, raiR, callR, makeR, muR, Mu.ap, Qm.apT, Qm.apL, revD, Bi.ap, Bi.cool, prep, lent, back, D.isNon, D.isAny, D.isA, bindT, srOf, turnB, muOwn, CC_call, CC_g, CC_fu, CC_hot, CC_heat, cEq_str, cEq_int, tx_beq, len_tx, add_tx, cutS_tx, tyNames, m1, bo_sub, g1, g2, g3, g4, g5, g6, g7, e1, e2, e3, e4, l4, l5]
end K05

namespace K05
open Mp L2
variable {fu n : Nat}
theorem nodup_rev {α : Type} {l : List α} (h : l.Nodup) : l.reverse.Nodup := by
  rw [List.nodup_iff_pairwise_ne, List.pairwise_reverse]
  exact (List.nodup_iff_pairwise_ne.mp h).imp Ne.symm
/-- the slots of a graph that is drawn: edges so far -/
def DrI (ns : List Int) (a b : Int) (nh labs vs : List PySem.Str) (j : Nat) (ρ : En) : Prop := ∃ (σ : D) (es : List Edge) (o o6 : Option S), Sta σ ∧ es.map (·.l) = labs.take j ∧ (∀ e ∈ es, e.t ∈ vs ∧ e.h ∈ vs ∧ 0 ≤ e.r) ∧
  (o6 = some (.own (.lst (vs.map .str))) ∨ o6 = some (.val (.lst (vs.map .str)))) ∧
  ρ = [some (.val (li ns)), some (.own σ), some (.val (.int a)), some (.val (.int b)), some (.own (.lst (nh.map .str))), some (.own (.lst (labs.map .str))), o6, some (.own (.lst (es.map ed))), o]
theorem drawn_step {ns : List Int} {a b : Int} {nh labs vs : List PySem.Str} (h0 : 0 < vs.length) (h1 : vs.length ≤ 1000) (hl : labs.length ≤ 100) {j : Nat} (hj : j < labs.length) {ρ : En} (h : DrI ns a b nh labs vs j ρ) :
    ∃ ρ', turnB (exs (CC G fu (n + 3)) G_27_b0) true [8] (.int (j : Int)) ρ = .nx ρ' ∧ DrI ns a b nh labs vs (j + 1) ρ' := by
  obtain ⟨σ, es, o, o6, hσ, h2, h3, h4, rfl⟩ := h
  obtain ⟨e, σ', s1, e1, e2, e3, e4, g⟩ := edge_made (fu := fu) (n := n) (ns := ns) hσ h0 h1 labs[j]
  have hlen : es.length = j := by
    have := congrArg List.length h2
    rw [List.length_map, List.length_take] at this
    omega
  have hz : (es.map ed).length < lim := by rw [List.length_map, hlen]; exact Nat.lt_of_lt_of_le (show j < 100 by omega) (by decide)
  have hz' : es.length < lim := by rw [List.length_map] at hz; exact hz
  have q1 := at_strs hj
  refine ⟨[some (.val (li ns)), some (.own σ'), some (.val (.int a)), some (.val (.int b)), some (.own (.lst (nh.map .str))), some (.own (.lst (labs.map .str))), some (.val (.lst (vs.map .str))), some (.own (.lst ((es ++ [e]).map ed))), some (.val (.int (j : Int)))], ?_, σ', es ++ [e], _, _, s1, ?_, ?_, .inr rfl, rfl⟩
  · rcases h4 with rfl | rfl
    · simp [G_27_b0, Bo.ap, exs, ex, ev, evs, evT, evA, evW, evO, evF, evI, exh, En.at, Out.bind, Out.then, So.then, op1, op2, opL, view, views, lift, Co.ap, bR, slD, ixD, endR, parm, modes, fz, fzs, tr1, truth, asgR, tupR, ixR, kxR, D.key, flR, fPut, agfR, augI, agxR, raiR, callR, makeR, muR, Mu.ap, Qm.apT, Qm.apL, revD, Bi.ap, Bi.cool, prep, lent, back, D.isNon, D.isAny, D.isA, bindT, srOf, turnB, muOwn, CC_call, CC_g, CC_fu, CC_hot, CC_heat, cEq_str, cEq_int, tx_beq, len_tx, add_tx, cutS_tx, tyNames, m28, g, q1, hz']
    · simp [G_27_b0, Bo.ap, exs, ex, ev, evs, evT, evA, evW, evO, evF, evI, exh, En.at, Out.bind, Out.then, So.then, op1, op2, opL, view, views, lift, Co.ap, bR, slD, ixD, endR, parm, modes, fz, fzs, tr1, truth, asgR, tupR, ixR, kxR, D.key, flR, fPut, agfR, augI, agxR, raiR, callR, makeR, muR, Mu.ap, Qm.apT, Qm.apL, revD, Bi.ap, Bi.cool, prep, lent, back, D.isNon, D.isAny, D.isA, bindT, srOf, turnB, muOwn, CC_call, CC_g, CC_fu, CC_hot, CC_heat, cEq_str, cEq_int, tx_beq, len_tx, add_tx, cutS_tx, tyNames, m28, g, q1, hz']
  · rw [List.map_append, h2, List.map_cons, List.map_nil, e1, List.take_succ_eq_append_getElem hj]
  · intro x hx
    rcases List.mem_append.mp hx with z | z
    · exact h3 x z
    · rw [List.mem_singleton.mp z]; exact ⟨e2, e3, e4⟩
theorem drawn_loop {ns : List Int} {a b : Int} {nh labs vs : List PySem.Str} (h0 : 0 < vs.length) (h1 : vs.length ≤ 1000) (hl : labs.length ≤ 100) {k : Nat} (hk : k ≤ labs.length) {σ : D} (hσ : Sta σ) :
    ∃ ρ', forL (turnB (exs (CC G fu (n + 3)) G_27_b0) true [8]) (rngD 0 (k : Int)) [some (.val (li ns)), some (.own σ), some (.val (.int a)), some (.val (.int b)), some (.own (.lst (nh.map .str))), some (.own (.lst (labs.map .str))), some (.own (.lst (vs.map .str))), some (.own (.lst [])), none] = .nx ρ' ∧ DrI ns a b nh labs vs k ρ' := by
  obtain ⟨ρ', e, h⟩ := forL_inv (f := turnB (exs (CC G fu (n + 3)) G_27_b0) true [8]) (fun j ρ => DrI ns a b nh labs vs j ρ) (rngD 0 (k : Int)) 0 _ ⟨σ, [], none, _, hσ, rfl, (by simp), .inl rfl, rfl⟩ (by
    intro j d ρ hd hp
    obtain ⟨hj, rfl⟩ := rng_at hd
    rw [Nat.zero_add] at hp ⊢
    exact drawn_step h0 h1 hl (by omega) hp)
  rw [rng_len, Nat.zero_add] at h
  exact ⟨ρ', e, h⟩
theorem mk_wf {vs : List PySem.Str} {es : List Edge} {labs : List PySem.Str} {j : Nat} (v1 : vs.length ≤ 26) (v2 : ∀ s ∈ vs, nmB s = true) (v3 : vs.Nodup) (l1 : labs.length ≤ 26) (l2 : ∀ s ∈ labs, nmB s = true) (l3 : labs.Nodup) (h : es.map (·.l) = labs.take j) (h2 : ∀ e ∈ es, e.t ∈ vs ∧ e.h ∈ vs ∧ 0 ≤ e.r) : WF vs es := by
  have hm : ∀ e ∈ es, e.l ∈ labs := fun e he => List.mem_of_mem_take (i := j) (by rw [← h]; exact List.mem_map.mpr ⟨e, he, rfl⟩)
  refine ⟨by omega, ?_, v2, v3, fun e he => l2 _ (hm e he), ?_, fun e he => (h2 e he).1, fun e he => (h2 e he).2.1, fun e he => (h2 e he).2.2⟩
  · have := congrArg List.length h
    rw [List.length_map, List.length_take] at this
    omega
  · rw [h]; exact l3.sublist (List.take_sublist _ _)
theorem drawn_ok {ns : List Int} {σ : D} (hσ : Sta σ) {a b : Nat} (ha : a ≤ 26) (hb : b ≤ 26) : ∃ (vs : List PySem.Str) (es : List Edge) (σ' : D), Sta σ' ∧ WF vs es ∧ vs.length ≤ 26 ∧ es.length ≤ 26 ∧
    Mp.run G fu (n + 4) 27 [.val (li ns), .own σ, .val (.int (a : Int)), .val (.int (b : Int))] = .ok (.val (.tup [.tup (vs.map .str), .tup (es.map ed)])) [.val (li ns), .own σ', .val (.int (a : Int)), .val (.int (b : Int))] := by
  obtain ⟨nh, σ1, s1, n1, n2, n3, g1⟩ := names_ok (fu := fu) (n := n) (ns := ns) hσ ha
  obtain ⟨labs, σ2, s2, l1, l2, l3, g2⟩ := names_ok (fu := fu) (n := n) (ns := ns) s1 hb
  obtain ⟨k, σ3, s3, b3, g3⟩ := draw_s (fu := fu) (n := n + 1) (ns := ns) s2 (m := (a : Int) + 1) (by omega) (by omega)
  obtain ⟨t, σ4, s4, b4, g4⟩ := draw_s (fu := fu) (n := n + 1) (ns := ns) s3 (m := 2) (by decide) (by decide)
  obtain ⟨q, σ5, s5, b5, g5⟩ := draw_s (fu := fu) (n := n + 1) (ns := ns) s4 (m := (b : Int) + 1) (by omega) (by omega)
  have ct : cutD (nh.map D.str) none (some (k : Int)) = (nh.take k).map D.str := by rw [cut_take, List.map_take]
  have lim2 : 2 ≤ lim := by decide
  have hI : ∀ (x4 x5 x6 x7 x8 : Option S), evI (CC G fu (n + 3)) (.rng1 (.cal 1 (.cons (.var 0) (.cons (.var 1) (.cons (.bin .add (.var 3) (.con (D.int (1)))) .nil))))) [some (.val (li ns)), some (.own σ4), some (.val (.int (a : Int))), some (.val (.int (b : Int))), x4, x5, x6, x7, x8] = .ok (.fix (rngD 0 (q : Int))) [some (.val (li ns)), some (.own σ5), some (.val (.int (a : Int))), some (.val (.int (b : Int))), x4, x5, x6, x7, x8] := fun x4 x5 x6 x7 x8 =>
    evI_rng1 (i := (q : Int)) (big_of (by omega)) (by simp [Bo.ap, exs, ex, ev, evs, evT, evA, evW, evO, evF, evI, exh, En.at, Out.bind, Out.then, So.then, op1, op2, opL, view, views, lift, Co.ap, bR, slD, ixD, endR, parm, modes, fz, fzs, tr1, truth, asgR, tupR, ixR, kxR, D.key, flR, fPut, agfR, augI, agxR, raiR, callR, makeR, muR, Mu.ap, Qm.apT, Qm.apL, revD, Bi.ap, Bi.cool, prep, lent, back, D.isNon, D.isAny, D.isA, bindT, srOf, turnB, muOwn, CC_call, CC_g, CC_fu, CC_hot, CC_heat, cEq_str, cEq_int, tx_beq, len_tx, add_tx, cutS_tx, tyNames, m1, g5])
  have vt : (nh.take k).length ≤ 26 := by rw [List.length_take]; omega
  have vn : ∀ s ∈ nh.take k, nmB s = true := fun s hs => n3 s (List.mem_of_mem_take hs)
  have vd : (nh.take k).Nodup := n2.sublist (List.take_sublist _ _)
  -- the nodes as they stand at the loop
  have key : ∀ (vs : List PySem.Str), vs.length ≤ 26 → (∀ s ∈ vs, nmB s = true) → vs.Nodup → 0 < vs.length → ∃ (es : List Edge) (σ' : D) (o6 o : Option S), Sta σ' ∧ WF vs es ∧ es.length ≤ 26 ∧
      (o6 = some (.own (.lst (vs.map .str))) ∨ o6 = some (.val (.lst (vs.map .str)))) ∧
      forL (turnB (exs (CC G fu (n + 3)) G_27_b0) true [8]) (rngD 0 (q : Int)) [some (.val (li ns)), some (.own σ5), some (.val (.int (a : Int))), some (.val (.int (b : Int))), some (.own (.lst (nh.map .str))), some (.own (.lst (labs.map .str))), some (.own (.lst (vs.map .str))), some (.own (.lst [])), none] =
        .nx [some (.val (li ns)), some (.own σ'), some (.val (.int (a : Int))), some (.val (.int (b : Int))), some (.own (.lst (nh.map .str))), some (.own (.lst (labs.map .str))), o6, some (.own (.lst (es.map ed))), o] := by
    intro vs v1 v2 v3 v0
    obtain ⟨ρ', e, σ', es, o, o6, t1, t2, t3, t4, rfl⟩ := drawn_loop (fu := fu) (n := n) (ns := ns) (a := (a : Int)) (b := (b : Int)) (nh := nh) (labs := labs) (vs := vs) v0 (by omega) (by omega) (k := q) (by omega) s5
    refine ⟨es, σ', o6, o, t1, mk_wf v1 v2 v3 (by omega) l3 l2 t2 t3, ?_, t4, e⟩
    have := congrArg List.length t2
    rw [List.length_map, List.length_take] at this
    omega
  generalize hW : (nh.take k).map D.str = W at ct
  -- the end, by the nodes
  have fin : ∀ (vs : List PySem.Str), vs.length ≤ 26 → (∀ s ∈ vs, nmB s = true) → vs.Nodup → (t = 1 → W.reverse = vs.map D.str) → (t ≠ 1 → W = vs.map D.str) → ∃ (es : List Edge) (σ' : D), Sta σ' ∧ WF vs es ∧ es.length ≤ 26 ∧
      Mp.run G fu (n + 4) 27 [.val (li ns), .own σ, .val (.int (a : Int)), .val (.int (b : Int))] = .ok (.val (.tup [.tup (vs.map .str), .tup (es.map ed)])) [.val (li ns), .own σ', .val (.int (a : Int)), .val (.int (b : Int))] := by
    intro vs v1 v2 v3 e1 e2
    by_cases v0 : 0 < vs.length
    · obtain ⟨es, σ', o6, o, t1, t2, t5, t3, t4⟩ := key vs v1 v2 v3 v0
      refine ⟨es, σ', t1, t2, t5, ?_⟩
      rw [r27 rfl]
      have v0' : (0 : Int) < ((vs.length : Nat) : Int) := by omega
      by_cases ht : t = 1
      · subst ht
        rcases t3 with rfl | rfl <;> simp [G_27, exs, ex, ev, evs, evT, evA, evW, evO, evF, exh, En.at, Out.bind, Out.then, So.then, op1, op2, opL, view, views, lift, Co.ap, bR, slD, ixD, endR, parm, modes, fz, fzs, tr1, truth, asgR, tupR, ixR, kxR, D.key, flR, fPut, agfR, augI, agxR, raiR, callR, makeR, muR, Mu.ap, Qm.apT, Qm.apL, revD, Bi.ap, Bi.cool, prep, lent, back, D.isNon, D.isAny, D.isA, bindT, srOf, turnB, muOwn, CC_call, CC_g, CC_fu, CC_hot, CC_heat, cEq_str, cEq_int, tx_beq, len_tx, add_tx, cutS_tx, tyNames, Bo.ap, m29, m1, g1, g2, g3, g4, ct, e1 rfl, v0, v0', hI, t4, lim2]
      · have ht' : ¬ ((t : Int) = 1) := by omega
        have e3 := e2 ht
        rcases t3 with rfl | rfl <;> simp [G_27, exs, ex, ev, evs, evT, evA, evW, evO, evF, exh, En.at, Out.bind, Out.then, So.then, op1, op2, opL, view, views, lift, Co.ap, bR, slD, ixD, endR, parm, modes, fz, fzs, tr1, truth, asgR, tupR, ixR, kxR, D.key, flR, fPut, agfR, augI, agxR, raiR, callR, makeR, muR, Mu.ap, Qm.apT, Qm.apL, revD, Bi.ap, Bi.cool, prep, lent, back, D.isNon, D.isAny, D.isA, bindT, srOf, turnB, muOwn, CC_call, CC_g, CC_fu, CC_hot, CC_heat, cEq_str, cEq_int, tx_beq, len_tx, add_tx, cutS_tx, tyNames, Bo.ap, m29, m1, g1, g2, g3, g4, ct, ht', e3, v0, v0', hI, t4, lim2]
    · have hv : vs = [] := List.length_eq_zero_iff.mp (by omega)
      subst hv
      refine ⟨[], σ4, s4, mk_wf (j := 0) (labs := labs) v1 v2 v3 (by omega) l3 l2 rfl (by simp), by simp, ?_⟩
      rw [r27 rfl]
      by_cases ht : t = 1
      · subst ht
        have e3 := e1 rfl
        simp only [List.map_nil] at e3
        simp [G_27, exs, ex, ev, evs, evT, evA, evW, evO, evF, exh, En.at, Out.bind, Out.then, So.then, op1, op2, opL, view, views, lift, Co.ap, bR, slD, ixD, endR, parm, modes, fz, fzs, tr1, truth, asgR, tupR, ixR, kxR, D.key, flR, fPut, agfR, augI, agxR, raiR, callR, makeR, muR, Mu.ap, Qm.apT, Qm.apL, revD, Bi.ap, Bi.cool, prep, lent, back, D.isNon, D.isAny, D.isA, bindT, srOf, turnB, muOwn, CC_call, CC_g, CC_fu, CC_hot, CC_heat, cEq_str, cEq_int, tx_beq, len_tx, add_tx, cutS_tx, tyNames, Bo.ap, m29, m1, g1, g2, g3, g4, ct, e3, lim2]
      · have ht' : ¬ ((t : Int) = 1) := by omega
        have e3 := e2 ht
        simp only [List.map_nil] at e3
        simp [G_27, exs, ex, ev, evs, evT, evA, evW, evO, evF, exh, En.at, Out.bind, Out.then, So.then, op1, op2, opL, view, views, lift, Co.ap, bR, slD, ixD, endR, parm, modes, fz, fzs, tr1, truth, asgR, tupR, ixR, kxR, D.key, flR, fPut, agfR, augI, agxR, raiR, callR, makeR, muR, Mu.ap, Qm.apT, Qm.apL, revD, Bi.ap, Bi.cool, prep, lent, back, D.isNon, D.isAny, D.isA, bindT, srOf, turnB, muOwn, CC_call, CC_g, CC_fu, CC_hot, CC_heat, cEq_str, cEq_int, tx_beq, len_tx, add_tx, cutS_tx, tyNames, Bo.ap, m29, m1, g1, g2, g3, g4, ct, ht', e3, lim2]
  by_cases ht : t = 1
  · obtain ⟨es, σ', r1, r2, r3, r4⟩ := fin (nh.take k).reverse (by rw [List.length_reverse]; exact vt) (fun s hs => vn s (List.mem_reverse.mp hs)) (nodup_rev vd) (fun _ => by rw [← hW, List.map_reverse]) (fun z => absurd ht z)
    exact ⟨_, es, σ', r1, r2, by rw [List.length_reverse]; exact vt, r3, r4⟩
  · obtain ⟨es, σ', r1, r2, r3, r4⟩ := fin (nh.take k) vt vn vd (fun z => absurd z ht) (fun _ => hW.symm)
    exact ⟨_, es, σ', r1, r2, vt, r3, r4⟩
end K05

namespace Mp
open L2
theorem cIn_strT {s : PySem.Str} {l : List PySem.Str} : cIn (.str s) (.tup (l.map .str)) = some (decide (s ∈ l)) := by
  have f := flat_strs l
  simp only [cIn, D.flat, f, any_strs]; rfl
end Mp
namespace K05
open Mp L2
variable {fu n : Nat}
theorem arenodes_lcT {vs : List PySem.Str} (h : ∀ v ∈ vs, nmB v = true) (hl : vs.length ≤ 1000) : ev (CC G fu (n + 1)) G_21_l3 [some (.val (.tup (vs.map .str))), none, none] = .ok (.tmp (.lst ((vs.map fun _ => true).map .bl))) [some (.val (.tup (vs.map .str))), none, none] := by
  have k := lc_okM (c := CC G fu (n + 1)) (e := G_21_e2) (i := 2) (x := "name") (it := .one (.var 0)) (ρ := [some (.val (.tup (vs.map .str))), none, none]) (l := vs.map .str) (fun _ => D.bl true) rfl (by simp) (by simp [Bo.ap, exs, ex, ev, evs, evT, evA, evW, evO, evF, evI, exh, En.at, Out.bind, Out.then, So.then, op1, op2, opL, view, views, lift, Co.ap, bR, slD, ixD, endR, parm, modes, fz, fzs, tr1, truth, asgR, tupR, ixR, kxR, D.key, flR, fPut, agfR, augI, agxR, raiR, callR, makeR, muR, Mu.ap, Qm.apT, Qm.apL, revD, Bi.ap, Bi.cool, prep, lent, back, D.isNon, D.isAny, D.isA, bindT, srOf, turnB, muOwn, CC_call, CC_g, CC_fu, CC_hot, CC_heat, cEq_str, cEq_int, tx_beq, len_tx, add_tx, cutS_tx, tyNames]) (by
    intro d hd
    obtain ⟨s, hs, rfl⟩ := List.mem_map.mp hd
    simp [G_21_e2, Bo.ap, exs, ex, ev, evs, evT, evA, evW, evO, evF, evI, exh, En.at, Out.bind, Out.then, So.then, op1, op2, opL, view, views, lift, Co.ap, bR, slD, ixD, endR, parm, modes, fz, fzs, tr1, truth, asgR, tupR, ixR, kxR, D.key, flR, fPut, agfR, augI, agxR, raiR, callR, makeR, muR, Mu.ap, Qm.apT, Qm.apL, revD, Bi.ap, Bi.cool, prep, lent, back, D.isNon, D.isAny, D.isA, bindT, srOf, turnB, muOwn, CC_call, CC_g, CC_fu, CC_hot, CC_heat, cEq_str, cEq_int, tx_beq, len_tx, add_tx, cutS_tx, tyNames, m8, isname_ok (nmB_odd (h s hs)), nameD, h s hs]) (by rw [List.length_map]; exact Nat.le_trans hl (by decide))
  rw [List.map_map] at k
  rw [List.map_map]
  exact k
theorem arenodes_lc2T {vs : List PySem.Str} (h : vs.Nodup) (hl : vs.length ≤ 1000) (o : Option S) : ev (CC G fu n) G_21_l1 [some (.val (.tup (vs.map .str))), none, o] = .ok (.tmp (.lst ((vs.map fun _ => true).map .bl))) [some (.val (.tup (vs.map .str))), none, o] := by
  have hB : big62 ((vs.length : Nat) : Int) = true := big_of (by omega)
  have hI := evI_rng1s (c := CC G fu n) (a := .bi .len (.cons (.var 0) .nil)) (ρ := [some (.val (.tup (vs.map .str))), none, o]) hB (by simp [Bo.ap, exs, ex, ev, evs, evT, evA, evW, evO, evF, evI, exh, En.at, Out.bind, Out.then, So.then, op1, op2, opL, view, views, lift, Co.ap, bR, slD, ixD, endR, parm, modes, fz, fzs, tr1, truth, asgR, tupR, ixR, kxR, D.key, flR, fPut, agfR, augI, agxR, raiR, callR, makeR, muR, Mu.ap, Qm.apT, Qm.apL, revD, Bi.ap, Bi.cool, prep, lent, back, D.isNon, D.isAny, D.isA, bindT, srOf, turnB, muOwn, CC_call, CC_g, CC_fu, CC_hot, CC_heat, cEq_str, cEq_int, tx_beq, len_tx, add_tx, cutS_tx, tyNames])
  have k := lc_okM (c := CC G fu n) (e := G_21_e0) (i := 1) (x := "at") (it := .rng1 (.bi .len (.cons (.var 0) .nil))) (ρ := [some (.val (.tup (vs.map .str))), none, o]) (l := rngD 0 ((vs.length : Nat) : Int)) (fun _ => D.bl true) rfl (by simp) hI (by
    intro d hd
    obtain ⟨j, hj, e⟩ := List.getElem_of_mem hd
    obtain ⟨hj', rfl⟩ := rng_at (List.getElem?_eq_some_iff.mpr ⟨hj, e⟩)
    have e1 := at_strs hj'
    have e2 : cutD (vs.map D.str) none (some (j : Int)) = (vs.take j).map D.str := by rw [cut_take, List.map_take]
    have e3 : cIn (.str vs[j]) (.tup ((vs.take j).map .str)) = some false := by rw [cIn_strT, decide_eq_false (nodup_take h hj')]
    simp [-List.map_take, G_21_e0, Bo.ap, exs, ex, ev, evs, evT, evA, evW, evO, evF, evI, exh, En.at, Out.bind, Out.then, So.then, op1, op2, opL, view, views, lift, Co.ap, bR, slD, ixD, endR, parm, modes, fz, fzs, tr1, truth, asgR, tupR, ixR, kxR, D.key, flR, fPut, agfR, augI, agxR, raiR, callR, makeR, muR, Mu.ap, Qm.apT, Qm.apL, revD, Bi.ap, Bi.cool, prep, lent, back, D.isNon, D.isAny, D.isA, bindT, srOf, turnB, muOwn, CC_call, CC_g, CC_fu, CC_hot, CC_heat, cEq_str, cEq_int, tx_beq, len_tx, add_tx, cutS_tx, tyNames, e1, e2, e3]) (by rw [rng_len]; exact Nat.le_trans hl (by decide))
  have z : List.map (fun _ => D.bl true) (rngD 0 ((vs.length : Nat) : Int)) = (vs.map fun _ => true).map .bl := by
    apply List.ext_getElem?
    intro i
    have := rng_len (n := vs.length)
    by_cases q : i < vs.length
    · rw [List.getElem?_map, List.getElem?_eq_getElem (by omega), List.getElem?_map, List.getElem?_map, List.getElem?_eq_getElem q]; rfl
    · rw [List.getElem?_eq_none (by rw [List.length_map]; omega), List.getElem?_eq_none (by rw [List.length_map, List.length_map]; omega)]
  rw [z] at k
  exact k
theorem arenodes_okT {vs : List PySem.Str} (h : ∀ v ∈ vs, nmB v = true) (hd : vs.Nodup) (hl : vs.length ≤ 1000) : Mp.run G fu (n + 2) 21 [.val (.tup (vs.map .str))] = .ok (.val (.bl true)) [.val (.tup (vs.map .str))] := by
  have k := arenodes_lcT (fu := fu) (n := n) h hl
  have k2 := arenodes_lc2T (fu := fu) (n := n + 1) hd hl none
  have di := dBls_map (vs.map fun _ => true)
  have at_ := all_true vs
  rw [r21 rfl]
  simp only [List.map_map] at k k2 di
  simp [-List.all_map, G_21, Bo.ap, exs, ex, ev, evs, evT, evA, evW, evO, evF, evI, exh, En.at, Out.bind, Out.then, So.then, op1, op2, opL, view, views, lift, Co.ap, bR, slD, ixD, endR, parm, modes, fz, fzs, tr1, truth, asgR, tupR, ixR, kxR, D.key, flR, fPut, agfR, augI, agxR, raiR, callR, makeR, muR, Mu.ap, Qm.apT, Qm.apL, revD, Bi.ap, Bi.cool, prep, lent, back, D.isNon, D.isAny, D.isA, bindT, srOf, turnB, muOwn, CC_call, CC_g, CC_fu, CC_hot, CC_heat, cEq_str, cEq_int, tx_beq, len_tx, add_tx, cutS_tx, tyNames, k, k2, di, at_]
theorem need_stepT {vs : List PySem.Str} {es : List Edge} (w : WF vs es) {j : Nat} (hj : j < es.length) (o : Option S) :
    turnB (exs (CC G fu (n + 3)) G_22_b0) true [3] (ed es[j]) [some (.val (.tup (vs.map .str))), some (.val (.tup (es.map ed))), some (.own (.dct (seenK es j) (seenD es j))), o] =
      .nx [some (.val (.tup (vs.map .str))), some (.val (.tup (es.map ed))), some (.own (.dct (seenK es (j + 1)) (seenD es (j + 1)))), some (.val (ed es[j]))] := by
  have hm : es[j] ∈ es := List.getElem_mem hj
  have h1 := edval_ok (fu := fu) (n := n) (w.el _ hm) (w.vn _ (w.te _ hm)) (w.vn _ (w.he _ hm)) (w.rm _ hm)
  have e0 : atD [.str es[j].l, .str es[j].t, .str es[j].h, .int es[j].p, .int es[j].r] 0 = some (D.str es[j].l) := rfl
  have e1 : atD [.str es[j].l, .str es[j].t, .str es[j].h, .int es[j].p, .int es[j].r] 1 = some (D.str es[j].t) := rfl
  have e2 : atD [.str es[j].l, .str es[j].t, .str es[j].h, .int es[j].p, .int es[j].r] 2 = some (D.str es[j].h) := rfl
  have c1 : cIn (.str es[j].t) (.tup (vs.map .str)) = some true := by rw [cIn_strT, decide_eq_true (w.te _ hm)]
  have c2 : cIn (.str es[j].h) (.tup (vs.map .str)) = some true := by rw [cIn_strT, decide_eq_true (w.he _ hm)]
  have nk := seen_new w.ld hj
  have c3 : cIn (.str es[j].l) (.dct (seenK es j) (seenD es j)) = some false := by
    simp only [cIn, D.key, Option.map_some, dget_none nk]; rfl
  have pk : dPut (seenK es j) (seenD es j) (.inr es[j].l) (.bl true) = (seenK es (j + 1), seenD es (j + 1)) := by
    rw [dput_new nk]
    simp only [seenK, seenD]
    rw [List.take_succ_eq_append_getElem hj, List.map_append, List.map_append]
    rfl
  have lk : (seenK es j).length < 1000000 := by
    have := w.ne
    simp only [seenK, List.length_map, List.length_take]
    omega
  simp [G_22_b0, Bo.ap, exs, ex, ev, evs, evT, evA, evW, evO, evF, evI, exh, En.at, Out.bind, Out.then, So.then, op1, op2, opL, view, views, lift, Co.ap, bR, slD, ixD, endR, parm, modes, fz, fzs, tr1, truth, asgR, tupR, ixR, kxR, D.key, flR, fPut, agfR, augI, agxR, raiR, callR, makeR, muR, Mu.ap, Qm.apT, Qm.apL, revD, Bi.ap, Bi.cool, prep, lent, back, D.isNon, D.isAny, D.isA, bindT, srOf, turnB, muOwn, CC_call, CC_g, CC_fu, CC_hot, CC_heat, cEq_str, cEq_int, tx_beq, len_tx, add_tx, cutS_tx, tyNames, m23, h1, e0, e1, e2, c1, c2, c3, pk, lk]
theorem need_okT {vs : List PySem.Str} {es : List Edge} (w : WF vs es) : Mp.run G fu (n + 4) 22 [.val (.tup (vs.map .str)), .val (.tup (es.map ed))] = .ok (.val .non) [.val (.tup (vs.map .str)), .val (.tup (es.map ed))] := by
  obtain ⟨ρ', e, o, rfl⟩ := forL_inv (f := turnB (exs (CC G fu (n + 3)) G_22_b0) true [3]) (fun j ρ => ∃ o : Option S, ρ = [some (.val (.tup (vs.map .str))), some (.val (.tup (es.map ed))), some (.own (.dct (seenK es j) (seenD es j))), o]) (es.map ed) 0 [some (.val (.tup (vs.map .str))), some (.val (.tup (es.map ed))), some (.own (.dct [] [])), none] ⟨none, rfl⟩ (by
    rintro j d ρ hd ⟨o, rfl⟩
    rw [List.getElem?_map] at hd
    obtain ⟨e, he, rfl⟩ := Option.map_eq_some_iff.mp hd
    obtain ⟨hj, rfl⟩ := List.getElem?_eq_some_iff.mp he
    rw [Nat.zero_add]
    exact ⟨_, need_stepT w hj o, _, rfl⟩)
  rw [r22 rfl]
  simp [G_22, Bo.ap, exs, ex, ev, evs, evT, evA, evW, evO, evF, evI, exh, En.at, Out.bind, Out.then, So.then, op1, op2, opL, view, views, lift, Co.ap, bR, slD, ixD, endR, parm, modes, fz, fzs, tr1, truth, asgR, tupR, ixR, kxR, D.key, flR, fPut, agfR, augI, agxR, raiR, callR, makeR, muR, Mu.ap, Qm.apT, Qm.apL, revD, Bi.ap, Bi.cool, prep, lent, back, D.isNon, D.isAny, D.isA, bindT, srOf, turnB, muOwn, CC_call, CC_g, CC_fu, CC_hot, CC_heat, cEq_str, cEq_int, tx_beq, len_tx, add_tx, cutS_tx, tyNames, e]
theorem init_okT {vs : List PySem.Str} {es : List Edge} (w : WF vs es) : Mp.run G fu (n + 5) 20 [.own (.ins "Graph" [] []), .val (.tup (vs.map .str)), .val (.tup (es.map ed))] = .ok (.val .non) [.own (gD vs es), .val (.tup (vs.map .str)), .val (.tup (es.map ed))] := by
  have k1 := arenodes_okT (fu := fu) (n := n + 2) w.vn w.vd (by have := w.nv; omega)
  have k2 := need_okT (fu := fu) (n := n) w
  rw [r20 rfl]
  simp [G_20, Bo.ap, exs, ex, ev, evs, evT, evA, evW, evO, evF, evI, exh, En.at, Out.bind, Out.then, So.then, op1, op2, opL, view, views, lift, Co.ap, bR, slD, ixD, endR, parm, modes, fz, fzs, tr1, truth, asgR, tupR, ixR, kxR, D.key, flR, fPut, agfR, augI, agxR, raiR, callR, makeR, muR, Mu.ap, Qm.apT, Qm.apL, revD, Bi.ap, Bi.cool, prep, lent, back, D.isNon, D.isAny, D.isA, bindT, srOf, turnB, muOwn, CC_call, CC_g, CC_fu, CC_hot, CC_heat, cEq_str, cEq_int, tx_beq, len_tx, add_tx, cutS_tx, tyNames, m21, m22, k1, k2, CC_g, na1, na2, ne_ne]
end K05

namespace Mp
open L2
/-- what may be a member -/
inductive Elm : D → Prop
  | odd {d : D} (h : Odd d) : Elm d
  | tup (l : List PySem.Str) (h : ∀ s ∈ l, okS s) : Elm (.tup (l.map .str))
/-- the next node -/
def stepN (es : List Edge) (dir : Bool) (at_ : PySem.Str) (d : D) : Option PySem.Str := match edgeAt es d with
  | some e => if at_ = e.t then some e.h else if at_ = e.h ∧ dir = false then some e.t else none
  | none => none
def ledB (es : List Edge) (t : PySem.Str) (dir : Bool) : PySem.Str → List D → Bool
  | at_, [] => at_ == t
  | at_, d :: l => match stepN es dir at_ d with
    | some x => ledB es t dir x l
    | none => false
def ledD (es : List Edge) (s t : PySem.Str) (dir : Bool) : D → Bool
  | .tup l => ledB es t dir s l
  | _ => false
/-- where an edge leads to; an empty text: nowhere -/
def endS (es : List Edge) (way : Bool) (here : PySem.Str) (d : D) : PySem.Str := (stepN es way here d).getD (tx [])
def leadB (es : List Edge) (t : PySem.Str) (way : Bool) : PySem.Str → List D → Bool
  | here, [] => here == t
  | here, d :: l => match d with
    | .str _ => if here = tx [] then false else leadB es t way (endS es way here d) l
    | _ => false
theorem stepN_mem {vs : List PySem.Str} {es : List Edge} (w : WF vs es) {dir : Bool} {a x : PySem.Str} {d : D} (h : stepN es dir a d = some x) : x ∈ vs := by
  unfold stepN at h
  cases q : edgeAt es d with
  | none => rw [q] at h; cases h
  | some e =>
    rw [q] at h
    obtain ⟨he, _⟩ := edgeAt_some q
    simp only at h
    split at h
    · cases h; exact w.he e he
    · split at h
      · cases h; exact w.te e he
      · cases h
theorem nm_ne {s : PySem.Str} (h : nmB s = true) : s ≠ tx [] := by
  intro e
  subst e
  simp [nmB, len_tx] at h
theorem edgeAt_str {es : List Edge} {d : D} (h : ∀ s, d ≠ .str s) : edgeAt es d = none := by
  cases q : edgeAt es d with
  | none => rfl
  | some e => exact absurd (edgeAt_some q).2 (h e.l)
theorem leadB_none {es : List Edge} {t : PySem.Str} {way : Bool} (ht : nmB t = true) : ∀ l, leadB es t way (tx []) l = false
  | [] => by
    simp only [leadB, beq_eq_false_iff_ne]
    exact (nm_ne ht).symm
  | d :: l => by
    cases d <;> simp [leadB]
theorem lead_led {vs : List PySem.Str} {es : List Edge} (w : WF vs es) {t : PySem.Str} (ht : t ∈ vs) {way : Bool} : ∀ (l : List D) (here : PySem.Str), here ∈ vs → leadB es t way here l = ledB es t way here l
  | [], here, _ => rfl
  | d :: l, here, hh => by
    have hn := nm_ne (w.vn _ hh)
    have off : (∀ s, d ≠ .str s) → ledB es t way here (d :: l) = false := fun h => by
      simp only [ledB, stepN, edgeAt_str h]
    cases d with
    | str s =>
      simp only [leadB, ledB, if_neg hn]
      cases q : stepN es way here (.str s) with
      | none => simp only [endS, q, Option.getD_none]; exact leadB_none (w.vn t ht) l
      | some x => simp only [endS, q, Option.getD_some]; exact lead_led w ht l x (stepN_mem w q)
    | _ => rw [off (by intro s z; cases z)]; rfl
theorem isA_str {cls : List PySem.Str} {d : D} (h : Elm d) : D.isA cls d (.b "str") = some (match d with | .str _ => true | _ => false) := by
  cases h with
  | odd h => cases h <;> simp [D.isA, tyNames]
  | tup l h => simp [D.isA, tyNames]
theorem edgeAt_tx {es : List Edge} {d : D} (h : edgeAt es d = none) (hs : ∀ e ∈ es, nmB e.l = true) : True := trivial
end Mp
namespace K05
open Mp L2
variable {fu n : Nat}
section
variable {vs : List PySem.Str} {es : List Edge}
theorem isname_elm {d : D} (h : Elm d) : Mp.run G fu (n + 1) 8 [.val d] = .ok (.val (.bl (nameD d))) [.val d] := by
  cases h with
  | odd h => exact isname_ok h
  | tup l h => rw [r8 rfl]; simp [G_8, Bo.ap, exs, ex, ev, evs, evT, evA, evW, evO, evF, evI, exh, En.at, Out.bind, Out.then, So.then, op1, op2, opL, view, views, lift, Co.ap, bR, slD, ixD, endR, parm, modes, fz, fzs, tr1, truth, asgR, tupR, ixR, kxR, D.key, flR, fPut, agfR, augI, agxR, raiR, callR, makeR, muR, Mu.ap, Qm.apT, Qm.apL, revD, Bi.ap, Bi.cool, prep, lent, back, D.isNon, D.isAny, D.isA, bindT, srOf, turnB, muOwn, CC_call, CC_g, CC_fu, CC_hot, CC_heat, cEq_str, cEq_int, tx_beq, len_tx, add_tx, cutS_tx, tyNames, nameD]
abbrev lρ (vs : List PySem.Str) (es : List Edge) (s t : PySem.Str) (L : D) (dir : Bool) (a : PySem.Str) (o7 o8 o9 : Option S) : En := [some (.val (gD vs es)), some (.val (.str s)), some (.val (.str t)), some (.val L), some (.val (.bl dir)), some (.val (.tup ((es.map (·.l)).map .str))), some (.val (.str a)), o7, o8, o9]
theorem led_step (w : WF vs es) {s t : PySem.Str} {L d : D} {dir : Bool} (hd : Elm d) (a : PySem.Str) (o7 o8 o9 : Option S) :
    match stepN es dir a d with
    | some x => ∃ p8 p9, turnB (exs (CC G fu (n + 2)) G_7_b0) true [7] d (lρ vs es s t L dir a o7 o8 o9) = .nx (lρ vs es s t L dir x (some (.val d)) p8 p9)
    | none => ∃ ρ', turnB (exs (CC G fu (n + 2)) G_7_b0) true [7] d (lρ vs es s t L dir a o7 o8 o9) = .rt (.val (.bl false)) ρ' := by
  have h1 := isname_elm (fu := fu) (n := n + 1) hd
  cases q : edgeAt es d with
  | none =>
    have q' := edgeAt_none.mp q
    simp only [stepN, q]
    cases hn : nameD d with
    | false =>
      rw [hn] at h1
      refine ⟨lρ vs es s t L dir a (some (.val d)) o8 o9, ?_⟩
      simp [-List.map_map, lρ, G_7_b0, Bo.ap, exs, ex, ev, evs, evT, evA, evW, evO, evF, evI, exh, En.at, Out.bind, Out.then, So.then, op1, op2, opL, view, views, lift, Co.ap, bR, slD, ixD, endR, parm, modes, fz, fzs, tr1, truth, asgR, tupR, ixR, kxR, D.key, flR, fPut, agfR, augI, agxR, raiR, callR, makeR, muR, Mu.ap, Qm.apT, Qm.apL, revD, Bi.ap, Bi.cool, prep, lent, back, D.isNon, D.isAny, D.isA, bindT, srOf, turnB, muOwn, CC_call, CC_g, CC_fu, CC_hot, CC_heat, cEq_str, cEq_int, tx_beq, len_tx, add_tx, cutS_tx, tyNames, m8, h1]
    | true =>
      rw [hn] at h1
      have ho : Odd d := by
        cases hd with
        | odd h => exact h
        | tup l h => simp [nameD] at hn
      have h2 : cIn d (.tup ((es.map (·.l)).map .str)) = some false := by rw [cIn_strs ho w.lo, q']
      refine ⟨lρ vs es s t L dir a (some (.val d)) o8 o9, ?_⟩
      simp [-List.map_map, lρ, G_7_b0, Bo.ap, exs, ex, ev, evs, evT, evA, evW, evO, evF, evI, exh, En.at, Out.bind, Out.then, So.then, op1, op2, opL, view, views, lift, Co.ap, bR, slD, ixD, endR, parm, modes, fz, fzs, tr1, truth, asgR, tupR, ixR, kxR, D.key, flR, fPut, agfR, augI, agxR, raiR, callR, makeR, muR, Mu.ap, Qm.apT, Qm.apL, revD, Bi.ap, Bi.cool, prep, lent, back, D.isNon, D.isAny, D.isA, bindT, srOf, turnB, muOwn, CC_call, CC_g, CC_fu, CC_hot, CC_heat, cEq_str, cEq_int, tx_beq, len_tx, add_tx, cutS_tx, tyNames, m8, h1, h2]
  | some e =>
    obtain ⟨he, rfl⟩ := edgeAt_some q
    have hm : e.l ∈ es.map (·.l) := List.mem_map.mpr ⟨e, he, rfl⟩
    have h0 := nmB_odd (w.el e he)
    have h2 : cIn (.str e.l) (.tup ((es.map (·.l)).map .str)) = some true := by rw [cIn_strs h0 w.lo]; simp only [inSd, decide_eq_true hm]
    have h3 := edge_ok (fu := fu) (n := n) w he
    have h4 : nameD (.str e.l) = true := w.el e he
    rw [h4] at h1
    simp only [stepN, q]
    by_cases c1 : a = e.t
    · subst c1
      rw [if_pos rfl]
      refine ⟨some (.val (.str e.t)), some (.val (.str e.h)), ?_⟩
      simp [-List.map_map, lρ, G_7_b0, Bo.ap, exs, ex, ev, evs, evT, evA, evW, evO, evF, evI, exh, En.at, Out.bind, Out.then, So.then, op1, op2, opL, view, views, lift, Co.ap, bR, slD, ixD, endR, parm, modes, fz, fzs, tr1, truth, asgR, tupR, ixR, kxR, D.key, flR, fPut, agfR, augI, agxR, raiR, callR, makeR, muR, Mu.ap, Qm.apT, Qm.apL, revD, Bi.ap, Bi.cool, prep, lent, back, D.isNon, D.isAny, D.isA, bindT, srOf, turnB, muOwn, CC_call, CC_g, CC_fu, CC_hot, CC_heat, cEq_str, cEq_int, tx_beq, len_tx, add_tx, cutS_tx, tyNames, m8, m9, h1, h2, h3, cut13]
    · rw [if_neg c1]
      by_cases c2 : a = e.h ∧ dir = false
      · rw [if_pos c2]
        obtain ⟨c2, c3⟩ := c2
        subst c2; subst c3
        refine ⟨some (.val (.str e.t)), some (.val (.str e.h)), ?_⟩
        simp [-List.map_map, lρ, G_7_b0, Bo.ap, exs, ex, ev, evs, evT, evA, evW, evO, evF, evI, exh, En.at, Out.bind, Out.then, So.then, op1, op2, opL, view, views, lift, Co.ap, bR, slD, ixD, endR, parm, modes, fz, fzs, tr1, truth, asgR, tupR, ixR, kxR, D.key, flR, fPut, agfR, augI, agxR, raiR, callR, makeR, muR, Mu.ap, Qm.apT, Qm.apL, revD, Bi.ap, Bi.cool, prep, lent, back, D.isNon, D.isAny, D.isA, bindT, srOf, turnB, muOwn, CC_call, CC_g, CC_fu, CC_hot, CC_heat, cEq_str, cEq_int, tx_beq, len_tx, add_tx, cutS_tx, tyNames, m8, m9, h1, h2, h3, cut13, c1]
      · rw [if_neg c2]
        refine ⟨lρ vs es s t L dir a (some (.val (.str e.l))) (some (.val (.str e.t))) (some (.val (.str e.h))), ?_⟩
        by_cases c4 : a = e.h
        · have c5 : dir = true := by cases dir with | true => rfl | false => exact absurd ⟨c4, rfl⟩ c2
          subst c4; subst c5
          simp [-List.map_map, lρ, G_7_b0, Bo.ap, exs, ex, ev, evs, evT, evA, evW, evO, evF, evI, exh, En.at, Out.bind, Out.then, So.then, op1, op2, opL, view, views, lift, Co.ap, bR, slD, ixD, endR, parm, modes, fz, fzs, tr1, truth, asgR, tupR, ixR, kxR, D.key, flR, fPut, agfR, augI, agxR, raiR, callR, makeR, muR, Mu.ap, Qm.apT, Qm.apL, revD, Bi.ap, Bi.cool, prep, lent, back, D.isNon, D.isAny, D.isA, bindT, srOf, turnB, muOwn, CC_call, CC_g, CC_fu, CC_hot, CC_heat, cEq_str, cEq_int, tx_beq, len_tx, add_tx, cutS_tx, tyNames, m8, m9, h1, h2, h3, cut13, c1]
        · simp [-List.map_map, lρ, G_7_b0, Bo.ap, exs, ex, ev, evs, evT, evA, evW, evO, evF, evI, exh, En.at, Out.bind, Out.then, So.then, op1, op2, opL, view, views, lift, Co.ap, bR, slD, ixD, endR, parm, modes, fz, fzs, tr1, truth, asgR, tupR, ixR, kxR, D.key, flR, fPut, agfR, augI, agxR, raiR, callR, makeR, muR, Mu.ap, Qm.apT, Qm.apL, revD, Bi.ap, Bi.cool, prep, lent, back, D.isNon, D.isAny, D.isA, bindT, srOf, turnB, muOwn, CC_call, CC_g, CC_fu, CC_hot, CC_heat, cEq_str, cEq_int, tx_beq, len_tx, add_tx, cutS_tx, tyNames, m8, m9, h1, h2, h3, cut13, c1, c4]
theorem led_loop (w : WF vs es) {s t : PySem.Str} {L : D} {dir : Bool} : ∀ (l : List D) (_ : ∀ d ∈ l, Elm d) (a : PySem.Str) (o7 o8 o9 : Option S),
    (∃ x o7' o8' o9', forL (turnB (exs (CC G fu (n + 2)) G_7_b0) true [7]) l (lρ vs es s t L dir a o7 o8 o9) = .nx (lρ vs es s t L dir x o7' o8' o9') ∧ ledB es t dir a l = (x == t)) ∨
    (∃ ρ', forL (turnB (exs (CC G fu (n + 2)) G_7_b0) true [7]) l (lρ vs es s t L dir a o7 o8 o9) = .rt (.val (.bl false)) ρ' ∧ ledB es t dir a l = false)
  | [], _, a, o7, o8, o9 => .inl ⟨a, o7, o8, o9, rfl, rfl⟩
  | d :: l, h, a, o7, o8, o9 => by
    have st := led_step (fu := fu) (n := n) w (s := s) (t := t) (L := L) (dir := dir) (h d List.mem_cons_self) a o7 o8 o9
    simp only [forL, ledB]
    cases q : stepN es dir a d with
    | none =>
      rw [q] at st
      obtain ⟨ρ', e⟩ := st
      refine .inr ⟨ρ', ?_, rfl⟩
      rw [e]
    | some x =>
      rw [q] at st
      obtain ⟨p8, p9, e⟩ := st
      rw [e]
      exact led_loop w l (fun y hy => h y (List.mem_cons_of_mem _ hy)) x _ p8 p9
/-- what is handed in as labels -/
inductive Lab : D → Prop
  | tup (l : List D) (h : ∀ d ∈ l, Elm d) (hl : l.length ≤ 100) : Lab (.tup l)
  | lst (l : List PySem.Str) (h : ∀ s ∈ l, nmB s = true) (hl : l.length ≤ 100) : Lab (.lst (l.map .str))
  | non : Lab .non
  | int (i : Int) : Lab (.int i)
  | bl (b : Bool) : Lab (.bl b)
  | str (s : PySem.Str) (h : okS s) (hl : s.length ≤ 1000) : Lab (.str s)
theorem led_ok (w : WF vs es) {s t : PySem.Str} {L : D} (hL : Lab L) (dir : Bool) : Mp.run G fu (n + 3) 7 [.val (gD vs es), .val (.str s), .val (.str t), .val L, .val (.bl dir)] = .ok (.val (.bl (ledD es s t dir L))) [.val (gD vs es), .val (.str s), .val (.str t), .val L, .val (.bl dir)] := by
  cases hL with
  | tup l h hl =>
    have k := labels_ok (fu := fu) (n := n + 1) w
    rw [r7 rfl]
    simp only [ledD]
    rcases led_loop (fu := fu) (n := n) w (s := s) (t := t) (L := .tup l) (dir := dir) l h s none none none with ⟨x, o7, o8, o9, e, z⟩ | ⟨ρ', e, z⟩
    · rw [z]
      simp [-List.map_map, G_7, Bo.ap, exs, ex, ev, evs, evT, evA, evW, evO, evF, evI, exh, En.at, Out.bind, Out.then, So.then, op1, op2, opL, view, views, lift, Co.ap, bR, slD, ixD, endR, parm, modes, fz, fzs, tr1, truth, asgR, tupR, ixR, kxR, D.key, flR, fPut, agfR, augI, agxR, raiR, callR, makeR, muR, Mu.ap, Qm.apT, Qm.apL, revD, Bi.ap, Bi.cool, prep, lent, back, D.isNon, D.isAny, D.isA, bindT, srOf, turnB, muOwn, CC_call, CC_g, CC_fu, CC_hot, CC_heat, cEq_str, cEq_int, tx_beq, len_tx, add_tx, cutS_tx, tyNames, m10, k, e]
    · rw [z]
      simp [-List.map_map, G_7, Bo.ap, exs, ex, ev, evs, evT, evA, evW, evO, evF, evI, exh, En.at, Out.bind, Out.then, So.then, op1, op2, opL, view, views, lift, Co.ap, bR, slD, ixD, endR, parm, modes, fz, fzs, tr1, truth, asgR, tupR, ixR, kxR, D.key, flR, fPut, agfR, augI, agxR, raiR, callR, makeR, muR, Mu.ap, Qm.apT, Qm.apL, revD, Bi.ap, Bi.cool, prep, lent, back, D.isNon, D.isAny, D.isA, bindT, srOf, turnB, muOwn, CC_call, CC_g, CC_fu, CC_hot, CC_heat, cEq_str, cEq_int, tx_beq, len_tx, add_tx, cutS_tx, tyNames, m10, k, e]
  | _ => rw [r7 rfl]; simp [G_7, Bo.ap, exs, ex, ev, evs, evT, evA, evW, evO, evF, evI, exh, En.at, Out.bind, Out.then, So.then, op1, op2, opL, view, views, lift, Co.ap, bR, slD, ixD, endR, parm, modes, fz, fzs, tr1, truth, asgR, tupR, ixR, kxR, D.key, flR, fPut, agfR, augI, agxR, raiR, callR, makeR, muR, Mu.ap, Qm.apT, Qm.apL, revD, Bi.ap, Bi.cool, prep, lent, back, D.isNon, D.isAny, D.isA, bindT, srOf, turnB, muOwn, CC_call, CC_g, CC_fu, CC_hot, CC_heat, cEq_str, cEq_int, tx_beq, len_tx, add_tx, cutS_tx, tyNames, ledD]
theorem way_ok (w : WF vs es) {s t : PySem.Str} (hs : s ∈ vs) (ht : t ∈ vs) {L : D} (hL : Lab L) : Mp.run G fu (n + 4) 6 [.val (gD vs es), .val (.str s), .val (.str t), .val L] = .ok (.val (.bl (ledD es s t true L))) [.val (gD vs es), .val (.str s), .val (.str t), .val L] := by
  have p1 := place_ok (fu := fu) (n := n + 1) w hs
  have p2 := place_ok (fu := fu) (n := n + 1) w ht
  have k := led_ok (fu := fu) (n := n) w (s := s) (t := t) hL true
  rw [r6 rfl]
  simp [G_6, Bo.ap, exs, ex, ev, evs, evT, evA, evW, evO, evF, evI, exh, En.at, Out.bind, Out.then, So.then, op1, op2, opL, view, views, lift, Co.ap, bR, slD, ixD, endR, parm, modes, fz, fzs, tr1, truth, asgR, tupR, ixR, kxR, D.key, flR, fPut, agfR, augI, agxR, raiR, callR, makeR, muR, Mu.ap, Qm.apT, Qm.apL, revD, Bi.ap, Bi.cool, prep, lent, back, D.isNon, D.isAny, D.isA, bindT, srOf, turnB, muOwn, CC_call, CC_g, CC_fu, CC_hot, CC_heat, cEq_str, cEq_int, tx_beq, len_tx, add_tx, cutS_tx, tyNames, m11, o11, pl1, pl2, p1, p2, m7, k]
theorem walk_ok (w : WF vs es) {s t : PySem.Str} (hs : s ∈ vs) (ht : t ∈ vs) {L : D} (hL : Lab L) : Mp.run G fu (n + 4) 13 [.val (gD vs es), .val (.str s), .val (.str t), .val L] = .ok (.val (.bl (ledD es s t false L))) [.val (gD vs es), .val (.str s), .val (.str t), .val L] := by
  have p1 := place_ok (fu := fu) (n := n + 1) w hs
  have p2 := place_ok (fu := fu) (n := n + 1) w ht
  have k := led_ok (fu := fu) (n := n) w (s := s) (t := t) hL false
  rw [r13 rfl]
  simp [G_13, Bo.ap, exs, ex, ev, evs, evT, evA, evW, evO, evF, evI, exh, En.at, Out.bind, Out.then, So.then, op1, op2, opL, view, views, lift, Co.ap, bR, slD, ixD, endR, parm, modes, fz, fzs, tr1, truth, asgR, tupR, ixR, kxR, D.key, flR, fPut, agfR, augI, agxR, raiR, callR, makeR, muR, Mu.ap, Qm.apT, Qm.apL, revD, Bi.ap, Bi.cool, prep, lent, back, D.isNon, D.isAny, D.isA, bindT, srOf, turnB, muOwn, CC_call, CC_g, CC_fu, CC_hot, CC_heat, cEq_str, cEq_int, tx_beq, len_tx, add_tx, cutS_tx, tyNames, m11, o11, pl1, pl2, p1, p2, m7, k]
theorem way_no1 (w : WF vs es) {d t L : D} (h : Odd d) (hs : inSd d vs = false) : Mp.run G fu (n + 4) 6 [.val (gD vs es), .val d, .val t, .val L] = .er ⟨"UnknownNode", ["name"], [d]⟩ [.val (gD vs es), .val d, .val t, .val L] := by
  have p1 := place_no (fu := fu) (n := n + 1) w h hs
  rw [r6 rfl]
  simp [G_6, Bo.ap, exs, ex, ev, evs, evT, evA, evW, evO, evF, evI, exh, En.at, Out.bind, Out.then, So.then, op1, op2, opL, view, views, lift, Co.ap, bR, slD, ixD, endR, parm, modes, fz, fzs, tr1, truth, asgR, tupR, ixR, kxR, D.key, flR, fPut, agfR, augI, agxR, raiR, callR, makeR, muR, Mu.ap, Qm.apT, Qm.apL, revD, Bi.ap, Bi.cool, prep, lent, back, D.isNon, D.isAny, D.isA, bindT, srOf, turnB, muOwn, CC_call, CC_g, CC_fu, CC_hot, CC_heat, cEq_str, cEq_int, tx_beq, len_tx, add_tx, cutS_tx, tyNames, m11, o11, pl1, pl2, p1]
theorem way_no2 (w : WF vs es) {s : PySem.Str} (hs : s ∈ vs) {t L : D} (h : Odd t) (ht : inSd t vs = false) : Mp.run G fu (n + 4) 6 [.val (gD vs es), .val (.str s), .val t, .val L] = .er ⟨"UnknownNode", ["name"], [t]⟩ [.val (gD vs es), .val (.str s), .val t, .val L] := by
  have p1 := place_ok (fu := fu) (n := n + 1) w hs
  have p2 := place_no (fu := fu) (n := n + 1) w h ht
  rw [r6 rfl]
  simp [G_6, Bo.ap, exs, ex, ev, evs, evT, evA, evW, evO, evF, evI, exh, En.at, Out.bind, Out.then, So.then, op1, op2, opL, view, views, lift, Co.ap, bR, slD, ixD, endR, parm, modes, fz, fzs, tr1, truth, asgR, tupR, ixR, kxR, D.key, flR, fPut, agfR, augI, agxR, raiR, callR, makeR, muR, Mu.ap, Qm.apT, Qm.apL, revD, Bi.ap, Bi.cool, prep, lent, back, D.isNon, D.isAny, D.isA, bindT, srOf, turnB, muOwn, CC_call, CC_g, CC_fu, CC_hot, CC_heat, cEq_str, cEq_int, tx_beq, len_tx, add_tx, cutS_tx, tyNames, m11, o11, pl1, pl2, p1, p2]
theorem walk_no1 (w : WF vs es) {d t L : D} (h : Odd d) (hs : inSd d vs = false) : Mp.run G fu (n + 4) 13 [.val (gD vs es), .val d, .val t, .val L] = .er ⟨"UnknownNode", ["name"], [d]⟩ [.val (gD vs es), .val d, .val t, .val L] := by
  have p1 := place_no (fu := fu) (n := n + 1) w h hs
  rw [r13 rfl]
  simp [G_13, Bo.ap, exs, ex, ev, evs, evT, evA, evW, evO, evF, evI, exh, En.at, Out.bind, Out.then, So.then, op1, op2, opL, view, views, lift, Co.ap, bR, slD, ixD, endR, parm, modes, fz, fzs, tr1, truth, asgR, tupR, ixR, kxR, D.key, flR, fPut, agfR, augI, agxR, raiR, callR, makeR, muR, Mu.ap, Qm.apT, Qm.apL, revD, Bi.ap, Bi.cool, prep, lent, back, D.isNon, D.isAny, D.isA, bindT, srOf, turnB, muOwn, CC_call, CC_g, CC_fu, CC_hot, CC_heat, cEq_str, cEq_int, tx_beq, len_tx, add_tx, cutS_tx, tyNames, m11, o11, pl1, pl2, p1]
theorem walk_no2 (w : WF vs es) {s : PySem.Str} (hs : s ∈ vs) {t L : D} (h : Odd t) (ht : inSd t vs = false) : Mp.run G fu (n + 4) 13 [.val (gD vs es), .val (.str s), .val t, .val L] = .er ⟨"UnknownNode", ["name"], [t]⟩ [.val (gD vs es), .val (.str s), .val t, .val L] := by
  have p1 := place_ok (fu := fu) (n := n + 1) w hs
  have p2 := place_no (fu := fu) (n := n + 1) w h ht
  rw [r13 rfl]
  simp [G_13, Bo.ap, exs, ex, ev, evs, evT, evA, evW, evO, evF, evI, exh, En.at, Out.bind, Out.then, So.then, op1, op2, opL, view, views, lift, Co.ap, bR, slD, ixD, endR, parm, modes, fz, fzs, tr1, truth, asgR, tupR, ixR, kxR, D.key, flR, fPut, agfR, augI, agxR, raiR, callR, makeR, muR, Mu.ap, Qm.apT, Qm.apL, revD, Bi.ap, Bi.cool, prep, lent, back, D.isNon, D.isAny, D.isA, bindT, srOf, turnB, muOwn, CC_call, CC_g, CC_fu, CC_hot, CC_heat, cEq_str, cEq_int, tx_beq, len_tx, add_tx, cutS_tx, tyNames, m11, o11, pl1, pl2, p1, p2]
end
end K05

namespace Mp
open L2
/-- the first edge of the label that leads on -/
def endL (way : Bool) (here : PySem.Str) (d : D) : List Edge → Option PySem.Str
  | [] => none
  | e :: es => if eqS d e.l = true then (if here = e.t then some e.h else if here = e.h ∧ way = false then some e.t else endL way here d es) else endL way here d es
theorem endL_off {way : Bool} {here : PySem.Str} {d : D} : ∀ {es : List Edge}, (∀ e ∈ es, d ≠ .str e.l) → endL way here d es = none
  | [], _ => rfl
  | e :: es, h => by
    simp only [endL]
    rw [if_neg (fun z => h e List.mem_cons_self (eqS_iff.mp z)), endL_off fun x hx => h x (List.mem_cons_of_mem _ hx)]
theorem endL_step {way : Bool} {here : PySem.Str} {d : D} : ∀ {es : List Edge}, (es.map (·.l)).Nodup → endL way here d es = stepN es way here d
  | [], _ => rfl
  | e :: es, h => by
    rw [List.map_cons, List.nodup_cons] at h
    unfold stepN edgeAt
    rw [List.find?_cons]
    simp only [endL]
    by_cases c : d = .str e.l
    · have c' : eqS d e.l = true := eqS_iff.mpr c
      rw [if_pos c', c']
      dsimp only
      have off : endL way here d es = none := endL_off fun x hx z => h.1 (by
        rw [c] at z
        rw [D.str.inj z]
        exact List.mem_map.mpr ⟨x, hx, rfl⟩)
      rw [off]
    · have c' : eqS d e.l = false := by
        cases q : eqS d e.l with
        | false => rfl
        | true => exact absurd (eqS_iff.mp q) c
      rw [if_neg (by rw [c']; decide), c', endL_step h.2]
      rfl
end Mp
namespace K05
open Mp L2
variable {fu n : Nat}
section
variable {vs : List PySem.Str} {es : List Edge}
abbrev eρ (A : D) (s here : PySem.Str) (way : Bool) (o : Option S) : En := [some (.val A), some (.val (.str s)), some (.val (.str here)), some (.val (.bl way)), o]
theorem end_loop {A : D} {s here : PySem.Str} {way : Bool} : ∀ (es : List Edge) (o : Option S),
    (∃ o', forL (turnB (exs (CC G fu n) G_15_b0) true [4]) (es.map ed) (eρ A s here way o) = .nx (eρ A s here way o') ∧ endL way here (.str s) es = none) ∨
    (∃ x o', forL (turnB (exs (CC G fu n) G_15_b0) true [4]) (es.map ed) (eρ A s here way o) = .rt (.val (.str x)) (eρ A s here way o') ∧ endL way here (.str s) es = some x)
  | [], o => .inl ⟨o, rfl, rfl⟩
  | e :: es, o => by
    have ih := end_loop (A := A) (s := s) (here := here) (way := way) es (some (.val (ed e)))
    simp only [List.map_cons, forL, endL]
    by_cases c : eqS (D.str s) e.l = true
    · have c0 : s = e.l := D.str.inj (eqS_iff.mp c)
      subst c0
      rw [if_pos c]
      by_cases c1 : here = e.t
      · subst c1
        rw [if_pos rfl]
        refine .inr ⟨e.h, some (.val (ed e)), ?_, rfl⟩
        simp [eρ, G_15_b0, Bo.ap, exs, ex, ev, evs, evT, evA, evW, evO, evF, evI, exh, En.at, Out.bind, Out.then, So.then, op1, op2, opL, view, views, lift, Co.ap, bR, slD, ixD, endR, parm, modes, fz, fzs, tr1, truth, asgR, tupR, ixR, kxR, D.key, flR, fPut, agfR, augI, agxR, raiR, callR, makeR, muR, Mu.ap, Qm.apT, Qm.apL, revD, Bi.ap, Bi.cool, prep, lent, back, D.isNon, D.isAny, D.isA, bindT, srOf, turnB, muOwn, CC_call, CC_g, CC_fu, CC_hot, CC_heat, cEq_str, cEq_int, tx_beq, len_tx, add_tx, cutS_tx, tyNames, ix_l, ix_t, ix_h]
      · rw [if_neg c1]
        have c1' : ¬ e.t = here := fun z => c1 z.symm
        by_cases c2 : here = e.h ∧ way = false
        · rw [if_pos c2]
          obtain ⟨c2, c3⟩ := c2
          subst c2; subst c3
          refine .inr ⟨e.t, some (.val (ed e)), ?_, rfl⟩
          simp [eρ, G_15_b0, Bo.ap, exs, ex, ev, evs, evT, evA, evW, evO, evF, evI, exh, En.at, Out.bind, Out.then, So.then, op1, op2, opL, view, views, lift, Co.ap, bR, slD, ixD, endR, parm, modes, fz, fzs, tr1, truth, asgR, tupR, ixR, kxR, D.key, flR, fPut, agfR, augI, agxR, raiR, callR, makeR, muR, Mu.ap, Qm.apT, Qm.apL, revD, Bi.ap, Bi.cool, prep, lent, back, D.isNon, D.isAny, D.isA, bindT, srOf, turnB, muOwn, CC_call, CC_g, CC_fu, CC_hot, CC_heat, cEq_str, cEq_int, tx_beq, len_tx, add_tx, cutS_tx, tyNames, ix_l, ix_t, ix_h, c1']
        · rw [if_neg c2]
          have st : turnB (exs (CC G fu n) G_15_b0) true [4] (ed e) (eρ A e.l here way o) = .nx (eρ A e.l here way (some (.val (ed e)))) := by
            cases way with
            | true => simp [eρ, G_15_b0, Bo.ap, exs, ex, ev, evs, evT, evA, evW, evO, evF, evI, exh, En.at, Out.bind, Out.then, So.then, op1, op2, opL, view, views, lift, Co.ap, bR, slD, ixD, endR, parm, modes, fz, fzs, tr1, truth, asgR, tupR, ixR, kxR, D.key, flR, fPut, agfR, augI, agxR, raiR, callR, makeR, muR, Mu.ap, Qm.apT, Qm.apL, revD, Bi.ap, Bi.cool, prep, lent, back, D.isNon, D.isAny, D.isA, bindT, srOf, turnB, muOwn, CC_call, CC_g, CC_fu, CC_hot, CC_heat, cEq_str, cEq_int, tx_beq, len_tx, add_tx, cutS_tx, tyNames, ix_l, ix_t, ix_h, c1']
            | false =>
              have c3 : ¬ e.h = here := fun z => c2 ⟨z.symm, rfl⟩
              simp [eρ, G_15_b0, Bo.ap, exs, ex, ev, evs, evT, evA, evW, evO, evF, evI, exh, En.at, Out.bind, Out.then, So.then, op1, op2, opL, view, views, lift, Co.ap, bR, slD, ixD, endR, parm, modes, fz, fzs, tr1, truth, asgR, tupR, ixR, kxR, D.key, flR, fPut, agfR, augI, agxR, raiR, callR, makeR, muR, Mu.ap, Qm.apT, Qm.apL, revD, Bi.ap, Bi.cool, prep, lent, back, D.isNon, D.isAny, D.isA, bindT, srOf, turnB, muOwn, CC_call, CC_g, CC_fu, CC_hot, CC_heat, cEq_str, cEq_int, tx_beq, len_tx, add_tx, cutS_tx, tyNames, ix_l, ix_t, ix_h, c1', c3]
          rw [st]
          exact ih
    · rw [if_neg c]
      have c' : ¬ e.l = s := fun z => c (eqS_iff.mpr (by rw [z]))
      have st : turnB (exs (CC G fu n) G_15_b0) true [4] (ed e) (eρ A s here way o) = .nx (eρ A s here way (some (.val (ed e)))) := by
        simp [eρ, G_15_b0, Bo.ap, exs, ex, ev, evs, evT, evA, evW, evO, evF, evI, exh, En.at, Out.bind, Out.then, So.then, op1, op2, opL, view, views, lift, Co.ap, bR, slD, ixD, endR, parm, modes, fz, fzs, tr1, truth, asgR, tupR, ixR, kxR, D.key, flR, fPut, agfR, augI, agxR, raiR, callR, makeR, muR, Mu.ap, Qm.apT, Qm.apL, revD, Bi.ap, Bi.cool, prep, lent, back, D.isNon, D.isAny, D.isA, bindT, srOf, turnB, muOwn, CC_call, CC_g, CC_fu, CC_hot, CC_heat, cEq_str, cEq_int, tx_beq, len_tx, add_tx, cutS_tx, tyNames, ix_l, c']
      rw [st]
      exact ih
theorem end_ok (hd : (es.map (·.l)).Nodup) {s here : PySem.Str} {way : Bool} : Mp.run G fu (n + 1) 15 [.val (.tup (es.map ed)), .val (.str s), .val (.str here), .val (.bl way)] = .ok (.val (.str (endS es way here (.str s)))) [.val (.tup (es.map ed)), .val (.str s), .val (.str here), .val (.bl way)] := by
  rw [r15 rfl]
  unfold endS
  rw [← endL_step hd]
  rcases end_loop (fu := fu) (n := n) (A := .tup (es.map ed)) (s := s) (here := here) (way := way) es none with ⟨o, e, z⟩ | ⟨x, o, e, z⟩
  · rw [z]
    simp [G_15, Bo.ap, exs, ex, ev, evs, evT, evA, evW, evO, evF, evI, exh, En.at, Out.bind, Out.then, So.then, op1, op2, opL, view, views, lift, Co.ap, bR, slD, ixD, endR, parm, modes, fz, fzs, tr1, truth, asgR, tupR, ixR, kxR, D.key, flR, fPut, agfR, augI, agxR, raiR, callR, makeR, muR, Mu.ap, Qm.apT, Qm.apL, revD, Bi.ap, Bi.cool, prep, lent, back, D.isNon, D.isAny, D.isA, bindT, srOf, turnB, muOwn, CC_call, CC_g, CC_fu, CC_hot, CC_heat, cEq_str, cEq_int, tx_beq, len_tx, add_tx, cutS_tx, tyNames, e]
  · rw [z]
    simp [G_15, Bo.ap, exs, ex, ev, evs, evT, evA, evW, evO, evF, evI, exh, En.at, Out.bind, Out.then, So.then, op1, op2, opL, view, views, lift, Co.ap, bR, slD, ixD, endR, parm, modes, fz, fzs, tr1, truth, asgR, tupR, ixR, kxR, D.key, flR, fPut, agfR, augI, agxR, raiR, callR, makeR, muR, Mu.ap, Qm.apT, Qm.apL, revD, Bi.ap, Bi.cool, prep, lent, back, D.isNon, D.isAny, D.isA, bindT, srOf, turnB, muOwn, CC_call, CC_g, CC_fu, CC_hot, CC_heat, cEq_str, cEq_int, tx_beq, len_tx, add_tx, cutS_tx, tyNames, e]
abbrev mρ (es : List Edge) (s t : PySem.Str) (L : D) (way : Bool) (here : PySem.Str) (o : Option S) : En := [some (.val (.tup (es.map ed))), some (.val (.str s)), some (.val (.str t)), some (.val L), some (.val (.bl way)), some (.val (.str here)), o]
theorem leads_loop (hd : (es.map (·.l)).Nodup) {s t : PySem.Str} {L : D} {way : Bool} : ∀ (l : List D) (_ : ∀ d ∈ l, Elm d) (here : PySem.Str) (o : Option S),
    (∃ x o', forL (turnB (exs (CC G fu (n + 1)) G_14_b0) true [6]) l (mρ es s t L way here o) = .nx (mρ es s t L way x o') ∧ leadB es t way here l = (x == t)) ∨
    (∃ ρ', forL (turnB (exs (CC G fu (n + 1)) G_14_b0) true [6]) l (mρ es s t L way here o) = .rt (.val (.bl false)) ρ' ∧ leadB es t way here l = false)
  | [], _, here, o => .inl ⟨here, o, rfl, rfl⟩
  | d :: l, h, here, o => by
    have ia := isA_str (cls := G.cls) (h d List.mem_cons_self)
    simp only [forL]
    by_cases hs : ∃ x, d = .str x
    · obtain ⟨x, rfl⟩ := hs
      simp only [leadB]
      by_cases c : here = tx []
      · subst c
        rw [if_pos rfl]
        refine .inr ⟨mρ es s t L way (tx []) (some (.val (.str x))), ?_, rfl⟩
        simp [mρ, G_14_b0, Bo.ap, exs, ex, ev, evs, evT, evA, evW, evO, evF, evI, exh, En.at, Out.bind, Out.then, So.then, op1, op2, opL, view, views, lift, Co.ap, bR, slD, ixD, endR, parm, modes, fz, fzs, tr1, truth, asgR, tupR, ixR, kxR, D.key, flR, fPut, agfR, augI, agxR, raiR, callR, makeR, muR, Mu.ap, Qm.apT, Qm.apL, revD, Bi.ap, Bi.cool, prep, lent, back, D.isNon, D.isAny, D.isA, bindT, srOf, turnB, muOwn, CC_call, CC_g, CC_fu, CC_hot, CC_heat, cEq_str, cEq_int, tx_beq, len_tx, add_tx, cutS_tx, tyNames]
      · rw [if_neg c]
        have k := end_ok (fu := fu) (n := n) hd (s := x) (here := here) (way := way)
        have st : turnB (exs (CC G fu (n + 1)) G_14_b0) true [6] (.str x) (mρ es s t L way here o) = .nx (mρ es s t L way (endS es way here (.str x)) (some (.val (.str x)))) := by
          simp [mρ, G_14_b0, Bo.ap, exs, ex, ev, evs, evT, evA, evW, evO, evF, evI, exh, En.at, Out.bind, Out.then, So.then, op1, op2, opL, view, views, lift, Co.ap, bR, slD, ixD, endR, parm, modes, fz, fzs, tr1, truth, asgR, tupR, ixR, kxR, D.key, flR, fPut, agfR, augI, agxR, raiR, callR, makeR, muR, Mu.ap, Qm.apT, Qm.apL, revD, Bi.ap, Bi.cool, prep, lent, back, D.isNon, D.isAny, D.isA, bindT, srOf, turnB, muOwn, CC_call, CC_g, CC_fu, CC_hot, CC_heat, cEq_str, cEq_int, tx_beq, len_tx, add_tx, cutS_tx, tyNames, m15, k, c]
        rw [st]
        exact leads_loop hd l (fun y hy => h y (List.mem_cons_of_mem _ hy)) _ _
    · have lf : leadB es t way here (d :: l) = false := by
        cases d <;> first | rfl | exact absurd ⟨_, rfl⟩ hs
      rw [lf]
      have ia' : D.isA G.cls d (.b "str") = some false := by
        rw [ia]
        cases d <;> first | rfl | exact absurd ⟨_, rfl⟩ hs
      have st : turnB (exs (CC G fu (n + 1)) G_14_b0) true [6] d (mρ es s t L way here o) = .rt (.val (.bl false)) (mρ es s t L way here (some (.val d))) := by
        have ia2 : D.isAny G.cls d [.b "str"] = some false := by simp only [D.isAny, ia']
        simp [mρ, G_14_b0, exs, ex, ev, evs, evT, evA, evW, evO, evF, evI, exh, En.at, Out.bind, Out.then, So.then, op1, op2, opL, view, views, lift, bR, fz, fzs, tr1, truth, turnB, bindT, CC_g, ia2]
      rw [st]
      exact .inr ⟨_, rfl, rfl⟩
theorem leads_ok (w : WF vs es) {s t : PySem.Str} (hs : s ∈ vs) (ht : t ∈ vs) {L : D} (hL : Lab L) (way : Bool) : Mp.run G fu (n + 2) 14 [.val (.tup (es.map ed)), .val (.str s), .val (.str t), .val L, .val (.bl way)] = .ok (.val (.bl (ledD es s t way L))) [.val (.tup (es.map ed)), .val (.str s), .val (.str t), .val L, .val (.bl way)] := by
  cases hL with
  | tup l h hl =>
    rw [r14 rfl]
    simp only [ledD]
    rw [← lead_led w ht l s hs]
    rcases leads_loop (fu := fu) (n := n) w.ld (s := s) (t := t) (L := .tup l) (way := way) l h s none with ⟨x, o, e, z⟩ | ⟨ρ', e, z⟩
    · rw [z]
      simp [-List.map_map, G_14, Bo.ap, exs, ex, ev, evs, evT, evA, evW, evO, evF, evI, exh, En.at, Out.bind, Out.then, So.then, op1, op2, opL, view, views, lift, Co.ap, bR, slD, ixD, endR, parm, modes, fz, fzs, tr1, truth, asgR, tupR, ixR, kxR, D.key, flR, fPut, agfR, augI, agxR, raiR, callR, makeR, muR, Mu.ap, Qm.apT, Qm.apL, revD, Bi.ap, Bi.cool, prep, lent, back, D.isNon, D.isAny, D.isA, bindT, srOf, turnB, muOwn, CC_call, CC_g, CC_fu, CC_hot, CC_heat, cEq_str, cEq_int, tx_beq, len_tx, add_tx, cutS_tx, tyNames, e]
    · rw [z]
      simp [-List.map_map, G_14, Bo.ap, exs, ex, ev, evs, evT, evA, evW, evO, evF, evI, exh, En.at, Out.bind, Out.then, So.then, op1, op2, opL, view, views, lift, Co.ap, bR, slD, ixD, endR, parm, modes, fz, fzs, tr1, truth, asgR, tupR, ixR, kxR, D.key, flR, fPut, agfR, augI, agxR, raiR, callR, makeR, muR, Mu.ap, Qm.apT, Qm.apL, revD, Bi.ap, Bi.cool, prep, lent, back, D.isNon, D.isAny, D.isA, bindT, srOf, turnB, muOwn, CC_call, CC_g, CC_fu, CC_hot, CC_heat, cEq_str, cEq_int, tx_beq, len_tx, add_tx, cutS_tx, tyNames, e]
  | _ => rw [r14 rfl]; simp [G_14, Bo.ap, exs, ex, ev, evs, evT, evA, evW, evO, evF, evI, exh, En.at, Out.bind, Out.then, So.then, op1, op2, opL, view, views, lift, Co.ap, bR, slD, ixD, endR, parm, modes, fz, fzs, tr1, truth, asgR, tupR, ixR, kxR, D.key, flR, fPut, agfR, augI, agxR, raiR, callR, makeR, muR, Mu.ap, Qm.apT, Qm.apL, revD, Bi.ap, Bi.cool, prep, lent, back, D.isNon, D.isAny, D.isA, bindT, srOf, turnB, muOwn, CC_call, CC_g, CC_fu, CC_hot, CC_heat, cEq_str, cEq_int, tx_beq, len_tx, add_tx, cutS_tx, tyNames, ledD]
end
end K05

namespace Mp
open L2
/-- the prices of labels, or the first that is none -/
def pricesOf (es : List Edge) : List PySem.Str → PySem.Str ⊕ List Int
  | [] => .inr []
  | s :: l => match edgeAt es (.str s) with
    | none => .inl s
    | some e => match pricesOf es l with
      | .inl x => .inl x
      | .inr ps => .inr (e.p :: ps)
def priceD (es : List Edge) (l : List PySem.Str) : D := match pricesOf es l with
  | .inl s => .tup [.str (tx [101, 100, 103, 101]), .str s]
  | .inr ps => .tup [.str (tx []), .int ps.sum]
theorem pricesOf_len {es : List Edge} : ∀ {l : List PySem.Str} {ps : List Int}, pricesOf es l = .inr ps → ps.length = l.length
  | [], ps, h => by simp only [pricesOf] at h; cases h; rfl
  | s :: l, ps, h => by
    simp only [pricesOf] at h
    cases q : edgeAt es (.str s) with
    | none => rw [q] at h; cases h
    | some e =>
      rw [q] at h
      cases q2 : pricesOf es l with
      | inl x => rw [q2] at h; cases h
      | inr ps' => rw [q2] at h; cases h; rw [List.length_cons, List.length_cons, pricesOf_len q2]
end Mp
namespace K05
open Mp L2
variable {fu n : Nat}
section
variable {vs : List PySem.Str} {es : List Edge}
theorem strs_odd {s : PySem.Str} (h : okS s ∧ s.length ≤ 1000) : Odd (.str s) := .str s h.2 h.1
abbrev qρ (vs : List PySem.Str) (es : List Edge) (A : D) : En := [some (.val (gD vs es)), some (.val A), none]
theorem price_turns (w : WF vs es) {A : D} : ∀ (l : List PySem.Str) (_ : ∀ s ∈ l, okS s ∧ s.length ≤ 1000) (acc : List D), acc.length + l.length ≤ 1000 →
    match pricesOf es l with
    | .inr ps => turns (stepLc (ev (CC G fu (n + 2)) G_12_e0) [2] 2 (qρ vs es A)) (·.2) (l.map .str) (acc, qρ vs es A) = .ok (acc ++ ps.map .int, qρ vs es A) (qρ vs es A)
    | .inl s => ∃ o, turns (stepLc (ev (CC G fu (n + 2)) G_12_e0) [2] 2 (qρ vs es A)) (·.2) (l.map .str) (acc, qρ vs es A) = .er ⟨"UnknownEdge", ["label"], [.str s]⟩ [some (.val (gD vs es)), some (.val A), o]
  | [], _, acc, _ => by simp [pricesOf, turns]
  | s :: l, h, acc, hl => by
    simp only [pricesOf, List.map_cons, turns]
    rw [List.length_cons] at hl
    have hs := strs_odd (h s List.mem_cons_self)
    cases q : edgeAt es (.str s) with
    | none =>
      have k := edge_no (fu := fu) (n := n) w hs q
      refine ⟨some (.val (.str s)), ?_⟩
      simp [stepLc, qρ, wipeE, bindT, G_12_e0, Bo.ap, exs, ex, ev, evs, evT, evA, evW, evO, evF, evI, exh, En.at, Out.bind, Out.then, So.then, op1, op2, opL, view, views, lift, Co.ap, bR, slD, ixD, endR, parm, modes, fz, fzs, tr1, truth, asgR, tupR, ixR, kxR, D.key, flR, fPut, agfR, augI, agxR, raiR, callR, makeR, muR, Mu.ap, Qm.apT, Qm.apL, revD, Bi.ap, Bi.cool, prep, lent, back, D.isNon, D.isAny, D.isA, bindT, srOf, turnB, muOwn, CC_call, CC_g, CC_fu, CC_hot, CC_heat, cEq_str, cEq_int, tx_beq, len_tx, add_tx, cutS_tx, tyNames, m9, k]
    | some e =>
      obtain ⟨he, z⟩ := edgeAt_some q
      cases z
      have k := edge_ok (fu := fu) (n := n) w he
      have hz : acc.length < lim := Nat.lt_of_lt_of_le (show acc.length < 1001 by omega) (by decide)
      have st : stepLc (ev (CC G fu (n + 2)) G_12_e0) [2] 2 (qρ vs es A) (.str e.l) (acc, qρ vs es A) = .ok (acc ++ [.int e.p], qρ vs es A) [some (.val (gD vs es)), some (.val A), some (.val (.str e.l))] := by
        simp [stepLc, qρ, wipeE, bindT, mend, G_12_e0, Bo.ap, exs, ex, ev, evs, evT, evA, evW, evO, evF, evI, exh, En.at, Out.bind, Out.then, So.then, op1, op2, opL, view, views, lift, Co.ap, bR, slD, ixD, endR, parm, modes, fz, fzs, tr1, truth, asgR, tupR, ixR, kxR, D.key, flR, fPut, agfR, augI, agxR, raiR, callR, makeR, muR, Mu.ap, Qm.apT, Qm.apL, revD, Bi.ap, Bi.cool, prep, lent, back, D.isNon, D.isAny, D.isA, bindT, srOf, turnB, muOwn, CC_call, CC_g, CC_fu, CC_hot, CC_heat, cEq_str, cEq_int, tx_beq, len_tx, add_tx, cutS_tx, tyNames, m9, k, ix_p, hz]
      rw [st]
      dsimp only
      have ih := price_turns w (A := A) l (fun y hy => h y (List.mem_cons_of_mem _ hy)) (acc ++ [.int e.p]) (by rw [List.length_append, List.length_singleton]; omega)
      cases q2 : pricesOf es l with
      | inl x => rw [q2] at ih; exact ih
      | inr ps =>
        rw [q2] at ih
        dsimp only at ih ⊢
        rw [ih, List.append_assoc]
        rfl
theorem price_ok (w : WF vs es) {l : List PySem.Str} (h : ∀ s ∈ l, okS s ∧ s.length ≤ 1000) (hl : l.length ≤ 1000) {A : D} (hA : A = .lst (l.map .str) ∨ A = .tup (l.map .str)) :
    Mp.run G fu (n + 3) 12 [.val (gD vs es), .val A] = match pricesOf es l with
      | .inr ps => .ok (.val (.int ps.sum)) [.val (gD vs es), .val A]
      | .inl s => .er ⟨"UnknownEdge", ["label"], [.str s]⟩ [.val (gD vs es), .val A] := by
  have k := price_turns (fu := fu) (n := n) w (A := A) l h [] (by simpa using hl)
  have hI : (evI (CC G fu (n + 2)) (.one (.var 1)) (qρ vs es A)).bind frzS = .ok (.fix (l.map .str)) (qρ vs es A) := by
    rcases hA with rfl | rfl <;> simp [qρ, Bo.ap, exs, ex, ev, evs, evT, evA, evW, evO, evF, evI, exh, En.at, Out.bind, Out.then, So.then, op1, op2, opL, view, views, lift, Co.ap, bR, slD, ixD, endR, parm, modes, fz, fzs, tr1, truth, asgR, tupR, ixR, kxR, D.key, flR, fPut, agfR, augI, agxR, raiR, callR, makeR, muR, Mu.ap, Qm.apT, Qm.apL, revD, Bi.ap, Bi.cool, prep, lent, back, D.isNon, D.isAny, D.isA, bindT, srOf, turnB, muOwn, CC_call, CC_g, CC_fu, CC_hot, CC_heat, cEq_str, cEq_int, tx_beq, len_tx, add_tx, cutS_tx, tyNames, frzS]
  have hE : ∀ ρ, ex (CC G fu (n + 2)) (.rsm G_12_e0 [("label", 2)] (.one (.var 1)) 2) ρ = ((lcE (fun ρ => (evI (CC G fu (n + 2)) (.one (.var 1)) ρ).bind frzS) (ev (CC G fu (n + 2)) G_12_e0) [2] 2 ρ).bind fun r ρ => opL Bi.sum.ap [r] ρ).then fun r ρ => .rt r ρ := fun ρ => by
    simp only [ex, CC_hot, Bool.false_eq_true, if_false]
    rfl
  rw [r12 rfl]
  show endR _ _ (exs (CC G fu (n + 2)) (.cons (.rsm G_12_e0 [("label", 2)] (.one (.var 1)) 2) .nil) (qρ vs es A)) = _
  simp only [exs]
  rw [hE]
  have hL : lcE (fun ρ => (evI (CC G fu (n + 2)) (.one (.var 1)) ρ).bind frzS) (ev (CC G fu (n + 2)) G_12_e0) [2] 2 (qρ vs es A) = match turns (stepLc (ev (CC G fu (n + 2)) G_12_e0) [2] 2 (qρ vs es A)) (·.2) (l.map .str) ([], qρ vs es A) with
      | .ok a ρ => .ok (.tmp (.lst a.1)) ρ
      | .er x ρ2 => .er x (mend [2] (qρ vs es A) ρ2)
      | .bad => .bad := by
    unfold lcE
    dsimp only
    rw [hI]
    rfl
  rw [hL]
  cases q : pricesOf es l with
  | inr ps =>
    rw [q] at k
    dsimp only at k ⊢
    rw [k]
    have di := dInts_mapI ps
    simp [opL, views, view, Bi.ap, di, lift, Out.then, So.then, Out.bind, endR, parm, qρ]
  | inl s =>
    rw [q] at k
    obtain ⟨o, k⟩ := k
    rw [k]
    simp [Out.then, So.then, endR, parm, mend, Out.bind]
/-- the law's sum -/
abbrev uρ (es : List Edge) (R : List PySem.Str) (z : Int) (o3 o4 o5 : Option S) : En := [some (.val (.tup (es.map ed))), some (.val (.lst (R.map .str))), some (.val (.int z)), o3, o4, o5]
theorem prices_lc (w : WF vs es) {R : List PySem.Str} {z : Int} {s : PySem.Str} {o4 : Option S} : ev (CC G fu n) G_17_l2 (uρ es R z (some (.val (.str s))) o4 none) = .ok (.tmp (.lst ((es.filter fun e => e.l == s).map fun e => .int e.p))) (uρ es R z (some (.val (.str s))) o4 none) := by
  have k := lc_okF (c := CC G fu n) (e := G_17_e1) (t := G_17_i0) (i := 5) (x := "_law_edge_here") (it := .one (.var 0)) (ρ := uρ es R z (some (.val (.str s))) o4 none) (l := es.map ed)
    (fun d => match d with | .tup (.str x :: _) => x == s | _ => false) (fun d => match d with | .tup [_, _, _, .int p, _] => .int p | _ => .non) rfl (by simp) (by simp [Bo.ap, exs, ex, ev, evs, evT, evA, evW, evO, evF, evI, exh, En.at, Out.bind, Out.then, So.then, op1, op2, opL, view, views, lift, Co.ap, bR, slD, ixD, endR, parm, modes, fz, fzs, tr1, truth, asgR, tupR, ixR, kxR, D.key, flR, fPut, agfR, augI, agxR, raiR, callR, makeR, muR, Mu.ap, Qm.apT, Qm.apL, revD, Bi.ap, Bi.cool, prep, lent, back, D.isNon, D.isAny, D.isA, bindT, srOf, turnB, muOwn, CC_call, CC_g, CC_fu, CC_hot, CC_heat, cEq_str, cEq_int, tx_beq, len_tx, add_tx, cutS_tx, tyNames]) (by
    intro d hd
    obtain ⟨e, he, rfl⟩ := List.mem_map.mp hd
    simp [G_17_i0, Bo.ap, exs, ex, ev, evs, evT, evA, evW, evO, evF, evI, exh, En.at, Out.bind, Out.then, So.then, op1, op2, opL, view, views, lift, Co.ap, bR, slD, ixD, endR, parm, modes, fz, fzs, tr1, truth, asgR, tupR, ixR, kxR, D.key, flR, fPut, agfR, augI, agxR, raiR, callR, makeR, muR, Mu.ap, Qm.apT, Qm.apL, revD, Bi.ap, Bi.cool, prep, lent, back, D.isNon, D.isAny, D.isA, bindT, srOf, turnB, muOwn, CC_call, CC_g, CC_fu, CC_hot, CC_heat, cEq_str, cEq_int, tx_beq, len_tx, add_tx, cutS_tx, tyNames, ix_l]) (by
    intro d hd _
    obtain ⟨e, he, rfl⟩ := List.mem_map.mp hd
    simp [G_17_e1, Bo.ap, exs, ex, ev, evs, evT, evA, evW, evO, evF, evI, exh, En.at, Out.bind, Out.then, So.then, op1, op2, opL, view, views, lift, Co.ap, bR, slD, ixD, endR, parm, modes, fz, fzs, tr1, truth, asgR, tupR, ixR, kxR, D.key, flR, fPut, agfR, augI, agxR, raiR, callR, makeR, muR, Mu.ap, Qm.apT, Qm.apL, revD, Bi.ap, Bi.cool, prep, lent, back, D.isNon, D.isAny, D.isA, bindT, srOf, turnB, muOwn, CC_call, CC_g, CC_fu, CC_hot, CC_heat, cEq_str, cEq_int, tx_beq, len_tx, add_tx, cutS_tx, tyNames, ix_p]) (WF.lim w)
  rw [filt] at k
  exact k
theorem lprice_loop (w : WF vs es) {R : List PySem.Str} : ∀ (l : List PySem.Str) (z : Int) (o3 o4 : Option S),
    match pricesOf es l with
    | .inr ps => ∃ p3 p4, forL (turnB (exs (CC G fu n) G_17_b3) true [3]) (l.map .str) (uρ es R z o3 o4 none) = .nx (uρ es R (z + ps.sum) p3 p4 none)
    | .inl s => ∃ ρ', forL (turnB (exs (CC G fu n) G_17_b3) true [3]) (l.map .str) (uρ es R z o3 o4 none) = .rt (.val (.tup [.str (tx [101, 100, 103, 101]), .str s])) ρ'
  | [], z, o3, o4 => by simp [pricesOf, forL]
  | s :: l, z, o3, o4 => by
    have k := prices_lc (fu := fu) (n := n) w (R := R) (z := z) (s := s) (o4 := o4)
    have l2 : 2 ≤ lim := by decide
    simp only [pricesOf, List.map_cons, forL]
    cases q : edgeAt es (.str s) with
    | none =>
      have f : es.filter (fun e => e.l == s) = [] := by
        rw [List.filter_eq_nil_iff]
        intro e he z
        rw [edgeAt_none] at q
        simp only [inSd, decide_eq_false_iff_not] at q
        exact q (List.mem_map.mpr ⟨e, he, by simpa using z⟩)
      rw [f] at k
      refine ⟨uρ es R z (some (.val (.str s))) (some (.own (.lst []))) none, ?_⟩
      simp [uρ] at k
      simp [uρ, G_17_b3, exs, ex, ev, evs, evT, evA, evW, evO, evF, exh, En.at, Out.bind, Out.then, So.then, op1, op2, opL, view, views, lift, Co.ap, bR, slD, ixD, endR, parm, modes, fz, fzs, tr1, truth, asgR, tupR, ixR, kxR, D.key, flR, fPut, agfR, augI, agxR, raiR, callR, makeR, muR, Mu.ap, Qm.apT, Qm.apL, revD, Bi.ap, Bi.cool, prep, lent, back, D.isNon, D.isAny, D.isA, bindT, srOf, turnB, muOwn, CC_call, CC_g, CC_fu, CC_hot, CC_heat, cEq_str, cEq_int, tx_beq, len_tx, add_tx, cutS_tx, tyNames, Bo.ap, k, l2]
    | some e =>
      obtain ⟨he, zz⟩ := edgeAt_some q
      cases zz
      have f : ∃ r, (es.filter fun x => x.l == e.l).map (fun e => D.int e.p) = .int e.p :: r := by
        unfold edgeAt at q
        obtain ⟨a, as, bs, rfl, hn⟩ := List.find?_eq_some_iff_append.mp q
        refine ⟨(bs.filter fun x => x.l == e.l).map (fun e => D.int e.p), ?_⟩
        rw [List.filter_append, List.filter_cons_of_pos (by simp), List.filter_eq_nil_iff.mpr (by intro x hx; have := hn x hx; simpa [eqS] using this)]
        rfl
      obtain ⟨r, f⟩ := f
      rw [f] at k
      have lr : ¬ ((((r.length : Nat) : Int) + 1) = 0) := by omega
      have st : turnB (exs (CC G fu n) G_17_b3) true [3] (.str e.l) (uρ es R z o3 o4 none) = .nx (uρ es R (z + e.p) (some (.val (.str e.l))) (some (.own (.lst (.int e.p :: r)))) none) := by
        simp [uρ] at k
        simp [uρ, G_17_b3, exs, ex, ev, evs, evT, evA, evW, evO, evF, exh, En.at, Out.bind, Out.then, So.then, op1, op2, opL, view, views, lift, Co.ap, bR, slD, ixD, endR, parm, modes, fz, fzs, tr1, truth, asgR, tupR, ixR, kxR, D.key, flR, fPut, agfR, augI, agxR, raiR, callR, makeR, muR, Mu.ap, Qm.apT, Qm.apL, revD, Bi.ap, Bi.cool, prep, lent, back, D.isNon, D.isAny, D.isA, bindT, srOf, turnB, muOwn, CC_call, CC_g, CC_fu, CC_hot, CC_heat, cEq_str, cEq_int, tx_beq, len_tx, add_tx, cutS_tx, tyNames, Bo.ap, k, lr, at0]
      rw [st]
      dsimp only
      have ih := lprice_loop w (R := R) l (z + e.p) (some (.val (.str e.l))) (some (.own (.lst (.int e.p :: r))))
      cases q2 : pricesOf es l with
      | inl x => rw [q2] at ih; exact ih
      | inr ps =>
        rw [q2] at ih
        obtain ⟨p3, p4, ih⟩ := ih
        refine ⟨p3, p4, ?_⟩
        rw [ih, List.sum_cons, Int.add_assoc]
theorem lprice_ok (w : WF vs es) {R : List PySem.Str} : Mp.run G fu (n + 1) 17 [.val (.tup (es.map ed)), .val (.lst (R.map .str))] = .ok (.val (priceD es R)) [.val (.tup (es.map ed)), .val (.lst (R.map .str))] := by
  have k := lprice_loop (fu := fu) (n := n) w (R := R) R 0 none none
  have l2 : 2 ≤ lim := by decide
  rw [r17 rfl]
  unfold priceD
  cases q : pricesOf es R with
  | inr ps =>
    rw [q] at k
    obtain ⟨o3, o4, k⟩ := k
    simp [-List.map_map, G_17, Bo.ap, exs, ex, ev, evs, evT, evA, evW, evO, evF, evI, exh, En.at, Out.bind, Out.then, So.then, op1, op2, opL, view, views, lift, Co.ap, bR, slD, ixD, endR, parm, modes, fz, fzs, tr1, truth, asgR, tupR, ixR, kxR, D.key, flR, fPut, agfR, augI, agxR, raiR, callR, makeR, muR, Mu.ap, Qm.apT, Qm.apL, revD, Bi.ap, Bi.cool, prep, lent, back, D.isNon, D.isAny, D.isA, bindT, srOf, turnB, muOwn, CC_call, CC_g, CC_fu, CC_hot, CC_heat, cEq_str, cEq_int, tx_beq, len_tx, add_tx, cutS_tx, tyNames, k, l2]
  | inl s =>
    rw [q] at k
    obtain ⟨ρ', k⟩ := k
    simp [-List.map_map, G_17, Bo.ap, exs, ex, ev, evs, evT, evA, evW, evO, evF, evI, exh, En.at, Out.bind, Out.then, So.then, op1, op2, opL, view, views, lift, Co.ap, bR, slD, ixD, endR, parm, modes, fz, fzs, tr1, truth, asgR, tupR, ixR, kxR, D.key, flR, fPut, agfR, augI, agxR, raiR, callR, makeR, muR, Mu.ap, Qm.apT, Qm.apL, revD, Bi.ap, Bi.cool, prep, lent, back, D.isNon, D.isAny, D.isA, bindT, srOf, turnB, muOwn, CC_call, CC_g, CC_fu, CC_hot, CC_heat, cEq_str, cEq_int, tx_beq, len_tx, add_tx, cutS_tx, tyNames, k]
end
end K05

namespace K05
open Mp L2
variable {fu n : Nat}
theorem xmNN : G.xm "UnknownNode" "UnknownNode" = some true := rfl
theorem xmEN : G.xm "UnknownEdge" "UnknownNode" = some false := rfl
theorem xmEE : G.xm "UnknownEdge" "UnknownEdge" = some true := rfl
theorem lkN {a : D} : List.lookup ("name" : PySem.Str) [(("name" : PySem.Str), a)] = some a := rfl
theorem lkE {a : D} : List.lookup ("label" : PySem.Str) [(("label" : PySem.Str), a)] = some a := rfl
section
variable {vs : List PySem.Str} {es : List Edge}
abbrev ansD (b : Bool) : D := .tup [.str (tx []), .bl b]
abbrev nodeD (d : D) : D := .tup [.str (tx [110, 111, 100, 101]), d]
theorem asked_w (w : WF vs es) {s t : PySem.Str} (hs : s ∈ vs) (ht : t ∈ vs) {L : D} (hL : Lab L) {k : Nat} {dir : Bool} (hk : ((k = 0 ∨ k = 3) ∧ dir = true) ∨ ((k = 1 ∨ k = 4) ∧ dir = false)) :
    Mp.run G fu (n + 5) 3 [.val (.int (k : Int)), .val (gD vs es), .val (.str s), .val (.str t), .val L] = .ok (.val (ansD (ledD es s t dir L))) [.val (.int (k : Int)), .val (gD vs es), .val (.str s), .val (.str t), .val L] := by
  have a := way_ok (fu := fu) (n := n) w hs ht hL
  have b := walk_ok (fu := fu) (n := n) w hs ht hL
  rw [r3 rfl]
  rcases hk with ⟨rfl | rfl, rfl⟩ | ⟨rfl | rfl, rfl⟩ <;> simp [G_3, Bo.ap, exs, ex, ev, evs, evT, evA, evW, evO, evF, evI, exh, En.at, Out.bind, Out.then, So.then, op1, op2, opL, view, views, lift, Co.ap, bR, slD, ixD, endR, parm, modes, fz, fzs, tr1, truth, asgR, tupR, ixR, kxR, D.key, flR, fPut, agfR, augI, agxR, raiR, callR, makeR, muR, Mu.ap, Qm.apT, Qm.apL, revD, Bi.ap, Bi.cool, prep, lent, back, D.isNon, D.isAny, D.isA, bindT, srOf, turnB, muOwn, CC_call, CC_g, CC_fu, CC_hot, CC_heat, cEq_str, cEq_int, tx_beq, len_tx, add_tx, cutS_tx, tyNames, m6, m13, a, b, l2]
theorem asked_p (w : WF vs es) {l : List PySem.Str} (h : ∀ s ∈ l, okS s ∧ s.length ≤ 1000) (hl : l.length ≤ 1000) {A s t : D} (hA : A = .lst (l.map .str) ∨ A = .tup (l.map .str)) :
    Mp.run G fu (n + 5) 3 [.val (.int 2), .val (gD vs es), .val s, .val t, .val A] = .ok (.val (priceD es l)) [.val (.int 2), .val (gD vs es), .val s, .val t, .val A] := by
  have k := price_ok (fu := fu) (n := n + 1) w h hl hA
  unfold priceD
  rw [r3 rfl]
  cases q : pricesOf es l with
  | inr ps =>
    rw [q] at k
    dsimp only at k
    simp [G_3, Bo.ap, exs, ex, ev, evs, evT, evA, evW, evO, evF, evI, exh, En.at, Out.bind, Out.then, So.then, op1, op2, opL, view, views, lift, Co.ap, bR, slD, ixD, endR, parm, modes, fz, fzs, tr1, truth, asgR, tupR, ixR, kxR, D.key, flR, fPut, agfR, augI, agxR, raiR, callR, makeR, muR, Mu.ap, Qm.apT, Qm.apL, revD, Bi.ap, Bi.cool, prep, lent, back, D.isNon, D.isAny, D.isA, bindT, srOf, turnB, muOwn, CC_call, CC_g, CC_fu, CC_hot, CC_heat, cEq_str, cEq_int, tx_beq, len_tx, add_tx, cutS_tx, tyNames, m12, k, l2]
  | inl x =>
    rw [q] at k
    dsimp only at k
    have lo := lone3 (fu := fu) (n := n + 2) ["label"] [.str x]
    simp [G_3, Bo.ap, exs, ex, ev, evs, evT, evA, evW, evO, evF, evI, exh, En.at, Out.bind, Out.then, So.then, op1, op2, opL, view, views, lift, Co.ap, bR, slD, ixD, endR, parm, modes, fz, fzs, tr1, truth, asgR, tupR, ixR, kxR, D.key, flR, fPut, agfR, augI, agxR, raiR, callR, makeR, muR, Mu.ap, Qm.apT, Qm.apL, revD, Bi.ap, Bi.cool, prep, lent, back, D.isNon, D.isAny, D.isA, bindT, srOf, turnB, muOwn, CC_call, CC_g, CC_fu, CC_hot, CC_heat, cEq_str, cEq_int, tx_beq, len_tx, add_tx, cutS_tx, tyNames, CH_call, CH_g, CH_fu, CH_hot, m12, k, lo, xmEN, xmEE, xdE, fixS, wipe1, cleanE, l2, at0, lkE]
theorem asked_n1 (w : WF vs es) {d t L : D} (h : Odd d) (hs : inSd d vs = false) {k : Nat} (hk : k < 2) : Mp.run G fu (n + 5) 3 [.val (.int (k : Int)), .val (gD vs es), .val d, .val t, .val L] = .ok (.val (nodeD d)) [.val (.int (k : Int)), .val (gD vs es), .val d, .val t, .val L] := by
  have a := way_no1 (fu := fu) (n := n) (t := t) (L := L) w h hs
  have b := walk_no1 (fu := fu) (n := n) (t := t) (L := L) w h hs
  have lo := lone2 (fu := fu) (n := n + 2) ["name"] [d]
  have : k = 0 ∨ k = 1 := by omega
  rw [r3 rfl]
  rcases this with rfl | rfl <;> simp [G_3, Bo.ap, exs, ex, ev, evs, evT, evA, evW, evO, evF, evI, exh, En.at, Out.bind, Out.then, So.then, op1, op2, opL, view, views, lift, Co.ap, bR, slD, ixD, endR, parm, modes, fz, fzs, tr1, truth, asgR, tupR, ixR, kxR, D.key, flR, fPut, agfR, augI, agxR, raiR, callR, makeR, muR, Mu.ap, Qm.apT, Qm.apL, revD, Bi.ap, Bi.cool, prep, lent, back, D.isNon, D.isAny, D.isA, bindT, srOf, turnB, muOwn, CC_call, CC_g, CC_fu, CC_hot, CC_heat, cEq_str, cEq_int, tx_beq, len_tx, add_tx, cutS_tx, tyNames, CH_call, CH_g, CH_fu, CH_hot, m6, m13, a, b, lo, xmNN, xdN, fixS, wipe1, cleanE, l2, at0, lkN]
theorem asked_n2 (w : WF vs es) {s : PySem.Str} (hs : s ∈ vs) {t L : D} (h : Odd t) (ht : inSd t vs = false) {k : Nat} (hk : k < 2) : Mp.run G fu (n + 5) 3 [.val (.int (k : Int)), .val (gD vs es), .val (.str s), .val t, .val L] = .ok (.val (nodeD t)) [.val (.int (k : Int)), .val (gD vs es), .val (.str s), .val t, .val L] := by
  have a := way_no2 (fu := fu) (n := n) (L := L) w hs h ht
  have b := walk_no2 (fu := fu) (n := n) (L := L) w hs h ht
  have lo := lone2 (fu := fu) (n := n + 2) ["name"] [t]
  have : k = 0 ∨ k = 1 := by omega
  rw [r3 rfl]
  rcases this with rfl | rfl <;> simp [G_3, Bo.ap, exs, ex, ev, evs, evT, evA, evW, evO, evF, evI, exh, En.at, Out.bind, Out.then, So.then, op1, op2, opL, view, views, lift, Co.ap, bR, slD, ixD, endR, parm, modes, fz, fzs, tr1, truth, asgR, tupR, ixR, kxR, D.key, flR, fPut, agfR, augI, agxR, raiR, callR, makeR, muR, Mu.ap, Qm.apT, Qm.apL, revD, Bi.ap, Bi.cool, prep, lent, back, D.isNon, D.isAny, D.isA, bindT, srOf, turnB, muOwn, CC_call, CC_g, CC_fu, CC_hot, CC_heat, cEq_str, cEq_int, tx_beq, len_tx, add_tx, cutS_tx, tyNames, CH_call, CH_g, CH_fu, CH_hot, m6, m13, a, b, lo, xmNN, xdN, fixS, wipe1, cleanE, l2, at0, lkN]
theorem alk_odd {d : D} (h : Odd d) : alkB 8 d = true := by
  cases h <;> simp [alkB]
theorem alk_ans {b : Bool} : alkB 9 (ansD b) = true := by simp [alkB]
theorem alk_node {d : D} (h : Odd d) : alkB 9 (nodeD d) = true := by simp [alkB, alk_odd h]
theorem alk_price {l : List PySem.Str} : alkB 9 (priceD es l) = true := by
  unfold priceD
  split <;> simp [alkB]
end
end K05

namespace Mp
open L2
theorem at_mem {l : List D} {q : Nat} (h : q < l.length) : ∃ d ∈ l, atD l (q : Int) = some d := by
  refine ⟨l[q], List.getElem_mem _, ?_⟩
  unfold atD
  rw [at_nat h, List.getElem?_eq_getElem h]
theorem at_last {l : List D} {d : D} : atD (l ++ [d]) (-1) = some d := by
  have e : ((-1 : Int) + (((l ++ [d]).length : Nat) : Int)).toNat = l.length := by rw [List.length_append, List.length_singleton]; omega
  have e2 : ((((l ++ [d]).length : Nat) : Int) + (-1)).toNat = l.length := by rw [List.length_append, List.length_singleton]; omega
  have e3 : (l ++ [d])[l.length]? = some d := by rw [List.getElem?_append_right (Nat.le_refl _)]; simp
  unfold atD atI ixN
  rw [if_neg (by omega), if_pos (by rw [List.length_append, List.length_singleton]; omega)]
  first
    | (rw [e]; exact e3)
    | (rw [e2]; exact e3)
    | (simp only [Option.bind_some, e, e2]; exact e3)
theorem ok_tx {l : List Nat} (h : ∀ c ∈ l, c < 123) : okS (tx l) := by
  simp only [okS, PySem.PyData.strOk]
  rw [Array.all_eq_true]
  intro i hi
  have hm : (tx l).cps[i] ∈ l := by
    have : (tx l).cps[i] ∈ (tx l).cps.toList := by simp
    simpa [tx] using this
  exact decide_eq_true (Nat.lt_trans (h _ hm) (by decide))
theorem odd_str {l : List Nat} (h : ∀ c ∈ l, c < 123) (hl : l.length ≤ 1000) : Odd (.str (tx l)) := .str _ (by rw [len_tx]; exact hl) (ok_tx h)
theorem cut_to {α : Type} {xs : List α} {i : Nat} : cutD xs none (some (i : Int)) = xs.take i := by
  unfold cutD
  rw [HT.sIx_nat, show HT.sIx xs.length 0 none = 0 from rfl, List.drop_zero, Nat.sub_zero, Nat.min_def]
  split
  · rfl
  · rw [List.take_of_length_le (Nat.le_refl _), List.take_of_length_le (by omega)]
theorem cut_mem {α : Type} {xs : List α} {lo hi : Option Int} {x : α} (h : x ∈ cutD xs lo hi) : x ∈ xs := List.mem_of_mem_drop (List.mem_of_mem_take h)
theorem cut_len {α : Type} {xs : List α} {lo hi : Option Int} : (cutD xs lo hi).length ≤ xs.length := by
  unfold cutD
  rw [List.length_take, List.length_drop]
  omega
end Mp
namespace K05
open Mp L2
variable {fu n : Nat}
section
variable {vs : List PySem.Str} {es : List Edge} {ns : List Int}
theorem endS_or (w : WF vs es) {here s : PySem.Str} {way : Bool} : endS es way here (.str s) = tx [] ∨ endS es way here (.str s) ∈ vs := by
  unfold endS
  cases q : stepN es way here (.str s) with
  | none => exact .inl rfl
  | some x => exact .inr (stepN_mem w q)
abbrev gρ (ns : List Int) (σ : D) (es : List Edge) (here : PySem.Str) (way : Bool) (labs : List PySem.Str) (o6 o7 : Option S) : En := [some (.val (li ns)), some (.own σ), some (.val (.tup (es.map ed))), some (.val (.str here)), some (.val (.bl way)), some (.own (.lst (labs.map .str))), o6, o7, none]
theorem fits_lc (w : WF vs es) {σ : D} {here : PySem.Str} {way : Bool} {labs : List PySem.Str} (o6 o7 : Option S) : ev (CC G fu (n + 1)) G_19_l2 (gρ ns σ es here way labs o6 o7) =
    .ok (.tmp (.lst ((es.filter fun e => !(endS es way here (.str e.l) == tx [])).map fun e => .str e.l))) (gρ ns σ es here way labs o6 o7) := by
  have k := lc_okF (c := CC G fu (n + 1)) (e := G_19_e1) (t := G_19_i0) (i := 8) (x := "_law_edge_here") (it := .one (.var 2)) (ρ := gρ ns σ es here way labs o6 o7) (l := es.map ed)
    (fun d => match dl d with | .str s => !(endS es way here (.str s) == tx []) | _ => false) dl rfl (by simp) (by simp [Bo.ap, exs, ex, ev, evs, evT, evA, evW, evO, evF, evI, exh, En.at, Out.bind, Out.then, So.then, op1, op2, opL, view, views, lift, Co.ap, bR, slD, ixD, endR, parm, modes, fz, fzs, tr1, truth, asgR, tupR, ixR, kxR, D.key, flR, fPut, agfR, augI, agxR, raiR, callR, makeR, muR, Mu.ap, Qm.apT, Qm.apL, revD, Bi.ap, Bi.cool, prep, lent, back, D.isNon, D.isAny, D.isA, bindT, srOf, turnB, muOwn, CC_call, CC_g, CC_fu, CC_hot, CC_heat, cEq_str, cEq_int, tx_beq, len_tx, add_tx, cutS_tx, tyNames]) (by
    intro d hd
    obtain ⟨e, he, rfl⟩ := List.mem_map.mp hd
    have k := end_ok (fu := fu) (n := n) w.ld (s := e.l) (here := here) (way := way)
    simp only [dl_ed]
    generalize endS es way here (.str e.l) = z at k
    simp [G_19_i0, Bo.ap, exs, ex, ev, evs, evT, evA, evW, evO, evF, evI, exh, En.at, Out.bind, Out.then, So.then, op1, op2, opL, view, views, lift, Co.ap, bR, slD, ixD, endR, parm, modes, fz, fzs, tr1, truth, asgR, tupR, ixR, kxR, D.key, flR, fPut, agfR, augI, agxR, raiR, callR, makeR, muR, Mu.ap, Qm.apT, Qm.apL, revD, Bi.ap, Bi.cool, prep, lent, back, D.isNon, D.isAny, D.isA, bindT, srOf, turnB, muOwn, CC_call, CC_g, CC_fu, CC_hot, CC_heat, cEq_str, cEq_int, tx_beq, len_tx, add_tx, cutS_tx, tyNames, ix_l, dl_ed, m15, k]) (by
    intro d hd _
    obtain ⟨e, he, rfl⟩ := List.mem_map.mp hd
    simp [G_19_e1, Bo.ap, exs, ex, ev, evs, evT, evA, evW, evO, evF, evI, exh, En.at, Out.bind, Out.then, So.then, op1, op2, opL, view, views, lift, Co.ap, bR, slD, ixD, endR, parm, modes, fz, fzs, tr1, truth, asgR, tupR, ixR, kxR, D.key, flR, fPut, agfR, augI, agxR, raiR, callR, makeR, muR, Mu.ap, Qm.apT, Qm.apL, revD, Bi.ap, Bi.cool, prep, lent, back, D.isNon, D.isAny, D.isA, bindT, srOf, turnB, muOwn, CC_call, CC_g, CC_fu, CC_hot, CC_heat, cEq_str, cEq_int, tx_beq, len_tx, add_tx, cutS_tx, tyNames, ix_l, dl_ed]) (WF.lim w)
  rw [filt] at k
  exact k
theorem led_turn (w : WF vs es) {σ : D} (hσ : Sta σ) {here : PySem.Str} (hh : here ∈ vs) {way : Bool} {labs : List PySem.Str} (hlab : ∀ s ∈ labs, s ∈ es.map (·.l)) {j : Nat} (hl : labs.length ≤ j) (hj : j ≤ 1000) (o6 o7 : Option S) :
    ∃ (σ' : D) (here' : PySem.Str) (labs' : List PySem.Str) (p6 p7 : Option S), Sta σ' ∧ here' ∈ vs ∧ (∀ s ∈ labs', s ∈ es.map (·.l)) ∧ labs'.length ≤ j + 1 ∧
      turnB (exs (CC G fu (n + 2)) G_19_b3) true [6] (.int (j : Int)) (gρ ns σ es here way labs o6 o7) = .nx (gρ ns σ' es here' way labs' p6 p7) := by
  have k := fits_lc (fu := fu) (n := n + 1) (ns := ns) w (σ := σ) (here := here) (way := way) (labs := labs) (some (.val (.int (j : Int)))) o7
  have fm : ∀ x ∈ (es.filter fun e => !(endS es way here (.str e.l) == tx [])).map (fun e => D.str e.l), ∃ e ∈ es, x = .str e.l ∧ endS es way here (.str e.l) ∈ vs := by
    intro x hx
    obtain ⟨e, he, rfl⟩ := List.mem_map.mp hx
    obtain ⟨h1, h2⟩ := List.mem_filter.mp he
    refine ⟨e, h1, rfl, ?_⟩
    rcases endS_or w (here := here) (s := e.l) (way := way) with z | z
    · rw [z] at h2; simp at h2
    · exact z
  have fl : ((es.filter fun e => !(endS es way here (.str e.l) == tx [])).map (fun e => D.str e.l)).length ≤ 100 := by
    rw [List.length_map]
    exact Nat.le_trans (List.length_filter_le _ _) w.ne
  generalize (es.filter fun e => !(endS es way here (.str e.l) == tx [])).map (fun e => D.str e.l) = F at k fm fl
  by_cases c : 0 < F.length
  · obtain ⟨q, σ1, s1, b1, g1⟩ := draw_s (fu := fu) (n := n) (ns := ns) hσ (m := ((F.length : Nat) : Int)) (by omega) (by omega)
    obtain ⟨d, hd, e1⟩ := at_mem (l := F) (q := q) (by omega)
    obtain ⟨e, he, rfl, hv⟩ := fm d hd
    have k2 := end_ok (fu := fu) (n := n + 1) w.ld (s := e.l) (here := here) (way := way)
    have c' : (0 : Int) < ((F.length : Nat) : Int) := by omega
    have hz : labs.length < lim := Nat.lt_of_le_of_lt (Nat.le_trans hl hj) (by decide)
    have e2 : atD (labs.map D.str ++ [.str e.l]) (-1) = some (.str e.l) := at_last
    refine ⟨σ1, endS es way here (.str e.l), labs ++ [e.l], some (.val (.int (j : Int))), some (.own (.lst F)), s1, hv, ?_, by rw [List.length_append, List.length_singleton]; omega, ?_⟩
    · intro s hs
      rcases List.mem_append.mp hs with z | z
      · exact hlab s z
      · rw [List.mem_singleton.mp z]; exact List.mem_map.mpr ⟨e, he, rfl⟩
    · generalize endS es way here (.str e.l) = z at k2
      simp [gρ] at k
      simp [gρ, G_19_b3, exs, ex, ev, evs, evT, evA, evW, evO, evF, exh, En.at, Out.bind, Out.then, So.then, op1, op2, opL, view, views, lift, Co.ap, bR, slD, ixD, endR, parm, modes, fz, fzs, tr1, truth, asgR, tupR, ixR, kxR, D.key, flR, fPut, agfR, augI, agxR, raiR, callR, makeR, muR, Mu.ap, Qm.apT, Qm.apL, revD, Bi.ap, Bi.cool, prep, lent, back, D.isNon, D.isAny, D.isA, bindT, srOf, turnB, muOwn, CC_call, CC_g, CC_fu, CC_hot, CC_heat, cEq_str, cEq_int, tx_beq, len_tx, add_tx, cutS_tx, tyNames, Bo.ap, m1, m15, k, c, c', g1, e1, hz, e2, k2]
  · have c' : ¬ (0 : Int) < ((F.length : Nat) : Int) := by omega
    refine ⟨σ, here, labs, some (.val (.int (j : Int))), some (.own (.lst F)), hσ, hh, hlab, by omega, ?_⟩
    simp [gρ] at k
    simp [gρ, G_19_b3, exs, ex, ev, evs, evT, evA, evW, evO, evF, exh, En.at, Out.bind, Out.then, So.then, op1, op2, opL, view, views, lift, Co.ap, bR, slD, ixD, endR, parm, modes, fz, fzs, tr1, truth, asgR, tupR, ixR, kxR, D.key, flR, fPut, agfR, augI, agxR, raiR, callR, makeR, muR, Mu.ap, Qm.apT, Qm.apL, revD, Bi.ap, Bi.cool, prep, lent, back, D.isNon, D.isAny, D.isA, bindT, srOf, turnB, muOwn, CC_call, CC_g, CC_fu, CC_hot, CC_heat, cEq_str, cEq_int, tx_beq, len_tx, add_tx, cutS_tx, tyNames, Bo.ap, k, c, c']
theorem ledn_ok (w : WF vs es) {σ : D} (hσ : Sta σ) {here : PySem.Str} (hh : here ∈ vs) {way : Bool} : ∃ (σ' : D) (here' : PySem.Str) (labs : List PySem.Str), Sta σ' ∧ here' ∈ vs ∧ (∀ s ∈ labs, s ∈ es.map (·.l)) ∧ labs.length ≤ 13 ∧
    Mp.run G fu (n + 3) 19 [.val (li ns), .own σ, .val (.tup (es.map ed)), .val (.str here), .val (.bl way)] = .ok (.val (.tup [.tup (labs.map .str), .str here'])) [.val (li ns), .own σ', .val (.tup (es.map ed)), .val (.str here), .val (.bl way)] := by
  obtain ⟨q, σ1, s1, b1, g1⟩ := draw_s (fu := fu) (n := n) (ns := ns) hσ (m := 13) (by decide) (by decide)
  have hI := evI_rng1 (c := CC G fu (n + 2)) (a := .cal 1 (.cons (.var 0) (.cons (.var 1) (.cons (.con (D.int (13))) .nil)))) (ρ := gρ ns σ es here way [] none none) (z := gρ ns σ1 es here way [] none none) (i := (q : Int)) (big_of (by omega)) (by simp [gρ, Bo.ap, exs, ex, ev, evs, evT, evA, evW, evO, evF, evI, exh, En.at, Out.bind, Out.then, So.then, op1, op2, opL, view, views, lift, Co.ap, bR, slD, ixD, endR, parm, modes, fz, fzs, tr1, truth, asgR, tupR, ixR, kxR, D.key, flR, fPut, agfR, augI, agxR, raiR, callR, makeR, muR, Mu.ap, Qm.apT, Qm.apL, revD, Bi.ap, Bi.cool, prep, lent, back, D.isNon, D.isAny, D.isA, bindT, srOf, turnB, muOwn, CC_call, CC_g, CC_fu, CC_hot, CC_heat, cEq_str, cEq_int, tx_beq, len_tx, add_tx, cutS_tx, tyNames, m1, g1])
  obtain ⟨ρ', e, σ2, here', labs, p6, p7, t1, t2, t3, t4, rfl⟩ := forL_inv (f := turnB (exs (CC G fu (n + 2)) G_19_b3) true [6])
    (fun j ρ => ∃ (σ' : D) (here' : PySem.Str) (labs : List PySem.Str) (p6 p7 : Option S), Sta σ' ∧ here' ∈ vs ∧ (∀ s ∈ labs, s ∈ es.map (·.l)) ∧ labs.length ≤ j ∧ ρ = gρ ns σ' es here' way labs p6 p7) (rngD 0 (q : Int)) 0 (gρ ns σ1 es here way [] none none)
    ⟨σ1, here, [], none, none, s1, hh, by simp, by simp, rfl⟩ (by
      rintro j d ρ hd ⟨σ', h', labs, p6, p7, t1, t2, t3, t4, rfl⟩
      obtain ⟨hj, rfl⟩ := rng_at hd
      obtain ⟨σ2, h2, labs2, r6, r7, u1, u2, u3, u4, u5⟩ := led_turn (fu := fu) (n := n) (ns := ns) w t1 t2 (way := way) t3 (j := j) (by omega) (by omega) p6 p7
      exact ⟨_, u5, σ2, h2, labs2, r6, r7, u1, u2, u3, by omega, rfl⟩)
  rw [rng_len] at t4
  have l2 : 2 ≤ lim := by decide
  refine ⟨σ2, here', labs, t1, t2, t3, by omega, ?_⟩
  rw [r19 rfl]
  simp [gρ] at hI e
  simp [G_19, exs, ex, ev, evs, evT, evA, evW, evO, evF, exh, En.at, Out.bind, Out.then, So.then, op1, op2, opL, view, views, lift, Co.ap, bR, slD, ixD, endR, parm, modes, fz, fzs, tr1, truth, asgR, tupR, ixR, kxR, D.key, flR, fPut, agfR, augI, agxR, raiR, callR, makeR, muR, Mu.ap, Qm.apT, Qm.apL, revD, Bi.ap, Bi.cool, prep, lent, back, D.isNon, D.isAny, D.isA, bindT, srOf, turnB, muOwn, CC_call, CC_g, CC_fu, CC_hot, CC_heat, cEq_str, cEq_int, tx_beq, len_tx, add_tx, cutS_tx, tyNames, Bo.ap, hI, e, l2]
end
end K05

namespace Mp
open L2
theorem add_tup {a b : List D} (h : a.length + b.length ≤ 1000) : Bo.ap .add (.tup a) (.tup b) = some (.val (.tup (a ++ b))) := by
  simp only [Bo.ap]
  rw [if_pos (Nat.le_trans h (by decide))]
theorem add_lst {a b : List D} (h : a.length + b.length ≤ 1000) : Bo.ap .add (.lst a) (.lst b) = some (.tmp (.lst (a ++ b))) := by
  simp only [Bo.ap]
  rw [if_pos (Nat.le_trans h (by decide))]
theorem elm_name {s : PySem.Str} (h : nmB s = true) : Elm (.str s) := .odd (nmB_odd h)
end Mp
namespace K05
open Mp L2
variable {fu n : Nat}
section
variable {ns : List Int}
theorem lab_cat2 {X Y : List D} (h1 : ∀ d ∈ X, Elm d) (h2 : ∀ d ∈ Y, Elm d) (hl : X.length + Y.length ≤ 100) : Lab (.tup (X ++ Y)) := .tup _ (fun d hd => (List.mem_append.mp hd).elim (h1 d) (h2 d)) (by rw [List.length_append]; exact hl)
theorem lab_cat3 {X Y Z : List D} (h1 : ∀ d ∈ X, Elm d) (h2 : ∀ d ∈ Y, Elm d) (h3 : ∀ d ∈ Z, Elm d) (hl : X.length + Y.length + Z.length ≤ 100) : Lab (.tup (X ++ Y ++ Z)) :=
  lab_cat2 (fun d hd => (List.mem_append.mp hd).elim (h1 d) (h2 d)) h3 (by rw [List.length_append]; exact hl)
/-- what may be put in -/
theorem spoilt_odd {l : PySem.Str} (h : nmB l = true) : ∀ d ∈ [D.non, .int 0, .bl true, .tup [.str l], .lst [.str l], .str (tx [65]), .str (tx [])], Elm d := by
  intro d hd
  simp only [List.mem_cons, List.mem_nil_iff, or_false] at hd
  rcases hd with rfl | rfl | rfl | rfl | rfl | rfl | rfl
  · exact .odd .non
  · exact .odd (.int _)
  · exact .odd (.bl _)
  · exact .odd (.tup _ (nmB_ok h))
  · exact .odd (.lst _ (nmB_ok h))
  · exact .odd (odd_str (by decide) (by decide))
  · exact .odd (odd_str (by decide) (by decide))
theorem spoilt_lab {labs : List PySem.Str} (hl : labs.length ≤ 13) (hn : ∀ s ∈ labs, nmB s = true) {l : PySem.Str} (h : nmB l = true) : ∀ d ∈ [D.lst (labs.map .str), .non, .int 5, .str l, .bl true, .str (tx []), .tup [.tup (labs.map .str)]], Lab d := by
  intro d hd
  simp only [List.mem_cons, List.mem_nil_iff, or_false] at hd
  rcases hd with rfl | rfl | rfl | rfl | rfl | rfl | rfl
  · exact .lst _ hn (by omega)
  · exact .non
  · exact .int _
  · exact .str _ (nmB_ok h) (by have := nmB_len h; omega)
  · exact .bl _
  · exact .str _ (ok_tx (by decide)) (by decide)
  · exact .tup _ (by intro d hd; rw [List.mem_singleton.mp hd]; exact .tup _ fun s hs => nmB_ok (hn s hs)) (by simp)
theorem spoilt_ok {σ : D} (hσ : Sta σ) {labs known : List PySem.Str} (hl : labs.length ≤ 13) (hn : ∀ s ∈ labs, nmB s = true) (kl : known.length ≤ 100) (kn : ∀ s ∈ known, nmB s = true) : ∃ (V σ' : D), Sta σ' ∧ Lab V ∧
    Mp.run G fu (n + 3) 18 [.val (li ns), .own σ, .val (.tup (labs.map .str)), .val (.lst (known.map .str))] = .ok (.val V) [.val (li ns), .own σ', .val (.tup (labs.map .str)), .val (.lst (known.map .str))] := by
  obtain ⟨k1, σ1, s1, b1, g1⟩ := draw_s (fu := fu) (n := n) (ns := ns) hσ (m := 10) (by decide) (by decide)
  obtain ⟨k2, σ2, s2, b2, g2⟩ := draw_s (fu := fu) (n := n) (ns := ns) s1 (m := ((labs.length : Nat) : Int) + 1) (by omega) (by omega)
  obtain ⟨k3, σ3, s3, b3, g3⟩ := draw_s (fu := fu) (n := n) (ns := ns) s2 (m := ((known.length : Nat) : Int) + 1) (by omega) (by omega)
  obtain ⟨k4, σ4, s4, b4, g4⟩ := draw_s (fu := fu) (n := n) (ns := ns) s3 (m := 7) (by decide) (by decide)
  obtain ⟨k5, σ5, s5, b5, g5⟩ := draw_s (fu := fu) (n := n) (ns := ns) s4 (m := 7) (by decide) (by decide)
  have ka : Bo.ap .add (.lst (known.map .str)) (.lst [.str (tx [122, 122, 122, 122, 122, 122, 122, 122])]) = some (.tmp (.lst (known.map .str ++ [.str (tx [122, 122, 122, 122, 122, 122, 122, 122])]))) := add_lst (by rw [List.length_map, List.length_singleton]; omega)
  obtain ⟨d, hd, e3⟩ := at_mem (l := known.map D.str ++ [.str (tx [122, 122, 122, 122, 122, 122, 122, 122])]) (q := k3) (by rw [List.length_append, List.length_map, List.length_singleton]; omega)
  obtain ⟨l, hl2, rfl⟩ : ∃ l, nmB l = true ∧ d = .str l := by
    rcases List.mem_append.mp hd with z | z
    · obtain ⟨s, hs, rfl⟩ := List.mem_map.mp z
      exact ⟨s, kn s hs, rfl⟩
    · exact ⟨_, by decide, List.mem_singleton.mp z⟩
  obtain ⟨od, hod, e4⟩ := at_mem (l := [D.non, .int 0, .bl true, .tup [.str l], .lst [.str l], .str (tx [65]), .str (tx [])]) (q := k4) (by show k4 < 7; omega)
  have ho := spoilt_odd hl2 od hod
  obtain ⟨ov, hov, e5⟩ := at_mem (l := [D.lst (labs.map .str), .non, .int 5, .str l, .bl true, .str (tx []), .tup [.tup (labs.map .str)]]) (q := k5) (by show k5 < 7; omega)
  have hv := spoilt_lab hl hn hl2 ov hov
  have xl : (labs.map D.str).length ≤ 13 := by rw [List.length_map]; exact hl
  have xe : ∀ d ∈ labs.map D.str, Elm d := fun d hd => by
    obtain ⟨s, hs, rfl⟩ := List.mem_map.mp hd
    exact elm_name (hn s hs)
  have le7 : 7 ≤ lim := by decide
  have le1 : 1 ≤ lim := by decide
  have ll : labs.length = (labs.map D.str).length := by rw [List.length_map]
  rw [ll] at g2
  generalize labs.map D.str = X at *
  generalize known.map D.str ++ [.str (tx [122, 122, 122, 122, 122, 122, 122, 122])] = Y at ka e3
  have c1 := fun lo hi => cut_len (xs := X) (lo := lo) (hi := hi)
  have c2 : ∀ lo hi, ∀ d ∈ cutD X lo hi, Elm d := fun lo hi d hd => xe d (cut_mem hd)
  have el : ∀ d ∈ [D.str l], Elm d := fun d hd => by rw [List.mem_singleton.mp hd]; exact elm_name hl2
  have eo : ∀ d ∈ [od], Elm d := fun d hd => by rw [List.mem_singleton.mp hd]; exact ho
  have p1 : ∀ (lo hi : Option Int) (d : D), Bo.ap .add (.tup (cutD X lo hi)) (.tup [d]) = some (.val (.tup (cutD X lo hi ++ [d]))) := fun lo hi d => by
    have := c1 lo hi
    exact add_tup (by simp; omega)
  have p3 : ∀ (lo hi lo2 hi2 : Option Int) (d : D), Bo.ap .add (.tup (cutD X lo hi ++ [d])) (.tup (cutD X lo2 hi2)) = some (.val (.tup (cutD X lo hi ++ [d] ++ cutD X lo2 hi2))) := fun lo hi lo2 hi2 d => by
    have := c1 lo hi
    have := c1 lo2 hi2
    exact add_tup (by simp; omega)
  have p2 : ∀ (lo hi lo2 hi2 : Option Int), Bo.ap .add (.tup (cutD X lo hi)) (.tup (cutD X lo2 hi2)) = some (.val (.tup (cutD X lo hi ++ cutD X lo2 hi2))) := fun lo hi lo2 hi2 => by
    have := c1 lo hi
    have := c1 lo2 hi2
    exact add_tup (by omega)
  have p4 : ∀ (lo hi lo2 hi2 lo3 hi3 : Option Int), Bo.ap .add (.tup (cutD X lo hi ++ cutD X lo2 hi2)) (.tup (cutD X lo3 hi3)) = some (.val (.tup (cutD X lo hi ++ cutD X lo2 hi2 ++ cutD X lo3 hi3))) := fun lo hi lo2 hi2 lo3 hi3 => by
    have := c1 lo hi
    have := c1 lo2 hi2
    have := c1 lo3 hi3
    exact add_tup (by rw [List.length_append]; omega)
  have px : Bo.ap .add (.tup X) (.tup X) = some (.val (.tup (X ++ X))) := add_tup (by omega)
  have lab3 : ∀ (lo hi lo2 hi2 : Option Int) (d : D), Elm d → Lab (.tup (cutD X lo hi ++ [d] ++ cutD X lo2 hi2)) := fun lo hi lo2 hi2 d h => by
    have := c1 lo hi
    have := c1 lo2 hi2
    exact lab_cat3 (c2 _ _) (fun x hx => by rw [List.mem_singleton.mp hx]; exact h) (c2 _ _) (by rw [List.length_singleton]; omega)
  have n1 : Mp.run G fu (n + 3) 18 [.val (li ns), .own σ, .val (.tup X), .val (.lst (known.map .str))] = Mp.run G fu (n + 3) 18 [.val (li ns), .own σ, .val (.tup X), .val (.lst (known.map .str))] := rfl
  have cs : k1 = 0 ∨ k1 = 1 ∨ k1 = 2 ∨ k1 = 3 ∨ k1 = 4 ∨ k1 = 5 ∨ k1 = 6 ∨ k1 = 7 ∨ (8 ≤ k1) := by omega
  rw [r18 rfl]
  rcases cs with rfl | rfl | rfl | rfl | rfl | rfl | rfl | rfl | h8
  · refine ⟨.tup (cutD X none (some (k2 : Int)) ++ [.str l] ++ cutD X (some ((k2 : Int) + 0)) none), σ3, s3, lab3 _ _ _ _ _ (elm_name hl2), ?_⟩
    simp [-List.append_assoc, G_18, exs, ex, ev, evs, evT, evA, evW, evO, evF, evI, exh, En.at, Out.bind, Out.then, So.then, op1, op2, opL, view, views, lift, Co.ap, bR, slD, ixD, endR, parm, modes, fz, fzs, tr1, truth, asgR, tupR, ixR, kxR, D.key, flR, fPut, agfR, augI, agxR, raiR, callR, makeR, muR, Mu.ap, Qm.apT, Qm.apL, revD, Bi.ap, Bi.cool, prep, lent, back, D.isNon, D.isAny, D.isA, bindT, srOf, turnB, muOwn, CC_call, CC_g, CC_fu, CC_hot, CC_heat, cEq_str, cEq_int, tx_beq, len_tx, add_tx, cutS_tx, tyNames, m1, bo_int, g1, g2, g3, ka, e3, p1, p3, p2, p4, le1]
  · refine ⟨.tup (cutD X none (some (k2 : Int)) ++ [.str l] ++ cutD X (some ((k2 : Int) + 1)) none), σ3, s3, lab3 _ _ _ _ _ (elm_name hl2), ?_⟩
    simp [-List.append_assoc, G_18, exs, ex, ev, evs, evT, evA, evW, evO, evF, evI, exh, En.at, Out.bind, Out.then, So.then, op1, op2, opL, view, views, lift, Co.ap, bR, slD, ixD, endR, parm, modes, fz, fzs, tr1, truth, asgR, tupR, ixR, kxR, D.key, flR, fPut, agfR, augI, agxR, raiR, callR, makeR, muR, Mu.ap, Qm.apT, Qm.apL, revD, Bi.ap, Bi.cool, prep, lent, back, D.isNon, D.isAny, D.isA, bindT, srOf, turnB, muOwn, CC_call, CC_g, CC_fu, CC_hot, CC_heat, cEq_str, cEq_int, tx_beq, len_tx, add_tx, cutS_tx, tyNames, m1, bo_int, g1, g2, g3, ka, e3, p1, p3, p2, p4, le1]
  · refine ⟨.tup (cutD X none (some (k2 : Int)) ++ cutD X (some ((k2 : Int) + 1)) none), σ3, s3, lab_cat2 (c2 _ _) (c2 _ _) (by have := c1 none (some (k2 : Int)); have := c1 (some ((k2 : Int) + 1)) none; omega), ?_⟩
    simp [-List.append_assoc, G_18, exs, ex, ev, evs, evT, evA, evW, evO, evF, evI, exh, En.at, Out.bind, Out.then, So.then, op1, op2, opL, view, views, lift, Co.ap, bR, slD, ixD, endR, parm, modes, fz, fzs, tr1, truth, asgR, tupR, ixR, kxR, D.key, flR, fPut, agfR, augI, agxR, raiR, callR, makeR, muR, Mu.ap, Qm.apT, Qm.apL, revD, Bi.ap, Bi.cool, prep, lent, back, D.isNon, D.isAny, D.isA, bindT, srOf, turnB, muOwn, CC_call, CC_g, CC_fu, CC_hot, CC_heat, cEq_str, cEq_int, tx_beq, len_tx, add_tx, cutS_tx, tyNames, m1, bo_int, g1, g2, g3, ka, e3, p1, p3, p2, p4, le1]
  · refine ⟨.tup (cutD X none (some (k2 : Int)) ++ cutD X (some (k2 : Int)) (some ((k2 : Int) + 1)) ++ cutD X (some (k2 : Int)) none), σ3, s3, lab_cat3 (c2 _ _) (c2 _ _) (c2 _ _) (by have := c1 none (some (k2 : Int)); have := c1 (some (k2 : Int)) (some ((k2 : Int) + 1)); have := c1 (some (k2 : Int)) none; omega), ?_⟩
    simp [-List.append_assoc, G_18, exs, ex, ev, evs, evT, evA, evW, evO, evF, evI, exh, En.at, Out.bind, Out.then, So.then, op1, op2, opL, view, views, lift, Co.ap, bR, slD, ixD, endR, parm, modes, fz, fzs, tr1, truth, asgR, tupR, ixR, kxR, D.key, flR, fPut, agfR, augI, agxR, raiR, callR, makeR, muR, Mu.ap, Qm.apT, Qm.apL, revD, Bi.ap, Bi.cool, prep, lent, back, D.isNon, D.isAny, D.isA, bindT, srOf, turnB, muOwn, CC_call, CC_g, CC_fu, CC_hot, CC_heat, cEq_str, cEq_int, tx_beq, len_tx, add_tx, cutS_tx, tyNames, m1, bo_int, g1, g2, g3, ka, e3, p1, p3, p2, p4, le1]
  · refine ⟨.tup X.reverse, σ3, s3, .tup _ (fun d hd => xe d (List.mem_reverse.mp hd)) (by rw [List.length_reverse]; omega), ?_⟩
    simp [-List.append_assoc, G_18, exs, ex, ev, evs, evT, evA, evW, evO, evF, evI, exh, En.at, Out.bind, Out.then, So.then, op1, op2, opL, view, views, lift, Co.ap, bR, slD, ixD, endR, parm, modes, fz, fzs, tr1, truth, asgR, tupR, ixR, kxR, D.key, flR, fPut, agfR, augI, agxR, raiR, callR, makeR, muR, Mu.ap, Qm.apT, Qm.apL, revD, Bi.ap, Bi.cool, prep, lent, back, D.isNon, D.isAny, D.isA, bindT, srOf, turnB, muOwn, CC_call, CC_g, CC_fu, CC_hot, CC_heat, cEq_str, cEq_int, tx_beq, len_tx, add_tx, cutS_tx, tyNames, m1, bo_int, g1, g2, g3, ka, e3, le1]
  · refine ⟨.tup (X ++ X), σ3, s3, lab_cat2 xe xe (by omega), ?_⟩
    simp [-List.append_assoc, G_18, exs, ex, ev, evs, evT, evA, evW, evO, evF, evI, exh, En.at, Out.bind, Out.then, So.then, op1, op2, opL, view, views, lift, Co.ap, bR, slD, ixD, endR, parm, modes, fz, fzs, tr1, truth, asgR, tupR, ixR, kxR, D.key, flR, fPut, agfR, augI, agxR, raiR, callR, makeR, muR, Mu.ap, Qm.apT, Qm.apL, revD, Bi.ap, Bi.cool, prep, lent, back, D.isNon, D.isAny, D.isA, bindT, srOf, turnB, muOwn, CC_call, CC_g, CC_fu, CC_hot, CC_heat, cEq_str, cEq_int, tx_beq, len_tx, add_tx, cutS_tx, tyNames, m1, bo_int, g1, g2, g3, ka, e3, px, le1]
  · refine ⟨.tup (cutD X none (some (k2 : Int)) ++ [od] ++ cutD X (some (k2 : Int)) none), σ4, s4, lab3 _ _ _ _ _ ho, ?_⟩
    simp [-List.append_assoc, G_18, exs, ex, ev, evs, evT, evA, evW, evO, evF, evI, exh, En.at, Out.bind, Out.then, So.then, op1, op2, opL, view, views, lift, Co.ap, bR, slD, ixD, endR, parm, modes, fz, fzs, tr1, truth, asgR, tupR, ixR, kxR, D.key, flR, fPut, agfR, augI, agxR, raiR, callR, makeR, muR, Mu.ap, Qm.apT, Qm.apL, revD, Bi.ap, Bi.cool, prep, lent, back, D.isNon, D.isAny, D.isA, bindT, srOf, turnB, muOwn, CC_call, CC_g, CC_fu, CC_hot, CC_heat, cEq_str, cEq_int, tx_beq, len_tx, add_tx, cutS_tx, tyNames, m1, bo_int, g1, g2, g3, g4, ka, e3, e4, p1, p3, p2, p4, le1, le7]
  · refine ⟨ov, σ5, s5, hv, ?_⟩
    simp [-List.append_assoc, G_18, exs, ex, ev, evs, evT, evA, evW, evO, evF, evI, exh, En.at, Out.bind, Out.then, So.then, op1, op2, opL, view, views, lift, Co.ap, bR, slD, ixD, endR, parm, modes, fz, fzs, tr1, truth, asgR, tupR, ixR, kxR, D.key, flR, fPut, agfR, augI, agxR, raiR, callR, makeR, muR, Mu.ap, Qm.apT, Qm.apL, revD, Bi.ap, Bi.cool, prep, lent, back, D.isNon, D.isAny, D.isA, bindT, srOf, turnB, muOwn, CC_call, CC_g, CC_fu, CC_hot, CC_heat, cEq_str, cEq_int, tx_beq, len_tx, add_tx, cutS_tx, tyNames, m1, bo_int, g1, g2, g3, g4, g5, ka, e3, e4, e5, le1, le7]
  · refine ⟨.tup X, σ4, s4, .tup _ xe (by omega), ?_⟩
    have q1 : ¬ (k1 : Int) < 2 := by omega
    have q2 : ¬ (k1 : Int) = 2 := by omega
    have q3 : ¬ (k1 : Int) = 3 := by omega
    have q4 : ¬ (k1 : Int) = 4 := by omega
    have q5 : ¬ (k1 : Int) = 5 := by omega
    have q6 : ¬ (k1 : Int) = 6 := by omega
    have q7 : ¬ (k1 : Int) = 7 := by omega
    simp [-List.append_assoc, G_18, exs, ex, ev, evs, evT, evA, evW, evO, evF, evI, exh, En.at, Out.bind, Out.then, So.then, op1, op2, opL, view, views, lift, Co.ap, bR, slD, ixD, endR, parm, modes, fz, fzs, tr1, truth, asgR, tupR, ixR, kxR, D.key, flR, fPut, agfR, augI, agxR, raiR, callR, makeR, muR, Mu.ap, Qm.apT, Qm.apL, revD, Bi.ap, Bi.cool, prep, lent, back, D.isNon, D.isAny, D.isA, bindT, srOf, turnB, muOwn, CC_call, CC_g, CC_fu, CC_hot, CC_heat, cEq_str, cEq_int, tx_beq, len_tx, add_tx, cutS_tx, tyNames, m1, bo_int, g1, g2, g3, g4, ka, e3, e4, le1, le7, q1, q2, q3, q4, q5, q6, q7]
end
end K05

namespace Mp
open L2
theorem exs_nx {c : Cc} {s : St} {l : Sts} {ρ ρ' : En} (h : ex c s ρ = .nx ρ') : exs c (.cons s l) ρ = exs c l ρ' := by simp only [exs, h, So.then]
theorem dynL_inv {f : D → En → So} {i : Nat} {l : List D} (P : Nat → En → Prop) (hP : ∀ k ρ, P k ρ → ρ.at i = some (.own (.lst l))) (st : ∀ j d ρ, l[j]? = some d → P j ρ → ∃ ρ', f d ρ = .nx ρ' ∧ P (j + 1) ρ') :
    ∀ (m k fu : Nat) (ρ : En), k + m = l.length → m < fu → P k ρ → ∃ ρ', dynL f i fu k ρ = .nx ρ' ∧ P l.length ρ'
  | _, k, 0, ρ, _, h, _ => by omega
  | 0, k, fu + 1, ρ, e, _, p => by
    have hk : k = l.length := by omega
    have v : view ρ (.brw i) = some (.lst l) := by simp only [view, hP k ρ p]
    subst hk
    refine ⟨ρ, ?_, p⟩
    simp only [dynL, v, List.getElem?_eq_none (Nat.le_refl _)]
  | m + 1, k, fu + 1, ρ, e, h, p => by
    have hk : k < l.length := by omega
    have v : view ρ (.brw i) = some (.lst l) := by simp only [view, hP k ρ p]
    obtain ⟨ρ1, e1, p1⟩ := st k l[k] ρ (List.getElem?_eq_getElem hk) p
    obtain ⟨ρ2, e2, p2⟩ := dynL_inv P hP st m (k + 1) fu ρ1 (by omega) (by omega) p1
    refine ⟨ρ2, ?_, p2⟩
    simp only [dynL, v, List.getElem?_eq_getElem hk, e1, e2]
theorem mem_get {α : Type} {l : List α} {j : Nat} {a : α} (h : l[j]? = some a) : a ∈ l := List.mem_of_getElem? h
theorem evI_c {c : Cc} {m : Nat} (h : m ≤ 1000) (ρ : En) : evI c (.rng1 (.con (D.int ((m : Nat) : Int)))) ρ = .ok (.fix (rngD 0 ((m : Nat) : Int))) ρ := evI_rng1s (big_of (by omega)) (by simp [exs, ex, ev, evs, evT, evA, evW, evO, evF, evI, exh, En.at, Out.bind, Out.then, So.then, op1, op2, opL, view, views, lift, Co.ap, bR, slD, ixD, endR, parm, modes, fz, fzs, tr1, truth, asgR, tupR, ixR, kxR, D.key, flR, fPut, agfR, augI, agxR, raiR, callR, makeR, muR, Mu.ap, Qm.apT, Qm.apL, revD, Bi.ap, Bi.cool, prep, lent, back, D.isNon, D.isAny, D.isA, bindT, srOf, turnB, muOwn, CC_call, CC_g, CC_fu, CC_hot, CC_heat, cEq_str, cEq_int, tx_beq, len_tx, add_tx, cutS_tx, tyNames])
/-- the texts among members -/
def isStrD : D → Bool
  | .str _ => true
  | _ => false
def strsOf : List D → List PySem.Str
  | [] => []
  | .str s :: l => s :: strsOf l
  | _ :: l => strsOf l
theorem strsOf_map : ∀ (l : List D), (l.filter isStrD).map id = (strsOf l).map .str
  | [] => rfl
  | d :: l => by
    have ih := strsOf_map l
    rw [List.map_id] at ih ⊢
    cases d <;> simp [strsOf, List.filter_cons, isStrD, ih]
theorem strsOf_mem : ∀ {l : List D} {s : PySem.Str}, s ∈ strsOf l → D.str s ∈ l
  | d :: l, s, h => by
    cases d with
    | str x =>
      simp only [strsOf, List.mem_cons] at h ⊢
      exact h.imp (fun z => by rw [z]) strsOf_mem
    | _ => simp only [strsOf] at h; exact List.mem_cons_of_mem _ (strsOf_mem h)
theorem strsOf_len : ∀ (l : List D), (strsOf l).length ≤ l.length
  | [] => Nat.le_refl _
  | d :: l => by
    have := strsOf_len l
    cases d <;> simp only [strsOf, List.length_cons] <;> omega
theorem elm_str {s : PySem.Str} (h : Elm (.str s)) : okS s ∧ s.length ≤ 1000 := by
  cases h with
  | odd h => cases h with | str s h k => exact ⟨k, h⟩
end Mp
namespace K05
open Mp L2
variable {fu n : Nat}
section
variable {ns : List Int} {vs : List PySem.Str} {es : List Edge}
/-- the law's slots -/
abbrev Lρ (ns : List Int) (σ : D) (o2 o3 : Option S) (vs : List PySem.Str) (es : List Edge) (x4 x7 x8 x9 x10 x11 x12 x13 x14 x15 x16 x17 x18 x19 : Option S) : En :=
  [some (.val (li ns)), some (.own σ), o2, o3, x4, some (.val (.tup (vs.map .str))), some (.val (.tup (es.map ed))), x7, x8, x9, x10, x11, x12, x13, x14, x15, x16, x17, x18, x19]
def OG (vs : List PySem.Str) (es : List Edge) (o : Option S) : Prop := o = some (.own (gD vs es)) ∨ o = some (.val (gD vs es))
def OK3 (known : List PySem.Str) (o : Option S) : Prop := o = some (.own (.lst (known.map .str))) ∨ o = some (.val (.lst (known.map .str)))
section
variable {σ : D} {o2 o3 x4 x7 x8 x9 x10 x11 x12 x13 x14 x15 x16 x17 x18 x19 : Option S}
theorem b4_ok (w : WF vs es) {s t : PySem.Str} (hs : s ∈ vs) (ht : t ∈ vs) {V : D} (hV : Lab V) (h2 : OG vs es o2) :
    turnB (exs (CC G fu (n + 20)) G_0_b4) true [16] (.str t) (Lρ ns σ o2 o3 vs es x4 (some (.val (.str s))) x8 (some (.val V)) x10 x11 x12 x13 x14 x15 x16 x17 x18 x19) =
      .nx (Lρ ns σ (some (.val (gD vs es))) o3 vs es x4 (some (.val (.str s))) x8 (some (.val V)) x10 x11 x12 x13 x14 x15 (some (.val (.str t))) (some (.val (ansD (ledD es s t true V)))) (some (.val (ansD (ledD es s t false V)))) x19) := by
  have a1 := asked_w (fu := fu) (n := n + 15) w hs ht hV (k := 0) (dir := true) (.inl ⟨.inl rfl, rfl⟩)
  have a2 := asked_w (fu := fu) (n := n + 15) w hs ht hV (k := 1) (dir := false) (.inr ⟨.inl rfl, rfl⟩)
  have b1 := leads_ok (fu := fu) (n := n + 18) w hs ht hV true
  have b2 := leads_ok (fu := fu) (n := n + 18) w hs ht hV false
  have c1 := alike_ok (fu := fu) (n := n + 11) 9 _ (alk_ans (b := ledD es s t true V))
  have c2 := alike_ok (fu := fu) (n := n + 11) 9 _ (alk_ans (b := ledD es s t false V))
  have l2 : 2 ≤ lim := by decide
  generalize ledD es s t true V = r1 at *
  generalize ledD es s t false V = r2 at *
  simp only [Int.cast_ofNat_Int] at a1 a2
  rcases h2 with rfl | rfl
  · simp [-List.map_map, Lρ, G_0_b4, Bo.ap, exs, ex, ev, evs, evT, evA, evW, evO, evF, evI, exh, En.at, Out.bind, Out.then, So.then, op1, op2, opL, view, views, lift, Co.ap, bR, slD, ixD, endR, parm, modes, fz, fzs, tr1, truth, asgR, tupR, ixR, kxR, D.key, flR, fPut, agfR, augI, agxR, raiR, callR, makeR, muR, Mu.ap, Qm.apT, Qm.apL, revD, Bi.ap, Bi.cool, prep, lent, back, D.isNon, D.isAny, D.isA, bindT, srOf, turnB, muOwn, CC_call, CC_g, CC_fu, CC_hot, CC_heat, cEq_str, cEq_int, tx_beq, len_tx, add_tx, cutS_tx, tyNames, m14, m3, m16, b1, b2, a1, a2, c1, c2, l2]
  · simp [-List.map_map, Lρ, G_0_b4, Bo.ap, exs, ex, ev, evs, evT, evA, evW, evO, evF, evI, exh, En.at, Out.bind, Out.then, So.then, op1, op2, opL, view, views, lift, Co.ap, bR, slD, ixD, endR, parm, modes, fz, fzs, tr1, truth, asgR, tupR, ixR, kxR, D.key, flR, fPut, agfR, augI, agxR, raiR, callR, makeR, muR, Mu.ap, Qm.apT, Qm.apL, revD, Bi.ap, Bi.cool, prep, lent, back, D.isNon, D.isAny, D.isA, bindT, srOf, turnB, muOwn, CC_call, CC_g, CC_fu, CC_hot, CC_heat, cEq_str, cEq_int, tx_beq, len_tx, add_tx, cutS_tx, tyNames, m14, m3, m16, b1, b2, a1, a2, c1, c2, l2]
theorem b5_ok (w : WF vs es) {s t : PySem.Str} (hs : s ∈ vs) (ht : t ∈ vs) {V : D} (hV : Lab V) (h2 : OG vs es o2) (hσ : Sta σ) :
    ∃ (σ' : D) (p2 p16 p17 p18 : Option S), Sta σ' ∧ OG vs es p2 ∧ turnB (exs (CC G fu (n + 20)) G_0_b5) true [9] V (Lρ ns σ o2 o3 vs es x4 (some (.val (.str s))) x8 x9 x10 x11 x12 x13 x14 (some (.val (.str t))) x16 x17 x18 x19) =
      .nx (Lρ ns σ' p2 o3 vs es x4 (some (.val (.str s))) x8 (some (.val V)) x10 x11 x12 x13 x14 (some (.val (.str t))) p16 p17 p18 x19) := by
  have v0 : 0 < vs.length := List.length_pos_of_mem hs
  have nv := w.nv
  obtain ⟨q, σ1, s1, b1, g1⟩ := draw_s (fu := fu) (n := n + 18) (ns := ns) hσ (m := ((vs.length : Nat) : Int)) (by omega) (by omega)
  have e1 := at_strs (l := vs) (j := q) (by omega)
  have ht2 : vs[q]'(by omega) ∈ vs := List.getElem_mem _
  generalize vs[q]'(by omega) = t2 at e1 ht2
  have l2 : 2 ≤ lim := by decide
  have hI : evI (CC G fu (n + 20)) (.one (.lst (.cons (.var 15) (.cons (.ix (.var 5) (.cal 1 (.cons (.var 0) (.cons (.var 1) (.cons (.bi .len (.cons (.var 5) .nil)) .nil))))) .nil)))) (Lρ ns σ o2 o3 vs es x4 (some (.val (.str s))) x8 (some (.val V)) x10 x11 x12 x13 x14 (some (.val (.str t))) x16 x17 x18 x19) =
      .ok (.fix [.str t, .str t2]) (Lρ ns σ1 o2 o3 vs es x4 (some (.val (.str s))) x8 (some (.val V)) x10 x11 x12 x13 x14 (some (.val (.str t))) x16 x17 x18 x19) := by
    simp [Lρ, Bo.ap, exs, ex, ev, evs, evT, evA, evW, evO, evF, evI, exh, En.at, Out.bind, Out.then, So.then, op1, op2, opL, view, views, lift, Co.ap, bR, slD, ixD, endR, parm, modes, fz, fzs, tr1, truth, asgR, tupR, ixR, kxR, D.key, flR, fPut, agfR, augI, agxR, raiR, callR, makeR, muR, Mu.ap, Qm.apT, Qm.apL, revD, Bi.ap, Bi.cool, prep, lent, back, D.isNon, D.isAny, D.isA, bindT, srOf, turnB, muOwn, CC_call, CC_g, CC_fu, CC_hot, CC_heat, cEq_str, cEq_int, tx_beq, len_tx, add_tx, cutS_tx, tyNames, m1, g1, e1, l2]
  have f1 := b4_ok (fu := fu) (n := n) (ns := ns) (σ := σ1) (o3 := o3) (x4 := x4) (x8 := x8) (x10 := x10) (x11 := x11) (x12 := x12) (x13 := x13) (x14 := x14) (x15 := some (.val (.str t))) (x16 := x16) (x17 := x17) (x18 := x18) (x19 := x19) w hs ht hV h2
  have f2 := b4_ok (fu := fu) (n := n) (ns := ns) (σ := σ1) (o2 := some (.val (gD vs es))) (o3 := o3) (x4 := x4) (x8 := x8) (x10 := x10) (x11 := x11) (x12 := x12) (x13 := x13) (x14 := x14) (x15 := some (.val (.str t))) (x16 := some (.val (.str t))) (x17 := some (.val (ansD (ledD es s t true V)))) (x18 := some (.val (ansD (ledD es s t false V)))) (x19 := x19) w hs ht2 hV (.inr rfl)
  refine ⟨σ1, some (.val (gD vs es)), some (.val (.str t2)), some (.val (ansD (ledD es s t2 true V))), some (.val (ansD (ledD es s t2 false V))), s1, .inr rfl, ?_⟩
  simp only [turnB, bindT, if_true]
  refine (exs_nx (ρ' := Lρ ns σ1 (some (.val (gD vs es))) o3 vs es x4 (some (.val (.str s))) x8 (some (.val V)) x10 x11 x12 x13 x14 (some (.val (.str t))) (some (.val (.str t2))) (some (.val (ansD (ledD es s t2 true V)))) (some (.val (ansD (ledD es s t2 false V)))) x19) ?_).trans ?_
  · show (if (CC G fu (n + 20)).hot = true then So.bad else (evI (CC G fu (n + 20)) (.one (.lst (.cons (.var 15) (.cons (.ix (.var 5) (.cal 1 (.cons (.var 0) (.cons (.var 1) (.cons (.bi .len (.cons (.var 5) .nil)) .nil))))) .nil)))) (Lρ ns σ o2 o3 vs es x4 (some (.val (.str s))) x8 (some (.val V)) x10 x11 x12 x13 x14 (some (.val (.str t))) x16 x17 x18 x19)).then fun s ρ => _) = _
    rw [if_neg (by rw [CC_hot]; decide), hI]
    simp only [Out.then, forL]
    rw [f1]
    simp only
    rw [f2]
  · rfl
end
end
end K05

namespace K05
open Mp L2
variable {fu n : Nat}
section
variable {ns : List Int} {vs : List PySem.Str} {es : List Edge}
section
variable {σ : D} {o2 o3 x4 x7 x8 x9 x10 x11 x12 x13 x14 x15 x16 x17 x18 x19 : Option S}
theorem y_s {s : PySem.Str} {q : Nat} (h : q < 2) : ∃ t, atD [.str (tx [89]), .str s] (q : Int) = some (.str t) := by
  have : q = 0 ∨ q = 1 := by omega
  rcases this with rfl | rfl
  · exact ⟨_, rfl⟩
  · exact ⟨_, rfl⟩
/-- what is no node is asked -/
theorem b0_ok (w : WF vs es) {s : PySem.Str} (hs : s ∈ vs) {L V V2 od : D} (ho : Odd od) (hn : inSd od vs = false) {k : Nat} (hk : k < 2) (h2 : OG vs es o2) (hσ : Sta σ) :
    ∃ (σ' : D) (p2 : Option S), Sta σ' ∧ OG vs es p2 ∧ turnB (exs (CC G fu (n + 20)) G_0_b0) true [12] (.int (k : Int)) (Lρ ns σ o2 o3 vs es x4 (some (.val (.str s))) (some (.own (.lst [L, V, V2]))) x9 x10 (some (.val od)) x12 x13 (some (.val L)) x15 x16 x17 x18 x19) =
      .nx (Lρ ns σ' p2 o3 vs es x4 (some (.val (.str s))) (some (.own (.lst [L, V, V2]))) x9 x10 (some (.val od)) (some (.val (.int (k : Int)))) x13 (some (.val L)) x15 x16 x17 x18 x19) := by
  obtain ⟨q, σ1, s1, b1, g1⟩ := draw_s (fu := fu) (n := n + 18) (ns := ns) hσ (m := 2) (by decide) (by decide)
  obtain ⟨t, e1⟩ := y_s (s := s) (q := q) (by omega)
  have a1 := asked_n1 (fu := fu) (n := n + 15) (t := .str t) (L := L) w ho hn hk
  have a2 := asked_n2 (fu := fu) (n := n + 15) (L := V) w hs ho hn hk
  have c1 := alike_ok (fu := fu) (n := n + 11) 9 _ (alk_node ho)
  have l2 : 2 ≤ lim := by decide
  have e2 : atD [L, V, V2] 1 = some V := rfl
  refine ⟨σ1, some (.val (gD vs es)), s1, .inr rfl, ?_⟩
  rcases h2 with rfl | rfl
  · simp [-List.map_map, Lρ, G_0_b0, Bo.ap, exs, ex, ev, evs, evT, evA, evW, evO, evF, evI, exh, En.at, Out.bind, Out.then, So.then, op1, op2, opL, view, views, lift, Co.ap, bR, slD, ixD, endR, parm, modes, fz, fzs, tr1, truth, asgR, tupR, ixR, kxR, D.key, flR, fPut, agfR, augI, agxR, raiR, callR, makeR, muR, Mu.ap, Qm.apT, Qm.apL, revD, Bi.ap, Bi.cool, prep, lent, back, D.isNon, D.isAny, D.isA, bindT, srOf, turnB, muOwn, CC_call, CC_g, CC_fu, CC_hot, CC_heat, cEq_str, cEq_int, tx_beq, len_tx, add_tx, cutS_tx, tyNames, m1, m3, m16, g1, e1, a1, a2, c1, l2, e2]
  · simp [-List.map_map, Lρ, G_0_b0, Bo.ap, exs, ex, ev, evs, evT, evA, evW, evO, evF, evI, exh, En.at, Out.bind, Out.then, So.then, op1, op2, opL, view, views, lift, Co.ap, bR, slD, ixD, endR, parm, modes, fz, fzs, tr1, truth, asgR, tupR, ixR, kxR, D.key, flR, fPut, agfR, augI, agxR, raiR, callR, makeR, muR, Mu.ap, Qm.apT, Qm.apL, revD, Bi.ap, Bi.cool, prep, lent, back, D.isNon, D.isAny, D.isA, bindT, srOf, turnB, muOwn, CC_call, CC_g, CC_fu, CC_hot, CC_heat, cEq_str, cEq_int, tx_beq, len_tx, add_tx, cutS_tx, tyNames, m1, m3, m16, g1, e1, a1, a2, c1, l2, e2]
theorem z_no {vs : List PySem.Str} (h : ∀ s ∈ vs, nmB s = true) : inSd (.str (tx [90])) vs = false := by
  simp only [inSd, decide_eq_false_iff_not]
  intro hm
  have := h _ hm
  revert this
  decide
theorem odd5 : ∀ d ∈ [D.str (tx [122, 122, 122, 122, 122, 122, 122, 122]), .str (tx []), .int 5, .non, .lst [.str (tx [97])]], Odd d := by
  intro d hd
  simp only [List.mem_cons, List.mem_nil_iff, or_false] at hd
  rcases hd with rfl | rfl | rfl | rfl | rfl
  · exact odd_str (by decide) (by decide)
  · exact odd_str (by decide) (by decide)
  · exact .int _
  · exact .non
  · exact .lst _ (ok_tx (by decide))
/-- the texts of the second value -/
theorem row_lc {l : List D} (h : ∀ d ∈ l, Elm d) (hl : l.length ≤ 100) {L V2 : D} : ev (CC G fu n) G_0_l3 (Lρ ns σ o2 o3 vs es x4 x7 (some (.own (.lst [L, .tup l, V2]))) x9 x10 x11 x12 x13 x14 x15 x16 x17 x18 none) =
    .ok (.tmp (.lst ((strsOf l).map .str))) (Lρ ns σ o2 o3 vs es x4 x7 (some (.own (.lst [L, .tup l, V2]))) x9 x10 x11 x12 x13 x14 x15 x16 x17 x18 none) := by
  have e2 : atD [L, .tup l, V2] 1 = some (.tup l) := rfl
  have k := lc_okF (c := CC G fu n) (e := G_0_e2) (t := G_0_i1) (i := 19) (x := "_law_label") (it := .one (.ix (.var 8) (.con (D.int (1))))) (ρ := Lρ ns σ o2 o3 vs es x4 x7 (some (.own (.lst [L, .tup l, V2]))) x9 x10 x11 x12 x13 x14 x15 x16 x17 x18 none) (l := l)
    isStrD id rfl (by simp [Lρ]) (by simp [-List.map_map, Lρ, Bo.ap, exs, ex, ev, evs, evT, evA, evW, evO, evF, evI, exh, En.at, Out.bind, Out.then, So.then, op1, op2, opL, view, views, lift, Co.ap, bR, slD, ixD, endR, parm, modes, fz, fzs, tr1, truth, asgR, tupR, ixR, kxR, D.key, flR, fPut, agfR, augI, agxR, raiR, callR, makeR, muR, Mu.ap, Qm.apT, Qm.apL, revD, Bi.ap, Bi.cool, prep, lent, back, D.isNon, D.isAny, D.isA, bindT, srOf, turnB, muOwn, CC_call, CC_g, CC_fu, CC_hot, CC_heat, cEq_str, cEq_int, tx_beq, len_tx, add_tx, cutS_tx, tyNames, e2]) (by
    intro d hd
    have ia := isA_str (cls := G.cls) (h d hd)
    have ia2 : D.isAny G.cls d [.b "str"] = some (isStrD d) := by
      simp only [D.isAny, ia]
      cases d <;> rfl
    simp [Lρ, G_0_i1, ev, evs, evT, En.at, Out.bind, op1, view, lift, tr1, truth, CC_g, ia2]) (by
    intro d hd _
    simp [Lρ, G_0_e2, Bo.ap, exs, ex, ev, evs, evT, evA, evW, evO, evF, evI, exh, En.at, Out.bind, Out.then, So.then, op1, op2, opL, view, views, lift, Co.ap, bR, slD, ixD, endR, parm, modes, fz, fzs, tr1, truth, asgR, tupR, ixR, kxR, D.key, flR, fPut, agfR, augI, agxR, raiR, callR, makeR, muR, Mu.ap, Qm.apT, Qm.apL, revD, Bi.ap, Bi.cool, prep, lent, back, D.isNon, D.isAny, D.isA, bindT, srOf, turnB, muOwn, CC_call, CC_g, CC_fu, CC_hot, CC_heat, cEq_str, cEq_int, tx_beq, len_tx, add_tx, cutS_tx, tyNames]) (Nat.le_trans hl (by decide))
  rw [strsOf_map] at k
  exact k
end
end
end K05

namespace K05
open Mp L2
variable {fu n : Nat}
section
variable {ns : List Int} {vs known : List PySem.Str} {es : List Edge}
def LI (ns : List Int) (known vs : List PySem.Str) (es : List Edge) (ρ : En) : Prop := ∃ (σ : D) (o2 o3 x4 x7 x8 x9 x10 x11 x12 x13 x14 x15 x16 x17 x18 : Option S), Sta σ ∧ OG vs es o2 ∧ OK3 known o3 ∧ ρ = Lρ ns σ o2 o3 vs es x4 x7 x8 x9 x10 x11 x12 x13 x14 x15 x16 x17 x18 none
theorem b6_ok (w : WF vs es) (v0 : 0 < vs.length) (hk : ∀ s ∈ known, nmB s = true) (kl : known.length ≤ 100) {j : Nat} {ρ : En} (h : LI ns known vs es ρ) :
    ∃ ρ', turnB (exs (CC G 1000 (n + 20)) G_0_b6) true [4] (.int (j : Int)) ρ = .nx ρ' ∧ LI ns known vs es ρ' := by
  obtain ⟨σ, o2, o3, x4, x7, x8, x9, x10, x11, x12, x13, x14, x15, x16, x17, x18, hσ, h2, h3, rfl⟩ := h
  have nv := w.nv
  have l1 : 1 ≤ lim := by decide
  have l2 : 2 ≤ lim := by decide
  have l3 : 3 ≤ lim := by decide
  have l5 : 5 ≤ lim := by decide
  -- s
  obtain ⟨q1, σ1, s1, b1, g1⟩ := draw_s (fu := 1000) (n := n + 18) (ns := ns) hσ (m := ((vs.length : Nat) : Int)) (by omega) (by omega)
  have e1 := at_strs (l := vs) (j := q1) (by omega)
  have hs : vs[q1]'(by omega) ∈ vs := List.getElem_mem _
  generalize vs[q1]'(by omega) = s at e1 hs
  -- labels
  have em : Bo.ap .mod (.int (j : Int)) (.int 2) = some (.val (.int ((j : Int).fmod 2))) := bo_mod (by decide)
  generalize (j : Int).fmod 2 = zz at em
  obtain ⟨σ2, t, labs, s2, ht, hlab, hll, g2⟩ := ledn_ok (fu := 1000) (n := n + 17) (ns := ns) w s1 hs (way := zz == 0)
  have hln : ∀ x ∈ labs, nmB x = true := fun x hx => w.ln x (hlab x hx)
  -- the spoilt ones
  obtain ⟨V1, σ3, s3, hV1, g3⟩ := spoilt_ok (fu := 1000) (n := n + 17) (ns := ns) s2 hll hln kl hk
  obtain ⟨V2, σ4, s4, hV2, g4⟩ := spoilt_ok (fu := 1000) (n := n + 17) (ns := ns) s3 hll hln kl hk
  have hL : Lab (.tup (labs.map .str)) := .tup _ (fun d hd => by obtain ⟨x, hx, rfl⟩ := List.mem_map.mp hd; exact elm_name (hln x hx)) (by rw [List.length_map]; omega)
  have lb : (labs.map D.str).length ≤ 13 := by rw [List.length_map]; exact hll
  -- the loop over the values
  have hVs : ∀ V ∈ [D.tup (labs.map .str), V1, V2], Lab V := by
    intro V hV
    simp only [List.mem_cons, List.mem_nil_iff, or_false] at hV
    rcases hV with rfl | rfl | rfl
    · exact hL
    · exact hV1
    · exact hV2
  obtain ⟨ρ5, f5, σ5, p2, p9, p16, p17, p18, s5, h5, rfl⟩ := dynL_inv (f := turnB (exs (CC G 1000 (n + 20)) G_0_b5) true [9]) (i := 8) (l := [D.tup (labs.map .str), V1, V2])
    (fun _ ρ => ∃ (σ5 : D) (p2 p9 p16 p17 p18 : Option S), Sta σ5 ∧ OG vs es p2 ∧ ρ = Lρ ns σ5 p2 (some (.val (.lst (known.map .str)))) vs es (some (.val (.int (j : Int)))) (some (.val (.str s))) (some (.own (.lst [D.tup (labs.map .str), V1, V2]))) p9 x10 x11 x12 x13 (some (.val (.tup (labs.map .str)))) (some (.val (.str t))) p16 p17 p18 none)
    (by rintro k ρ ⟨_, _, _, _, _, _, _, _, rfl⟩; rfl)
    (by
      rintro k d ρ hd ⟨σ5, p2, p9, p16, p17, p18, u1, u2, rfl⟩
      obtain ⟨σ6, r2, r16, r17, r18, v1, v2, v3⟩ := b5_ok (fu := 1000) (n := n) (ns := ns) (o3 := some (.val (.lst (known.map .str)))) (x4 := some (.val (.int (j : Int)))) (x8 := some (.own (.lst [D.tup (labs.map .str), V1, V2]))) (x9 := p9) (x10 := x10) (x11 := x11) (x12 := x12) (x13 := x13) (x14 := some (.val (.tup (labs.map .str)))) (x16 := p16) (x17 := p17) (x18 := p18) (x19 := none) w hs ht (hVs d (mem_get hd)) u2 u1
      exact ⟨_, v3, σ6, r2, _, r16, r17, r18, v1, v2, rfl⟩) 3 0 1000 (Lρ ns σ4 o2 (some (.val (.lst (known.map .str)))) vs es (some (.val (.int (j : Int)))) (some (.val (.str s))) (some (.own (.lst [D.tup (labs.map .str), V1, V2]))) x9 x10 x11 x12 x13 (some (.val (.tup (labs.map .str)))) (some (.val (.str t))) x16 x17 x18 none) rfl (by decide) ⟨σ4, o2, x9, x16, x17, x18, s4, h2, rfl⟩
  -- asked by name
  have A3 := asked_w (fu := 1000) (n := n + 15) w hs ht hL (k := 3) (dir := true) (.inl ⟨.inr rfl, rfl⟩)
  have A4 := asked_w (fu := 1000) (n := n + 15) w hs ht hL (k := 4) (dir := false) (.inr ⟨.inr rfl, rfl⟩)
  have B3 := leads_ok (fu := 1000) (n := n + 18) w hs ht hL true
  have B4 := leads_ok (fu := 1000) (n := n + 18) w hs ht hL false
  have C3 := alike_ok (fu := 1000) (n := n + 11) 9 _ (alk_ans (b := ledD es s t true (.tup (labs.map .str))))
  have C4 := alike_ok (fu := 1000) (n := n + 11) 9 _ (alk_ans (b := ledD es s t false (.tup (labs.map .str))))
  generalize ledD es s t true (.tup (labs.map .str)) = r1 at A3 B3 C3
  generalize ledD es s t false (.tup (labs.map .str)) = r2 at A4 B4 C4
  simp only [Int.cast_ofNat_Int] at A3 A4
  -- the row
  obtain ⟨q6, σ6, s6, b6, g6⟩ := draw_s (fu := 1000) (n := n + 18) (ns := ns) s5 (m := 3) (by decide) (by decide)
  have row : ∃ (R : List PySem.Str) (o10 : Option S), (∀ x ∈ R, okS x ∧ x.length ≤ 1000) ∧ R.length ≤ 100 ∧ (o10 = some (.own (.lst (R.map .str))) ∨ o10 = some (.val (.lst (R.map .str)))) ∧
      ∀ (y2 : Option S), ex (CC G 1000 (n + 20)) (.ifs (.va (.cmp .eq (.cal 1 (.cons (.var 0) (.cons (.var 1) (.cons (.con (D.int (3))) .nil)))) (.con (D.int (1))))) (.cons (.asg (.nm 10) (.ife (.va (.isi (.ix (.var 8) (.con (D.int (1)))) [.b "tuple"] true)) (G_0_l3) (.var 10))) .nil) (.nil))
        (Lρ ns σ5 y2 (some (.val (.lst (known.map .str)))) vs es (some (.val (.int (j : Int)))) (some (.val (.str s))) (some (.own (.lst [D.tup (labs.map .str), V1, V2]))) p9 (some (.own (.lst (labs.map .str)))) x11 x12 x13 (some (.val (.tup (labs.map .str)))) (some (.val (.str t))) p16 p17 p18 none) =
      .nx (Lρ ns σ6 y2 (some (.val (.lst (known.map .str)))) vs es (some (.val (.int (j : Int)))) (some (.val (.str s))) (some (.own (.lst [D.tup (labs.map .str), V1, V2]))) p9 o10 x11 x12 x13 (some (.val (.tup (labs.map .str)))) (some (.val (.str t))) p16 p17 p18 none) := by
    have e8 : atD [D.tup (labs.map .str), V1, V2] 1 = some V1 := rfl
    have lo : ∀ x ∈ labs, okS x ∧ x.length ≤ 1000 := fun x hx => ⟨nmB_ok (hln x hx), by have := nmB_len (hln x hx); omega⟩
    by_cases c6 : q6 = 1
    · subst c6
      by_cases cv : ∃ l, V1 = .tup l
      · obtain ⟨l, rfl⟩ := cv
        cases hV1 with
        | tup l h hl =>
          have k := fun y2 => row_lc (fu := 1000) (n := n + 20) (ns := ns) (vs := vs) (es := es) (σ := σ6) (o2 := y2) (o3 := some (.val (.lst (known.map .str)))) (x4 := some (.val (.int (j : Int)))) (x7 := some (.val (.str s))) (x9 := p9) (x10 := some (.own (.lst (labs.map .str)))) (x11 := x11) (x12 := x12) (x13 := x13) (x14 := some (.val (.tup (labs.map .str)))) (x15 := some (.val (.str t))) (x16 := p16) (x17 := p17) (x18 := p18) h hl (L := .tup (labs.map .str)) (V2 := V2)
          refine ⟨strsOf l, _, fun x hx => elm_str (h _ (strsOf_mem hx)), Nat.le_trans (strsOf_len l) hl, .inl rfl, fun y2 => ?_⟩
          have k := k y2
          simp [-List.map_map, Lρ] at k
          simp [-List.map_map, Lρ, exs, ex, ev, evs, evT, evA, evW, evO, evF, exh, En.at, Out.bind, Out.then, So.then, op1, op2, opL, view, views, lift, Co.ap, bR, slD, ixD, endR, parm, modes, fz, fzs, tr1, truth, asgR, tupR, ixR, kxR, D.key, flR, fPut, agfR, augI, agxR, raiR, callR, makeR, muR, Mu.ap, Qm.apT, Qm.apL, revD, Bi.ap, Bi.cool, prep, lent, back, D.isNon, D.isAny, D.isA, bindT, srOf, turnB, muOwn, CC_call, CC_g, CC_fu, CC_hot, CC_heat, cEq_str, cEq_int, tx_beq, len_tx, add_tx, cutS_tx, tyNames, Bo.ap, m1, g6, e8, k]
      · have ia : D.isAny G.cls V1 [.b "tuple"] = some false := by
          cases hV1 with
          | tup l h hl => exact absurd ⟨_, rfl⟩ cv
          | _ => rfl
        refine ⟨labs, _, lo, by omega, .inr rfl, fun y2 => ?_⟩
        simp [-List.map_map, Lρ, exs, ex, ev, evs, evT, En.at, Out.bind, Out.then, So.then, op1, op2, view, views, lift, Co.ap, bR, ixD, fz, fzs, tr1, truth, asgR, callR, prep, lent, back, CC_call, CC_g, cEq_int, m1, g6, e8, ia]
    · have c6' : ¬ (q6 : Int) = 1 := by omega
      refine ⟨labs, _, lo, by omega, .inl rfl, fun y2 => ?_⟩
      simp [-List.map_map, Lρ, exs, ex, ev, evs, evT, evA, evW, evO, evF, exh, En.at, Out.bind, Out.then, So.then, op1, op2, opL, view, views, lift, Co.ap, bR, slD, ixD, endR, parm, modes, fz, fzs, tr1, truth, asgR, tupR, ixR, kxR, D.key, flR, fPut, agfR, augI, agxR, raiR, callR, makeR, muR, Mu.ap, Qm.apT, Qm.apL, revD, Bi.ap, Bi.cool, prep, lent, back, D.isNon, D.isAny, D.isA, bindT, srOf, turnB, muOwn, CC_call, CC_g, CC_fu, CC_hot, CC_heat, cEq_str, cEq_int, tx_beq, len_tx, add_tx, cutS_tx, tyNames, Bo.ap, m1, g6, c6']
  obtain ⟨R, o10, rO, rl, h10, frow⟩ := row
  have P1 := asked_p (fu := 1000) (n := n + 15) w rO (by omega) (A := .lst (R.map .str)) (s := .str s) (t := .str s) (.inl rfl)
  have P2 := asked_p (fu := 1000) (n := n + 15) w rO (by omega) (A := .tup (R.map .str)) (s := .str s) (t := .str s) (.inr rfl)
  have P3 := lprice_ok (fu := 1000) (n := n + 19) w (R := R)
  have P4 := alike_ok (fu := 1000) (n := n + 11) 9 _ (alk_price (es := es) (l := R))
  generalize priceD es R = rp at P1 P2 P3 P4
  -- the odd one
  obtain ⟨q7, σ7, s7, b7, g7⟩ := draw_s (fu := 1000) (n := n + 18) (ns := ns) s6 (m := 5) (by decide) (by decide)
  obtain ⟨d, hd, e7⟩ := at_mem (l := [D.str (tx [122, 122, 122, 122, 122, 122, 122, 122]), .str (tx []), .int 5, .non, .lst [.str (tx [97])]]) (q := q7) (by show q7 < 5; omega)
  have od := odd5 d hd
  have cd := cIn_strs od w.vo
  have oddz : ∃ (od : D), Odd od ∧ inSd od vs = false ∧ ∀ (ρ : En), ρ.length = 20 → ρ.at 5 = some (.val (.tup (vs.map .str))) → ρ.at 11 = some (.val d) →
      ex (CC G 1000 (n + 20)) (.ifs (.va (.cmp .isin (.var 11) (.var 5))) (.cons (.asg (.nm 11) (.con (D.str (tx [90])))) .nil) (.nil)) ρ = .nx (ρ.set 11 (some (.val od))) := by
    cases c : inSd d vs with
    | true =>
      rw [c] at cd
      refine ⟨.str (tx [90]), odd_str (by decide) (by decide), z_no w.vn, fun ρ hl q1 q2 => ?_⟩
      simp [exs, ex, ev, evT, q1, q2, Out.bind, Out.then, So.then, op2, view, lift, Co.ap, bR, cd, tr1, truth, asgR]
    | false =>
      rw [c] at cd
      refine ⟨d, od, c, fun ρ hl q1 q2 => ?_⟩
      have q3 : ρ.set 11 (some (.val d)) = ρ := by
        apply List.ext_getElem?
        intro i
        by_cases z : 11 = i
        · subst z
          rw [List.getElem?_set_self (by rw [hl]; decide)]
          unfold En.at at q2
          cases y : ρ[11]? with
          | none => rw [y] at q2; cases q2
          | some o => rw [y] at q2; exact congrArg some q2.symm
        · rw [List.getElem?_set_ne z]
      rw [q3]
      simp [exs, ex, ev, evT, q1, q2, Out.bind, Out.then, So.then, op2, view, lift, Co.ap, bR, cd, tr1, truth]
  obtain ⟨oo, ho, hn, f12⟩ := oddz
  -- the last loop
  obtain ⟨ρ13, f13, σ8, r2, r12, s8, u2, rfl⟩ := forL_inv (f := turnB (exs (CC G 1000 (n + 20)) G_0_b0) true [12])
    (fun _ ρ => ∃ (σ8 : D) (r2 r12 : Option S), Sta σ8 ∧ OG vs es r2 ∧ ρ = Lρ ns σ8 r2 (some (.val (.lst (known.map .str)))) vs es (some (.val (.int (j : Int)))) (some (.val (.str s))) (some (.own (.lst [D.tup (labs.map .str), V1, V2]))) p9 (some (.val (.lst (R.map .str)))) (some (.val oo)) r12 x13 (some (.val (.tup (labs.map .str)))) (some (.val (.str t))) p16 p17 p18 none) (rngD 0 ((2 : Nat) : Int)) 0
    (Lρ ns σ7 (some (.val (gD vs es))) (some (.val (.lst (known.map .str)))) vs es (some (.val (.int (j : Int)))) (some (.val (.str s))) (some (.own (.lst [D.tup (labs.map .str), V1, V2]))) p9 (some (.val (.lst (R.map .str)))) (some (.val oo)) x12 x13 (some (.val (.tup (labs.map .str)))) (some (.val (.str t))) p16 p17 p18 none) ⟨σ7, _, x12, s7, .inr rfl, rfl⟩ (by
      rintro k d ρ hd ⟨σ8, r2, r12, u1, u2, rfl⟩
      obtain ⟨hj, rfl⟩ := rng_at hd
      obtain ⟨σ9, z2, v1, v2, v3⟩ := b0_ok (fu := 1000) (n := n) (ns := ns) (o3 := some (.val (.lst (known.map .str)))) (x4 := some (.val (.int (j : Int)))) (x9 := p9) (x10 := some (.val (.lst (R.map .str)))) (x12 := r12) (x13 := x13) (x15 := some (.val (.str t))) (x16 := p16) (x17 := p17) (x18 := p18) (x19 := none) w hs (L := .tup (labs.map .str)) (V := V1) (V2 := V2) ho hn hj u2 u1
      exact ⟨_, v3, σ9, z2, _, v1, v2, rfl⟩)
  have hI2 := fun ρ => evI_c (c := CC G 1000 (n + 20)) (m := 2) (by decide) ρ
  simp only [Int.cast_ofNat_Int] at f13 hI2
  refine ⟨Lρ ns σ8 r2 (some (.val (.lst (known.map .str)))) vs es (some (.val (.int (j : Int)))) (some (.val (.str s))) (some (.own (.lst [D.tup (labs.map .str), V1, V2]))) p9 (some (.val (.lst (R.map .str)))) (some (.val oo)) r12 x13 (some (.val (.tup (labs.map .str)))) (some (.val (.str t))) p16 p17 p18 none, ?_, σ8, r2, some (.val (.lst (known.map .str))), some (.val (.int (j : Int))), some (.val (.str s)), some (.own (.lst [D.tup (labs.map .str), V1, V2])), p9, some (.val (.lst (R.map .str))), some (.val oo), r12, x13, some (.val (.tup (labs.map .str))), some (.val (.str t)), p16, p17, p18, s8, u2, .inr rfl, rfl⟩
  simp only [turnB, bindT, if_true]
  refine (exs_nx (ρ' := Lρ ns σ1 o2 o3 vs es (some (.val (.int (j : Int)))) (some (.val (.str s))) x8 x9 x10 x11 x12 x13 x14 x15 x16 x17 x18 none) ?_).trans ?_
  · simp [-List.map_map, Lρ, Bo.ap, exs, ex, ev, evs, evT, evA, evW, evO, evF, evI, exh, En.at, Out.bind, Out.then, So.then, op1, op2, opL, view, views, lift, Co.ap, bR, slD, ixD, endR, parm, modes, fz, fzs, tr1, truth, asgR, tupR, ixR, kxR, D.key, flR, fPut, agfR, augI, agxR, raiR, callR, makeR, muR, Mu.ap, Qm.apT, Qm.apL, revD, Bi.ap, Bi.cool, prep, lent, back, D.isNon, D.isAny, D.isA, bindT, srOf, turnB, muOwn, CC_call, CC_g, CC_fu, CC_hot, CC_heat, cEq_str, cEq_int, tx_beq, len_tx, add_tx, cutS_tx, tyNames, m1, g1, e1]
  refine (exs_nx (ρ' := Lρ ns σ2 o2 o3 vs es (some (.val (.int (j : Int)))) (some (.val (.str s))) x8 x9 x10 x11 x12 x13 (some (.val (.tup (labs.map .str)))) (some (.val (.str t))) x16 x17 x18 none) ?_).trans ?_
  · simp [-List.map_map, Lρ, exs, ex, ev, evs, evT, evA, evW, evO, evF, evI, exh, En.at, Out.bind, Out.then, So.then, op1, op2, opL, view, views, lift, Co.ap, bR, slD, ixD, endR, parm, modes, fz, fzs, tr1, truth, asgR, tupR, ixR, kxR, D.key, flR, fPut, agfR, augI, agxR, raiR, callR, makeR, muR, Mu.ap, Qm.apT, Qm.apL, revD, Bi.ap, Bi.cool, prep, lent, back, D.isNon, D.isAny, D.isA, bindT, srOf, turnB, muOwn, CC_call, CC_g, CC_fu, CC_hot, CC_heat, cEq_str, cEq_int, tx_beq, len_tx, add_tx, cutS_tx, tyNames, m19, em, g2]
  refine (exs_nx (ρ' := Lρ ns σ4 o2 (some (.val (.lst (known.map .str)))) vs es (some (.val (.int (j : Int)))) (some (.val (.str s))) (some (.own (.lst [D.tup (labs.map .str), V1, V2]))) x9 x10 x11 x12 x13 (some (.val (.tup (labs.map .str)))) (some (.val (.str t))) x16 x17 x18 none) ?_).trans ?_
  · rcases h3 with rfl | rfl
    · simp [-List.map_map, Lρ, Bo.ap, exs, ex, ev, evs, evT, evA, evW, evO, evF, evI, exh, En.at, Out.bind, Out.then, So.then, op1, op2, opL, view, views, lift, Co.ap, bR, slD, ixD, endR, parm, modes, fz, fzs, tr1, truth, asgR, tupR, ixR, kxR, D.key, flR, fPut, agfR, augI, agxR, raiR, callR, makeR, muR, Mu.ap, Qm.apT, Qm.apL, revD, Bi.ap, Bi.cool, prep, lent, back, D.isNon, D.isAny, D.isA, bindT, srOf, turnB, muOwn, CC_call, CC_g, CC_fu, CC_hot, CC_heat, cEq_str, cEq_int, tx_beq, len_tx, add_tx, cutS_tx, tyNames, m18, g3, g4, l3]
    · simp [-List.map_map, Lρ, Bo.ap, exs, ex, ev, evs, evT, evA, evW, evO, evF, evI, exh, En.at, Out.bind, Out.then, So.then, op1, op2, opL, view, views, lift, Co.ap, bR, slD, ixD, endR, parm, modes, fz, fzs, tr1, truth, asgR, tupR, ixR, kxR, D.key, flR, fPut, agfR, augI, agxR, raiR, callR, makeR, muR, Mu.ap, Qm.apT, Qm.apL, revD, Bi.ap, Bi.cool, prep, lent, back, D.isNon, D.isAny, D.isA, bindT, srOf, turnB, muOwn, CC_call, CC_g, CC_fu, CC_hot, CC_heat, cEq_str, cEq_int, tx_beq, len_tx, add_tx, cutS_tx, tyNames, m18, g3, g4, l3]
  refine (exs_nx (ρ' := Lρ ns σ5 p2 (some (.val (.lst (known.map .str)))) vs es (some (.val (.int (j : Int)))) (some (.val (.str s))) (some (.own (.lst [D.tup (labs.map .str), V1, V2]))) p9 x10 x11 x12 x13 (some (.val (.tup (labs.map .str)))) (some (.val (.str t))) p16 p17 p18 none) ?_).trans ?_
  · simp only [Lρ] at f5
    simp [-List.map_map, Lρ, ex, ev, evI, En.at, Out.bind, Out.then, So.then, srOf, CC_hot, CC_fu, It.isVar, f5]
  refine (exs_nx (ρ' := Lρ ns σ5 (some (.val (gD vs es))) (some (.val (.lst (known.map .str)))) vs es (some (.val (.int (j : Int)))) (some (.val (.str s))) (some (.own (.lst [D.tup (labs.map .str), V1, V2]))) p9 x10 x11 x12 x13 (some (.val (.tup (labs.map .str)))) (some (.val (.str t))) p16 p17 p18 none) ?_).trans ?_
  · rcases h5 with rfl | rfl
    · simp [-List.map_map, Lρ, Bo.ap, exs, ex, ev, evs, evT, evA, evW, evO, evF, evI, exh, En.at, Out.bind, Out.then, So.then, op1, op2, opL, view, views, lift, Co.ap, bR, slD, ixD, endR, parm, modes, fz, fzs, tr1, truth, asgR, tupR, ixR, kxR, D.key, flR, fPut, agfR, augI, agxR, raiR, callR, makeR, muR, Mu.ap, Qm.apT, Qm.apL, revD, Bi.ap, Bi.cool, prep, lent, back, D.isNon, D.isAny, D.isA, bindT, srOf, turnB, muOwn, CC_call, CC_g, CC_fu, CC_hot, CC_heat, cEq_str, cEq_int, tx_beq, len_tx, add_tx, cutS_tx, tyNames, m3, m14, m16, A3, B3, C3, l2]
    · simp [-List.map_map, Lρ, Bo.ap, exs, ex, ev, evs, evT, evA, evW, evO, evF, evI, exh, En.at, Out.bind, Out.then, So.then, op1, op2, opL, view, views, lift, Co.ap, bR, slD, ixD, endR, parm, modes, fz, fzs, tr1, truth, asgR, tupR, ixR, kxR, D.key, flR, fPut, agfR, augI, agxR, raiR, callR, makeR, muR, Mu.ap, Qm.apT, Qm.apL, revD, Bi.ap, Bi.cool, prep, lent, back, D.isNon, D.isAny, D.isA, bindT, srOf, turnB, muOwn, CC_call, CC_g, CC_fu, CC_hot, CC_heat, cEq_str, cEq_int, tx_beq, len_tx, add_tx, cutS_tx, tyNames, m3, m14, m16, A3, B3, C3, l2]
  refine (exs_nx (ρ' := Lρ ns σ5 (some (.val (gD vs es))) (some (.val (.lst (known.map .str)))) vs es (some (.val (.int (j : Int)))) (some (.val (.str s))) (some (.own (.lst [D.tup (labs.map .str), V1, V2]))) p9 x10 x11 x12 x13 (some (.val (.tup (labs.map .str)))) (some (.val (.str t))) p16 p17 p18 none) ?_).trans ?_
  · simp [-List.map_map, Lρ, Bo.ap, exs, ex, ev, evs, evT, evA, evW, evO, evF, evI, exh, En.at, Out.bind, Out.then, So.then, op1, op2, opL, view, views, lift, Co.ap, bR, slD, ixD, endR, parm, modes, fz, fzs, tr1, truth, asgR, tupR, ixR, kxR, D.key, flR, fPut, agfR, augI, agxR, raiR, callR, makeR, muR, Mu.ap, Qm.apT, Qm.apL, revD, Bi.ap, Bi.cool, prep, lent, back, D.isNon, D.isAny, D.isA, bindT, srOf, turnB, muOwn, CC_call, CC_g, CC_fu, CC_hot, CC_heat, cEq_str, cEq_int, tx_beq, len_tx, add_tx, cutS_tx, tyNames, m3, m14, m16, A4, B4, C4, l2]
  refine (exs_nx (ρ' := Lρ ns σ5 (some (.val (gD vs es))) (some (.val (.lst (known.map .str)))) vs es (some (.val (.int (j : Int)))) (some (.val (.str s))) (some (.own (.lst [D.tup (labs.map .str), V1, V2]))) p9 (some (.own (.lst (labs.map .str)))) x11 x12 x13 (some (.val (.tup (labs.map .str)))) (some (.val (.str t))) p16 p17 p18 none) ?_).trans ?_
  · simp [-List.map_map, Lρ, Bo.ap, exs, ex, ev, evs, evT, evA, evW, evO, evF, evI, exh, En.at, Out.bind, Out.then, So.then, op1, op2, opL, view, views, lift, Co.ap, bR, slD, ixD, endR, parm, modes, fz, fzs, tr1, truth, asgR, tupR, ixR, kxR, D.key, flR, fPut, agfR, augI, agxR, raiR, callR, makeR, muR, Mu.ap, Qm.apT, Qm.apL, revD, Bi.ap, Bi.cool, prep, lent, back, D.isNon, D.isAny, D.isA, bindT, srOf, turnB, muOwn, CC_call, CC_g, CC_fu, CC_hot, CC_heat, cEq_str, cEq_int, tx_beq, len_tx, add_tx, cutS_tx, tyNames]
  refine (exs_nx (frow _)).trans ?_
  refine (exs_nx (ρ' := Lρ ns σ6 (some (.val (gD vs es))) (some (.val (.lst (known.map .str)))) vs es (some (.val (.int (j : Int)))) (some (.val (.str s))) (some (.own (.lst [D.tup (labs.map .str), V1, V2]))) p9 (some (.val (.lst (R.map .str)))) x11 x12 x13 (some (.val (.tup (labs.map .str)))) (some (.val (.str t))) p16 p17 p18 none) ?_).trans ?_
  · rcases h10 with rfl | rfl
    · simp [-List.map_map, Lρ, Bo.ap, exs, ex, ev, evs, evT, evA, evW, evO, evF, evI, exh, En.at, Out.bind, Out.then, So.then, op1, op2, opL, view, views, lift, Co.ap, bR, slD, ixD, endR, parm, modes, fz, fzs, tr1, truth, asgR, tupR, ixR, kxR, D.key, flR, fPut, agfR, augI, agxR, raiR, callR, makeR, muR, Mu.ap, Qm.apT, Qm.apL, revD, Bi.ap, Bi.cool, prep, lent, back, D.isNon, D.isAny, D.isA, bindT, srOf, turnB, muOwn, CC_call, CC_g, CC_fu, CC_hot, CC_heat, cEq_str, cEq_int, tx_beq, len_tx, add_tx, cutS_tx, tyNames, m3, m17, m16, P1, P3, P4]
    · simp [-List.map_map, Lρ, Bo.ap, exs, ex, ev, evs, evT, evA, evW, evO, evF, evI, exh, En.at, Out.bind, Out.then, So.then, op1, op2, opL, view, views, lift, Co.ap, bR, slD, ixD, endR, parm, modes, fz, fzs, tr1, truth, asgR, tupR, ixR, kxR, D.key, flR, fPut, agfR, augI, agxR, raiR, callR, makeR, muR, Mu.ap, Qm.apT, Qm.apL, revD, Bi.ap, Bi.cool, prep, lent, back, D.isNon, D.isAny, D.isA, bindT, srOf, turnB, muOwn, CC_call, CC_g, CC_fu, CC_hot, CC_heat, cEq_str, cEq_int, tx_beq, len_tx, add_tx, cutS_tx, tyNames, m3, m17, m16, P1, P3, P4]
  refine (exs_nx (ρ' := Lρ ns σ6 (some (.val (gD vs es))) (some (.val (.lst (known.map .str)))) vs es (some (.val (.int (j : Int)))) (some (.val (.str s))) (some (.own (.lst [D.tup (labs.map .str), V1, V2]))) p9 (some (.val (.lst (R.map .str)))) x11 x12 x13 (some (.val (.tup (labs.map .str)))) (some (.val (.str t))) p16 p17 p18 none) ?_).trans ?_
  · simp [-List.map_map, Lρ, Bo.ap, exs, ex, ev, evs, evT, evA, evW, evO, evF, evI, exh, En.at, Out.bind, Out.then, So.then, op1, op2, opL, view, views, lift, Co.ap, bR, slD, ixD, endR, parm, modes, fz, fzs, tr1, truth, asgR, tupR, ixR, kxR, D.key, flR, fPut, agfR, augI, agxR, raiR, callR, makeR, muR, Mu.ap, Qm.apT, Qm.apL, revD, Bi.ap, Bi.cool, prep, lent, back, D.isNon, D.isAny, D.isA, bindT, srOf, turnB, muOwn, CC_call, CC_g, CC_fu, CC_hot, CC_heat, cEq_str, cEq_int, tx_beq, len_tx, add_tx, cutS_tx, tyNames, m3, m17, m16, P2, P3, P4]
  refine (exs_nx (ρ' := Lρ ns σ7 (some (.val (gD vs es))) (some (.val (.lst (known.map .str)))) vs es (some (.val (.int (j : Int)))) (some (.val (.str s))) (some (.own (.lst [D.tup (labs.map .str), V1, V2]))) p9 (some (.val (.lst (R.map .str)))) (some (.val d)) x12 x13 (some (.val (.tup (labs.map .str)))) (some (.val (.str t))) p16 p17 p18 none) ?_).trans ?_
  · simp [-List.map_map, Lρ, Bo.ap, exs, ex, ev, evs, evT, evA, evW, evO, evF, evI, exh, En.at, Out.bind, Out.then, So.then, op1, op2, opL, view, views, lift, Co.ap, bR, slD, ixD, endR, parm, modes, fz, fzs, tr1, truth, asgR, tupR, ixR, kxR, D.key, flR, fPut, agfR, augI, agxR, raiR, callR, makeR, muR, Mu.ap, Qm.apT, Qm.apL, revD, Bi.ap, Bi.cool, prep, lent, back, D.isNon, D.isAny, D.isA, bindT, srOf, turnB, muOwn, CC_call, CC_g, CC_fu, CC_hot, CC_heat, cEq_str, cEq_int, tx_beq, len_tx, add_tx, cutS_tx, tyNames, m1, g7, e7, l5, l1]
  refine (exs_nx (f12 _ rfl rfl rfl)).trans ?_
  refine (exs_nx (ρ' := Lρ ns σ8 r2 (some (.val (.lst (known.map .str)))) vs es (some (.val (.int (j : Int)))) (some (.val (.str s))) (some (.own (.lst [D.tup (labs.map .str), V1, V2]))) p9 (some (.val (.lst (R.map .str)))) (some (.val oo)) r12 x13 (some (.val (.tup (labs.map .str)))) (some (.val (.str t))) p16 p17 p18 none) ?_).trans ?_
  · simp only [Lρ] at f13
    simp [-List.map_map, Lρ, ex, Out.then, So.then, CC_hot, hI2, f13]
  · rfl
end
end K05

namespace K05
open Mp L2
variable {fu n : Nat}
section
variable {ns : List Int} {vs : List PySem.Str} {es : List Edge}
theorem known_lc (w : WF vs es) {σ : D} {o2 : Option S} : ev (CC G fu n) G_0_l8 (Lρ ns σ o2 none vs es none none none none none none none none none none none none none none) =
    .ok (.tmp (.lst ((es.map (·.l)).map .str))) (Lρ ns σ o2 none vs es none none none none none none none none none none none none none none) := by
  have k := lc_okM (c := CC G fu n) (e := G_0_e7) (i := 13) (x := "_law_edge_here") (it := .one (.var 6)) (ρ := Lρ ns σ o2 none vs es none none none none none none none none none none none none none none) (l := es.map ed) dl rfl (by simp [Lρ]) (by simp [-List.map_map, Lρ, Bo.ap, exs, ex, ev, evs, evT, evA, evW, evO, evF, evI, exh, En.at, Out.bind, Out.then, So.then, op1, op2, opL, view, views, lift, Co.ap, bR, slD, ixD, endR, parm, modes, fz, fzs, tr1, truth, asgR, tupR, ixR, kxR, D.key, flR, fPut, agfR, augI, agxR, raiR, callR, makeR, muR, Mu.ap, Qm.apT, Qm.apL, revD, Bi.ap, Bi.cool, prep, lent, back, D.isNon, D.isAny, D.isA, bindT, srOf, turnB, muOwn, CC_call, CC_g, CC_fu, CC_hot, CC_heat, cEq_str, cEq_int, tx_beq, len_tx, add_tx, cutS_tx, tyNames]) (by
    intro d hd
    obtain ⟨e, he, rfl⟩ := List.mem_map.mp hd
    simp [-List.map_map, Lρ, G_0_e7, Bo.ap, exs, ex, ev, evs, evT, evA, evW, evO, evF, evI, exh, En.at, Out.bind, Out.then, So.then, op1, op2, opL, view, views, lift, Co.ap, bR, slD, ixD, endR, parm, modes, fz, fzs, tr1, truth, asgR, tupR, ixR, kxR, D.key, flR, fPut, agfR, augI, agxR, raiR, callR, makeR, muR, Mu.ap, Qm.apT, Qm.apL, revD, Bi.ap, Bi.cool, prep, lent, back, D.isNon, D.isAny, D.isA, bindT, srOf, turnB, muOwn, CC_call, CC_g, CC_fu, CC_hot, CC_heat, cEq_str, cEq_int, tx_beq, len_tx, add_tx, cutS_tx, tyNames, ix_l, dl_ed]) (WF.lim w)
  rw [List.map_map] at k
  rw [List.map_map]
  exact k
end
theorem nd4 : (K4 : List Key).Nodup := by decide
theorem wfA : WF [tx [97]] [] := ⟨by decide, by decide, by decide, by decide, by simp, by simp, by simp, by simp, by simp⟩
theorem law_ok (ns : List Int) (_ : ns.length ≤ 63) : ∃ ss, Mp.run G 1000 40 0 [.val (.lst (ns.map .int))] = .ok (.val (.bl true)) ss := by
  have hσ : Sta (.dct K4 [.int 0, .int 0, .int 0, .int 0]) := ⟨0, 0, 0, 0, rfl⟩
  obtain ⟨vs, es, σ1, s1, w, nv, ne, gd⟩ := drawn_ok (fu := 1000) (n := 35) (ns := ns) hσ (a := 7) (b := 12) (by decide) (by decide)
  simp only [Int.cast_ofNat_Int] at gd
  refine ⟨[.val (li ns)], ?_⟩
  show Mp.run G 1000 (39 + 1) 0 _ = _
  rw [r0 rfl]
  -- from the nodes on
  have rest : ∀ (vs : List PySem.Str) (es : List Edge), WF vs es → 0 < vs.length → endR [false] [.val (li ns)] (exs (CC G 1000 39) (Sts.drop 3 G_0.bd) (Lρ ns σ1 none none vs es none none none none none none none none none none none none none none)) = .ok (.val (.bl true)) [.val (li ns)] := by
    intro vs es w v0
    have gi := init_okT (fu := 1000) (n := 34) w
    have gl := known_lc (fu := 1000) (n := 39) (ns := ns) w (σ := σ1) (o2 := some (.own (gD vs es)))
    obtain ⟨ρ6, f6, h6⟩ := forL_inv (f := turnB (exs (CC G 1000 39) G_0_b6) true [4]) (fun _ ρ => LI ns (es.map (·.l)) vs es ρ) (rngD 0 ((4 : Nat) : Int)) 0
      (Lρ ns σ1 (some (.own (gD vs es))) (some (.own (.lst ((es.map (·.l)).map .str)))) vs es none none none none none none none none none none none none none none)
      ⟨σ1, _, _, none, none, none, none, none, none, none, none, none, none, none, none, none, s1, .inl rfl, .inl rfl, rfl⟩ (by
      intro j d ρ hd hp
      obtain ⟨hj, rfl⟩ := rng_at hd
      exact b6_ok (n := 19) w v0 w.ln (by rw [List.length_map]; exact w.ne) hp)
    obtain ⟨σ9, o2, o3, x4, x7, x8, x9, x10, x11, x12, x13, x14, x15, x16, x17, x18, hs9, h2, h3, rfl⟩ := h6
    have hI4 := fun ρ => evI_c (c := CC G 1000 39) (m := 4) (by decide) ρ
    simp only [Int.cast_ofNat_Int] at f6 hI4
    have l2 : 2 ≤ lim := by decide
    generalize hK : (es.map (·.l)).map D.str = KK at *
    simp only [Lρ] at f6 gl
    simp [-List.map_map, Sts.drop, G_0, Lρ, exs, ex, ev, evs, evT, evA, evW, evO, evF, exh, En.at, Out.bind, Out.then, So.then, op1, op2, opL, view, views, lift, Co.ap, bR, slD, ixD, endR, parm, modes, fz, fzs, tr1, truth, asgR, tupR, ixR, kxR, D.key, flR, fPut, agfR, augI, agxR, raiR, callR, makeR, muR, Mu.ap, Qm.apT, Qm.apL, revD, Bi.ap, Bi.cool, prep, lent, back, D.isNon, D.isAny, D.isA, bindT, srOf, turnB, muOwn, CC_call, CC_g, CC_fu, CC_hot, CC_heat, cEq_str, cEq_int, tx_beq, len_tx, add_tx, cutS_tx, tyNames, Bo.ap, m20, gi, gl, hI4, f6]
  have l1 : 1 ≤ lim := by decide
  have m3 : exs (CC G 1000 39) G_0.bd ([S.val (li ns)].map some ++ List.replicate (20 - [S.val (li ns)].length) none) = exs (CC G 1000 39) (Sts.drop 2 G_0.bd) (Lρ ns σ1 none none vs es none none none none none none none none none none none none none none) := by
    refine (exs_nx (ρ' := [some (.val (li ns)), some (.own (.dct K4 [.int 0, .int 0, .int 0, .int 0])), none, none, none, none, none, none, none, none, none, none, none, none, none, none, none, none, none, none]) ?_).trans ?_
    · simp [Bo.ap, exs, ex, ev, evs, evT, evA, evW, evO, evF, evI, exh, En.at, Out.bind, Out.then, So.then, op1, op2, opL, view, views, lift, Co.ap, bR, slD, ixD, endR, parm, modes, fz, fzs, tr1, truth, asgR, tupR, ixR, kxR, D.key, flR, fPut, agfR, augI, agxR, raiR, callR, makeR, muR, Mu.ap, Qm.apT, Qm.apL, revD, Bi.ap, Bi.cool, prep, lent, back, D.isNon, D.isAny, D.isA, bindT, srOf, turnB, muOwn, CC_call, CC_g, CC_fu, CC_hot, CC_heat, cEq_str, cEq_int, tx_beq, len_tx, add_tx, cutS_tx, tyNames, nd4]
    refine (exs_nx (ρ' := Lρ ns σ1 none none vs es none none none none none none none none none none none none none none) ?_).trans ?_
    · simp [-List.map_map, Lρ, Bo.ap, exs, ex, ev, evs, evT, evA, evW, evO, evF, evI, exh, En.at, Out.bind, Out.then, So.then, op1, op2, opL, view, views, lift, Co.ap, bR, slD, ixD, endR, parm, modes, fz, fzs, tr1, truth, asgR, tupR, ixR, kxR, D.key, flR, fPut, agfR, augI, agxR, raiR, callR, makeR, muR, Mu.ap, Qm.apT, Qm.apL, revD, Bi.ap, Bi.cool, prep, lent, back, D.isNon, D.isAny, D.isA, bindT, srOf, turnB, muOwn, CC_call, CC_g, CC_fu, CC_hot, CC_heat, cEq_str, cEq_int, tx_beq, len_tx, add_tx, cutS_tx, tyNames, m27, gd]
    · rfl
  show endR [false] [.val (li ns)] (exs (CC G 1000 39) G_0.bd ([S.val (li ns)].map some ++ List.replicate (20 - [S.val (li ns)].length) none)) = _
  rw [m3]
  by_cases v0 : 0 < vs.length
  · have v0' : ¬ ((vs.length : Nat) : Int) = 0 := by omega
    have v0'' : ¬ vs.length = 0 := by omega
    have z : exs (CC G 1000 39) (Sts.drop 2 G_0.bd) (Lρ ns σ1 none none vs es none none none none none none none none none none none none none none) = exs (CC G 1000 39) (Sts.drop 3 G_0.bd) (Lρ ns σ1 none none vs es none none none none none none none none none none none none none none) := by
      refine (exs_nx (ρ' := Lρ ns σ1 none none vs es none none none none none none none none none none none none none none) ?_).trans rfl
      have v1 : ¬ vs = [] := fun z => v0'' (by rw [z]; rfl)
      simp [-List.map_map, Lρ, Bo.ap, exs, ex, ev, evs, evT, evA, evW, evO, evF, evI, exh, En.at, Out.bind, Out.then, So.then, op1, op2, opL, view, views, lift, Co.ap, bR, slD, ixD, endR, parm, modes, fz, fzs, tr1, truth, asgR, tupR, ixR, kxR, D.key, flR, fPut, agfR, augI, agxR, raiR, callR, makeR, muR, Mu.ap, Qm.apT, Qm.apL, revD, Bi.ap, Bi.cool, prep, lent, back, D.isNon, D.isAny, D.isA, bindT, srOf, turnB, muOwn, CC_call, CC_g, CC_fu, CC_hot, CC_heat, cEq_str, cEq_int, tx_beq, len_tx, add_tx, cutS_tx, tyNames, v0', v0'', v1]
    rw [z]
    exact rest vs es w v0
  · have hv : vs = [] := List.length_eq_zero_iff.mp (by omega)
    subst hv
    have he : es = [] := by
      cases es with
      | nil => rfl
      | cons e es => exact absurd (w.te e List.mem_cons_self) (by simp)
    subst he
    have z : exs (CC G 1000 39) (Sts.drop 2 G_0.bd) (Lρ ns σ1 none none [] [] none none none none none none none none none none none none none none) = exs (CC G 1000 39) (Sts.drop 3 G_0.bd) (Lρ ns σ1 none none [tx [97]] [] none none none none none none none none none none none none none none) := by
      refine (exs_nx (ρ' := Lρ ns σ1 none none [tx [97]] [] none none none none none none none none none none none none none none) ?_).trans rfl
      simp [Lρ, Bo.ap, exs, ex, ev, evs, evT, evA, evW, evO, evF, evI, exh, En.at, Out.bind, Out.then, So.then, op1, op2, opL, view, views, lift, Co.ap, bR, slD, ixD, endR, parm, modes, fz, fzs, tr1, truth, asgR, tupR, ixR, kxR, D.key, flR, fPut, agfR, augI, agxR, raiR, callR, makeR, muR, Mu.ap, Qm.apT, Qm.apL, revD, Bi.ap, Bi.cool, prep, lent, back, D.isNon, D.isAny, D.isA, bindT, srOf, turnB, muOwn, CC_call, CC_g, CC_fu, CC_hot, CC_heat, cEq_str, cEq_int, tx_beq, len_tx, add_tx, cutS_tx, tyNames, l1]
    rw [z]
    exact rest _ _ wfA (by decide)
end K05


namespace K05
open PySem PySem.Spec PyProof.Rows L2 Mp
abbrev RO : PySem.W.OpenLaw := PySem.Challenge.rw_bridgeward_k05_ways_walks_and_prices
abbrev R : PySem.W.OpenRow := PySem.W.OpenLaw.row RO
def file : Str := "/claim/cut.py"
def nms : List PySem.Str := (["_wall", "WardError", "InvalidGraph", "InvalidText", "UnknownNode", "UnknownEdge", "Taken", "InvalidNumber", "Undefined", "InvalidClaim", "Refused", "InvalidQuestion", "NotWatched", "NothingToUndo", "InvalidEdit", "LETTERS"] : List PySem.Str) ++ (["MOST_LETTERS", "is_int", "is_number", "has_size", "is_name", "is_edge_value", "_are_nodes", "_need_edges", "Graph", "labels_of", "edge_with", "_is_led", "is_way", "is_walk", "price_of", "_law_mixed"] : List PySem.Str) ++ (["_law_draw", "_law_names", "_law_edge", "_law_drawn", "_law_alike", "_law_classes", "_law_lone", "_law_end", "_law_leads", "_law_led", "_law_spoilt", "_law_asked", "_law_price"] : List PySem.Str)
theorem hrun (w : World) : HandSHeadRun.RunEq R (PySem.W.view R.prog [50]) (hookM 8 G file) (obM 8 G file) 20000 nms w := by
  intro os
  kernel_rfl
end K05
open PySem PySem.W PySem.Calls PyProof.Rows
theorem K05_holds (law : ∀ ns : List Int, ns.length ≤ 63 → ∃ ss, Mp.run K05.G 1000 40 0 [.val (.lst (ns.map .int))] = .ok (.val (.bl true)) ss) : PySem.Challenge.rw_bridgeward_k05_ways_walks_and_prices.Holds := by
  w_on; o_law
  refine HandSHeadRun.head_any (r := OpenLaw.row PySem.Challenge.rw_bridgeward_k05_ways_walks_and_prices) (q := view (OpenLaw.row PySem.Challenge.rw_bridgeward_k05_ways_walks_and_prices).prog [50]) (H := Mp.hookM 8 K05.G K05.file) (ob := Mp.obM 8 K05.G K05.file) (M := 20000) (loose := K05.nms) (d := HandSHeadRun.topDef (OpenLaw.row PySem.Challenge.rw_bridgeward_k05_ways_walks_and_prices).prog 50) (kwd := []) Mp.obM_eq
    (by kernel_rfl) (fun s => by kernel_rfl) K05.hrun (by kernel_rfl) (by kernel_rfl) (by kernel_rfl) (by rfl) (by first | assumption | decide +kernel) (by decide +kernel) ⟨rfl, rfl, rfl, rfl, rfl, by decide +kernel⟩ ?hw ?hc
  case hw => w_witness2
  case hc =>
    exact Mp.mp_walk (l := PySem.Challenge.rw_bridgeward_k05_ways_walks_and_prices) (N := 40) (i := 0) (g := K05.G) (file := K05.file) (nh := 8) (fu := 1000) (df := K05.G_0) (x := "_law_script") rfl (by kernel_rfl) rfl rfl (by kernel_rfl) rfl ⟨rfl, by decide, by decide⟩ (by rfl) (by kernel_rfl) law

theorem PySem.Challenge.cw_bridgeward_k05_ways_walks_and_prices_holds : PySem.Challenge.rw_bridgeward_k05_ways_walks_and_prices.Holds :=
  K05_holds K05.law_ok
