import PyProof.Rows.All
import Wide.All
import OpenK.AllK
import Wide.FinOn
import HandS.ForMost
import HandS.ForExc
import HandS.Wide
import HandS.TupAny
import HandS.Deep
import HandS.IsInst
import HandS.RaiseMore
import HandS.CallSlots
import HandS.EndBits
import HandS.Replace
import HandS.ExcIs
import HandS.ExcOwn
import HandS.ExcField
import HandS.ExcInit
import HandS.Style
import HandS.Zip
import HandS.RevRange
import HandS.Conv
import HandS.Small
import HandS.Flow
import KE.GoesZip
import KE.GoesMore
import KE.GoesEnum
import HandS.SetFor
import HandS.SetKeys
import HandS.Dict
import HandS.More
import HandS.Strs
import HandS.ListItems
import PyProof.Rows.SetFrom
import PyProof.SetRoads
import KE.KDictList
import PyProof.Rows.StrMeet
import KE.KxIndex
import PyProof.Rows.StrJoinRep
import PySem.Challenge.RW_craneyard_k09_whole_stacks_plain
set_option Elab.async false
set_option linter.all false
set_option maxRecDepth 100000
/-! Mini, base: values without addresses, a store of what may change, and what it means that a frame stands so. -/
namespace Mi
open PySem L2

/-- a value: what never changes stands in it whole; what may change is a place of the store -/
inductive D where
  | non | bl (b : Bool) | int (i : Int) | str (x : Str)
  | ref (l : Nat) | ty (n : String) | cls (C : Str)
  | tup (xs : List D) | lst (xs : List D) | dic (kvs : List (Key × D)) | scr (xs : List D)
  | ins (C : Str) (fs : List (Str × D))
  | exc (C : Str) (fs : List (Str × D))
/-- what stands at a place of the store -/
inductive O where
  | lst (xs : List D) | dic (kvs : List (Key × D)) | ins (C : Str) (fs : List (Str × D))
abbrev Store := List (Option O)
abbrev Env := List (Option D)
/-- where the places of the store stand -/
structure Mu where
  f : Nat → Option Addr
  /-- what others have that may change: never a part of what is read here -/
  z : Addr → Prop
instance : CoeFun Mu (fun _ => Nat → Option Addr) := ⟨Mu.f⟩
def Ot (mu : Mu) (a : Addr) : Prop := (∀ l, mu l ≠ some a) ∧ ¬ mu.z a
abbrev Cl := Str → Option Addr

section
variable (K : PySem.W.Frag) (cl : Cl)
/-- a thing that is read and never written -/
def Fz (mu : Mu) (H : Hp) (a : Addr) (o : HO) : Prop := Rd H a o ∧ Ot mu a
/-- a dict that is read and never written again: it is locked -/
def FzL (mu : Mu) (H : Hp) (a : Addr) (o : HO) : Prop := (∃ q, H a = some (.frz q o)) ∧ Ot mu a
theorem FzL.fz {mu : Mu} {H : Hp} {a : Addr} {o : HO} (h : FzL mu H a o) : Fz mu H a o := ⟨.inr h.1, h.2⟩
def TupF (mu : Mu) (H : Hp) (a : Addr) (xs : List V) : Prop := Fz mu H a (.tup xs) ∨
    ∃ (o : Obj) (its : Array Value) (n : Nat), K.lookup a = some o ∧ o.cls = .type "tuple" ∧ o.data = .seq its n ∧ its.size ≤ sizeLine ∧ Vals xs its.toList
def ScrF (mu : Mu) (H : Hp) (a : Addr) (xs : List V) : Prop := Fz mu H a (.lst xs) ∨
    ∃ (o : Obj) (its : Array Value) (n : Nat), K.lookup a = some o ∧ o.cls = .type "list" ∧ o.dict = none ∧ o.data = .seq its n ∧ its.size ≤ sizeLine ∧ Vals xs its.toList
def LstF (mu : Mu) (H : Hp) (a : Addr) (xs : List V) : Prop := H a = some (.lst xs) ∧ Ot mu a
/-- an exception's own object, and its dict -/
def ExcO (a CA : Addr) (d : Option Addr) : HO := .ext fun h => ∃ o vs, h.get? a = some o ∧ o.cls = .ref CA ∧ o.dict = d ∧ o.data = .fields vs

mutual
inductive VRel (n : Nat) (mu : Mu) (H : Hp) : V → D → Prop
  | non : VRel n mu H .non .non
  | bl (b : Bool) : VRel n mu H (.bl b) (.bl b)
  | int (i : Int) : VRel n mu H (.int i) (.int i)
  | str (x : Str) : VRel n mu H (.str x) (.str x)
  | ty (x : String) : VRel n mu H (.ty x) (.ty x)
  | cls {C : Str} {CA : Addr} : cl C = some CA → VRel n mu H (.ref CA) (.cls C)
  | ref {v : V} {l : Nat} : l < n → (∀ a, mu l = some a → v = .ref a) → VRel n mu H v (.ref l)
  | tup {a : Addr} {vs : List V} {ds : List D} : TupF K mu H a vs → VRels n mu H vs ds → VRel n mu H (.ref a) (.tup ds)
  | lst {a : Addr} {vs : List V} {ds : List D} : LstF mu H a vs → VRels n mu H vs ds → VRel n mu H (.ref a) (.lst ds)
  | scr {a : Addr} {vs : List V} {ds : List D} : ScrF K mu H a vs → VRels n mu H vs ds → VRel n mu H (.ref a) (.scr ds)
  | dic {a : Addr} {ks : List Key} {vs : List V} {ds : List D} : FzL mu H a (.dK (ks.zip vs)) → ks.length = vs.length → VRels n mu H vs ds → VRel n mu H (.ref a) (.dic (ks.zip ds))
  | ins {a CA dx : Addr} {C : Str} {ks : List Str} {vs : List V} {ds : List D} : cl C = some CA → H a = some (.ins CA dx (ks.zip vs)) → Ot mu a → ks.length = vs.length → VRels n mu H vs ds → VRel n mu H (.ref a) (.ins C (ks.zip ds))
  | ex0 {a CA : Addr} {C : Str} : cl C = some CA → H a = some (ExcO a CA none) → Ot mu a → VRel n mu H (.ref a) (.exc C [])
  | exd {a CA d : Addr} {C : Str} {ks : List Str} {vs : List V} {ds : List D} : cl C = some CA → H a = some (ExcO a CA (some d)) → Ot mu a → H d = some (.xd (ks.zip vs)) → Ot mu d → ks ≠ [] → ks.length = vs.length → VRels n mu H vs ds → VRel n mu H (.ref a) (.exc C (ks.zip ds))
inductive VRels (n : Nat) (mu : Mu) (H : Hp) : List V → List D → Prop
  | nil : VRels n mu H [] []
  | cons {v : V} {d : D} {vs : List V} {ds : List D} : VRel n mu H v d → VRels n mu H vs ds → VRels n mu H (v :: vs) (d :: ds)
end

/-- what stands at the address of a place -/
inductive ORel (n : Nat) (mu : Mu) (H : Hp) (a : Addr) : O → Prop
  | lst {vs : List V} {ds : List D} : H a = some (.lst vs) → VRels K cl n mu H vs ds → ORel n mu H a (.lst ds)
  | dic {ks : List Key} {vs : List V} {ds : List D} : H a = some (.dK (ks.zip vs)) → ks.length = vs.length → VRels K cl n mu H vs ds → ORel n mu H a (.dic (ks.zip ds))
  | ins {CA dx : Addr} {C : Str} {ks : List Str} {vs : List V} {ds : List D} : cl C = some CA → H a = some (.ins CA dx (ks.zip vs)) → ks.length = vs.length → VRels K cl n mu H vs ds → ORel n mu H a (.ins C (ks.zip ds))

/-- the store stands in the heap -/
structure SR (mu : Mu) (H : Hp) (S : Store) : Prop where
  inj : ∀ l m a, mu l = some a → mu m = some a → l = m
  live : ∀ l o, S[l]? = some (some o) → ∃ a, mu l = some a ∧ ORel K cl S.length mu H a o
  dead : ∀ l, (∀ o, S[l]? ≠ some (some o)) → mu l = none
  zt : ∀ a, mu.z a → H a ≠ none
  zd : ∀ l a, mu l = some a → ¬ mu.z a

/-- what may have come of a heap meanwhile -/
structure Ext (n : Nat) (mu : Mu) (H : Hp) (n' : Nat) (mu' : Mu) (H' : Hp) : Prop where
  le : n ≤ n'
  keep : ∀ a o, H a = some o → (∀ l, mu l ≠ some a) → H' a = some o
  old : ∀ l a, l < n → mu' l = some a → mu l = some a
  new : ∀ l a, n ≤ l → mu' l = some a → H a = none
  trk : ∀ a, H' a = none → H a = none
  zz : mu'.z = mu.z
theorem Ext.refl {n : Nat} {mu : Mu} {H : Hp} (h : ∀ l, n ≤ l → mu l = none) : Ext n mu H n mu H :=
  ⟨Nat.le_refl _, fun _ _ h _ => h, fun _ _ _ h => h, fun l a hl e => absurd e (by rw [h l hl]; exact fun z => nomatch z), fun _ h => h, rfl⟩
theorem Ext.outf {n n' : Nat} {mu mu' : Mu} {H H' : Hp} (e : Ext n mu H n' mu' H') {a : Addr} {o : HO} (h : H a = some o) (f : ∀ l, mu l ≠ some a) : ∀ l, mu' l ≠ some a := fun l z => by
  by_cases hl : l < n
  · exact f l (e.old l a hl z)
  · rw [e.new l a (Nat.le_of_not_lt hl) z] at h; cases h
theorem Ext.out {n n' : Nat} {mu mu' : Mu} {H H' : Hp} (e : Ext n mu H n' mu' H') {a : Addr} {o : HO} (h : H a = some o) (f : Ot mu a) : Ot mu' a := ⟨e.outf h f.1, by rw [e.zz]; exact f.2⟩
theorem Ext.trans {n n1 n2 : Nat} {mu mu1 mu2 : Mu} {H H1 H2 : Hp} (a : Ext n mu H n1 mu1 H1) (b : Ext n1 mu1 H1 n2 mu2 H2) : Ext n mu H n2 mu2 H2 where
  le := Nat.le_trans a.le b.le
  keep := fun c o h f => b.keep c o (a.keep c o h f) (a.outf h f)
  old := fun l c hl e => a.old l c hl (b.old l c (Nat.lt_of_lt_of_le hl a.le) e)
  new := fun l c hl e => by
    by_cases hn : l < n1
    · exact a.new l c hl (b.old l c hn e)
    · exact a.trk c (b.new l c (Nat.le_of_not_lt hn) e)
  trk := fun c h => a.trk c (b.trk c h)
  zz := b.zz.trans a.zz
/-- all that is read stands on -/
structure Pr (n : Nat) (mu : Mu) (H : Hp) (n' : Nat) (mu' : Mu) (H' : Hp) : Prop where
  le : n ≤ n'
  keep : ∀ a o, H a = some o → Ot mu a → H' a = some o ∧ Ot mu' a
  old : ∀ l a, l < n → mu' l = some a → mu l = some a
theorem Ext.pr {n n' : Nat} {mu mu' : Mu} {H H' : Hp} (e : Ext n mu H n' mu' H') : Pr n mu H n' mu' H' := ⟨e.le, fun a o h f => ⟨e.keep a o h f.1, e.out h f⟩, e.old⟩
section
variable {K : PySem.W.Frag} {cl : Cl} {n n' : Nat} {mu mu' : Mu} {H H' : Hp}
theorem Fz.pr {a : Addr} {o : HO} (e : Pr n mu H n' mu' H') (h : Fz mu H a o) : Fz mu' H' a o := by
  obtain ⟨h, f⟩ := h
  rcases h with h | ⟨q, h⟩
  · exact ⟨.inl (e.keep _ _ h f).1, (e.keep _ _ h f).2⟩
  · exact ⟨.inr ⟨q, (e.keep _ _ h f).1⟩, (e.keep _ _ h f).2⟩
theorem FzL.pr {a : Addr} {o : HO} (e : Pr n mu H n' mu' H') (h : FzL mu H a o) : FzL mu' H' a o := by
  obtain ⟨⟨q, h⟩, f⟩ := h
  exact ⟨⟨q, (e.keep _ _ h f).1⟩, (e.keep _ _ h f).2⟩
theorem TupF.pr {a : Addr} {vs : List V} (e : Pr n mu H n' mu' H') (h : TupF K mu H a vs) : TupF K mu' H' a vs := h.elim (fun h => .inl (h.pr e)) .inr
theorem ScrF.pr {a : Addr} {vs : List V} (e : Pr n mu H n' mu' H') (h : ScrF K mu H a vs) : ScrF K mu' H' a vs := h.elim (fun h => .inl (h.pr e)) .inr
theorem LstF.pr {a : Addr} {vs : List V} (e : Pr n mu H n' mu' H') (h : LstF mu H a vs) : LstF mu' H' a vs := e.keep _ _ h.1 h.2
theorem TupF.sq {a : Addr} {vs : List V} (h : TupF K mu H a vs) : SqT K H a vs := h.elim (fun h => .inl h.1) .inr
theorem ScrF.sq {a : Addr} {vs : List V} (h : ScrF K mu H a vs) : SqL K H a vs := h.elim (fun h => .inl h.1) .inr
theorem LstF.sq {a : Addr} {vs : List V} (h : LstF mu H a vs) : SqL K H a vs := .inl (.inl h.1)
mutual
theorem VRel.pr (e : Pr n mu H n' mu' H') : ∀ {v : V} {d : D}, VRel K cl n mu H v d → VRel K cl n' mu' H' v d
  | _, _, .non => .non
  | _, _, .bl b => .bl b
  | _, _, .int i => .int i
  | _, _, .str x => .str x
  | _, _, .ty x => .ty x
  | _, _, .cls h => .cls h
  | _, _, .ref hl h => .ref (Nat.lt_of_lt_of_le hl e.le) fun a q => h a (e.old _ a hl q)
  | _, _, .tup f r => .tup (f.pr e) (VRels.pr e r)
  | _, _, .lst f r => .lst (f.pr e) (VRels.pr e r)
  | _, _, .scr f r => .scr (f.pr e) (VRels.pr e r)
  | _, _, .dic f hl r => .dic (f.pr e) hl (VRels.pr e r)
  | _, _, .ins hc h f hl r => .ins hc (e.keep _ _ h f).1 (e.keep _ _ h f).2 hl (VRels.pr e r)
  | _, _, .ex0 hc h f => .ex0 hc (e.keep _ _ h f).1 (e.keep _ _ h f).2
  | _, _, .exd hc h f h2 f2 ne hl r => .exd hc (e.keep _ _ h f).1 (e.keep _ _ h f).2 (e.keep _ _ h2 f2).1 (e.keep _ _ h2 f2).2 ne hl (VRels.pr e r)
theorem VRels.pr (e : Pr n mu H n' mu' H') : ∀ {vs : List V} {ds : List D}, VRels K cl n mu H vs ds → VRels K cl n' mu' H' vs ds
  | _, _, .nil => .nil
  | _, _, .cons h r => .cons (VRel.pr e h) (VRels.pr e r)
end
theorem VRel.mono (e : Ext n mu H n' mu' H') {v : V} {d : D} (h : VRel K cl n mu H v d) : VRel K cl n' mu' H' v d := h.pr e.pr
theorem VRels.mono (e : Ext n mu H n' mu' H') {vs : List V} {ds : List D} (h : VRels K cl n mu H vs ds) : VRels K cl n' mu' H' vs ds := h.pr e.pr
theorem VRels.length : ∀ {vs : List V} {ds : List D}, VRels K cl n mu H vs ds → vs.length = ds.length
  | _, _, .nil => rfl
  | _, _, .cons _ r => by simp only [List.length_cons, VRels.length r]
theorem VRels.get : ∀ {vs : List V} {ds : List D} {i : Nat} {d : D}, VRels K cl n mu H vs ds → ds[i]? = some d → ∃ v, vs[i]? = some v ∧ VRel K cl n mu H v d
  | _, _, _, _, .nil, e => by simp at e
  | _, _, 0, _, .cons h _, e => by simp at e; subst e; exact ⟨_, rfl, h⟩
  | _, _, i + 1, _, .cons _ r, e => by
    obtain ⟨v, e1, h⟩ := VRels.get (i := i) r (by simpa using e)
    exact ⟨v, by simpa using e1, h⟩
theorem VRels.getV : ∀ {vs : List V} {ds : List D} {i : Nat} {v : V}, VRels K cl n mu H vs ds → vs[i]? = some v → ∃ d, ds[i]? = some d ∧ VRel K cl n mu H v d
  | _, _, _, _, .nil, e => by simp at e
  | _, _, 0, _, .cons h _, e => by simp at e; subst e; exact ⟨_, rfl, h⟩
  | _, _, i + 1, _, .cons _ r, e => by
    obtain ⟨v, e1, h⟩ := VRels.getV (i := i) r (by simpa using e)
    exact ⟨v, by simpa using e1, h⟩
theorem VRels.append : ∀ {vs us : List V} {ds es : List D}, VRels K cl n mu H vs ds → VRels K cl n mu H us es → VRels K cl n mu H (vs ++ us) (ds ++ es)
  | _, _, _, _, .nil, q => q
  | _, _, _, _, .cons h r, q => .cons h (VRels.append r q)
theorem VRels.drop : ∀ {vs : List V} {ds : List D} (k : Nat), VRels K cl n mu H vs ds → VRels K cl n mu H (vs.drop k) (ds.drop k)
  | _, _, 0, r => r
  | _, _, _ + 1, .nil => .nil
  | _, _, k + 1, .cons _ r => VRels.drop k r
theorem VRels.take : ∀ {vs : List V} {ds : List D} (k : Nat), VRels K cl n mu H vs ds → VRels K cl n mu H (vs.take k) (ds.take k)
  | _, _, 0, _ => .nil
  | _, _, _ + 1, .nil => .nil
  | _, _, k + 1, .cons h r => .cons h (VRels.take k r)
theorem VRels.set {v : V} {d : D} (h : VRel K cl n mu H v d) : ∀ {vs : List V} {ds : List D} (k : Nat), VRels K cl n mu H vs ds → VRels K cl n mu H (vs.set k v) (ds.set k d)
  | _, _, _, .nil => .nil
  | _, _, 0, .cons _ r => .cons h r
  | _, _, k + 1, .cons q r => .cons q (VRels.set h k r)
theorem VRels.eraseIdx : ∀ {vs : List V} {ds : List D} (k : Nat), VRels K cl n mu H vs ds → VRels K cl n mu H (vs.eraseIdx k) (ds.eraseIdx k)
  | _, _, _, .nil => .nil
  | _, _, 0, .cons _ r => r
  | _, _, k + 1, .cons q r => .cons q (VRels.eraseIdx k r)
theorem VRels.reverse : ∀ {vs : List V} {ds : List D}, VRels K cl n mu H vs ds → VRels K cl n mu H vs.reverse ds.reverse
  | _, _, .nil => .nil
  | _, _, .cons q r => by
    rw [List.reverse_cons, List.reverse_cons]
    exact (VRels.reverse r).append (.cons q .nil)
end
end
end Mi
namespace Mi
open PySem L2

/-- what comes of a piece of code -/
inductive Out (α : Type) where
  | ok (a : α) (S : Store) | exc (C : Str) (fs : List (Str × D)) (S : Store) | stuck
def Out.bind {α β : Type} (o : Out α) (k : α → Store → Out β) : Out β :=
  match o with
  | .ok a S => k a S
  | .exc C fs S => .exc C fs S
  | .stuck => .stuck
@[simp] theorem bind_ok {α β : Type} (a : α) (S : Store) (k : α → Store → Out β) : (Out.ok a S).bind k = k a S := of_eq_true (eq_self _)
@[simp] theorem bind_exc {α β : Type} (C : Str) (fs : List (Str × D)) (S : Store) (k : α → Store → Out β) : (Out.exc C fs S : Out α).bind k = .exc C fs S := of_eq_true (eq_self _)
@[simp] theorem bind_stuck {α β : Type} (k : α → Store → Out β) : (Out.stuck : Out α).bind k = .stuck := of_eq_true (eq_self _)
abbrev DE := Env → Store → Out D
abbrev DA := Env → Store → Out (List D)
abbrev DT := Env → Store → Out Bool

section
variable (K : PySem.W.Frag) (cl : Cl)
def ERel (n : Nat) (mu : Mu) (H : Hp) (σ : St) (δ : Env) : Prop := σ.length = δ.length ∧ ∀ (i : Nat) (d : D), δ[i]? = some (some d) → ∃ v, σ[i]? = some (some v) ∧ VRel K cl n mu H v d
/-- an exception's own dict -/
def XF (n : Nat) (mu : Mu) (H : Hp) (dx : Option Addr) (fs : List (Str × D)) : Prop :=
  (fs = [] ∧ dx = none) ∨ ∃ (d : Addr) (ks : List Str) (vs : List V) (ds : List D), dx = some d ∧ H d = some (.xd (ks.zip vs)) ∧ Ot mu d ∧ ks ≠ [] ∧ fs = ks.zip ds ∧ ks.length = vs.length ∧ VRels K cl n mu H vs ds
abbrev Rl (α β : Type) := Nat → Mu → Hp → β → α → Prop
/-- what is wanted behind -/
def Af {α β : Type} (R : Rl α β) (n : Nat) (mu : Mu) (H : Hp) (σ : St) (W : WX) (o : Out α) (Q : β → Hp → Prop) : Prop :=
  match o with
  | .ok d S' => ∀ v H' mu', Ext n mu H S'.length mu' H' → SR K cl mu' H' S' → R S'.length mu' H' v d → Q v H'
  | .exc C fs S' => ∀ CA dx H' mu', cl C = some CA → Ext n mu H S'.length mu' H' → SR K cl mu' H' S' → XF K cl S'.length mu' H' dx fs → W (.ref CA) dx σ H'
  | .stuck => False
abbrev RB : Rl Bool Bool := fun _ _ _ b c => b = c
def tE (W : WX) (f : DE) : TE := fun σ H Q => ∃ mu δ S, SR K cl mu H S ∧ ERel K cl S.length mu H σ δ ∧ Af K cl (VRel K cl) S.length mu H σ W (f δ S) Q
def tA (W : WX) (f : DA) : TA := fun σ H Q => ∃ mu δ S, SR K cl mu H S ∧ ERel K cl S.length mu H σ δ ∧ Af K cl (VRels K cl) S.length mu H σ W (f δ S) Q
def tT (W : WX) (f : DT) : TT := fun σ H Q => ∃ mu δ S, SR K cl mu H S ∧ ERel K cl S.length mu H σ δ ∧ Af K cl RB S.length mu H σ W (f δ S) Q
end
section
variable {K : PySem.W.Frag} {cl : Cl} {n n1 : Nat} {mu mu1 : Mu} {H H1 : Hp} {σ : St} {δ : Env} {W : WX} {S : Store}
theorem SR.top (h : SR K cl mu H S) : ∀ l, S.length ≤ l → mu l = none := fun l hl => h.dead l fun o e => by
  rw [List.getElem?_eq_none hl] at e; cases e
theorem SR.rfl' (h : SR K cl mu H S) : Ext S.length mu H S.length mu H := Ext.refl h.top
theorem SR.at_ (h : SR K cl mu H S) {l : Nat} {a : Addr} (e : mu l = some a) : ∃ o, S[l]? = some (some o) ∧ ORel K cl S.length mu H a o := by
  cases q : S[l]? with
  | none => rw [h.dead l fun o z => by rw [q] at z; cases z] at e; cases e
  | some x =>
    cases x with
    | none => rw [h.dead l fun o z => by rw [q] at z; cases z] at e; cases e
    | some o =>
      obtain ⟨b, e', r⟩ := h.live l o q
      rw [e] at e'; cases e'
      exact ⟨o, rfl, r⟩
theorem ORel.there {a : Addr} {o : O} (h : ORel K cl n mu H a o) : H a ≠ none := by
  cases h with
  | lst e _ => rw [e]; exact fun z => nomatch z
  | dic e _ _ => rw [e]; exact fun z => nomatch z
  | ins _ e _ _ => rw [e]; exact fun z => nomatch z
theorem SR.ne (h : SR K cl mu H S) {p : Addr} (hp : H p = none) : ∀ l, mu l ≠ some p := fun l e => by
  obtain ⟨o, _, r⟩ := h.at_ e
  exact r.there hp
theorem SR.ot (h : SR K cl mu H S) {p : Addr} (hp : H p = none) : Ot mu p := ⟨h.ne hp, fun z => h.zt p z hp⟩
theorem ORel.mono {a : Addr} {o : O} (e : Ext n mu H n1 mu1 H1) (q : H1 a = H a) (h : ORel K cl n mu H a o) : ORel K cl n1 mu1 H1 a o := by
  cases h with
  | lst z r => exact .lst (q.trans z) (r.mono e)
  | dic z l r => exact .dic (q.trans z) l (r.mono e)
  | ins c z l r => exact .ins c (q.trans z) l (r.mono e)
theorem ORel.pr {a : Addr} {o : O} (e : Pr n mu H n1 mu1 H1) (q : H1 a = H a) (h : ORel K cl n mu H a o) : ORel K cl n1 mu1 H1 a o := by
  cases h with
  | lst z r => exact .lst (q.trans z) (r.pr e)
  | dic z l r => exact .dic (q.trans z) l (r.pr e)
  | ins c z l r => exact .ins c (q.trans z) l (r.pr e)
theorem SR.re (s : SR K cl mu H S) (p : Pr S.length mu H S.length mu1 H1) (hf : mu1.f = mu.f) (hk : ∀ l a, mu l = some a → H1 a = H a) (hz : ∀ a, mu1.z a → H1 a ≠ none) (hd : ∀ l a, mu l = some a → ¬ mu1.z a) : SR K cl mu1 H1 S where
  inj := by rw [hf]; exact s.inj
  live := fun l o e => by
    obtain ⟨a, h1, h2⟩ := s.live l o e
    exact ⟨a, by rw [hf]; exact h1, h2.pr p (hk l a h1)⟩
  dead := by rw [hf]; exact s.dead
  zt := hz
  zd := by rw [hf]; exact hd
theorem ERel.pr (e : Pr n mu H n1 mu1 H1) (h : ERel K cl n mu H σ δ) : ERel K cl n1 mu1 H1 σ δ :=
  ⟨h.1, fun i d q => let ⟨v, a, b⟩ := h.2 i d q; ⟨v, a, b.pr e⟩⟩
theorem ERel.mono (e : Ext n mu H n1 mu1 H1) (h : ERel K cl n mu H σ δ) : ERel K cl n1 mu1 H1 σ δ :=
  ⟨h.1, fun i d q => let ⟨v, a, b⟩ := h.2 i d q; ⟨v, a, b.mono e⟩⟩
theorem Af.ext {α β : Type} {R : Rl α β} {o : Out α} {Q : β → Hp → Prop} (e : Ext n mu H n1 mu1 H1) (h : Af K cl R n mu H σ W o Q) : Af K cl R n1 mu1 H1 σ W o Q := by
  cases o with
  | ok d S' => exact fun v H' mu' e' => h v H' mu' (e.trans e')
  | exc C fs S' => exact fun CA dx H' mu' hc e' => h CA dx H' mu' hc (e.trans e')
  | stuck => exact h
theorem Af.mono {α β : Type} {R : Rl α β} {o : Out α} {Q Q' : β → Hp → Prop} (h : Af K cl R n mu H σ W o Q) (q : ∀ v H', Q v H' → Q' v H') : Af K cl R n mu H σ W o Q' := by
  cases o with
  | ok d S' => exact fun v H' mu' e s r => q _ _ (h v H' mu' e s r)
  | exc C fs S' => exact h
  | stuck => exact h
/-- behind the first of two -/
theorem Af.bind {α β α' β' : Type} {R : Rl α β} {R' : Rl α' β'} {o : Out α} {k : α → Store → Out α'} {Q : β' → Hp → Prop} (h : Af K cl R' n mu H σ W (o.bind k) Q) :
    Af K cl R n mu H σ W o (fun v H1 => ∃ mu1 d S1, SR K cl mu1 H1 S1 ∧ Ext n mu H S1.length mu1 H1 ∧ R S1.length mu1 H1 v d ∧ Af K cl R' S1.length mu1 H1 σ W (k d S1) Q) := by
  cases o with
  | ok d S' => exact fun v H' mu' e s r => ⟨mu', d, S', s, e, r, Af.ext e h⟩
  | exc C fs S' => exact h
  | stuck => exact h
theorem Af.now {α β : Type} {R : Rl α β} {d : α} {Q : β → Hp → Prop} (h : Af K cl R S.length mu H σ W (.ok d S) Q) (s : SR K cl mu H S) {v : β} (r : R S.length mu H v d) : Q v H := h v H mu s.rfl' s r

/-! what is made new -/
theorem ext_new (s : SR K cl mu H S) {p : Addr} {o : HO} (hp : H p = none) : Ext S.length mu H S.length mu (upd H p o) where
  le := Nat.le_refl _
  keep := fun a u h _ => by rw [upd_ne (ne_of_none h hp)]; exact h
  old := fun _ _ _ h => h
  new := fun l a hl e => by rw [s.top l hl] at e; cases e
  trk := fun a h => by
    by_cases e : a = p
    · rw [e]; exact hp
    · rw [upd_ne e] at h; exact h
  zz := rfl
theorem sr_new (s : SR K cl mu H S) {p : Addr} {o : HO} (hp : H p = none) : SR K cl mu (upd H p o) S where
  inj := s.inj
  live := fun l x e => by
    obtain ⟨a, h1, h2⟩ := s.live l x e
    exact ⟨a, h1, h2.mono (ext_new s hp) (upd_ne fun z => h2.there (by rw [z]; exact hp))⟩
  dead := s.dead
  zt := fun a h => by
    by_cases e : a = p
    · rw [e, upd_same]; exact fun z => nomatch z
    · rw [upd_ne e]; exact s.zt a h
  zd := s.zd
theorem fz_new (s : SR K cl mu H S) {p : Addr} {o : HO} (hp : H p = none) : Fz mu (upd H p o) p o := ⟨.inl upd_same, s.ot hp⟩
theorem fl_new (s : SR K cl mu H S) {p : Addr} {q : Obj} {o : HO} (hp : H p = none) : FzL mu (upd H p (.frz q o)) p o := ⟨⟨q, upd_same⟩, s.ot hp⟩
theorem lf_new (s : SR K cl mu H S) {p : Addr} {xs : List V} (hp : H p = none) : LstF mu (upd H p (.lst xs)) p xs := ⟨upd_same, s.ot hp⟩
theorem Af.lst {ds : List D} {vs : List V} {Q : VK} (h : Af K cl (VRel K cl) S.length mu H σ W (.ok (.lst ds) S) Q) (s : SR K cl mu H S) (r : VRels K cl S.length mu H vs ds) : ∀ p, H p = none → Q (.ref p) (upd H p (.lst vs)) :=
  fun p hp => h _ _ mu (ext_new s hp) (sr_new s hp) (.lst (lf_new s hp) (r.mono (ext_new s hp)))
theorem Af.tup {ds : List D} {vs : List V} {Q : VK} (h : Af K cl (VRel K cl) S.length mu H σ W (.ok (.tup ds) S) Q) (s : SR K cl mu H S) (r : VRels K cl S.length mu H vs ds) : ∀ p, H p = none → Q (.ref p) (upd H p (.tup vs)) :=
  fun p hp => h _ _ mu (ext_new s hp) (sr_new s hp) (.tup (.inl (fz_new s hp)) (r.mono (ext_new s hp)))

/-- a place more -/
def muAdd (mu : Mu) (n : Nat) (p : Addr) : Mu := ⟨fun l => if l = n then some p else mu l, mu.z⟩
theorem ext_add (s : SR K cl mu H S) {p : Addr} {o : HO} {x : Option O} (hp : H p = none) : Ext S.length mu H (S ++ [x]).length (muAdd mu S.length p) (upd H p o) where
  le := by simp
  keep := fun a u h _ => by rw [upd_ne (ne_of_none h hp)]; exact h
  old := fun l a hl h => by
    dsimp only [muAdd] at h
    rw [if_neg (Nat.ne_of_lt hl)] at h
    exact h
  new := fun l a hl e => by
    dsimp only [muAdd] at e
    split at e
    · cases e; exact hp
    · rw [s.top l hl] at e; cases e
  trk := (ext_new (o := o) s hp).trk
  zz := rfl
theorem sr_add (s : SR K cl mu H S) {p : Addr} {o : HO} {x : O} (hp : H p = none) (r : ORel K cl (S ++ [some x]).length (muAdd mu S.length p) (upd H p o) p x) : SR K cl (muAdd mu S.length p) (upd H p o) (S ++ [some x]) where
  inj := fun l m a e1 e2 => by
    dsimp only [muAdd] at e1 e2
    split at e1 <;> split at e2
    · rename_i z1 z2; rw [z1, z2]
    · cases e1; exact absurd e2 (s.ne hp m)
    · cases e2; exact absurd e1 (s.ne hp l)
    · exact s.inj l m a e1 e2
  live := fun l y e => by
    by_cases hl : l < S.length
    · rw [List.getElem?_append_left hl] at e
      obtain ⟨a, h1, h2⟩ := s.live l y e
      exact ⟨a, by dsimp only [muAdd]; rw [if_neg (Nat.ne_of_lt hl)]; exact h1, h2.mono (ext_add s hp) (upd_ne fun z => h2.there (by rw [z]; exact hp))⟩
    · have hl' : l = S.length := by
        have := (List.getElem?_eq_some_iff.mp e).1
        rw [List.length_append] at this
        have h1 : ([some x] : Store).length = 1 := rfl
        omega
      subst hl'
      rw [List.getElem?_append_right (Nat.le_refl _), Nat.sub_self] at e
      cases e
      exact ⟨p, if_pos rfl, r⟩
  dead := fun l h => by
    dsimp only [muAdd]
    by_cases e : l = S.length
    · subst e
      exact absurd (by rw [List.getElem?_append_right (Nat.le_refl _), Nat.sub_self]; rfl) (h x)
    · rw [if_neg e]
      refine s.dead l fun y z => h y ?_
      rw [List.getElem?_append_left (List.getElem?_eq_some_iff.mp z).1]
      exact z
  zt := (sr_new s hp).zt
  zd := fun l a e => by
    dsimp only [muAdd] at e ⊢
    split at e
    · cases e; exact fun z => s.zt p z hp
    · exact s.zd l a e

/-- a place's thing is another -/
theorem ext_put (s : SR K cl mu H S) {l : Nat} {a : Addr} {o : HO} {x : Option O} (e : mu l = some a) : Ext S.length mu H (S.set l x).length mu (upd H a o) where
  le := by simp
  keep := fun b u h f => by rw [upd_ne fun z => f l (by rw [z]; exact e)]; exact h
  old := fun _ _ _ h => h
  new := fun m b hm q => by rw [s.top m hm] at q; cases q
  trk := fun b h => by
    by_cases z : b = a
    · rw [z, upd_same] at h; cases h
    · rw [upd_ne z] at h; exact h
  zz := rfl
theorem sr_put (s : SR K cl mu H S) {l : Nat} {a : Addr} {o : HO} {x : O} (e : mu l = some a) (r : ORel K cl (S.set l (some x)).length mu (upd H a o) a x) : SR K cl mu (upd H a o) (S.set l (some x)) where
  inj := s.inj
  live := fun m y q => by
    by_cases hm : l = m
    · subst hm
      obtain ⟨o', h, _⟩ := s.at_ e
      rw [List.getElem?_set_self (List.getElem?_eq_some_iff.mp h).1] at q
      cases q
      exact ⟨a, e, r⟩
    · rw [List.getElem?_set_ne hm] at q
      obtain ⟨b, h1, h2⟩ := s.live m y q
      exact ⟨b, h1, h2.mono (ext_put s e) (upd_ne fun z => hm (s.inj l m a e (by rw [← z]; exact h1)))⟩
  dead := fun m h => by
    by_cases hm : l = m
    · subst hm
      obtain ⟨o', h', _⟩ := s.at_ e
      exact absurd (List.getElem?_set_self (List.getElem?_eq_some_iff.mp h').1) (h x)
    · refine s.dead m fun y z => h y ?_
      rw [List.getElem?_set_ne hm]
      exact z
  zt := fun b h => by
    by_cases z : b = a
    · rw [z, upd_same]; exact fun z => nomatch z
    · rw [upd_ne z]; exact s.zt b h
  zd := s.zd
/-- a place is given up: what stood there is read from then on -/
def muDel (mu : Mu) (l : Nat) : Mu := ⟨fun m => if m = l then none else mu m, mu.z⟩
theorem ext_del (s : SR K cl mu H S) (l : Nat) : Ext S.length mu H (S.set l none).length (muDel mu l) H where
  le := by simp
  keep := fun b u h f => h
  old := fun m b _ h => by
    dsimp only [muDel] at h
    split at h
    · cases h
    · exact h
  new := fun m b hm q => by
    dsimp only [muDel] at q
    split at q
    · cases q
    · rw [s.top m hm] at q; cases q
  trk := fun _ h => h
  zz := rfl
theorem sr_del (s : SR K cl mu H S) (l : Nat) : SR K cl (muDel mu l) H (S.set l none) where
  inj := fun i m a e1 e2 => by
    dsimp only [muDel] at e1 e2
    split at e1
    · cases e1
    · split at e2
      · cases e2
      · exact s.inj i m a e1 e2
  live := fun m y q => by
    by_cases hm : l = m
    · subst hm
      have hl : l < S.length := by have := (List.getElem?_eq_some_iff.mp q).1; simpa using this
      rw [List.getElem?_set_self hl] at q
      cases q
    · rw [List.getElem?_set_ne hm] at q
      obtain ⟨b, h1, h2⟩ := s.live m y q
      exact ⟨b, by dsimp only [muDel]; rw [if_neg (Ne.symm hm)]; exact h1, h2.mono (ext_del s l) rfl⟩
  dead := fun m h => by
    dsimp only [muDel]
    by_cases hm : m = l
    · rw [if_pos hm]
    · rw [if_neg hm]
      refine s.dead m fun y z => h y ?_
      rw [List.getElem?_set_ne (Ne.symm hm)]
      exact z
  zt := s.zt
  zd := fun m a e => by
    dsimp only [muDel] at e ⊢
    split at e
    · cases e
    · exact s.zd m a e
theorem del_ne (s : SR K cl mu H S) {l : Nat} {a : Addr} (e : mu l = some a) : Ot (muDel mu l) a := ⟨fun m q => by
  dsimp only [muDel] at q
  split at q
  · cases q
  · rename_i hm
    exact hm (s.inj m l a q e), s.zd l a e⟩
/-- a dict of the store is given up, and locked -/
theorem ext_delL (s : SR K cl mu H S) {l : Nat} {a : Addr} (e : mu l = some a) {o : HO} : Ext S.length mu H (S.set l none).length (muDel mu l) (upd H a o) where
  le := by simp
  keep := fun b u h f => by rw [upd_ne fun z => f l (by rw [z]; exact e)]; exact h
  old := (ext_del s l).old
  new := (ext_del s l).new
  trk := fun b h => by
    by_cases z : b = a
    · rw [z, upd_same] at h; cases h
    · rw [upd_ne z] at h; exact h
  zz := rfl
theorem sr_delL (s : SR K cl mu H S) {l : Nat} {a : Addr} (e : mu l = some a) {o : HO} : SR K cl (muDel mu l) (upd H a o) (S.set l none) where
  inj := (sr_del s l).inj
  live := fun m y q => by
    by_cases hm : l = m
    · subst hm
      have hl : l < S.length := by have := (List.getElem?_eq_some_iff.mp q).1; simpa using this
      rw [List.getElem?_set_self hl] at q
      cases q
    · rw [List.getElem?_set_ne hm] at q
      obtain ⟨b, h1, h2⟩ := s.live m y q
      exact ⟨b, by dsimp only [muDel]; rw [if_neg (Ne.symm hm)]; exact h1, h2.mono (ext_delL s e) (upd_ne fun z => hm (s.inj l m a e (by rw [← z]; exact h1)))⟩
  dead := (sr_del s l).dead
  zt := fun b q => by
    by_cases z : b = a
    · rw [z, upd_same]; exact fun z => nomatch z
    · rw [upd_ne z]; exact s.zt b q
  zd := (sr_del s l).zd
end

/-! the judgements -/
/-- what a piece told may be locked -/
theorem pe_lk {X : Cx} {e : Expr} {t : TE} (h : PE X e t) : PE X e (fun σ H Q => t σ H fun v H1 => Q v H1 ∨ ∃ d u, v = .ref d ∧ H1 d = some u ∧ Mut (some u) ∧ ∀ od, Q v (upd H1 d (.frz od u))) := ⟨fun pins s σ H Q I q => by
  refine thn (h.run pins s σ H _ I q) fun u s1 ⟨x, H1, I1, r, q1⟩ => ?_
  rcases q1 with q1 | ⟨d, o, rfl, hd, mu, q1⟩
  · exact ⟨x, H1, I1, r, q1⟩
  · obtain ⟨od, I2⟩ := I1.lock hd mu
    exact ⟨_, _, I2, r, q1 od⟩⟩
theorem pe_imp {X : Cx} {e : Expr} {t t' : TE} (h : PE X e t) (i : ∀ σ H Q, t' σ H Q → t σ H Q) : PE X e t' := ⟨fun pins s σ H Q I q => h.run pins s σ H Q I (i σ H Q q)⟩
theorem pt_imp {X : Cx} {e : Expr} {t t' : TT} (h : PT X e t) (i : ∀ σ H Q, t' σ H Q → t σ H Q) : PT X e t' := ⟨fun pins s σ H Q I q => h.run pins s σ H Q I (i σ H Q q)⟩
theorem pa_imp {X : Cx} {es : List Expr} {t t' : TA} (h : PA X es t) (i : ∀ σ H Q, t' σ H Q → t σ H Q) : PA X es t' := ⟨fun pos pins s σ H Q I q => h.run pos pins s σ H Q I (i σ H Q q)⟩
structure FE (X : Cx) (cl : Cl) (W : WX) (e : Expr) (f : DE) : Prop where
  pe : PE X e (tE X.K cl W f)
structure FT (X : Cx) (cl : Cl) (W : WX) (e : Expr) (f : DT) : Prop where
  pt : PT X e (tT X.K cl W f)
structure FA (X : Cx) (cl : Cl) (W : WX) (es : List Expr) (f : DA) : Prop where
  pa : PA X es (tA X.K cl W f)
/-- what a derivation may lean on -/
structure Good (X : Cx) (W : WX) (k : Nat) : Prop where
  calm : X.calm = true
  tk : Takes X W
  room : Room k X.A
  nd : X.N.Nodup
  grd : X.A.guards = some []
  own : PassesOwn (model X.prog X.w) X.A X.env X.xe

section
variable {X : Cx} {cl : Cl} {W : WX} {e a b c : Expr} {fa fb fc : DE} {pos : Pos}
theorem fe_of {t : TE} {f : DE} (h : PE X e t) (i : ∀ mu δ S σ H Q, SR X.K cl mu H S → ERel X.K cl S.length mu H σ δ → Af X.K cl (VRel X.K cl) S.length mu H σ W (f δ S) Q → t σ H Q) : FE X cl W e f :=
  ⟨pe_imp h fun σ H Q ⟨mu, δ, S, s, r, q⟩ => i mu δ S σ H Q s r q⟩
theorem ft_of {t : TT} {f : DT} (h : PT X e t) (i : ∀ mu δ S σ H Q, SR X.K cl mu H S → ERel X.K cl S.length mu H σ δ → Af X.K cl RB S.length mu H σ W (f δ S) Q → t σ H Q) : FT X cl W e f :=
  ⟨pt_imp h fun σ H Q ⟨mu, δ, S, s, r, q⟩ => i mu δ S σ H Q s r q⟩
theorem fa_of {es : List Expr} {t : TA} {f : DA} (h : PA X es t) (i : ∀ mu δ S σ H Q, SR X.K cl mu H S → ERel X.K cl S.length mu H σ δ → Af X.K cl (VRels X.K cl) S.length mu H σ W (f δ S) Q → t σ H Q) : FA X cl W es f :=
  ⟨pa_imp h fun σ H Q ⟨mu, δ, S, s, r, q⟩ => i mu δ S σ H Q s r q⟩
/-- go on within -/
theorem tE_in {K : PySem.W.Frag} {f : DE} {mu : Mu} {δ : Env} {S : Store} {σ : St} {H : Hp} {Q : VK} (s : SR K cl mu H S) (r : ERel K cl S.length mu H σ δ) (h : Af K cl (VRel K cl) S.length mu H σ W (f δ S) Q) : tE K cl W f σ H Q := ⟨mu, δ, S, s, r, h⟩

/-! names and constants -/
def eVar (i : Nat) : DE := fun δ S => match δ[i]? with | some (some d) => .ok d S | _ => .stuck
def eC (d : D) : DE := fun _ S => .ok d S
theorem fe_var {i : Nat} (h : PE X e (tVar i)) : FE X cl W e (eVar i) := fe_of h fun mu δ S σ H Q s r q => by
  unfold eVar at q
  split at q
  · rename_i d hd
    obtain ⟨v, e1, h1⟩ := r.2 i d hd
    exact ⟨v, e1, Af.now q s h1⟩
  · exact q.elim
theorem fe_const {v : V} {d : D} (h : PE X e (tC v)) (r : ∀ n mu H, VRel X.K cl n mu H v d) : FE X cl W e (eC d) := fe_of h fun mu δ S σ H Q s _ q => Af.now q s (r _ _ _)
theorem fe_int {i j pos} : FE X cl W (.Constant (.int i) j pos) (eC (.int i)) := fe_const pe_int fun _ _ _ => .int i
theorem fe_str {i j pos} : FE X cl W (.Constant (.str i) j pos) (eC (.str i)) := fe_const pe_str fun _ _ _ => .str i
theorem fe_bl {i j pos} : FE X cl W (.Constant (.bool i) j pos) (eC (.bl i)) := fe_const pe_bl fun _ _ _ => .bl i
theorem fe_non {j pos} : FE X cl W (.Constant .none j pos) (eC .non) := fe_const pe_non fun _ _ _ => .non

/-! arguments -/
def aNil : DA := fun _ S => .ok [] S
def aCons (f : DE) (g : DA) : DA := fun δ S => (f δ S).bind fun x S1 => (g δ S1).bind fun xs S2 => .ok (x :: xs) S2
theorem fa_nil : FA X cl W [] aNil := fa_of pa_nil fun mu δ S σ H Q s _ q => Af.now q s .nil
theorem fa_cons {es : List Expr} {g : DA} (h : FE X cl W e fa) (hs : FA X cl W es g) (hst : starEach (e :: es) X.env = (false, eval e X.env) :: starEach es X.env := by rfl) : FA X cl W (e :: es) (aCons fa g) :=
  fa_of (pa_cons h.pe hs.pa hst) fun mu δ S σ H Q s r q => by
    refine ⟨mu, δ, S, s, r, (Af.bind q).mono fun v H1 ⟨mu1, d, S1, s1, e1, r1, q1⟩ => ?_⟩
    refine ⟨mu1, δ, S1, s1, r.mono e1, (Af.bind q1).mono fun vs H2 ⟨mu2, ds, S2, s2, e2, r2, q2⟩ => ?_⟩
    exact Af.now q2 s2 (.cons (r1.mono e2) r2)

/-! operators -/
abbrev G2 := D → D → Store → Out D
def OpOk (X : Cx) (cl : Cl) (W : WX) (r : R2) (g : G2) : Prop := ∀ mu S σ H v u x y Q, SR X.K cl mu H S → VRel X.K cl S.length mu H v x → VRel X.K cl S.length mu H u y → Af X.K cl (VRel X.K cl) S.length mu H σ W (g x y S) Q → r v u H Q
def e2 (g : G2) (fa fb : DE) : DE := fun δ S => (fa δ S).bind fun x S1 => (fb δ S1).bind fun y S2 => g x y S2
theorem op_step {r : R2} {g : G2} (ho : OpOk X cl W r g) (ha : FE X cl W a fa) (hb : FE X cl W b fb) {mu δ S σ H Q} (s : SR X.K cl mu H S) (rr : ERel X.K cl S.length mu H σ δ) (q : Af X.K cl (VRel X.K cl) S.length mu H σ W (e2 g fa fb δ S) Q) :
    tOp r (tE X.K cl W fa) (tE X.K cl W fb) σ H Q := by
  refine ⟨mu, δ, S, s, rr, (Af.bind q).mono fun v H1 ⟨mu1, d, S1, s1, e1, r1, q1⟩ => ?_⟩
  refine ⟨mu1, δ, S1, s1, rr.mono e1, (Af.bind q1).mono fun u H2 ⟨mu2, d2, S2, s2, e2, r2, q2⟩ => ?_⟩
  exact ho mu2 S2 σ H2 v u d d2 Q s2 (r1.mono e2) r2 q2
theorem fe_op {op : Operator} {r : R2} {g : G2} (ho : OpR X (binaryOp op) r) (hk : OpOk X cl W r g) (ha : FE X cl W a fa) (hb : FE X cl W b fb) : FE X cl W (.BinOp a op b pos) (e2 g fa fb) :=
  fe_of (pe_op ho ha.pe hb.pe) fun mu δ S σ H Q s r q => op_step hk ha hb s r q
theorem fe_cmp {op : CmpOp} {r : R2} {g : G2} (ho : OpR X (compareOp op) r) (hk : OpOk X cl W r g) (ha : FE X cl W a fa) (hb : FE X cl W b fb) (hm : behindInMarks op b = false) : FE X cl W (.Compare a [op] [b] pos) (e2 g fa fb) :=
  fe_of (pe_cmpR ho ha.pe hb.pe hm) fun mu δ S σ H Q s r q => op_step hk ha hb s r q
/-- .. as a test -/
def toB (o : Out D) : Out Bool := o.bind fun d S => match d with | .bl b => .ok b S | _ => .stuck
@[simp] theorem toB_bl (b : Bool) (S : Store) : toB (.ok (.bl b) S) = .ok b S := of_eq_true (eq_self _)
def tV (f : DE) : DT := fun δ S => toB (f δ S)
theorem tobool {K : PySem.W.Frag} {n : Nat} {mu : Mu} {H : Hp} {σ : St} {o : Out D} {Q : Bool → Hp → Prop} (h : Af K cl RB n mu H σ W (toB o) Q) : Af K cl (VRel K cl) n mu H σ W o fun x H' => ∃ k, x = V.bl k ∧ Q k H' := by
  refine (Af.bind h).mono fun v H1 ⟨mu1, d, S1, s1, e1, r1, q1⟩ => ?_
  cases r1 with
  | bl b => exact ⟨b, rfl, Af.now q1 s1 rfl⟩
  | non => exact q1.elim
  | int _ => exact q1.elim
  | str _ => exact q1.elim
  | ty _ => exact q1.elim
  | cls _ => exact q1.elim
  | ref _ _ => exact q1.elim
  | tup _ _ => exact q1.elim
  | lst _ _ => exact q1.elim
  | scr _ _ => exact q1.elim
  | dic _ _ _ => exact q1.elim
  | ins _ _ _ _ _ => exact q1.elim
  | ex0 _ _ _ => exact q1.elim
  | exd _ _ _ _ _ _ _ _ => exact q1.elim
theorem ft_cmp {op : CmpOp} {r : R2} {g : G2} (ho : OpR X (compareOp op) r) (hk : OpOk X cl W r g) (ha : FE X cl W a fa) (hb : FE X cl W b fb) (hm : behindInMarks op b = false) : FT X cl W (.Compare a [op] [b] pos) (tV (e2 g fa fb)) :=
  ft_of (pt_cmpR ho ha.pe hb.pe hm) fun mu δ S σ H Q s r q => op_step hk ha hb s r (tobool q)
end
end Mi
namespace Mi
open PySem L2

/-! lists as operands: one that never changes, or one of the store -/
def lstOf (S : Store) : D → Option (List D)
  | .lst xs => some xs
  | .ref l => match S[l]? with | some (some (.lst xs)) => some xs | _ => none
  | _ => none
def seqOf (S : Store) : D → Option (List D)
  | .scr xs => some xs
  | d => lstOf S d
def anyOf (S : Store) : D → Option (List D)
  | .tup xs => some xs
  | d => seqOf S d
section
variable {K : PySem.W.Frag} {cl : Cl} {mu : Mu} {H : Hp} {S : Store} {v : V} {d : D} {xs : List D}
theorem ref_at (s : SR K cl mu H S) {l : Nat} {o : O} (r : VRel K cl S.length mu H v (.ref l)) (e : S[l]? = some (some o)) : ∃ a, v = .ref a ∧ mu l = some a ∧ ORel K cl S.length mu H a o := by
  obtain ⟨a, h1, h2⟩ := s.live l o e
  cases r with
  | ref hl h => exact ⟨a, h a h1, h1, h2⟩
theorem lst_at (s : SR K cl mu H S) (r : VRel K cl S.length mu H v d) (e : lstOf S d = some xs) : ∃ a vs, v = .ref a ∧ H a = some (.lst vs) ∧ VRels K cl S.length mu H vs xs := by
  cases d with
  | lst ys =>
    cases e
    cases r with
    | lst f q => exact ⟨_, _, rfl, f.1, q⟩
  | ref l =>
    unfold lstOf at e
    simp only at e
    split at e
    · rename_i ys hy
      cases e
      obtain ⟨a, rfl, _, q⟩ := ref_at s r hy
      cases q with
      | lst z q => exact ⟨a, _, rfl, z, q⟩
    · cases e
  | _ => cases e
theorem seq_at (s : SR K cl mu H S) (r : VRel K cl S.length mu H v d) (e : seqOf S d = some xs) : ∃ a vs, v = .ref a ∧ SqL K H a vs ∧ VRels K cl S.length mu H vs xs := by
  cases d with
  | scr ys =>
    cases e
    cases r with
    | scr f q => exact ⟨_, _, rfl, f.sq, q⟩
  | _ =>
    obtain ⟨a, vs, h1, h2, h3⟩ := lst_at s r (xs := xs) (by simpa [seqOf] using e)
    exact ⟨a, vs, h1, .inl (.inl h2), h3⟩
theorem any_at (s : SR K cl mu H S) (r : VRel K cl S.length mu H v d) (e : anyOf S d = some xs) : ∃ a vs, v = .ref a ∧ (SqL K H a vs ∨ SqT K H a vs) ∧ VRels K cl S.length mu H vs xs := by
  cases d with
  | tup ys =>
    cases e
    cases r with
    | tup f q => exact ⟨_, _, rfl, .inr f.sq, q⟩
  | _ =>
    obtain ⟨a, vs, h1, h2, h3⟩ := seq_at s r (xs := xs) (by simpa [anyOf] using e)
    exact ⟨a, vs, h1, .inl h2, h3⟩
theorem tup_at (r : VRel K cl S.length mu H v (.tup xs)) : ∃ a vs, v = .ref a ∧ SqT K H a vs ∧ VRels K cl S.length mu H vs xs := by
  cases r with
  | tup f q => exact ⟨_, _, rfl, f.sq, q⟩
theorem int_at {i : Int} {n : Nat} (r : VRel K cl n mu H v (.int i)) : v = .int i := by cases r; rfl
theorem str_at {i : Str} {n : Nat} (r : VRel K cl n mu H v (.str i)) : v = .str i := by cases r; rfl
theorem bl_at {i : Bool} {n : Nat} (r : VRel K cl n mu H v (.bl i)) : v = .bl i := by cases r; rfl
end

/-! the operators -/
def dAdd : G2 := fun x y S => match x, y with
  | .int i, .int j => .ok (.int (i + j)) S
  | .str a, .str b => if a.length + b.length ≤ sizeLine then .ok (.str (a ++ b)) S else .stuck
  | .tup xs, .tup ys => if xs.length + ys.length ≤ sizeLine then .ok (.tup (xs ++ ys)) S else .stuck
  | x, y => match lstOf S x, lstOf S y with
    | some xs, some ys => if xs.length + ys.length ≤ sizeLine then .ok (.lst (xs ++ ys)) S else .stuck
    | _, _ => .stuck
def dSub : G2 := fun x y S => match x, y with
  | .int i, .int j => .ok (.int (i - j)) S
  | _, _ => .stuck
instance (i j : Int) : Decidable (IntMulOk i j) := by unfold IntMulOk; infer_instance
instance (i j : Int) : Decidable (CDivW i j) := by unfold CDivW; infer_instance
instance (i j : Int) : Decidable (CPow i j) := by unfold CPow; infer_instance
def dDiv : G2 := fun x y S => match x, y with
  | .int i, .int j => if CDivW i j then .ok (.int (i / j)) S else .stuck
  | _, _ => .stuck
def dMod : G2 := fun x y S => match x, y with
  | .int i, .int j => if 0 < j then .ok (.int (i % j)) S else .stuck
  | _, _ => .stuck
def dPow : G2 := fun x y S => match x, y with
  | .int i, .int j => if CPow i j then .ok (.int (i ^ j.toNat)) S else .stuck
  | _, _ => .stuck
def dMul : G2 := fun x y S => match x, y with
  | .int i, .int j => if IntMulOk i j then .ok (.int (i * j)) S else .stuck
  | x, .int k => match lstOf S x with
    | some xs => if -(2 ^ 63) ≤ k ∧ k < 2 ^ 63 ∧ xs.length * k.toNat ≤ sizeLine then .ok (.lst (List.replicate k.toNat xs).flatten) S else .stuck
    | none => .stuck
  | _, _ => .stuck
section
variable {X : Cx} {cl : Cl} {W : WX}
def rAddAll (X : Cx) : R2 := fun x y H Q => (∃ i j, x = .int i ∧ y = .int j ∧ Q (.int (i + j)) H) ∨ ((∃ i j, x = .str i ∧ y = .str j ∧ i.length + j.length ≤ sizeLine ∧ Q (.str (i ++ j)) H) ∨ (rCatA X.K x y H Q ∨ rCat x y H Q))
theorem op_addAll : OpR X (binaryOp .Add) (rAddAll X) := OpR.or op_add (OpR.or op_add_str (OpR.or op_catA op_cat))
theorem ok_add : OpOk X cl W (rAddAll X) dAdd := fun mu S σ H v u x y Q s rx ry q => by
  unfold dAdd at q
  split at q
  · cases rx; cases ry; exact .inl ⟨_, _, rfl, rfl, Af.now q s (.int _)⟩
  · cases rx; cases ry
    split at q
    · rename_i hz; exact .inr (.inl ⟨_, _, rfl, rfl, hz, Af.now q s (.str _)⟩)
    · exact q.elim
  · rename_i xs ys
    split at q
    · rename_i hz
      obtain ⟨a, vs, rfl, h1, r1⟩ := tup_at rx
      obtain ⟨b, us, rfl, h2, r2⟩ := tup_at ry
      have l1 := r1.length
      have l2 := r2.length
      refine .inr (.inr (.inl ⟨a, b, vs, us, rfl, rfl, h1, h2, by omega, fun e => ?_, fun _ e => ?_, fun _ _ => Af.tup q s (r1.append r2)⟩))
      · subst e
        cases r1
        exact Af.now q s ry
      · subst e
        cases r2
        exact Af.now q s (by rw [List.append_nil]; exact rx)
    · exact q.elim
  · split at q
    · rename_i xs ys e1 e2
      split at q
      · rename_i hz
        obtain ⟨a, vs, rfl, h1, r1⟩ := lst_at s rx e1
        obtain ⟨b, us, rfl, h2, r2⟩ := lst_at s ry e2
        exact .inr (.inr (.inr ⟨a, b, vs, us, rfl, rfl, h1, h2, by have := r1.length; have := r2.length; omega, Af.lst q s (r1.append r2)⟩))
      · exact q.elim
    · exact q.elim
theorem ok_sub : OpOk X cl W (rI0 fun i j => .int (i - j)) dSub := fun mu S σ H v u x y Q s rx ry q => by
  unfold dSub at q
  split at q
  · cases rx; cases ry; exact ⟨_, _, rfl, rfl, Af.now q s (.int _)⟩
  · exact q.elim
theorem op_mulAny : OpR X (binaryOp .Mult) (rI IntMulOk fun i j => .int (i * j)) := opI fun _ _ _ _ _ _ _ hc q => PyProof.Rows.mul_int q hc
theorem ok_div : OpOk X cl W (rI CDivW fun i j => .int (i / j)) dDiv := fun mu S σ H v u x y Q s rx ry q => by
  unfold dDiv at q
  split at q
  · split at q
    · rename_i hc; cases rx; cases ry; exact ⟨_, _, rfl, rfl, hc, Af.now q s (.int _)⟩
    · exact q.elim
  · exact q.elim
theorem ok_mod : OpOk X cl W (rI (fun _ j => 0 < j) fun i j => .int (i % j)) dMod := fun mu S σ H v u x y Q s rx ry q => by
  unfold dMod at q
  split at q
  · split at q
    · rename_i hc; cases rx; cases ry; exact ⟨_, _, rfl, rfl, hc, Af.now q s (.int _)⟩
    · exact q.elim
  · exact q.elim
theorem ok_pow : OpOk X cl W (rI CPow fun i j => .int (i ^ j.toNat)) dPow := fun mu S σ H v u x y Q s rx ry q => by
  unfold dPow at q
  split at q
  · split at q
    · rename_i hc; cases rx; cases ry; exact ⟨_, _, rfl, rfl, hc, Af.now q s (.int _)⟩
    · exact q.elim
  · exact q.elim
theorem flat_rep {n : Nat} {mu : Mu} {H : Hp} {vs : List V} {ds : List D} (r : VRels X.K cl n mu H vs ds) : ∀ k : Nat, VRels X.K cl n mu H (List.replicate k vs).flatten (List.replicate k ds).flatten
  | 0 => .nil
  | k + 1 => by
    rw [List.replicate_succ, List.replicate_succ, List.flatten_cons, List.flatten_cons]
    exact r.append (flat_rep r k)
theorem ok_mul : OpOk X cl W (fun x y H Q => rI IntMulOk (fun i j => .int (i * j)) x y H Q ∨ rRep x y H Q) dMul := fun mu S σ H v u x y Q s rx ry q => by
  unfold dMul at q
  split at q
  · split at q
    · rename_i hc; cases rx; cases ry; exact .inl ⟨_, _, rfl, rfl, hc, Af.now q s (.int _)⟩
    · exact q.elim
  · split at q
    · rename_i e1
      split at q
      · rename_i hz
        obtain ⟨a, vs, rfl, h1, r1⟩ := lst_at s rx e1
        cases ry
        exact .inr ⟨a, _, vs, rfl, rfl, h1, hz.1, hz.2.1, by rw [r1.length]; exact hz.2.2, Af.lst q s (flat_rep r1 _)⟩
      · exact q.elim
    · exact q.elim
  · exact q.elim
theorem op_mulAll : OpR X (binaryOp .Mult) (fun x y H Q => rI IntMulOk (fun i j => .int (i * j)) x y H Q ∨ rRep x y H Q) := OpR.or op_mulAny op_rep

variable {a b c : Expr} {fa fb fc : DE} {pos : Pos}
theorem fe_add (ha : FE X cl W a fa) (hb : FE X cl W b fb) : FE X cl W (.BinOp a .Add b pos) (e2 dAdd fa fb) := fe_op op_addAll ok_add ha hb
theorem fe_sub (ha : FE X cl W a fa) (hb : FE X cl W b fb) : FE X cl W (.BinOp a .Sub b pos) (e2 dSub fa fb) := fe_op op_sub ok_sub ha hb
theorem fe_mul (ha : FE X cl W a fa) (hb : FE X cl W b fb) : FE X cl W (.BinOp a .Mult b pos) (e2 dMul fa fb) := fe_op op_mulAll ok_mul ha hb
theorem fe_div (ha : FE X cl W a fa) (hb : FE X cl W b fb) : FE X cl W (.BinOp a .FloorDiv b pos) (e2 dDiv fa fb) := fe_op op_fdivW ok_div ha hb
theorem fe_mod (ha : FE X cl W a fa) (hb : FE X cl W b fb) : FE X cl W (.BinOp a .Mod b pos) (e2 dMod fa fb) := fe_op op_mod ok_mod ha hb
theorem fe_pow (ha : FE X cl W a fa) (hb : FE X cl W b fb) : FE X cl W (.BinOp a .Pow b pos) (e2 dPow fa fb) := fe_op op_pow ok_pow ha hb

/-! a minus ahead -/
def eNeg (f : DE) : DE := fun δ S => (f δ S).bind fun x S1 => match x with | .int i => .ok (.int (-i)) S1 | _ => .stuck
theorem fe_neg (ha : FE X cl W a fa) : FE X cl W (.UnaryOp .USub a pos) (eNeg fa) := fe_of (pe_un un_neg ha.pe) fun mu δ S σ H Q s r q => by
  refine ⟨mu, δ, S, s, r, (Af.bind q).mono fun v H1 ⟨mu1, d, S1, s1, e1, r1, q1⟩ => ?_⟩
  cases r1 with
  | int i => exact ⟨i, rfl, Af.now q1 s1 (.int _)⟩
  | _ => exact q1.elim

/-! comparisons -/
def ltS (a b : Str) : Bool := decide (a.cps.toList < b.cps.toList)
def dLt : G2 := fun x y S => match x, y with
  | .int i, .int j => .ok (.bl (decide (i < j))) S
  | _, _ => .stuck
def dLe : G2 := fun x y S => match x, y with
  | .int i, .int j => .ok (.bl (decide (i ≤ j))) S
  | .str i, .str j => .ok (.bl (!ltS j i)) S
  | _, _ => .stuck
def dGt : G2 := fun x y S => match x, y with
  | .int i, .int j => .ok (.bl (decide (j < i))) S
  | _, _ => .stuck
def dGe : G2 := fun x y S => match x, y with
  | .int i, .int j => .ok (.bl (decide (j ≤ i))) S
  | _, _ => .stuck
theorem ok_lt : OpOk X cl W (rI0 fun i j => .bl (decide (i < j))) dLt := fun mu S σ H v u x y Q s rx ry q => by
  unfold dLt at q
  split at q
  · cases rx; cases ry; exact ⟨_, _, rfl, rfl, Af.now q s (.bl _)⟩
  · exact q.elim
theorem ok_gt : OpOk X cl W (rI0 fun i j => .bl (decide (j < i))) dGt := fun mu S σ H v u x y Q s rx ry q => by
  unfold dGt at q
  split at q
  · cases rx; cases ry; exact ⟨_, _, rfl, rfl, Af.now q s (.bl _)⟩
  · exact q.elim
theorem ok_ge : OpOk X cl W (rI0 fun i j => .bl (decide (j ≤ i))) dGe := fun mu S σ H v u x y Q s rx ry q => by
  unfold dGe at q
  split at q
  · cases rx; cases ry; exact ⟨_, _, rfl, rfl, Af.now q s (.bl _)⟩
  · exact q.elim
def rLeAll : R2 := fun x y H Q => rI0 (fun i j => .bl (decide (i ≤ j))) x y H Q ∨ ∃ i j, x = .str i ∧ y = .str j ∧ Q (.bl (!decide (j.cps.toList < i.cps.toList))) H
theorem op_leAll : OpR X (compareOp .LtE) rLeAll := OpR.or op_le op_le_str
theorem ok_le : OpOk X cl W rLeAll dLe := fun mu S σ H v u x y Q s rx ry q => by
  unfold dLe at q
  split at q
  · cases rx; cases ry; exact .inl ⟨_, _, rfl, rfl, Af.now q s (.bl _)⟩
  · cases rx; cases ry; exact .inr ⟨_, _, rfl, rfl, Af.now q s (.bl _)⟩
  · exact q.elim
end
end Mi
namespace Mi
open PySem L2

/-! values as data, for == and repr -/
mutual
def pyG (r : Nat → Option PyData) : D → Option PyData
  | .non => some .none
  | .bl b => some (.bool b)
  | .int i => some (.int i)
  | .str x => some (.str x)
  | .ref l => r l
  | .tup xs => (pyGs r xs).map .tuple
  | .lst xs => (pyGs r xs).map .list
  | .scr xs => (pyGs r xs).map .list
  | .dic _ => none
  | .ty _ => none
  | .cls _ => none
  | .ins _ _ => none
  | .exc _ _ => none
def pyGs (r : Nat → Option PyData) : List D → Option (List PyData)
  | [] => some []
  | x :: xs => match pyG r x, pyGs r xs with
    | some p, some ps => some (p :: ps)
    | _, _ => none
end
def pyOf (S : Store) : Nat → D → Option PyData
  | 0 => pyG fun _ => none
  | k + 1 => pyG fun l => match S[l]? with
    | some (some (.lst xs)) => (xs.mapM (pyOf S k)).map .list
    | _ => none
section
variable {K : PySem.W.Frag} {cl : Cl} {mu : Mu} {H : Hp} {S : Store}
mutual
theorem dp_of {r : Nat → Option PyData} {n : Nat} (hr : ∀ v l p, VRel K cl n mu H v (.ref l) → r l = some p → Dp K H v p) : ∀ {v : V} {d : D} {p : PyData}, VRel K cl n mu H v d → pyG r d = some p → Dp K H v p
  | _, _, _, .non, e => by cases e; exact .non
  | _, _, _, .bl b, e => by cases e; exact .bl b
  | _, _, _, .int i, e => by cases e; exact .int i
  | _, _, _, .str x, e => by cases e; exact .str x
  | _, _, _, .ty _, e => by cases e
  | _, _, _, .cls _, e => by cases e
  | _, _, _, .ref hl h, e => hr _ _ _ (.ref hl h) e
  | _, .tup ds, p, .tup f q, e => by
    have e : (pyGs r ds).map PyData.tuple = some p := e
    cases z : pyGs r ds with
    | none => rw [z] at e; cases e
    | some ps => rw [z] at e; cases e; exact .tup f.sq (dps_of hr q z)
  | _, .lst ds, p, .lst f q, e => by
    have e : (pyGs r ds).map PyData.list = some p := e
    cases z : pyGs r ds with
    | none => rw [z] at e; cases e
    | some ps => rw [z] at e; cases e; exact .lst f.sq (dps_of hr q z)
  | _, .scr ds, p, .scr f q, e => by
    have e : (pyGs r ds).map PyData.list = some p := e
    cases z : pyGs r ds with
    | none => rw [z] at e; cases e
    | some ps => rw [z] at e; cases e; exact .lst f.sq (dps_of hr q z)
  | _, _, _, .dic _ _ _, e => by cases e
  | _, _, _, .ins _ _ _ _ _, e => by cases e
  | _, _, _, .ex0 _ _ _, e => by cases e
  | _, _, _, .exd _ _ _ _ _ _ _ _, e => by cases e
theorem dps_of {r : Nat → Option PyData} {n : Nat} (hr : ∀ v l p, VRel K cl n mu H v (.ref l) → r l = some p → Dp K H v p) : ∀ {vs : List V} {ds : List D} {ps : List PyData}, VRels K cl n mu H vs ds → pyGs r ds = some ps → DpAll K H vs ps
  | _, _, _, .nil, e => by cases e; exact .nil
  | _, d :: ds, ps, .cons h q, e => by
    unfold pyGs at e
    cases z1 : pyG r d with
    | none => rw [z1] at e; cases e
    | some p =>
      cases z2 : pyGs r ds with
      | none => rw [z1, z2] at e; cases e
      | some ps' => rw [z1, z2] at e; cases e; exact .cons (dp_of hr h z1) (dps_of hr q z2)
end
theorem mapM_dp {f : D → Option PyData} {n : Nat} (hf : ∀ v d p, VRel K cl n mu H v d → f d = some p → Dp K H v p) : ∀ {vs : List V} {ds : List D} {ps : List PyData}, VRels K cl n mu H vs ds → ds.mapM f = some ps → DpAll K H vs ps
  | _, _, _, .nil, e => by cases e; exact .nil
  | _, d :: ds, ps, .cons h q, e => by
    rw [List.mapM_cons] at e
    cases z1 : f d with
    | none => rw [z1] at e; cases e
    | some p =>
      cases z2 : ds.mapM f with
      | none => rw [z1, z2] at e; cases e
      | some ps' => rw [z1, z2] at e; cases e; exact .cons (hf _ _ _ h z1) (mapM_dp hf q z2)
theorem py_dp (s : SR K cl mu H S) : ∀ (k : Nat) {v : V} {d : D} {p : PyData}, VRel K cl S.length mu H v d → pyOf S k d = some p → Dp K H v p
  | 0, _, _, _, r, e => dp_of (fun _ _ _ _ z => by cases z) r e
  | k + 1, v, d, p, r, e => by
    unfold pyOf at e
    refine dp_of (fun v l p rl z => ?_) r e
    split at z
    · rename_i xs hx
      obtain ⟨a, rfl, _, o⟩ := ref_at s rl hx
      cases o with
      | lst hH q =>
        cases z2 : xs.mapM (pyOf S k) with
        | none => rw [z2] at z; cases z
        | some ps => rw [z2] at z; cases z; exact .lst (.inl (.inl hH)) (mapM_dp (fun v d p r e => py_dp s k r e) q z2)
    · cases z
end

/-- x == y -/
def dEqB (k : Nat) (S : Store) : D → D → Option Bool
  | .str a, .str b => some (decide (a = b))
  | .int a, .int b => some (decide (a = b))
  | x, y => match pyOf S k x, pyOf S k y with
    | some p, some q => if SeqAt.shaped p = true ∧ SeqAt.shaped q = true then some (PyData.eqv p q) else none
    | _, _ => none
def dEq (k : Nat) : G2 := fun x y S => match dEqB k S x y with | some b => .ok (.bl b) S | none => .stuck
def dNe (k : Nat) : G2 := fun x y S => match dEqB k S x y with | some b => .ok (.bl (!b)) S | none => .stuck
section
variable {X : Cx} {cl : Cl} {W : WX}
def rEqAll (X : Cx) : R2 := fun x y H Q => rEq x y H Q ∨ rEqD X.K x y H Q
def rNeAll (X : Cx) : R2 := fun x y H Q => rNe x y H Q ∨ rNeD X.K x y H Q
theorem op_eqAll (hu : X.A.units + 64 < cLine) : OpR X (compareOp .Eq) (rEqAll X) := OpR.or op_eq (op_eqD hu)
theorem op_neAll (hu : X.A.units + 64 < cLine) : OpR X (compareOp .NotEq) (rNeAll X) := OpR.or op_ne (op_neD hu)
theorem eqB_ok {mu : Mu} {H : Hp} {S : Store} {k : Nat} (s : SR X.K cl mu H S) {v u : V} {x y : D} {b : Bool} (rx : VRel X.K cl S.length mu H v x) (ry : VRel X.K cl S.length mu H u y) (e : dEqB k S x y = some b) :
    (scal v u = true ∧ decide (v = u) = b) ∨ ∃ p q, Dp X.K H v p ∧ Dp X.K H u q ∧ SeqAt.shaped p = true ∧ SeqAt.shaped q = true ∧ PyData.eqv p q = b := by
  unfold dEqB at e
  split at e
  · cases rx; cases ry; cases e
    exact .inl ⟨rfl, by rw [dec_str, Bool.beq_eq_decide_eq]⟩
  · cases rx; cases ry; cases e
    exact .inl ⟨rfl, by rw [dec_int, Bool.beq_eq_decide_eq]⟩
  · split at e
    · rename_i p q e1 e2
      split at e
      · rename_i h
        cases e
        exact .inr ⟨p, q, py_dp s k rx e1, py_dp s k ry e2, h.1, h.2, rfl⟩
      · cases e
    · cases e
theorem ok_eq {k : Nat} : OpOk X cl W (rEqAll X) (dEq k) := fun mu S σ H v u x y Q s rx ry q => by
  unfold dEq at q
  split at q
  · rename_i b hb
    have q := Af.now q s (.bl b)
    rcases eqB_ok s rx ry hb with ⟨h1, h2⟩ | ⟨p, p', h1, h2, h3, h4, h5⟩
    · exact .inl ⟨h1, by rw [h2]; exact q⟩
    · exact .inr ⟨p, p', h1, h2, h3, h4, by rw [h5]; exact q⟩
  · exact q.elim
theorem ok_ne {k : Nat} : OpOk X cl W (rNeAll X) (dNe k) := fun mu S σ H v u x y Q s rx ry q => by
  unfold dNe at q
  split at q
  · rename_i b hb
    have q := Af.now q s (.bl (!b))
    rcases eqB_ok s rx ry hb with ⟨h1, h2⟩ | ⟨p, p', h1, h2, h3, h4, h5⟩
    · exact .inl ⟨h1, by rw [h2]; exact q⟩
    · exact .inr ⟨p, p', h1, h2, h3, h4, by rw [h5]; exact q⟩
  · exact q.elim

/-! in, not in -/
def keyOf : D → Option Key
  | .int i => some (.inl i)
  | .str x => some (.inr x)
  | _ => none
def dicOf (S : Store) : D → Option (List (Key × D))
  | .dic kvs => some kvs
  | .ref l => match S[l]? with | some (some (.dic kvs)) => some kvs | _ => none
  | _ => none
def getK (kvs : List (Key × D)) (k : Key) : Option D := (kvs.find? fun kv => decide (kv.1 = k)).map (·.2)
def flatD : D → Bool
  | .non => true | .bl _ => true | .int _ => true | .str _ => true
  | _ => false
def eqF : D → D → Bool
  | .non, .non => true
  | .bl a, .bl b => a == b
  | .bl a, .int b => (if a then 1 else 0) == b
  | .int a, .bl b => a == (if b then 1 else 0)
  | .int a, .int b => a == b
  | .str a, .str b => a == b
  | _, _ => false
def inB (S : Store) (x y : D) : Option Bool :=
  match x, y with
  | .str c, .str z => if c.length = 1 then some (decide (c.cps.getD 0 0 ∈ z.cps.toList)) else none
  | x, y => match anyOf S y with
    | some ys => if flatD x && ys.all flatD then some (ys.any fun z => eqF z x) else none
    | none => match keyOf x, dicOf S y with
      | some k, some kvs => some (getK kvs k).isSome
      | _, _ => none
def dIn : G2 := fun x y S => match inB S x y with | some b => .ok (.bl b) S | none => .stuck
def dNotIn : G2 := fun x y S => match inB S x y with | some b => .ok (.bl (!b)) S | none => .stuck
theorem key_at {K : PySem.W.Frag} {n : Nat} {mu : Mu} {H : Hp} {v : V} {x : D} {k : Key} (r : VRel K cl n mu H v x) (e : keyOf x = some k) : v = kV k := by
  cases r <;> cases e <;> rfl
theorem dic_at {K : PySem.W.Frag} {mu : Mu} {H : Hp} {S : Store} (s : SR K cl mu H S) {v : V} {d : D} {kvs : List (Key × D)} (r : VRel K cl S.length mu H v d) (e : dicOf S d = some kvs) :
    ∃ (a : Addr) (ks : List Key) (vs : List V) (ds : List D), v = .ref a ∧ Rd H a (.dK (ks.zip vs)) ∧ ks.length = vs.length ∧ VRels K cl S.length mu H vs ds ∧ kvs = ks.zip ds := by
  cases d with
  | dic kvs' =>
    cases e
    cases r with
    | dic f hl q => exact ⟨_, _, _, _, rfl, f.fz.1, hl, q, rfl⟩
  | ref l =>
    unfold dicOf at e
    simp only at e
    split at e
    · rename_i ys hy
      cases e
      obtain ⟨a, rfl, _, q⟩ := ref_at s r hy
      cases q with
      | dic z hl q => exact ⟨a, _, _, _, rfl, .inl z, hl, q, rfl⟩
    · cases e
  | _ => cases e
theorem getK_rel {K : PySem.W.Frag} {n : Nat} {mu : Mu} {H : Hp} {k : Key} : ∀ {ks : List Key} {vs : List V} {ds : List D}, ks.length = vs.length → VRels K cl n mu H vs ds →
    (∀ d, getK (ks.zip ds) k = some d → ∃ v, valV (ks.zip vs) k = some v ∧ VRel K cl n mu H v d) ∧ (getK (ks.zip ds) k = none → valV (ks.zip vs) k = none)
  | [], vs, ds, _, _ => by
    refine ⟨fun d e => ?_, fun _ => ?_⟩
    · rw [List.zip_nil_left] at e; cases e
    · rw [List.zip_nil_left]; rfl
  | k' :: ks, [], ds, hl, _ => by cases hl
  | k' :: ks, v :: vs, _, hl, .cons (d := d) (ds := ds) h r => by
    have ih := getK_rel (k := k) (ks := ks) (by simpa using hl) r
    by_cases e : k' = k
    · refine ⟨fun d' q => ?_, fun q => ?_⟩
      · refine ⟨v, ?_, ?_⟩
        · unfold valV; rw [List.zip_cons_cons, List.find?_cons_of_pos (by simpa using e)]; rfl
        · unfold getK at q; rw [List.zip_cons_cons, List.find?_cons_of_pos (by simpa using e)] at q; cases q; exact h
      · unfold getK at q; rw [List.zip_cons_cons, List.find?_cons_of_pos (by simpa using e)] at q; cases q
    · have e1 : getK ((k' :: ks).zip (d :: ds)) k = getK (ks.zip ds) k := by
        unfold getK; rw [List.zip_cons_cons, List.find?_cons_of_neg (by simpa using e)]
      have e2 : valV ((k' :: ks).zip (v :: vs)) k = valV (ks.zip vs) k := by
        unfold valV; rw [List.zip_cons_cons, List.find?_cons_of_neg (by simpa using e)]
      rw [e1, e2]
      exact ih
def rInDic (X : Cx) (neg : Bool) : R2 := fun x y H Q => ∃ a o, y = .ref a ∧ DGet H a x o ∧ Q (.bl (if neg then !o.isSome else o.isSome)) H
theorem op_inDic (hu : X.A.units + 64 < cLine) : OpR X (compareOp .In) (rInDic X false) := by
  intro pins s σ H x y v u Q I rx ry h
  obtain ⟨a, o, rfl, g, q⟩ := h
  cases ry
  exact d_in (by omega) I g rx fun s' I' => ⟨.bl o.isSome, H, I', rfl, q⟩
theorem op_notInDic (hu : X.A.units + 64 < cLine) : OpR X (compareOp .NotIn) (rInDic X true) := by
  intro pins s σ H x y v u Q I rx ry h
  obtain ⟨a, o, rfl, g, q⟩ := h
  cases ry
  exact d_notIn (by omega) I g rx fun s' I' => ⟨.bl (!o.isSome), H, I', rfl, q⟩
def rInSign (neg : Bool) : R2 := fun x y H Q => ∃ (c : Nat) (z : Str), x = .str ⟨#[c]⟩ ∧ y = .str z ∧ Q (.bl (if neg then !decide (c ∈ z.cps.toList) else decide (c ∈ z.cps.toList))) H
def rInAll (X : Cx) (neg : Bool) : R2 := fun x y H Q => rInSign neg x y H Q ∨ (rIn X.K neg x y H Q ∨ rInDic X neg x y H Q)
theorem op_inAll (hu : X.A.units + 64 < cLine) : OpR X (compareOp .In) (rInAll X false) := OpR.or (fun pins s σ H x y v u Q I rx ry h => op_in_sign pins s σ H x y v u Q I rx ry h) (OpR.or op_in_seq (op_inDic hu))
theorem op_notInAll (hu : X.A.units + 64 < cLine) : OpR X (compareOp .NotIn) (rInAll X true) := OpR.or (fun pins s σ H x y v u Q I rx ry h => op_notIn_sign pins s σ H x y v u Q I rx ry h) (OpR.or op_notIn_seq (op_notInDic hu))
theorem flat_at {K : PySem.W.Frag} {n : Nat} {mu : Mu} {H : Hp} {v : V} {x : D} (r : VRel K cl n mu H v x) (e : flatD x = true) : flatV v = true := by
  cases r <;> first | rfl | cases e
theorem eqF_rel {K : PySem.W.Frag} {n : Nat} {mu : Mu} {H : Hp} {v u : V} {x y : D} (r : VRel K cl n mu H v x) (r' : VRel K cl n mu H u y) (e : flatD x = true) (e' : flatD y = true) : eqV v u = eqF x y := by
  cases r <;> first | (cases e; done) | (cases r' <;> first | (cases e'; done) | rfl)
theorem any_rel {K : PySem.W.Frag} {n : Nat} {mu : Mu} {H : Hp} {v : V} {x : D} (r : VRel K cl n mu H v x) (e : flatD x = true) : ∀ {vs : List V} {ds : List D}, VRels K cl n mu H vs ds → ds.all flatD = true → vs.all flatV = true ∧ inV v vs = ds.any fun z => eqF z x
  | _, _, .nil, _ => ⟨rfl, rfl⟩
  | _, _, .cons h q, z => by
    rw [List.all_cons, Bool.and_eq_true] at z
    obtain ⟨i1, i2⟩ := any_rel r e q z.2
    refine ⟨by rw [List.all_cons, flat_at h z.1, i1]; rfl, ?_⟩
    unfold inV at i2 ⊢
    rw [List.any_cons, List.any_cons, i2, eqF_rel h r z.1 e]
theorem len_one {c : Str} (h : c.length = 1) : c = ⟨#[c.cps.getD 0 0]⟩ := by
  obtain ⟨⟨l⟩⟩ := c
  cases l with
  | nil => cases h
  | cons a l =>
    cases l with
    | nil => rfl
    | cons b l => simp [Str.length] at h
theorem in_ok {mu : Mu} {H : Hp} {S : Store} {neg : Bool} (s : SR X.K cl mu H S) {v u : V} {x y : D} {b : Bool} {Q : VK} (rx : VRel X.K cl S.length mu H v x) (ry : VRel X.K cl S.length mu H u y) (e : inB S x y = some b)
    (q : Q (.bl (if neg then !b else b)) H) : rInAll X neg v u H Q := by
  unfold inB at e
  split at e
  · split at e
    · rename_i c z hc
      cases rx; cases ry; cases e
      exact .inl ⟨_, z, by rw [← len_one hc], rfl, q⟩
    · cases e
  · split at e
    · rename_i ys hy
      split at e
      · rename_i hf
        rw [Bool.and_eq_true] at hf
        cases e
        obtain ⟨a, vs, rfl, h1, r1⟩ := any_at s ry hy
        obtain ⟨i1, i2⟩ := any_rel rx hf.1 r1 hf.2
        exact .inr (.inl ⟨a, vs, rfl, h1, flat_at rx hf.1, i1, by rw [i2]; exact q⟩)
      · cases e
    · split at e
      · rename_i k kvs hk hd
        cases e
        obtain ⟨a, ks, vs, ds, rfl, h1, hl, r1, rfl⟩ := dic_at s ry hd
        obtain ⟨g1, g2⟩ := getK_rel (k := k) hl r1
        have ev := key_at rx hk
        refine .inr (.inr ⟨a, valV (ks.zip vs) k, rfl, .inl ⟨_, k, h1, ev, rfl⟩, ?_⟩)
        cases z : getK (ks.zip ds) k with
        | none => rw [g2 z]; rw [z] at q; exact q
        | some d =>
          obtain ⟨w, hw, _⟩ := g1 d z
          rw [hw]; rw [z] at q; exact q
      · cases e
theorem ok_in : OpOk X cl W (rInAll X false) dIn := fun mu S σ H v u x y Q s rx ry q => by
  unfold dIn at q
  split at q
  · rename_i b hb
    exact in_ok (neg := false) s rx ry hb (Af.now q s (.bl _))
  · exact q.elim
theorem ok_notIn : OpOk X cl W (rInAll X true) dNotIn := fun mu S σ H v u x y Q s rx ry q => by
  unfold dNotIn at q
  split at q
  · rename_i b hb
    exact in_ok (neg := true) s rx ry hb (Af.now q s (.bl _))
  · exact q.elim
end
end Mi
namespace Mi
open PySem L2

section
variable {X : Cx} {cl : Cl} {W : WX} {a b c e : Expr} {fa fb fc : DE} {pos : Pos} {k : Nat}

/-! the comparisons as expressions and as tests -/
theorem fe_lt (ha : FE X cl W a fa) (hb : FE X cl W b fb) : FE X cl W (.Compare a [.Lt] [b] pos) (e2 dLt fa fb) := fe_cmp op_lt ok_lt ha hb (nomark _)
theorem fe_le (ha : FE X cl W a fa) (hb : FE X cl W b fb) : FE X cl W (.Compare a [.LtE] [b] pos) (e2 dLe fa fb) := fe_cmp op_leAll ok_le ha hb (nomark _)
theorem fe_gt (ha : FE X cl W a fa) (hb : FE X cl W b fb) : FE X cl W (.Compare a [.Gt] [b] pos) (e2 dGt fa fb) := fe_cmp op_gt ok_gt ha hb (nomark _)
theorem fe_ge (ha : FE X cl W a fa) (hb : FE X cl W b fb) : FE X cl W (.Compare a [.GtE] [b] pos) (e2 dGe fa fb) := fe_cmp op_ge ok_ge ha hb (nomark _)
theorem fe_eq (G : Good X W k) {n : Nat} (ha : FE X cl W a fa) (hb : FE X cl W b fb) : FE X cl W (.Compare a [.Eq] [b] pos) (e2 (dEq n) fa fb) := fe_cmp (op_eqAll G.room.units) ok_eq ha hb (nomark _)
theorem fe_ne (G : Good X W k) {n : Nat} (ha : FE X cl W a fa) (hb : FE X cl W b fb) : FE X cl W (.Compare a [.NotEq] [b] pos) (e2 (dNe n) fa fb) := fe_cmp (op_neAll G.room.units) ok_ne ha hb (nomark _)
theorem fe_in (G : Good X W k) (ha : FE X cl W a fa) (hb : FE X cl W b fb) (hm : behindInMarks .In b = false := by rfl) : FE X cl W (.Compare a [.In] [b] pos) (e2 dIn fa fb) := fe_cmp (op_inAll G.room.units) ok_in ha hb hm
theorem fe_notIn (G : Good X W k) (ha : FE X cl W a fa) (hb : FE X cl W b fb) (hm : behindInMarks .NotIn b = false := by rfl) : FE X cl W (.Compare a [.NotIn] [b] pos) (e2 dNotIn fa fb) := fe_cmp (op_notInAll G.room.units) ok_notIn ha hb hm
/-- x is None -/
def isNone : D → Option Bool
  | .non => some true
  | .ref _ => none
  | _ => some false
def eIsN (f : DE) : DE := fun δ S => (f δ S).bind fun x S1 => match isNone x with | some b => .ok (.bl b) S1 | none => .stuck
def eNotN (f : DE) : DE := fun δ S => (f δ S).bind fun x S1 => match isNone x with | some b => .ok (.bl (!b)) S1 | none => .stuck
theorem isNone_at {K : PySem.W.Frag} {n : Nat} {mu : Mu} {H : Hp} {v : V} {x : D} {b : Bool} (r : VRel K cl n mu H v x) (e : isNone x = some b) : decide (v = .non) = b := by
  cases r <;> first | (cases e; rfl) | (cases e; done) | (cases e; exact decide_eq_false (fun z => nomatch z))
theorem fe_isN {j pos'} (ha : FE X cl W a fa) : FE X cl W (.Compare a [.Is] [.Constant .none j pos'] pos) (eIsN fa) := fe_of (pe_cmp (pc_isN ha.pe)) fun mu δ S σ H Q s r q => by
  refine ⟨mu, δ, S, s, r, (Af.bind q).mono fun v H1 ⟨mu1, d, S1, s1, e1, r1, q1⟩ => ?_⟩
  split at q1
  · rename_i b hb
    rw [isNone_at r1 hb]
    exact Af.now q1 s1 (.bl _)
  · exact q1.elim
theorem fe_notN {j pos'} (ha : FE X cl W a fa) : FE X cl W (.Compare a [.IsNot] [.Constant .none j pos'] pos) (eNotN fa) := fe_of (pe_cmp (pc_notN ha.pe)) fun mu δ S σ H Q s r q => by
  refine ⟨mu, δ, S, s, r, (Af.bind q).mono fun v H1 ⟨mu1, d, S1, s1, e1, r1, q1⟩ => ?_⟩
  split at q1
  · rename_i b hb
    rw [isNone_at r1 hb]
    exact Af.now q1 s1 (.bl _)
  · exact q1.elim
/-- a value that is a truth, as a test -/
theorem ft_val (ha : FE X cl W a fa) (he : ∀ whole, isTrue a X.env whole = (do let v ← whole; standAt a.pos; holding [v] (truthy v)) := by intro _; rfl) : FT X cl W a (tV fa) :=
  ft_of (pt_val ha.pe he) fun mu δ S σ H Q s r q => ⟨mu, δ, S, s, r, tobool q⟩
theorem ft_lt (ha : FE X cl W a fa) (hb : FE X cl W b fb) : FT X cl W (.Compare a [.Lt] [b] pos) (tV (e2 dLt fa fb)) := ft_cmp op_lt ok_lt ha hb (nomark _)
theorem ft_le (ha : FE X cl W a fa) (hb : FE X cl W b fb) : FT X cl W (.Compare a [.LtE] [b] pos) (tV (e2 dLe fa fb)) := ft_cmp op_leAll ok_le ha hb (nomark _)
theorem ft_gt (ha : FE X cl W a fa) (hb : FE X cl W b fb) : FT X cl W (.Compare a [.Gt] [b] pos) (tV (e2 dGt fa fb)) := ft_cmp op_gt ok_gt ha hb (nomark _)
theorem ft_ge (ha : FE X cl W a fa) (hb : FE X cl W b fb) : FT X cl W (.Compare a [.GtE] [b] pos) (tV (e2 dGe fa fb)) := ft_cmp op_ge ok_ge ha hb (nomark _)
theorem ft_eq (G : Good X W k) {n : Nat} (ha : FE X cl W a fa) (hb : FE X cl W b fb) : FT X cl W (.Compare a [.Eq] [b] pos) (tV (e2 (dEq n) fa fb)) := ft_cmp (op_eqAll G.room.units) ok_eq ha hb (nomark _)
theorem ft_ne (G : Good X W k) {n : Nat} (ha : FE X cl W a fa) (hb : FE X cl W b fb) : FT X cl W (.Compare a [.NotEq] [b] pos) (tV (e2 (dNe n) fa fb)) := ft_cmp (op_neAll G.room.units) ok_ne ha hb (nomark _)
theorem ft_in (G : Good X W k) (ha : FE X cl W a fa) (hb : FE X cl W b fb) (hm : behindInMarks .In b = false := by rfl) : FT X cl W (.Compare a [.In] [b] pos) (tV (e2 dIn fa fb)) := ft_cmp (op_inAll G.room.units) ok_in ha hb hm
theorem ft_notIn (G : Good X W k) (ha : FE X cl W a fa) (hb : FE X cl W b fb) (hm : behindInMarks .NotIn b = false := by rfl) : FT X cl W (.Compare a [.NotIn] [b] pos) (tV (e2 dNotIn fa fb)) := ft_cmp (op_notInAll G.room.units) ok_notIn ha hb hm
theorem ft_isN {j pos'} (ha : FE X cl W a fa) : FT X cl W (.Compare a [.Is] [.Constant .none j pos'] pos) (tV (eIsN fa)) := ft_of (pt_cmp (pc_isN ha.pe)) fun mu δ S σ H Q s r q => by
  refine ⟨mu, δ, S, s, r, (Af.bind (tobool q)).mono fun v H1 ⟨mu1, d, S1, s1, e1, r1, q1⟩ => ?_⟩
  split at q1
  · rename_i b hb
    rw [isNone_at r1 hb]
    exact Af.now q1 s1 (.bl _)
  · exact q1.elim
theorem ft_notN {j pos'} (ha : FE X cl W a fa) : FT X cl W (.Compare a [.IsNot] [.Constant .none j pos'] pos) (tV (eNotN fa)) := ft_of (pt_cmp (pc_notN ha.pe)) fun mu δ S σ H Q s r q => by
  refine ⟨mu, δ, S, s, r, (Af.bind (tobool q)).mono fun v H1 ⟨mu1, d, S1, s1, e1, r1, q1⟩ => ?_⟩
  split at q1
  · rename_i b hb
    rw [isNone_at r1 hb]
    exact Af.now q1 s1 (.bl _)
  · exact q1.elim

/-! and, or, not -/
def tAndD (f g : DT) : DT := fun δ S => (f δ S).bind fun b S1 => if b then g δ S1 else .ok false S1
def tOrD (f g : DT) : DT := fun δ S => (f δ S).bind fun b S1 => if b then .ok true S1 else g δ S1
def tNotD (f : DT) : DT := fun δ S => (f δ S).bind fun b S1 => .ok (!b) S1
structure FW (X : Cx) (cl : Cl) (W : WX) (e : Expr) (f : DT) : Prop where
  pw : PW X e (tT X.K cl W f)
theorem pw_imp {X : Cx} {e : Expr} {t t' : TT} (h : PW X e t) (i : ∀ σ H Q, t' σ H Q → t σ H Q) : PW X e t' := ⟨fun wh pins s σ H Q I q => h.run wh pins s σ H Q I (i σ H Q q)⟩
variable {ga gb : DT} {rest : List Expr}
theorem fw_and1 (ha : FT X cl W a ga) : FW X cl W (.BoolOp .And [a] pos) ga := ⟨pw_and1 ha.pt⟩
theorem fw_or1 (ha : FT X cl W a ga) : FW X cl W (.BoolOp .Or [a] pos) ga := ⟨pw_or1 ha.pt⟩
theorem fw_and (ha : FT X cl W a ga) (hb : FW X cl W (.BoolOp .And (b :: rest) pos) gb) : FW X cl W (.BoolOp .And (a :: b :: rest) pos) (tAndD ga gb) :=
  ⟨pw_imp (pw_and ha.pt hb.pw) fun σ H Q ⟨mu, δ, S, s, r, q⟩ => by
    refine ⟨mu, δ, S, s, r, (Af.bind q).mono fun v H1 ⟨mu1, d, S1, s1, e1, r1, q1⟩ => ?_⟩
    cases (show v = d from r1)
    cases v with
    | true => exact ⟨mu1, δ, S1, s1, r.mono e1, q1⟩
    | false => exact Af.now q1 s1 rfl⟩
theorem fw_or (ha : FT X cl W a ga) (hb : FW X cl W (.BoolOp .Or (b :: rest) pos) gb) : FW X cl W (.BoolOp .Or (a :: b :: rest) pos) (tOrD ga gb) :=
  ⟨pw_imp (pw_or ha.pt hb.pw) fun σ H Q ⟨mu, δ, S, s, r, q⟩ => by
    refine ⟨mu, δ, S, s, r, (Af.bind q).mono fun v H1 ⟨mu1, d, S1, s1, e1, r1, q1⟩ => ?_⟩
    cases (show v = d from r1)
    cases v with
    | false => exact ⟨mu1, δ, S1, s1, r.mono e1, q1⟩
    | true => exact Af.now q1 s1 rfl⟩
theorem ft_w (h : FW X cl W e ga) : FT X cl W e ga := ⟨h.pw.pt⟩
theorem ft_not (ha : FT X cl W a ga) : FT X cl W (.UnaryOp .Not a pos) (tNotD ga) := ft_of (pt_not ha.pt) fun mu δ S σ H Q s r q => by
  refine ⟨mu, δ, S, s, r, (Af.bind q).mono fun v H1 ⟨mu1, d, S1, s1, e1, r1, q1⟩ => ?_⟩
  cases (show v = d from r1)
  exact Af.now q1 s1 rfl
/-! .. as values -/
def eAndD (f g : DE) : DE := fun δ S => (toB (f δ S)).bind fun b S1 => if b then g δ S1 else .ok (.bl false) S1
def eOrD (f g : DE) : DE := fun δ S => (toB (f δ S)).bind fun b S1 => if b then .ok (.bl true) S1 else g δ S1
def eNotD (f : DE) : DE := fun δ S => (toB (f δ S)).bind fun b S1 => .ok (.bl (!b)) S1
theorem toB_step {K : PySem.W.Frag} {α β : Type} {R : Rl α β} {n : Nat} {mu : Mu} {H : Hp} {σ : St} {o : Out D} {k : Bool → Store → Out α} {Q : β → Hp → Prop} (h : Af K cl R n mu H σ W ((toB o).bind k) Q) :
    Af K cl (VRel K cl) n mu H σ W o fun x H1 => ∃ c mu1 S1, x = V.bl c ∧ SR K cl mu1 H1 S1 ∧ Ext n mu H S1.length mu1 H1 ∧ Af K cl R S1.length mu1 H1 σ W (k c S1) Q := by
  refine (tobool (Af.bind (R := RB) h)).mono fun x H1 ⟨c, e, mu1, d, S1, s1, e1, r1, q1⟩ => ⟨c, mu1, S1, e, s1, e1, ?_⟩
  cases (show c = d from r1)
  exact q1
theorem fe_one {op} (h : FE X cl W a fa) : FE X cl W (.BoolOp op [a] pos) fa := ⟨pe_one h.pe⟩
theorem fe_and (ha : FE X cl W a fa) (hb : FE X cl W (.BoolOp .And (b :: rest) pos) fb) : FE X cl W (.BoolOp .And (a :: b :: rest) pos) (eAndD fa fb) := fe_of (pe_and ha.pe hb.pe) fun mu δ S σ H Q s r q => by
  refine ⟨mu, δ, S, s, r, (toB_step q).mono fun x H1 ⟨c, mu1, S1, e, s1, e1, q1⟩ => ⟨c, e, ?_⟩⟩
  cases c with
  | true => exact ⟨mu1, δ, S1, s1, r.mono e1, q1⟩
  | false => exact Af.now q1 s1 (.bl _)
theorem fe_or (ha : FE X cl W a fa) (hb : FE X cl W (.BoolOp .Or (b :: rest) pos) fb) : FE X cl W (.BoolOp .Or (a :: b :: rest) pos) (eOrD fa fb) := fe_of (pe_or ha.pe hb.pe) fun mu δ S σ H Q s r q => by
  refine ⟨mu, δ, S, s, r, (toB_step q).mono fun x H1 ⟨c, mu1, S1, e, s1, e1, q1⟩ => ⟨c, e, ?_⟩⟩
  cases c with
  | false => exact ⟨mu1, δ, S1, s1, r.mono e1, q1⟩
  | true => exact Af.now q1 s1 (.bl _)
theorem fe_not (ha : FE X cl W a fa) : FE X cl W (.UnaryOp .Not a pos) (eNotD fa) := fe_of (pe_not ha.pe) fun mu δ S σ H Q s r q => by
  exact ⟨mu, δ, S, s, r, (toB_step q).mono fun x H1 ⟨c, mu1, S1, e, s1, e1, q1⟩ => ⟨c, e, Af.now q1 s1 (.bl _)⟩⟩
def eIf (t : DT) (f g : DE) : DE := fun δ S => (t δ S).bind fun b S1 => if b then f δ S1 else g δ S1
theorem fe_if (hc : FT X cl W c ga) (ha : FE X cl W a fa) (hb : FE X cl W b fb) : FE X cl W (.IfExp c a b pos) (eIf ga fa fb) := fe_of (pe_ifExp hc.pt ha.pe hb.pe) fun mu δ S σ H Q s r q => by
  refine ⟨mu, δ, S, s, r, (Af.bind q).mono fun v H1 ⟨mu1, d, S1, s1, e1, r1, q1⟩ => ?_⟩
  cases (show v = d from r1)
  cases v with
  | true => exact ⟨mu1, δ, S1, s1, r.mono e1, q1⟩
  | false => exact ⟨mu1, δ, S1, s1, r.mono e1, q1⟩
/-! a < b < c -/
def e3 (g g' : G2) (fa fb fc : DE) : DE := fun δ S => (fa δ S).bind fun x S1 => (fb δ S1).bind fun y S2 => (toB (g x y S2)).bind fun t S3 => if t then (fc δ S3).bind fun z S4 => g' y z S4 else .ok (.bl false) S3
theorem chain_step {r r' : R2} {g g' : G2} (hk : OpOk X cl W r g) (hk' : OpOk X cl W r' g') (ha : FE X cl W a fa) (hb : FE X cl W b fb) (hc : FE X cl W c fc) {mu δ S σ H Q} (s : SR X.K cl mu H S) (rr : ERel X.K cl S.length mu H σ δ)
    (q : Af X.K cl (VRel X.K cl) S.length mu H σ W (e3 g g' fa fb fc δ S) Q) : tChain r r' (tE X.K cl W fa) (tE X.K cl W fb) (tE X.K cl W fc) σ H Q := by
  refine ⟨mu, δ, S, s, rr, (Af.bind q).mono fun v H1 ⟨mu1, d, S1, s1, e1, r1, q1⟩ => ?_⟩
  refine ⟨mu1, δ, S1, s1, rr.mono e1, (Af.bind q1).mono fun u H2 ⟨mu2, d2, S2, s2, e2, r2, q2⟩ => ?_⟩
  refine hk mu2 S2 σ H2 v u d d2 _ s2 (r1.mono e2) r2 ((toB_step q2).mono fun x H3 ⟨t, mu3, S3, e, s3, e3, q3⟩ => ⟨t, e, ?_⟩)
  cases t with
  | false => exact Af.now q3 s3 (.bl _)
  | true =>
    refine ⟨mu3, δ, S3, s3, rr.mono ((e1.trans e2).trans e3), (Af.bind q3).mono fun w H4 ⟨mu4, d4, S4, s4, e4, r4, q4⟩ => ?_⟩
    exact hk' mu4 S4 σ H4 u w d2 d4 _ s4 (r2.mono (e3.trans e4)) r4 q4
theorem fe_chain {op op' : CmpOp} {r r' : R2} {g g' : G2} (ho : OpR X (compareOp op) r) (ho' : OpR X (compareOp op') r') (hk : OpOk X cl W r g) (hk' : OpOk X cl W r' g') (ha : FE X cl W a fa) (hb : FE X cl W b fb) (hc : FE X cl W c fc)
    (hm : lastMarks [op, op'] [b, c] = false := by with_unfolding_all rfl) : FE X cl W (.Compare a [op, op'] [b, c] pos) (e3 g g' fa fb fc) :=
  fe_of (pe_chain ho ho' ha.pe hb.pe hc.pe hm) fun mu δ S σ H Q s r q => chain_step hk hk' ha hb hc s r q
theorem ft_chain {op op' : CmpOp} {r r' : R2} {g g' : G2} (ho : OpR X (compareOp op) r) (ho' : OpR X (compareOp op') r') (hk : OpOk X cl W r g) (hk' : OpOk X cl W r' g') (ha : FE X cl W a fa) (hb : FE X cl W b fb) (hc : FE X cl W c fc)
    (hm : lastMarks [op, op'] [b, c] = false := by with_unfolding_all rfl) : FT X cl W (.Compare a [op, op'] [b, c] pos) (tV (e3 g g' fa fb fc)) :=
  ft_of (pt_chain ho ho' ha.pe hb.pe hc.pe hm) fun mu δ S σ H Q s r q => chain_step hk hk' ha hb hc s r (tobool q)
theorem fe_lele (ha : FE X cl W a fa) (hb : FE X cl W b fb) (hc : FE X cl W c fc) (hm : lastMarks [.LtE, .LtE] [b, c] = false := by with_unfolding_all rfl) : FE X cl W (.Compare a [.LtE, .LtE] [b, c] pos) (e3 dLe dLe fa fb fc) := fe_chain op_leAll op_leAll ok_le ok_le ha hb hc hm
theorem ft_lele (ha : FE X cl W a fa) (hb : FE X cl W b fb) (hc : FE X cl W c fc) (hm : lastMarks [.LtE, .LtE] [b, c] = false := by with_unfolding_all rfl) : FT X cl W (.Compare a [.LtE, .LtE] [b, c] pos) (tV (e3 dLe dLe fa fb fc)) := ft_chain op_leAll op_leAll ok_le ok_le ha hb hc hm
theorem fe_eqeq (G : Good X W k) {n : Nat} (ha : FE X cl W a fa) (hb : FE X cl W b fb) (hc : FE X cl W c fc) (hm : lastMarks [.Eq, .Eq] [b, c] = false := by with_unfolding_all rfl) : FE X cl W (.Compare a [.Eq, .Eq] [b, c] pos) (e3 (dEq n) (dEq n) fa fb fc) := fe_chain (op_eqAll G.room.units) (op_eqAll G.room.units) ok_eq ok_eq ha hb hc hm

/-! subscripts, slices -/
def atD {α : Type} (xs : List α) (i : Int) : Option α := (ixN xs.length i).bind fun j => xs[j]?
def dIx : G2 := fun x y S => match x, y with
  | .str z, .int i => match atD z.cps.toList i with
    | some c => if z.length ≤ sizeLine then .ok (.str ⟨#[c]⟩) S else .stuck
    | none => .stuck
  | x, y => match anyOf S x, y with
    | some xs, .int i => match atD xs i with | some d => .ok d S | none => .stuck
    | _, y => match dicOf S x, keyOf y with
      | some kvs, some k => match getK kvs k with | some d => .ok d S | none => .stuck
      | _, _ => .stuck
def rIxDic : R2 := fun x y H Q => ∃ a v, x = .ref a ∧ DGet H a y (some v) ∧ Q v H
theorem ix_dic (hu : X.A.units + 1 < cLine) : IxR X rIxDic := by
  intro value slice pins s σ H x y v u Q I rx ry h hs
  obtain ⟨a, z, rfl, g, q⟩ := h
  cases rx
  have hT := dict_typeIs I g
  unfold PyProof.Rows.subscriptTail
  refine wpAny_bind ?_
  rw [getitemInPython_of_ne hT.not_modules]
  refine wpAny_bind (wpAny_specialOf hT PySem.F.slot_dict_getitem.lookup ?_)
  have fin : wpAny (model X.prog X.w) X.A (subscripted slice false (.ref a) u) (fun r s₃ => wpAny (model X.prog X.w) X.A (letTemporaryGo value (.ref a) r >>= fun _ => pure r) (EP X pins σ Q) X.xe s₃) X.xe s := by
    rw [hs]
    exact wpAny_operating (d_getItem hu I g ry fun w' s3 I3 rw' => wpAny_bind (wpAny_letTemporaryGo (wpAny_pure ⟨z, H, I3, rw', q⟩)))
  first
    | exact wpAny_pure (wpAny_bind fin)
    | exact wpAny_bind fin
def rIxAll (X : Cx) : R2 := fun x y H Q => rIxS x y H Q ∨ (rIxL X.K x y H Q ∨ (rIxT X.K x y H Q ∨ rIxDic x y H Q))
theorem ix_all (hu : X.A.units + 64 < cLine) : IxR X (rIxAll X) := IxR.or ix_str (IxR.or ix_list (IxR.or ix_tup (ix_dic (by omega))))
theorem atD_rel {K : PySem.W.Frag} {n : Nat} {mu : Mu} {H : Hp} {vs : List V} {ds : List D} {i : Int} {d : D} (r : VRels K cl n mu H vs ds) (e : atD ds i = some d) : ∃ v, atI vs i = some v ∧ VRel K cl n mu H v d := by
  unfold atD at e
  rw [← r.length] at e
  cases z : ixN vs.length i with
  | none => rw [z] at e; cases e
  | some j =>
    rw [z] at e
    obtain ⟨v, h1, h2⟩ := r.get (i := j) e
    exact ⟨v, by unfold atI; rw [z]; exact h1, h2⟩
theorem ok_ix : OpOk X cl W (rIxAll X) dIx := fun mu S σ H v u x y Q s rx ry q => by
  unfold dIx at q
  split at q
  · split at q
    · split at q
      · rename_i hc hz
        cases rx; cases ry
        exact .inl ⟨_, _, _, rfl, rfl, hz, hc, Af.now q s (.str _)⟩
      · exact q.elim
    · exact q.elim
  · split at q
    · split at q
      · rename_i hx _ _ _ hd
        cases ry
        obtain ⟨a, vs, rfl, h1, r1⟩ := any_at s rx hx
        obtain ⟨w, hw, rw'⟩ := atD_rel r1 hd
        rcases h1 with h1 | h1
        · exact .inr (.inl ⟨a, vs, _, w, rfl, rfl, h1, hw, Af.now q s rw'⟩)
        · exact .inr (.inr (.inl ⟨a, vs, _, w, rfl, rfl, h1, hw, Af.now q s rw'⟩))
      · exact q.elim
    · split at q
      · split at q
        · rename_i kvs kk hd hk _ d hg
          obtain ⟨a, ks, vs, ds, rfl, h1, hl, r1, rfl⟩ := dic_at s rx hd
          obtain ⟨g1, _⟩ := getK_rel (k := kk) hl r1
          obtain ⟨w, hw, rw'⟩ := g1 d hg
          exact .inr (.inr (.inr ⟨a, w, rfl, .inl ⟨_, kk, h1, key_at ry hk, hw.symm⟩, Af.now q s rw'⟩))
        · exact q.elim
      · exact q.elim
theorem fe_ix (G : Good X W k) (ha : FE X cl W a fa) (hb : FE X cl W b fb) (hs : PlainIx b := by intro _ _; rfl) : FE X cl W (.Subscript a b pos) (e2 dIx fa fb) :=
  fe_of (pe_ix (ix_all G.room.units) ha.pe hb.pe hs) fun mu δ S σ H Q s r q => op_step ok_ix ha hb s r q

abbrev DO := Env → Store → Out (Option Int)
def oNone : DO := fun _ S => .ok none S
def oSome (f : DE) : DO := fun δ S => (f δ S).bind fun x S1 => match x with | .int i => .ok (some i) S1 | _ => .stuck
abbrev RO : Rl (Option Int) (Option Int) := fun _ _ _ b c => b = c
def tO (K : PySem.W.Frag) (cl : Cl) (W : WX) (f : DO) : TO := fun σ H Q => ∃ mu δ S, SR K cl mu H S ∧ ERel K cl S.length mu H σ δ ∧ Af K cl RO S.length mu H σ W (f δ S) Q
structure FO (X : Cx) (cl : Cl) (W : WX) (e : Option Expr) (f : DO) : Prop where
  po : PO X e (tO X.K cl W f)
theorem po_imp {e : Option Expr} {t t' : TO} (h : PO X e t) (i : ∀ σ H Q, t' σ H Q → t σ H Q) : PO X e t' := ⟨fun pins s σ H Q I q => h.run pins s σ H Q I (i σ H Q q)⟩
theorem fo_none : FO X cl W none oNone := ⟨po_imp po_none fun σ H Q ⟨mu, δ, S, s, r, q⟩ => Af.now q s rfl⟩
theorem fo_some (h : FE X cl W a fa) : FO X cl W (some a) (oSome fa) := ⟨po_imp (po_some h.pe) fun σ H Q ⟨mu, δ, S, s, r, q⟩ => by
  refine ⟨mu, δ, S, s, r, (Af.bind q).mono fun v H1 ⟨mu1, d, S1, s1, e1, r1, q1⟩ => ?_⟩
  cases r1 with
  | int i => exact ⟨i, rfl, Af.now q1 s1 rfl⟩
  | _ => exact q1.elim⟩
def cutD {α : Type} (xs : List α) (lo hi : Option Int) : List α := (xs.drop (HT.sIx xs.length 0 lo)).take (HT.sIx xs.length xs.length hi - HT.sIx xs.length 0 lo)
def dSl (x : D) (lo hi : Option Int) (S : Store) : Out D := match x with
  | .str z => if z.length ≤ sizeLine then .ok (.str (cutS z lo hi)) S else .stuck
  | .tup xs => .ok (.tup (cutD xs lo hi)) S
  | x => match seqOf S x with
    | some xs => .ok (.lst (cutD xs lo hi)) S
    | none => .stuck
def eSl (f : DE) (l h : DO) : DE := fun δ S => (f δ S).bind fun x S1 => (l δ S1).bind fun lo S2 => (h δ S2).bind fun hi S3 => dSl x lo hi S3
def rSlAll (X : Cx) : V → Option Int → Option Int → Hp → VK → Prop := fun x lo hi H Q => rSlS x lo hi H Q ∨ (rSlA X.K x lo hi H Q ∨ rSlL X.K x lo hi H Q)
theorem sl_all : SlR X (rSlAll X) := SlR.or sl_str (SlR.or sl_tupA sl_list)
theorem cut_rel {K : PySem.W.Frag} {n : Nat} {mu : Mu} {H : Hp} {vs : List V} {ds : List D} {lo hi : Option Int} (r : VRels K cl n mu H vs ds) : VRels K cl n mu H (cutV vs lo hi) (cutD ds lo hi) := by
  unfold cutV cutD
  rw [r.length]
  exact (r.drop _).take _
theorem fe_sl {lo hi : Option Expr} {l h : DO} {p2 : Pos} (ha : FE X cl W a fa) (hl : FO X cl W lo l) (hh : FO X cl W hi h) : FE X cl W (.Subscript a (.Slice lo hi none p2) pos) (eSl fa l h) :=
  fe_of (pe_slice sl_all ha.pe hl.po hh.po) fun mu δ S σ H Q s r q => by
    refine ⟨mu, δ, S, s, r, (Af.bind q).mono fun v H1 ⟨mu1, d, S1, s1, e1, r1, q1⟩ => ?_⟩
    refine ⟨mu1, δ, S1, s1, r.mono e1, (Af.bind (R := RO) q1).mono fun u H2 ⟨mu2, d2, S2, s2, e2, r2, q2⟩ => ?_⟩
    refine ⟨mu2, δ, S2, s2, r.mono (e1.trans e2), (Af.bind (R := RO) q2).mono fun w H3 ⟨mu3, d3, S3, s3, e3, r3, q3⟩ => ?_⟩
    cases (show u = d2 from r2)
    cases (show w = d3 from r3)
    have rv := r1.mono (e2.trans e3)
    unfold dSl at q3
    split at q3
    · split at q3
      · rename_i hz
        cases rv
        exact .inl ⟨_, rfl, hz, Af.now q3 s3 (.str _)⟩
      · exact q3.elim
    · rename_i xs _ _
      obtain ⟨a, vs, rfl, h1, rs⟩ := tup_at rv
      refine .inr (.inl ⟨a, vs, rfl, h1, fun hw => ?_, fun _ => Af.tup q3 s3 (cut_rel rs)⟩)
      refine Af.now q3 s3 ?_
      have e : cutD xs u w = xs := by
        have hw' := hw
        rw [rs.length] at hw'
        unfold cutD
        rw [hw'.1, hw'.2, List.drop_zero, Nat.sub_zero, List.take_length]
      rw [e]
      exact rv
    · split at q3
      · rename_i xs hx
        obtain ⟨a, vs, rfl, h1, rs⟩ := seq_at s3 rv hx
        exact .inr (.inr ⟨a, vs, rfl, h1, Af.lst q3 s3 (cut_rel rs)⟩)
      · exact q3.elim

/-! displays -/
def eTup (f : DA) : DE := fun δ S => (f δ S).bind fun xs S1 => if xs.length ≤ sizeLine then .ok (.tup xs) S1 else .stuck
def eLst (f : DA) : DE := fun δ S => (f δ S).bind fun xs S1 => if xs.length ≤ sizeLine then .ok (.lst xs) S1 else .stuck
def eLstL (f : DA) : DE := fun δ S => (f δ S).bind fun xs S1 => if xs.length ≤ sizeLine then .ok (.ref S1.length) (S1 ++ [some (.lst xs)]) else .stuck
theorem Af.live {K : PySem.W.Frag} {mu : Mu} {H : Hp} {S : Store} {σ : St} {o : O} {ho : HO} {Q : VK} (h : Af K cl (VRel K cl) S.length mu H σ W (.ok (.ref S.length) (S ++ [some o])) Q) (s : SR K cl mu H S) {p : Addr} (hp : H p = none)
    (r : ORel K cl (S ++ [some o]).length (muAdd mu S.length p) (upd H p ho) p o) : Q (.ref p) (upd H p ho) :=
  h _ _ _ (ext_add s hp) (sr_add s hp r) (.ref (by simp) fun a e => by
    dsimp only [muAdd] at e
    rw [if_pos rfl] at e
    cases e; rfl)
theorem Af.lstL {K : PySem.W.Frag} {mu : Mu} {H : Hp} {S : Store} {σ : St} {ds : List D} {vs : List V} {Q : VK} (h : Af K cl (VRel K cl) S.length mu H σ W (.ok (.ref S.length) (S ++ [some (.lst ds)])) Q) (s : SR K cl mu H S) (r : VRels K cl S.length mu H vs ds) :
    ∀ p, H p = none → Q (.ref p) (upd H p (.lst vs)) := fun p hp => Af.live h s hp (.lst upd_same (r.mono (ext_add s hp)))
variable {es : List Expr} {g : DA}
theorem fe_tup {x1} (h : FA X cl W es g) : FE X cl W (.Tuple es x1 pos) (eTup g) := fe_of (pe_tup h.pa) fun mu δ S σ H Q s r q => by
  refine ⟨mu, δ, S, s, r, (Af.bind q).mono fun vs H1 ⟨mu1, ds, S1, s1, e1, r1, q1⟩ => ?_⟩
  split at q1
  · rename_i hz; exact ⟨by rw [r1.length]; exact hz, Af.tup q1 s1 r1⟩
  · exact q1.elim
theorem fe_lst (h : FA X cl W es g) : FE X cl W (.List es pos) (eLst g) := fe_of (pe_lst h.pa) fun mu δ S σ H Q s r q => by
  refine ⟨mu, δ, S, s, r, (Af.bind q).mono fun vs H1 ⟨mu1, ds, S1, s1, e1, r1, q1⟩ => ?_⟩
  split at q1
  · rename_i hz; exact ⟨by rw [r1.length]; exact hz, Af.lst q1 s1 r1⟩
  · exact q1.elim
theorem fe_lstL (h : FA X cl W es g) : FE X cl W (.List es pos) (eLstL g) := fe_of (pe_lst h.pa) fun mu δ S σ H Q s r q => by
  refine ⟨mu, δ, S, s, r, (Af.bind q).mono fun vs H1 ⟨mu1, ds, S1, s1, e1, r1, q1⟩ => ?_⟩
  split at q1
  · rename_i hz; exact ⟨by rw [r1.length]; exact hz, Af.lstL q1 s1 r1⟩
  · exact q1.elim

/-! a thing of the store is given up: from then on it is read -/
def frz (x : D) (S : Store) : Out D := match x with
  | .ref l => match S[l]? with
    | some (some (.lst xs)) => .ok (.lst xs) (S.set l none)
    | some (some (.dic kvs)) => .ok (.dic kvs) (S.set l none)
    | some (some (.ins C fs)) => .ok (.ins C fs) (S.set l none)
    | _ => .stuck
  | x => .ok x S
def eFrz (f : DE) : DE := fun δ S => (f δ S).bind frz
theorem Af.frz {K : PySem.W.Frag} {mu : Mu} {H : Hp} {S : Store} {σ : St} {v : V} {x : D} {Q : VK} (s : SR K cl mu H S) (r : VRel K cl S.length mu H v x) (q : Af K cl (VRel K cl) S.length mu H σ W (frz x S) Q) : Q v H ∨ ∃ d u, v = .ref d ∧ H d = some u ∧ Mut (some u) ∧ ∀ od, Q v (upd H d (.frz od u)) := by
  cases x with
  | ref l =>
    unfold Mi.frz at q
    simp only at q
    split at q
    · rename_i xs hx
      obtain ⟨a, rfl, hm, o⟩ := ref_at s r hx
      cases o with
      | lst hH rs => exact .inl (q _ _ _ (ext_del s l) (sr_del s l) (.lst ⟨hH, del_ne s hm⟩ (rs.mono (ext_del s l))))
    · rename_i xs hx
      obtain ⟨a, rfl, hm, o⟩ := ref_at s r hx
      cases o with
      | dic hH hl rs => exact .inr ⟨a, _, rfl, hH, True.intro, fun od => q _ _ _ (ext_delL s hm) (sr_delL s hm) (.dic ⟨⟨od, upd_same⟩, del_ne s hm⟩ hl (rs.mono (ext_delL s hm)))⟩
    · rename_i xs hx
      obtain ⟨a, rfl, hm, o⟩ := ref_at s r hx
      cases o with
      | ins hc hH hl rs => exact .inl (q _ _ _ (ext_del s l) (sr_del s l) (.ins hc hH (del_ne s hm) hl (rs.mono (ext_del s l))))
    · exact q.elim
  | _ => exact .inl (Af.now q s r)
theorem fe_frz (ha : FE X cl W a fa) : FE X cl W a (eFrz fa) := fe_of (pe_lk ha.pe) fun mu δ S σ H Q s r q =>
  ⟨mu, δ, S, s, r, (Af.bind q).mono fun v H1 ⟨mu1, d, S1, s1, e1, r1, q1⟩ => Af.frz s1 r1 q1⟩
end
end Mi
namespace Mi
open PySem L2

/-- what comes of a statement -/
inductive OS where
  | nx (δ : Env) (S : Store) | rt (d : D) (S : Store) | bk (δ : Env) (S : Store) | ct (δ : Env) (S : Store) | exc (C : Str) (fs : List (Str × D)) (δ : Env) (S : Store) | stuck
abbrev DS := Env → Store → OS
def toS {α : Type} (δ : Env) (o : Out α) (k : α → Store → OS) : OS := match o with
  | .ok d S => k d S
  | .exc C fs S => .exc C fs δ S
  | .stuck => .stuck
@[simp] theorem toS_ok {α : Type} (δ : Env) (a : α) (S : Store) (k : α → Store → OS) : toS δ (.ok a S) k = k a S := of_eq_true (eq_self _)
@[simp] theorem toS_exc {α : Type} (δ : Env) (C : Str) (fs : List (Str × D)) (S : Store) (k : α → Store → OS) : toS δ (.exc C fs S) k = .exc C fs δ S := of_eq_true (eq_self _)
@[simp] theorem toS_stuck {α : Type} (δ : Env) (k : α → Store → OS) : toS δ .stuck k = .stuck := of_eq_true (eq_self _)
def OS.then (o : OS) (k : DS) : OS := match o with
  | .nx δ S => k δ S
  | o => o
@[simp] theorem then_nx (δ : Env) (S : Store) (k : DS) : (OS.nx δ S).then k = k δ S := of_eq_true (eq_self _)
@[simp] theorem then_rt (d : D) (S : Store) (k : DS) : (OS.rt d S).then k = .rt d S := of_eq_true (eq_self _)
@[simp] theorem then_bk (δ : Env) (S : Store) (k : DS) : (OS.bk δ S).then k = .bk δ S := of_eq_true (eq_self _)
@[simp] theorem then_ct (δ : Env) (S : Store) (k : DS) : (OS.ct δ S).then k = .ct δ S := of_eq_true (eq_self _)
@[simp] theorem then_exc (C : Str) (fs : List (Str × D)) (δ : Env) (S : Store) (k : DS) : (OS.exc C fs δ S).then k = .exc C fs δ S := of_eq_true (eq_self _)
@[simp] theorem then_stuck (k : DS) : OS.stuck.then k = .stuck := of_eq_true (eq_self _)

section
variable (K : PySem.W.Frag) (cl : Cl)
def AfS (n : Nat) (mu : Mu) (H : Hp) (W : WX) (o : OS) (D : Ends) : Prop := match o with
  | .nx δ' S' => ∀ σ' H' mu', Ext n mu H S'.length mu' H' → SR K cl mu' H' S' → ERel K cl S'.length mu' H' σ' δ' → D.nx σ' H'
  | .bk δ' S' => ∀ σ' H' mu', Ext n mu H S'.length mu' H' → SR K cl mu' H' S' → ERel K cl S'.length mu' H' σ' δ' → D.bk σ' H'
  | .ct δ' S' => ∀ σ' H' mu', Ext n mu H S'.length mu' H' → SR K cl mu' H' S' → ERel K cl S'.length mu' H' σ' δ' → D.ct σ' H'
  | .rt d S' => ∀ v H' mu', Ext n mu H S'.length mu' H' → SR K cl mu' H' S' → VRel K cl S'.length mu' H' v d → D.rt v H'
  | .exc C fs δ' S' => ∀ CA dx σ' H' mu', cl C = some CA → Ext n mu H S'.length mu' H' → SR K cl mu' H' S' → ERel K cl S'.length mu' H' σ' δ' → XF K cl S'.length mu' H' dx fs → W (.ref CA) dx σ' H'
  | .stuck => False
def tS (W : WX) (f : DS) : TS := fun D σ H => ∃ mu δ S, SR K cl mu H S ∧ ERel K cl S.length mu H σ δ ∧ AfS K cl S.length mu H W (f δ S) D
end
section
variable {K : PySem.W.Frag} {cl : Cl} {n n1 : Nat} {mu mu1 : Mu} {H H1 : Hp} {σ : St} {δ : Env} {W : WX} {S : Store}
theorem AfS.ext {o : OS} {D : Ends} (e : Ext n mu H n1 mu1 H1) (h : AfS K cl n mu H W o D) : AfS K cl n1 mu1 H1 W o D := by
  cases o with
  | nx δ' S' => exact fun σ' H' mu' e' => h σ' H' mu' (e.trans e')
  | bk δ' S' => exact fun σ' H' mu' e' => h σ' H' mu' (e.trans e')
  | ct δ' S' => exact fun σ' H' mu' e' => h σ' H' mu' (e.trans e')
  | rt δ' S' => exact fun σ' H' mu' e' => h σ' H' mu' (e.trans e')
  | exc C fs δ' S' => exact fun CA dx σ' H' mu' hc e' => h CA dx σ' H' mu' hc (e.trans e')
  | stuck => exact h
theorem AfS.toS {α β : Type} {R : Rl α β} {o : Out α} {k : α → Store → OS} {D : Ends} (r : ERel K cl n mu H σ δ) (h : AfS K cl n mu H W (toS δ o k) D) :
    Af K cl R n mu H σ W o (fun v H1 => ∃ mu1 d S1, SR K cl mu1 H1 S1 ∧ Ext n mu H S1.length mu1 H1 ∧ R S1.length mu1 H1 v d ∧ AfS K cl S1.length mu1 H1 W (k d S1) D) := by
  cases o with
  | ok d S' => exact fun v H' mu' e s rr => ⟨mu', d, S', s, e, rr, AfS.ext e h⟩
  | exc C fs S' => exact fun CA dx H' mu' hc e s x => h CA dx σ H' mu' hc e s (r.mono e) x
  | stuck => exact h
theorem AfS.now {D : Ends} (h : AfS K cl S.length mu H W (.nx δ S) D) (s : SR K cl mu H S) (r : ERel K cl S.length mu H σ δ) : D.nx σ H := h σ H mu s.rfl' s r
theorem AfS.ret {d : D} {D : Ends} (h : AfS K cl S.length mu H W (.rt d S) D) (s : SR K cl mu H S) {v : V} (r : VRel K cl S.length mu H v d) : D.rt v H := h v H mu s.rfl' s r
theorem ERel.set {v : V} {d : D} {i : Nat} (r : ERel K cl n mu H σ δ) (h : VRel K cl n mu H v d) : ERel K cl n mu H (σ.set i (some v)) (δ.set i (some d)) := by
  refine ⟨by rw [List.length_set, List.length_set]; exact r.1, fun j d' e => ?_⟩
  by_cases hj : i = j
  · subst hj
    by_cases hl : i < δ.length
    · rw [List.getElem?_set_self hl] at e
      cases e
      exact ⟨v, List.getElem?_set_self (by rw [r.1]; exact hl), h⟩
    · rw [List.getElem?_eq_none (by rw [List.length_set]; omega)] at e; cases e
  · rw [List.getElem?_set_ne hj] at e ⊢
    exact r.2 j d' e
end
structure FS (X : Cx) (cl : Cl) (W : WX) (st : Stmt) (f : DS) : Prop where
  ps : PS X st (tS X.K cl W f)
structure FSs (X : Cx) (cl : Cl) (W : WX) (st : List Stmt) (f : DS) : Prop where
  pss : PSs X st (tS X.K cl W f)
theorem ps_imp {X : Cx} {st : Stmt} {t t' : TS} (h : PS X st t) (i : ∀ D σ H, t' D σ H → t D σ H) : PS X st t' := ⟨fun pins s σ H D I q => h.run pins s σ H D I (i D σ H q)⟩
theorem pss_imp {X : Cx} {st : List Stmt} {t t' : TS} (h : PSs X st t) (i : ∀ D σ H, t' D σ H → t D σ H) : PSs X st t' := ⟨fun pins s σ H D I q => h.run pins s σ H D I (i D σ H q)⟩
section
variable {X : Cx} {cl : Cl} {W : WX} {a b c e : Expr} {fa fb fc : DE} {pos : Pos} {k : Nat} {st : Stmt} {rest : List Stmt} {f g : DS} {ga : DT}
theorem fs_of {t : TS} (h : PS X st t) (i : ∀ mu δ S σ H D, SR X.K cl mu H S → ERel X.K cl S.length mu H σ δ → AfS X.K cl S.length mu H W (f δ S) D → t D σ H) : FS X cl W st f :=
  ⟨ps_imp h fun D σ H ⟨mu, δ, S, s, r, q⟩ => i mu δ S σ H D s r q⟩
theorem fss_of {t : TS} {st : List Stmt} (h : PSs X st t) (i : ∀ mu δ S σ H D, SR X.K cl mu H S → ERel X.K cl S.length mu H σ δ → AfS X.K cl S.length mu H W (f δ S) D → t D σ H) : FSs X cl W st f :=
  ⟨pss_imp h fun D σ H ⟨mu, δ, S, s, r, q⟩ => i mu δ S σ H D s r q⟩
/-! blocks -/
def sNext : DS := fun δ S => .nx δ S
def sSeq (f g : DS) : DS := fun δ S => (f δ S).then g
theorem fss_nil : FSs X cl W [] sNext := fss_of pss_nil fun mu δ S σ H D s r q => AfS.now q s r
theorem fss_one (h : FS X cl W st f) : FSs X cl W [st] f := ⟨pss_one h.ps⟩
theorem AfS.then {K : PySem.W.Frag} {n : Nat} {mu : Mu} {H : Hp} {o : OS} {D : Ends} (h : AfS K cl n mu H W (o.then g) D) : AfS K cl n mu H W o { D with nx := tS K cl W g D } := by
  cases o with
  | nx δ' S' => exact fun σ' H' mu' e s r => ⟨mu', δ', S', s, r, AfS.ext e h⟩
  | bk δ' S' => exact h
  | ct δ' S' => exact h
  | rt δ' S' => exact h
  | exc C fs δ' S' => exact h
  | stuck => exact h
theorem fss_cons (h : FS X cl W st f) (hr : FSs X cl W rest g) : FSs X cl W (st :: rest) (sSeq f g) := fss_of (pss_cons h.ps hr.pss) fun mu δ S σ H D s r q => ⟨mu, δ, S, s, r, AfS.then q⟩
/-! small statements -/
theorem fs_pass : FS X cl W (.Pass pos) sNext := fs_of ps_pass fun mu δ S σ H D s r q => AfS.now q s r
def sBreak : DS := fun δ S => .bk δ S
def sCont : DS := fun δ S => .ct δ S
theorem fs_break : FS X cl W (.Break pos) sBreak := fs_of ps_break fun mu δ S σ H D s r q => q σ H mu s.rfl' s r
theorem fs_cont : FS X cl W (.Continue pos) sCont := fs_of ps_continue fun mu δ S σ H D s r q => q σ H mu s.rfl' s r
def sExpr (f : DE) : DS := fun δ S => toS δ (f δ S) fun _ S1 => .nx δ S1
theorem fs_expr (h : FE X cl W a fa) (hs : swapsWith a none pos.line X.env = pure false := by rfl) : FS X cl W (.Expr a pos) (sExpr fa) := fs_of (ps_expr h.pe hs) fun mu δ S σ H D s r q =>
  ⟨mu, δ, S, s, r, (AfS.toS r q).mono fun v H1 ⟨mu1, d, S1, s1, e1, r1, q1⟩ => AfS.now q1 s1 (r.mono e1)⟩
def sRet (f : DE) : DS := fun δ S => toS δ (f δ S) fun d S1 => .rt d S1
theorem fs_ret (h : FE X cl W a fa) : FS X cl W (.Return (some a) pos) (sRet fa) := fs_of (ps_ret h.pe) fun mu δ S σ H D s r q =>
  ⟨mu, δ, S, s, r, (AfS.toS r q).mono fun v H1 ⟨mu1, d, S1, s1, e1, r1, q1⟩ => AfS.ret q1 s1 r1⟩
def sRetN : DS := fun _ S => .rt .non S
theorem fs_retN : FS X cl W (.Return none pos) sRetN := fs_of ps_retN fun mu δ S σ H D s r q => AfS.ret q s .non
def sSet (i : Nat) (f : DE) : DS := fun δ S => toS δ (f δ S) fun d S1 => .nx (δ.set i (some d)) S1
theorem fs_set {i : Nat} {x : Str} {pos' : Pos} (G : Good X W k) (h : FE X cl W a fa) (hi : X.N[i]? = some x := by rfl) (hx : Loc X.env.scope x := by first | exact Or.inl rfl | exact Or.inr rfl)
    (hs : swapsWith a (some (.Name x pos')) pos.line X.env = pure false := by rfl) (hf : X.fn x = true ∨ X.env.scope.names.lookup x = some .local := by first | exact Or.inl rfl | exact Or.inr rfl) : FS X cl W (.Assign [.Name x pos'] a pos) (sSet i fa) :=
  fs_of (ps_set (i := i) G.nd hi hx h.pe hs hf) fun mu δ S σ H D s r q =>
  ⟨mu, δ, S, s, r, (AfS.toS r q).mono fun v H1 ⟨mu1, d, S1, s1, e1, r1, q1⟩ => AfS.now q1 s1 ((r.mono e1).set r1)⟩
def sIf (t : DT) (f g : DS) : DS := fun δ S => toS δ (t δ S) fun b S1 => if b then f δ S1 else g δ S1
theorem fs_if {th el : List Stmt} (hc : FT X cl W c ga) (ha : FSs X cl W th f) (hb : FSs X cl W el g) : FS X cl W (.If c th el pos) (sIf ga f g) := fs_of (ps_if hc.pt ha.pss hb.pss) fun mu δ S σ H D s r q => by
  refine ⟨mu, δ, S, s, r, (AfS.toS (R := RB) r q).mono fun v H1 ⟨mu1, d, S1, s1, e1, r1, q1⟩ => ?_⟩
  cases (show v = d from r1)
  cases v with
  | true => exact ⟨mu1, δ, S1, s1, r.mono e1, q1⟩
  | false => exact ⟨mu1, δ, S1, s1, r.mono e1, q1⟩
/-- what is never come to -/
def sNever : DS := fun _ _ => .stuck
theorem fs_never : FS X cl W st sNever := fs_of ps_never fun _ _ _ _ _ _ _ _ q => q.elim
theorem fss_never {sts : List Stmt} : FSs X cl W sts sNever := fss_of pss_never fun _ _ _ _ _ _ _ _ q => q.elim

/-! targets -/
abbrev DG := D → Store → Option (List (Nat × D))
abbrev DGs := List D → Store → Option (List (Nat × D))
def setAll {α : Type} (σ : List (Option α)) (l : List (Nat × α)) : List (Option α) := l.foldl (fun s p => s.set p.1 (some p.2)) σ
def ARel (K : PySem.W.Frag) (cl : Cl) (n : Nat) (mu : Mu) (H : Hp) (va : List (Nat × V)) (da : List (Nat × D)) : Prop := va.map (·.1) = da.map (·.1) ∧ VRels K cl n mu H (va.map (·.2)) (da.map (·.2))
def tG (K : PySem.W.Frag) (cl : Cl) (g : DG) : TG := fun v σ H Q => ∃ mu S d da, SR K cl mu H S ∧ VRel K cl S.length mu H v d ∧ g d S = some da ∧ ∀ va, ARel K cl S.length mu H va da → Q (setAll σ va) H
def tGs (K : PySem.W.Frag) (cl : Cl) (g : DGs) : TGs := fun vs σ H Q => ∃ mu S ds da, SR K cl mu H S ∧ VRels K cl S.length mu H vs ds ∧ g ds S = some da ∧ ∀ va, ARel K cl S.length mu H va da → Q (setAll σ va) H
structure FG (X : Cx) (cl : Cl) (tg : Expr) (g : DG) : Prop where
  pg : PG X tg (tG X.K cl g)
structure FGs (X : Cx) (cl : Cl) (tgs : List Expr) (g : DGs) : Prop where
  pgs : PGs X tgs (tGs X.K cl g)
theorem pg_imp {tg : Expr} {t t' : TG} (h : PG X tg t) (i : ∀ v σ H Q, t' v σ H Q → t v σ H Q) : PG X tg t' := ⟨fun pins s σ H v u Q I r q => h.run pins s σ H v u Q I r (i v σ H Q q)⟩
theorem pgs_imp {tg : List Expr} {t t' : TGs} (h : PGs X tg t) (i : ∀ v σ H Q, t' v σ H Q → t v σ H Q) : PGs X tg t' := ⟨fun pins s σ H v u Q I r q => h.run pins s σ H v u Q I r (i v σ H Q q)⟩
def gName (i : Nat) : DG := fun d _ => some [(i, d)]
theorem fg_name (i : Nat) {x : Str} (hN : X.N.Nodup) (hi : X.N[i]? = some x := by rfl) (hx : Loc X.env.scope x := by first | exact Or.inl rfl | exact Or.inr rfl) (hf : X.fn x = true ∨ X.env.scope.names.lookup x = some .local := by first | exact Or.inl rfl | exact Or.inr rfl) :
    FG X cl (.Name x pos) (gName i) := ⟨pg_imp (pg_name (i := i) hN hi hx hf) fun v σ H Q ⟨mu, S, d, da, s, r, e, q⟩ => by
  cases e
  exact q [(i, v)] ⟨rfl, .cons r .nil⟩⟩
def gNil : DGs := fun ds _ => match ds with | [] => some [] | _ => none
def gCons (g : DG) (gs : DGs) : DGs := fun ds S => match ds with
  | d :: ds => match g d S, gs ds S with
    | some a, some b => some (a ++ b)
    | _, _ => none
  | [] => none
theorem setAll_append {α : Type} (σ : List (Option α)) (x y : List (Nat × α)) : setAll σ (x ++ y) = setAll (setAll σ x) y := by unfold setAll; rw [List.foldl_append]
theorem fgs_nil : FGs X cl [] gNil := ⟨pgs_imp pgs_nil fun v σ H Q ⟨mu, S, ds, da, s, r, e, q⟩ => by
  cases r with
  | nil => cases e; exact ⟨rfl, q [] ⟨rfl, .nil⟩⟩
  | cons _ _ => cases e⟩
theorem fgs_cons {tg : Expr} {tgs : List Expr} {g : DG} {gs : DGs} (h : FG X cl tg g) (hs : FGs X cl tgs gs) (ha : (assignEach (tg :: tgs) X.env).map (·.2) = assign tg X.env :: (assignEach tgs X.env).map (·.2) := by rfl) : FGs X cl (tg :: tgs) (gCons g gs) :=
  ⟨pgs_imp (pgs_cons h.pg hs.pgs ha) fun vs σ H Q ⟨mu, S, ds, da, s, r, e, q⟩ => by
    cases r with
    | nil => cases e
    | @cons v d vs ds h r =>
      unfold gCons at e
      simp only at e
      split at e
      · rename_i x y ex ey
        cases e
        refine ⟨v, vs, rfl, mu, S, d, x, s, h, ex, fun va hv => ⟨mu, S, ds, y, s, r, ey, fun vb hb => ?_⟩⟩
        rw [← setAll_append]
        exact q (va ++ vb) ⟨by rw [List.map_append, List.map_append, hv.1, hb.1], by rw [List.map_append, List.map_append]; exact hv.2.append hb.2⟩
      · cases e⟩
def gTup (n : Nat) (gs : DGs) : DG := fun d S => match d with
  | .tup ds => if ds.length = n then gs ds S else none
  | _ => none
def gLst (n : Nat) (gs : DGs) : DG := fun d S => match seqOf S d with
  | some ds => if ds.length = n then gs ds S else none
  | _ => none
theorem fg_tup {es : List Expr} {j n : Nat} {gs : DGs} (G : Good X W k) (h : FGs X cl es gs) (hn : (assignEach es X.env).length = n := by rfl) (hst : (assignEach es X.env).findIdx? (·.1) = none := by rfl) : FG X cl (.Tuple es j pos) (gTup n gs) :=
  ⟨pg_imp (pg_tup G.calm h.pgs hn hst) fun v σ H Q ⟨mu, S, d, da, s, r, e, q⟩ => by
    unfold gTup at e
    split at e
    · split at e
      · rename_i ds hl
        obtain ⟨a, vs, rfl, h1, r1⟩ := tup_at r
        exact ⟨a, vs, rfl, h1, by rw [r1.length]; exact hl, mu, S, ds, da, s, r1, e, q⟩
      · cases e
    · cases e⟩
theorem fg_lst {es : List Expr} {j n : Nat} {gs : DGs} (G : Good X W k) (h : FGs X cl es gs) (hn : (assignEach es X.env).length = n := by rfl) (hst : (assignEach es X.env).findIdx? (·.1) = none := by rfl) : FG X cl (.Tuple es j pos) (gLst n gs) :=
  ⟨pg_imp (pg_lst G.calm h.pgs hn hst) fun v σ H Q ⟨mu, S, d, da, s, r, e, q⟩ => by
    unfold gLst at e
    split at e
    · split at e
      · rename_i ds hd hl
        obtain ⟨a, vs, rfl, h1, r1⟩ := seq_at s r hd
        exact ⟨a, vs, rfl, h1, by rw [r1.length]; exact hl, mu, S, ds, da, s, r1, e, q⟩
      · cases e
    · cases e⟩
theorem ERel.setAll {K : PySem.W.Frag} {n : Nat} {mu : Mu} {H : Hp} : ∀ {va : List (Nat × V)} {da : List (Nat × D)} {σ : St} {δ : Env}, ARel K cl n mu H va da → ERel K cl n mu H σ δ → ERel K cl n mu H (setAll σ va) (setAll δ da)
  | [], [], _, _, _, r => r
  | [], _ :: _, _, _, ⟨h, _⟩, _ => by cases h
  | _ :: _, [], _, _, ⟨h, _⟩, _ => by cases h
  | (i, v) :: va, (j, d) :: da, σ, δ, ⟨h1, h2⟩, r => by
    rw [List.map_cons, List.map_cons] at h1 h2
    injection h1 with e1 e2
    cases h2 with
    | cons q1 q2 =>
      have e1 : i = j := e1
      subst e1
      exact ERel.setAll (va := va) (da := da) ⟨e2, q2⟩ (r.set q1)
/-- targets = value -/
def sAsg (g : DG) (f : DE) : DS := fun δ S => toS δ (f δ S) fun d S1 => match g d S1 with | some da => .nx (setAll δ da) S1 | none => .stuck
theorem fs_asg {tg : Expr} {g : DG} (h : FE X cl W a fa) (hg : FG X cl tg g) (hs : swapsWithSole [tg] a pos.line X.env = pure false := by rfl) (hw : swappedStores [tg] a X.env = pure none := by rfl)
    (h1 : (assignEach [tg] X.env).map (·.2) = [assign tg X.env] := by rfl) : FS X cl W (.Assign [tg] a pos) (sAsg g fa) :=
  fs_of (ps_asg h.pe hg.pg hs hw h1) fun mu δ S σ H D s r q =>
  ⟨mu, δ, S, s, r, (AfS.toS r q).mono fun v H1 ⟨mu1, d, S1, s1, e1, r1, q1⟩ => by
    split at q1
    · rename_i da hd
      exact ⟨mu1, S1, d, da, s1, r1, hd, fun va hv => AfS.now q1 s1 (ERel.setAll hv (r.mono e1))⟩
    · exact q1.elim⟩
/-- a, b = x, y (two local names) -/
def sPar (i j : Nat) (f : DA) : DS := fun δ S => toS δ (f δ S) fun ds S1 => match ds with | [x, y] => .nx ((δ.set i (some x)).set j (some y)) S1 | _ => .stuck
theorem fs_par {i j : Nat} {x y : Str} {fab : DA} {px py pt : Pos} {kt k2 pt2} (G : Good X W k) (h : FA X cl W [a, b] fab) (hij : i ≠ j := by decide) (hi : X.N[i]? = some x := by rfl) (hj : X.N[j]? = some y := by rfl) (hx : X.env.scope.names.lookup x = some .local := by rfl) (hy : X.env.scope.names.lookup y = some .local := by rfl)
    (hw : swappedStores [.Tuple [.Name x px, .Name y py] kt pt] (.Tuple [a, b] k2 pt2) X.env = pure (some [x, y]) := by rfl) (hs : swapsWithSole [.Tuple [.Name x px, .Name y py] kt pt] (.Tuple [a, b] k2 pt2) pos.line X.env = pure false := by rfl) :
    FS X cl W (.Assign [.Tuple [.Name x px, .Name y py] kt pt] (.Tuple [a, b] k2 pt2) pos) (sPar i j fab) :=
  fs_of (ps_par G.calm G.nd hi hj hij hx hy h.pa hw hs) fun mu δ S σ H D s r q =>
  ⟨mu, δ, S, s, r, (AfS.toS r q).mono fun v H1 ⟨mu1, d, S1, s1, e1, r1, q1⟩ => by
    cases r1 with
    | nil => exact q1.elim
    | cons h1 r1 =>
      cases r1 with
      | nil => exact q1.elim
      | cons h2 r2 =>
        cases r2 with
        | nil => exact ⟨_, _, rfl, AfS.now q1 s1 (((r.mono e1).set h1).set h2)⟩
        | cons _ _ => exact q1.elim⟩

/-! what a loop walks -/
/-- a list of the store that is walked must stay as it is -/
abbrev Ck := Option (Nat × List D)
def ckS (c : Ck) (S : Store) : Prop := match c with
  | none => True
  | some (l, xs) => S[l]? = some (some (.lst xs))
abbrev DI := Env → Store → Out (List D × Ck)
structure ItR (K : PySem.W.Frag) (cl : Cl) (n : Nat) (mu : Mu) (H : Hp) (J : It) (p : List D × Ck) : Prop where
  turn : ∀ mu' H' S', Pr n mu H S'.length mu' H' → SR K cl mu' H' S' → ckS p.2 S' → ∀ i, (i = p.1.length → J.stop i H') ∧
    ∀ d, p.1[i]? = some d → J.go i H' ∧ ∀ x H2, J.yld i H' x H2 → Ext S'.length mu' H' S'.length mu' H2 ∧ SR K cl mu' H2 S' ∧ VRel K cl S'.length mu' H2 x d
def tI (K : PySem.W.Frag) (cl : Cl) (W : WX) (f : DI) : TI := fun σ H R => ∃ mu δ S, SR K cl mu H S ∧ ERel K cl S.length mu H σ δ ∧ Af K cl (ItR K cl) S.length mu H σ W (f δ S) R
structure FI (X : Cx) (cl : Cl) (W : WX) (tg iter : Expr) (f : DI) : Prop where
  pi : PI X tg iter (tI X.K cl W f)
theorem pi_imp {tg it : Expr} {t t' : TI} (h : PI X tg it t) (i : ∀ σ H R, t' σ H R → t σ H R) : PI X tg it t' := ⟨fun pins s σ H R I q => h.run pins s σ H R I (i σ H R q)⟩
/-- over a list -/
def iLst (f : DE) : DI := fun δ S => (f δ S).bind fun x S1 => match x with
  | .lst xs => .ok (xs, none) S1
  | .scr xs => .ok (xs, none) S1
  | .ref l => match S1[l]? with
    | some (some (.lst xs)) => .ok (xs, some (l, xs)) S1
    | _ => .stuck
  | _ => .stuck
theorem it_list {K : PySem.W.Frag} {n : Nat} {mu : Mu} {H : Hp} {a : Addr} {xs : List D} {c : Ck} (h : ∀ mu' H' S', Pr n mu H S'.length mu' H' → SR K cl mu' H' S' → ckS c S' → ∃ vs, SqL K H' a vs ∧ VRels K cl S'.length mu' H' vs xs) : ItR K cl n mu H (Itl K a) (xs, c) := ⟨fun mu' H' S' e s q i => by
  obtain ⟨vs, h1, r⟩ := h mu' H' S' e s q
  refine ⟨fun hi => ⟨vs, h1, by rw [r.length]; exact Nat.le_of_eq hi.symm⟩, fun d hd => ?_⟩
  obtain ⟨v, hv, rv⟩ := r.get (i := i) hd
  refine ⟨⟨vs, v, h1, hv⟩, fun x H2 y => ?_⟩
  obtain ⟨e2, y⟩ := y
  subst e2
  have ex := y vs h1
  rw [hv] at ex
  cases ex
  exact ⟨s.rfl', s, rv⟩⟩
end
end Mi
namespace Mi
open PySem L2

section
variable {X : Cx} {cl : Cl} {W : WX} {a b c e : Expr} {fa fb fc : DE} {pos : Pos} {k : Nat} {st : Stmt} {rest : List Stmt} {f g : DS} {ga : DT}
theorem fi_of {tg it : Expr} {t : TI} {f : DI} (h : PI X tg it t) (i : ∀ mu δ S σ H R, SR X.K cl mu H S → ERel X.K cl S.length mu H σ δ → Af X.K cl (ItR X.K cl) S.length mu H σ W (f δ S) R → t σ H R) : FI X cl W tg it f :=
  ⟨pi_imp h fun σ H R ⟨mu, δ, S, s, r, q⟩ => i mu δ S σ H R s r q⟩
/-- a value that is walked as a list: its address, and that it stays -/
theorem walks {K : PySem.W.Frag} {mu : Mu} {H : Hp} {S : Store} {v : V} {xs : List D} {x : D} {c : Ck} (s : SR K cl mu H S) (r : VRel K cl S.length mu H v x)
    (e : (x = .lst xs ∧ c = none) ∨ (x = .scr xs ∧ c = none) ∨ ∃ l, x = .ref l ∧ S[l]? = some (some (.lst xs)) ∧ c = some (l, xs)) :
    ∃ a, v = .ref a ∧ ∀ mu' H' S', Pr S.length mu H S'.length mu' H' → SR K cl mu' H' S' → ckS c S' → ∃ vs, SqL K H' a vs ∧ VRels K cl S'.length mu' H' vs xs := by
  rcases e with ⟨rfl, rfl⟩ | ⟨rfl, rfl⟩ | ⟨l, rfl, hx, rfl⟩
  · cases r with
    | lst f rs => exact ⟨_, rfl, fun mu' H' S' e s _ => ⟨_, (f.pr e).sq, rs.pr e⟩⟩
  · cases r with
    | scr f rs => exact ⟨_, rfl, fun mu' H' S' e s _ => ⟨_, (f.pr e).sq, rs.pr e⟩⟩
  · obtain ⟨a, rfl, hm, o⟩ := ref_at s r hx
    have hl : l < S.length := (List.getElem?_eq_some_iff.mp hx).1
    refine ⟨a, rfl, fun mu' H' S' e s' q => ?_⟩
    obtain ⟨a', hm', o'⟩ := s'.live l _ q
    have := e.old l a' hl hm'
    rw [hm] at this
    cases this
    cases o' with
    | lst hH rs => exact ⟨_, .inl (.inl hH), rs⟩
theorem fi_lst {tg : Expr} (h : FE X cl W a fa) : FI X cl W tg a (iLst fa) := fi_of (pi_list h.pe) fun mu δ S σ H R s r q => by
  refine ⟨mu, δ, S, s, r, (Af.bind q).mono fun v H1 ⟨mu1, d, S1, s1, e1, r1, q1⟩ => ?_⟩
  split at q1
  · rename_i xs
    obtain ⟨a, rfl, w⟩ := walks (c := none) s1 r1 (.inl ⟨rfl, rfl⟩)
    obtain ⟨vs, h1, _⟩ := w mu1 H1 S1 s1.rfl'.pr s1 True.intro
    exact ⟨a, rfl, ⟨vs, h1⟩, Af.now q1 s1 (it_list w)⟩
  · rename_i xs
    obtain ⟨a, rfl, w⟩ := walks (c := none) s1 r1 (.inr (.inl ⟨rfl, rfl⟩))
    obtain ⟨vs, h1, _⟩ := w mu1 H1 S1 s1.rfl'.pr s1 True.intro
    exact ⟨a, rfl, ⟨vs, h1⟩, Af.now q1 s1 (it_list w)⟩
  · split at q1
    · rename_i l _ xs hx
      obtain ⟨a, rfl, w⟩ := walks (c := some (l, xs)) s1 r1 (.inr (.inr ⟨l, rfl, hx, rfl⟩))
      obtain ⟨vs, h1, _⟩ := w mu1 H1 S1 s1.rfl'.pr s1 hx
      exact ⟨a, rfl, ⟨vs, h1⟩, Af.now q1 s1 (it_list w)⟩
    · exact q1.elim
  · exact q1.elim
/-- over a tuple -/
def iTup (f : DE) : DI := fun δ S => (f δ S).bind fun x S1 => match x with
  | .tup xs => .ok (xs, none) S1
  | _ => .stuck
theorem fi_tup {tg : Expr} (h : FE X cl W a fa) : FI X cl W tg a (iTup fa) := fi_of (pi_tup h.pe) fun mu δ S σ H R s r q => by
  refine ⟨mu, δ, S, s, r, (Af.bind q).mono fun v H1 ⟨mu1, d, S1, s1, e1, r1, q1⟩ => ?_⟩
  split at q1
  · rename_i xs
    cases r1 with
    | @tup a vs _ f rs =>
      refine ⟨a, rfl, ⟨vs, f.sq⟩, Af.now q1 s1 ⟨fun mu' H' S' e s _ i => ⟨fun hi => ⟨vs, (f.pr e).sq, by rw [rs.length]; exact Nat.le_of_eq hi.symm⟩, fun d hd => ?_⟩⟩⟩
      obtain ⟨v, hv, rv⟩ := rs.get (i := i) hd
      refine ⟨⟨vs, v, (f.pr e).sq, hv⟩, fun x H2 y => ?_⟩
      obtain ⟨e2, y⟩ := y
      subst e2
      have ex := y vs (f.pr e).sq
      rw [hv] at ex
      cases ex
      exact ⟨s.rfl', s, rv.pr e⟩
  · exact q1.elim
/-- over range(n), range(m, n) -/
def rngD (lo : Int) (n : Nat) : List D := (List.range n).map fun i : Nat => .int (lo + i)
theorem it_range {K : PySem.W.Frag} {n : Nat} {mu : Mu} {H : Hp} {lo : Int} {m : Nat} : ItR K cl n mu H (Itr lo m) (rngD lo m, none) := ⟨fun mu' H' S' e s _ i => by
  have hl : (rngD lo m).length = m := by unfold rngD; rw [List.length_map, List.length_range]
  refine ⟨fun hi => by show m ≤ i; rw [← hl]; exact Nat.le_of_eq hi.symm, fun d hd => ?_⟩
  have hi : i < m := by have := (List.getElem?_eq_some_iff.mp hd).1; rw [← hl]; exact this
  refine ⟨hi, fun x H2 y => ?_⟩
  obtain ⟨e1, e2⟩ := y
  subst e1 e2
  have hd' : d = .int (lo + i) := by
    unfold rngD at hd
    rw [List.getElem?_map, List.getElem?_range hi] at hd
    cases hd; rfl
  subst hd'
  exact ⟨s.rfl', s, .int _⟩⟩
def iRange1 (f : DA) : DI := fun δ S => (f δ S).bind fun ds S1 => match ds with
  | [.int j] => if -(2 ^ 62) ≤ j ∧ j < 2 ^ 62 then .ok (rngD 0 j.toNat, none) S1 else .stuck
  | _ => .stuck
def iRange2 (f : DA) : DI := fun δ S => (f δ S).bind fun ds S1 => match ds with
  | [.int i, .int j] => if -(2 ^ 62) ≤ i ∧ i < 2 ^ 62 ∧ -(2 ^ 62) ≤ j ∧ j < 2 ^ 62 then .ok (rngD i (j - i).toNat, none) S1 else .stuck
  | _ => .stuck
theorem fi_range1 {tg : Expr} {p : Pos} {fa : DA} (hm : X.mg "range" = none) (h : FA X cl W [a] fa) (hg : Gl X "range" := by rfl) (hs : starEach [a] X.env = [(false, eval a X.env)] := by rfl) : FI X cl W tg (.Call (.Name "range" p) [a] [] pos) (iRange1 fa) :=
  fi_of (pi_range1 hg hm h.pa hs) fun mu δ S σ H R s r q => by
  refine ⟨mu, δ, S, s, r, (Af.bind q).mono fun v H1 ⟨mu1, d, S1, s1, e1, r1, q1⟩ => ?_⟩
  split at q1
  · split at q1
    · rename_i hz
      cases r1 with
      | cons h1 r2 =>
        cases r2
        cases h1
        exact ⟨_, rfl, hz.1, hz.2, Af.now q1 s1 it_range⟩
    · exact q1.elim
  · exact q1.elim
theorem fi_range2 {tg : Expr} {p : Pos} {fa : DA} (hm : X.mg "range" = none) (h : FA X cl W [a, b] fa) (hg : Gl X "range" := by rfl) (hs : starEach [a, b] X.env = [(false, eval a X.env), (false, eval b X.env)] := by rfl) (hs2 : starEach [b] X.env = [(false, eval b X.env)] := by rfl) :
    FI X cl W tg (.Call (.Name "range" p) [a, b] [] pos) (iRange2 fa) :=
  fi_of (pi_range2 hg hm h.pa hs hs2) fun mu δ S σ H R s r q => by
  refine ⟨mu, δ, S, s, r, (Af.bind q).mono fun v H1 ⟨mu1, d, S1, s1, e1, r1, q1⟩ => ?_⟩
  split at q1
  · split at q1
    · rename_i hz
      cases r1 with
      | cons h1 r2 =>
        cases r2 with
        | cons h2 r3 =>
          cases r3
          cases h1
          cases h2
          exact ⟨_, _, rfl, hz, Af.now q1 s1 it_range⟩
    · exact q1.elim
  · exact q1.elim
/-- over a text -/
def iStr (f : DE) : DI := fun δ S => (f δ S).bind fun x S1 => match x with
  | .str z => .ok (z.cps.toList.map fun c => .str ⟨#[c]⟩, none) S1
  | _ => .stuck
theorem fi_str {tg : Expr} (h : FE X cl W a fa) : FI X cl W tg a (iStr fa) := fi_of (pi_str h.pe) fun mu δ S σ H R s r q => by
  refine ⟨mu, δ, S, s, r, (Af.bind q).mono fun v H1 ⟨mu1, d, S1, s1, e1, r1, q1⟩ => ?_⟩
  split at q1
  · rename_i z
    cases r1
    refine ⟨z, rfl, Af.now q1 s1 ⟨fun mu' H' S' e s _ i => ?_⟩⟩
    have hl : (z.cps.toList.map fun c => D.str ⟨#[c]⟩).length = z.cps.size := by simp
    refine ⟨fun hi => by show z.cps.size ≤ i; rw [← hl]; exact Nat.le_of_eq hi.symm, fun d hd => ?_⟩
    have hi : i < z.cps.size := by have := (List.getElem?_eq_some_iff.mp hd).1; rw [← hl]; exact this
    refine ⟨hi, fun x H2 y => ?_⟩
    obtain ⟨e1, c, hc, e2⟩ := y
    subst e1 e2
    have hd' : d = .str ⟨#[c]⟩ := by
      rw [List.getElem?_map] at hd
      have hc' : z.cps.toList[i]? = some c := by simpa using hc
      rw [hc'] at hd
      cases hd; rfl
    subst hd'
    exact ⟨s.rfl', s, .str _⟩
  · exact q1.elim
/-- enumerate -/
def enumD (i : Nat) : List D → List D
  | [] => []
  | x :: xs => .tup [.int i, x] :: enumD (i + 1) xs
theorem enumD_get : ∀ (xs : List D) (j i : Nat), (enumD j xs)[i]? = xs[i]?.map fun x => D.tup [.int ((j + i : Nat) : Int), x]
  | [], j, i => by simp [enumD]
  | x :: xs, j, 0 => by simp [enumD]
  | x :: xs, j, i + 1 => by
    have := enumD_get xs (j + 1) i
    simp only [enumD, List.getElem?_cons_succ, this]
    congr 1
    funext y
    rw [Nat.add_assoc, Nat.add_comm 1 i]
theorem enumD_length : ∀ (xs : List D) (j : Nat), (enumD j xs).length = xs.length
  | [], _ => rfl
  | x :: xs, j => by simp only [enumD, List.length_cons, enumD_length xs]
def iEnum (f : DA) : DI := fun δ S => (f δ S).bind fun ds S1 => match ds with
  | [.lst xs] => .ok (enumD 0 xs, none) S1
  | [.scr xs] => .ok (enumD 0 xs, none) S1
  | [.ref l] => match S1[l]? with
    | some (some (.lst xs)) => .ok (enumD 0 xs, some (l, xs)) S1
    | _ => .stuck
  | _ => .stuck
theorem it_enum {K : PySem.W.Frag} {n : Nat} {mu : Mu} {H : Hp} {a : Addr} {xs : List D} {c : Ck} (h : ∀ mu' H' S', Pr n mu H S'.length mu' H' → SR K cl mu' H' S' → ckS c S' → ∃ vs, SqL K H' a vs ∧ VRels K cl S'.length mu' H' vs xs) : ItR K cl n mu H (Ite K a) (enumD 0 xs, c) := ⟨fun mu' H' S' e s q i => by
  obtain ⟨vs, h1, r⟩ := h mu' H' S' e s q
  refine ⟨fun hi => ⟨vs, h1, by rw [r.length]; rw [enumD_length] at hi; exact Nat.le_of_eq hi.symm⟩, fun d hd => ?_⟩
  rw [enumD_get] at hd
  cases hx : xs[i]? with
  | none => rw [hx] at hd; cases hd
  | some dx =>
    rw [hx] at hd
    cases hd
    obtain ⟨v, hv, rv⟩ := r.get (i := i) hx
    refine ⟨⟨vs, v, h1, hv⟩, fun x H2 y => ?_⟩
    obtain ⟨T, x', rfl, hT, rfl, y⟩ := y
    have ex := y vs h1
    rw [hv] at ex
    cases ex
    refine ⟨ext_new s hT, sr_new s hT, .tup (.inl (fz_new s hT)) (.cons ?_ (.cons (rv.mono (ext_new s hT)) .nil))⟩
    rw [Nat.zero_add]
    exact .int _⟩
theorem fi_enum {elts : List Expr} {kk : Nat} {tpos p : Pos} {fa : DA} (hm : X.mg "enumerate" = none) (h : FA X cl W [a] fa) (hg : Gl X "enumerate" := by rfl) (hs : starEach [a] X.env = [(false, eval a X.env)] := by rfl) :
    FI X cl W (.Tuple elts kk tpos) (.Call (.Name "enumerate" p) [a] [] pos) (iEnum fa) := fi_of (pi_enum hg hm h.pa hs) fun mu δ S σ H R s r q => by
  refine ⟨mu, δ, S, s, r, (Af.bind q).mono fun v H1 ⟨mu1, d, S1, s1, e1, r1, q1⟩ => ?_⟩
  split at q1
  · rename_i xs
    cases r1 with
    | cons h1 r2 =>
      cases r2
      obtain ⟨a, rfl, w⟩ := walks (c := none) s1 h1 (.inl ⟨rfl, rfl⟩)
      obtain ⟨vs, hv, _⟩ := w mu1 H1 S1 s1.rfl'.pr s1 True.intro
      exact ⟨a, vs, rfl, hv, Af.now q1 s1 (it_enum w)⟩
  · rename_i xs
    cases r1 with
    | cons h1 r2 =>
      cases r2
      obtain ⟨a, rfl, w⟩ := walks (c := none) s1 h1 (.inr (.inl ⟨rfl, rfl⟩))
      obtain ⟨vs, hv, _⟩ := w mu1 H1 S1 s1.rfl'.pr s1 True.intro
      exact ⟨a, vs, rfl, hv, Af.now q1 s1 (it_enum w)⟩
  · split at q1
    · rename_i l _ xs hx
      cases r1 with
      | cons h1 r2 =>
        cases r2
        obtain ⟨a, rfl, w⟩ := walks (c := some (l, xs)) s1 h1 (.inr (.inr ⟨l, rfl, hx, rfl⟩))
        obtain ⟨vs, hv, _⟩ := w mu1 H1 S1 s1.rfl'.pr s1 hx
        exact ⟨a, vs, rfl, hv, Af.now q1 s1 (it_enum w)⟩
    · exact q1.elim
  · exact q1.elim

/-! for -/
open Classical in
noncomputable def forD (ck : Ck) (g : DG) (f : DS) : List D → DS
  | [], δ, S => if ckS ck S then .nx δ S else .stuck
  | d :: ds, δ, S => if ckS ck S then match g d S with
    | some da => match f (setAll δ da) S with
      | .nx δ' S' => forD ck g f ds δ' S'
      | .ct δ' S' => forD ck g f ds δ' S'
      | .bk δ' S' => .nx δ' S'
      | o => o
    | none => .stuck
    else .stuck
noncomputable def sFor (i : DI) (g : DG) (f : DS) : DS := fun δ S => toS δ (i δ S) fun p S1 => forD p.2 g f p.1 δ S1
theorem fs_for {tg it : Expr} {body : List Stmt} {i : DI} {gg : DG} (G : Good X W k) (hi : FI X cl W tg it i) (hg : FG X cl tg gg) (hb : FSs X cl W body f) (hs : ∀ x, foldedSetIterable it X.env x = pure x := by intro _; rfl) :
    FS X cl W (.For tg it body [] pos) (sFor i gg f) := fs_of (ps_for G.own G.calm hi.pi hg.pg hb.pss hs) fun mu δ S σ H D s r q => by
  refine ⟨mu, δ, S, s, r, (AfS.toS r q).mono fun J H1 ⟨mu1, p, S1, s1, e1, r1, q1⟩ => ?_⟩
  obtain ⟨items, ck⟩ := p
  have rr := r.mono e1
  refine ⟨fun i m σ' H' => m = items.length - i ∧ i ≤ items.length ∧ ∃ mu' δ' S', Ext S1.length mu1 H1 S'.length mu' H' ∧ SR X.K cl mu' H' S' ∧ ERel X.K cl S'.length mu' H' σ' δ' ∧ AfS X.K cl S'.length mu' H' W (forD ck gg f (items.drop i) δ' S') D,
    ⟨_, rfl, Nat.zero_le _, mu1, δ, S1, s1.rfl', s1, rr, q1⟩, ?_⟩
  rintro i m σ' H' ⟨rfl, hle, mu', δ', S', e', s', r', q'⟩
  by_cases hc : ckS ck S'
  · obtain ⟨t1, t2⟩ := r1.turn mu' H' S' e'.pr s' hc i
    by_cases hlt : i < items.length
    · have hd : items.drop i = items[i] :: items.drop (i + 1) := List.drop_eq_getElem_cons hlt
      rw [hd] at q'
      unfold forD at q'
      rw [if_pos hc] at q'
      obtain ⟨go, yl⟩ := t2 items[i] (List.getElem?_eq_getElem hlt)
      refine .inr ⟨go, _, fun _ _ h => h, fun x H2 y => ?_⟩
      obtain ⟨e2, s2, r2⟩ := yl x H2 y
      split at q'
      · rename_i da hda
        refine ⟨mu', S', _, da, s2, r2, hda, fun va hv => ?_⟩
        have rb := ERel.setAll hv (r'.mono e2)
        refine ⟨mu', setAll δ' da, S', s2, rb, ?_⟩
        have q2 := AfS.ext e2 q'
        have nxt : ∀ {δ3 : Env} {S3 : Store}, AfS X.K cl S'.length mu' H2 W (forD ck gg f (items.drop (i + 1)) δ3 S3) D → ∀ σ3 H3 mu3, Ext S'.length mu' H2 S3.length mu3 H3 → SR X.K cl mu3 H3 S3 → ERel X.K cl S3.length mu3 H3 σ3 δ3 →
            ∃ m', m' < items.length - i ∧ m' = items.length - (i + 1) ∧ i + 1 ≤ items.length ∧ ∃ mu' δ' S', Ext S1.length mu1 H1 S'.length mu' H3 ∧ SR X.K cl mu' H3 S' ∧ ERel X.K cl S'.length mu' H3 σ3 δ' ∧ AfS X.K cl S'.length mu' H3 W (forD ck gg f (items.drop (i + 1)) δ' S') D :=
          fun {δ3 S3} q3 σ3 H3 mu3 e3 s3 r3 => ⟨_, by omega, rfl, hlt, mu3, δ3, S3, (e'.trans e2).trans e3, s3, r3, AfS.ext e3 q3⟩
        cases z : f (setAll δ' da) S' with
        | nx δ3 S3 => rw [z] at q2; exact nxt q2
        | ct δ3 S3 => rw [z] at q2; exact nxt q2
        | bk δ3 S3 => rw [z] at q2; exact q2
        | rt d S3 => rw [z] at q2; exact q2
        | exc C fs δ3 S3 => rw [z] at q2; exact q2
        | stuck => rw [z] at q2; exact q2
      · exact q'.elim
    · have hi : i = items.length := by omega
      subst hi
      rw [List.drop_length] at q'
      unfold forD at q'
      rw [if_pos hc] at q'
      exact .inl ⟨t1 rfl, AfS.now q' s' r'⟩
  · exfalso
    cases hd : items.drop i with
    | nil => rw [hd] at q'; unfold forD at q'; rw [if_neg hc] at q'; exact q'
    | cons d ds => rw [hd] at q'; unfold forD at q'; rw [if_neg hc] at q'; exact q'
end
end Mi
namespace Mi
open PySem L2

/-! comprehensions: the list in the making is nobody's -/
def zAdd (mu : Mu) (p : Addr) : Mu := ⟨mu.f, fun b => mu.z b ∨ b = p⟩
def zOff (mu mu0 : Mu) : Mu := ⟨mu.f, mu0.z⟩
def noX {α : Type} (o : Out α) : Out α := match o with
  | .ok a S => .ok a S
  | _ => .stuck
@[simp] theorem noX_ok {α : Type} (a : α) (S : Store) : noX (.ok a S) = .ok a S := rfl
open Classical in
noncomputable def compD (g : DG) (t : DT) (f : DE) (c : Ck) (δ : Env) : List D → Store → Out (List D)
  | [], S => if ckS c S then .ok [] S else .stuck
  | d :: ds, S => if ckS c S then match g d S with
    | some da => (noX (t (setAll δ da) S)).bind fun b S1 => if b then (noX (f (setAll δ da) S1)).bind fun x S2 => (compD g t f c δ ds S2).bind fun xs S3 => .ok (x :: xs) S3 else compD g t f c δ ds S1
    | none => .stuck
    else .stuck
def wipeD (δ : Env) : List Nat → Env
  | [] => δ
  | v :: vs => (wipeD δ vs).set v none
def lcEnd (live : Bool) (acc xs : List D) (S : Store) : Out D := if live then .ok (.ref S.length) (S ++ [some (.lst (acc ++ xs))]) else .ok (.lst (acc ++ xs)) S
noncomputable def eLc (live : Bool) (vs : List Nat) (i : DI) (g : DG) (t : DT) (f : DE) : DE := fun δ S => (i δ S).bind fun p S1 => if p.1.length ≤ sizeLine then
  (compD g t f p.2 (wipeD δ vs) p.1 S1).bind (lcEnd live []) else .stuck
def tYesD : DT := fun _ S => .ok true S
def GIx (g : DG) (vs : List Nat) : Prop := ∀ d S da, g d S = some da → ∀ p ∈ da, p.1 ∈ vs
def GIxs (g : DGs) (vs : List Nat) : Prop := ∀ d S da, g d S = some da → ∀ p ∈ da, p.1 ∈ vs
theorem gix_name {i : Nat} {vs : List Nat} (h : i ∈ vs := by decide) : GIx (gName i) vs := fun d S da e p hp => by
  cases e
  cases List.mem_singleton.mp hp
  exact h
theorem gix_nil {vs : List Nat} : GIxs gNil vs := fun d S da e p hp => by
  unfold gNil at e
  split at e
  · cases e; cases hp
  · cases e
theorem gix_cons {g : DG} {gs : DGs} {vs : List Nat} (h : GIx g vs) (hs : GIxs gs vs) : GIxs (gCons g gs) vs := fun d S da e p hp => by
  unfold gCons at e
  split at e
  · split at e
    · rename_i x y ex ey
      cases e
      rcases List.mem_append.mp hp with q | q
      · exact h _ _ _ ex p q
      · exact hs _ _ _ ey p q
    · cases e
  · cases e
theorem gix_tup {n : Nat} {gs : DGs} {vs : List Nat} (hs : GIxs gs vs) : GIx (gTup n gs) vs := fun d S da e p hp => by
  unfold gTup at e
  split at e
  · split at e
    · exact hs _ _ _ e p hp
    · cases e
  · cases e
theorem wipe_comm (σ : St) (v : Nat) : ∀ vs : List Nat, wipe (σ.set v none) vs = (wipe σ vs).set v none
  | [] => rfl
  | u :: vs => by
    unfold wipe
    rw [wipe_comm σ v vs]
    by_cases e : v = u
    · subst e; rfl
    · rw [List.set_comm _ _ e]
theorem wipe_set {v : Nat} {x : Option V} : ∀ {vs : List Nat} {σ : St}, v ∈ vs → wipe (σ.set v x) vs = wipe σ vs
  | [], _, h => by cases h
  | u :: vs, σ, h => by
    unfold wipe
    by_cases e : v = u
    · subst e
      by_cases hm : v ∈ vs
      · rw [wipe_set hm]
      · have : ∀ (ws : List Nat) (y : Option V), v ∉ ws → wipe (σ.set v y) ws = (wipe σ ws).set v y := fun ws y hw => by
          induction ws with
          | nil => rfl
          | cons w ws ih =>
            unfold wipe
            rw [ih fun z => hw (List.mem_cons_of_mem _ z), List.set_comm _ _ fun z => hw (by rw [z]; exact List.mem_cons_self)]
        rw [this vs x hm, List.set_set]
    · rcases List.mem_cons.mp h with q | q
      · exact absurd q e
      · rw [wipe_set q]
theorem wipe_all {vs : List Nat} : ∀ {va : List (Nat × V)} {σ : St}, (∀ p ∈ va, p.1 ∈ vs) → wipe (setAll σ va) vs = wipe σ vs
  | [], _, _ => rfl
  | p :: va, σ, h => by
    show wipe (setAll (σ.set p.1 (some p.2)) va) vs = _
    rw [wipe_all fun q hq => h q (List.mem_cons_of_mem _ hq), wipe_set (h p List.mem_cons_self)]
theorem wipe_wipe (σ : St) (vs : List Nat) : wipe (wipe σ vs) vs = wipe σ vs := by
  have : ∀ ws : List Nat, (∀ w ∈ ws, w ∈ vs) → wipe (wipe σ ws) vs = wipe σ vs := fun ws => by
    induction ws with
    | nil => intro _; rfl
    | cons w ws ih =>
      intro h
      show wipe ((wipe σ ws).set w none) vs = _
      rw [wipe_set (h w List.mem_cons_self)]
      exact ih fun z hz => h z (List.mem_cons_of_mem _ hz)
  exact this vs fun _ h => h
section
variable {K : PySem.W.Frag} {cl : Cl} {n : Nat} {mu mu0 : Mu} {H : Hp} {S : Store} {σ : St} {δ : Env} {W : WX}
theorem ERel.wipe (r : ERel K cl n mu H σ δ) : ∀ vs : List Nat, ERel K cl n mu H (wipe σ vs) (wipeD δ vs)
  | [] => r
  | v :: vs => by
    have q := ERel.wipe r vs
    unfold L2.wipe wipeD
    refine ⟨by rw [List.length_set, List.length_set]; exact q.1, fun j d e => ?_⟩
    by_cases hj : v = j
    · subst hj
      by_cases hl : v < (wipeD δ vs).length
      · rw [List.getElem?_set_self hl] at e; cases e
      · rw [List.getElem?_eq_none (by rw [List.length_set]; omega)] at e; cases e
    · rw [List.getElem?_set_ne hj] at e ⊢
      exact q.2 j d e
/-- a new thing that nobody has -/
theorem pr_zadd {p : Addr} {o : HO} (hp : H p = none) : Pr n mu H n (zAdd mu p) (upd H p o) where
  le := Nat.le_refl _
  keep := fun a u h f => ⟨by rw [upd_ne (ne_of_none h hp)]; exact h, f.1, fun z => z.elim f.2 (ne_of_none h hp)⟩
  old := fun _ _ _ h => h
theorem sr_zadd (s : SR K cl mu H S) {p : Addr} {o : HO} (hp : H p = none) : SR K cl (zAdd mu p) (upd H p o) S :=
  s.re (pr_zadd hp) rfl (fun l a h => upd_ne fun z => s.ne hp l (by rw [← z]; exact h)) (fun a h => by
    by_cases e : a = p
    · rw [e, upd_same]; exact fun z => nomatch z
    · rw [upd_ne e]; exact s.zt a (h.resolve_right e)) fun l a h z => z.elim (s.zd l a h) fun e => s.ne hp l (by rw [← e]; exact h)
theorem pr_zput {p : Addr} {o : HO} (hz : mu.z p) : Pr n mu H n mu (upd H p o) where
  le := Nat.le_refl _
  keep := fun a u h f => ⟨by rw [upd_ne fun e => f.2 (by rw [e]; exact hz)]; exact h, f⟩
  old := fun _ _ _ h => h
theorem sr_zput (s : SR K cl mu H S) {p : Addr} {o : HO} (hz : mu.z p) : SR K cl mu (upd H p o) S :=
  s.re (pr_zput hz) rfl (fun l a h => upd_ne fun e => s.zd l a h (by rw [e]; exact hz)) (fun a h => by
    by_cases e : a = p
    · rw [e, upd_same]; exact fun z => nomatch z
    · rw [upd_ne e]; exact s.zt a h) s.zd
/-- what is the state behind a comprehension -/
structure LcI (K : PySem.W.Frag) (cl : Cl) (n0 : Nat) (mu0 : Mu) (H0 : Hp) (Dd : Addr) (S : Store) (mu : Mu) (H : Hp) (acc : List D) (va : List V) : Prop where
  e : Ext n0 mu0 H0 S.length (zOff mu mu0) H
  s : SR K cl mu H S
  z : mu.z = (zAdd mu0 Dd).z
  h0 : H0 Dd = none
  n0 : ¬ mu0.z Dd
  at_ : H Dd = some (.lst va)
  r : VRels K cl S.length mu H va acc
theorem LcI.pr {n0 : Nat} {mu0 : Mu} {H0 : Hp} {Dd : Addr} {acc : List D} {va : List V} (I : LcI K cl n0 mu0 H0 Dd S mu H acc va) : Pr n0 mu0 H0 S.length mu H := ⟨I.e.le, fun a o h f => ⟨I.e.keep a o h f.1, (I.e.out h f).1, fun z => by
  rw [I.z] at z
  exact z.elim f.2 (ne_of_none h I.h0)⟩, I.e.old⟩
theorem LcI.off {n0 : Nat} {mu0 : Mu} {H0 : Hp} {Dd : Addr} {acc : List D} {va : List V} (I : LcI K cl n0 mu0 H0 Dd S mu H acc va) (live : Bool) {Q : VK}
    (q : Af K cl (VRel K cl) n0 mu0 H0 σ W (if live then .ok (.ref S.length) (S ++ [some (.lst acc)]) else .ok (.lst acc) S) Q) : Q (.ref Dd) H := by
  have hz : mu.z Dd := by rw [I.z]; exact .inr rfl
  have nz : ∀ a, mu0.z a → mu.z a := fun a h => by rw [I.z]; exact .inl h
  have nr : ∀ l, mu l ≠ some Dd := fun l e => I.s.zd l Dd e hz
  cases live with
  | false =>
    have p : Pr S.length mu H S.length (zOff mu mu0) H := ⟨Nat.le_refl _, fun a o h f => ⟨h, f.1, fun z => f.2 (nz a z)⟩, fun _ _ _ h => h⟩
    refine q _ _ _ I.e (I.s.re p rfl (fun _ _ _ => rfl) (fun a h => I.s.zt a (nz a h)) fun l a h z => I.s.zd l a h (nz a z)) (.lst ⟨I.at_, nr, I.n0⟩ (I.r.pr p))
  | true =>
    have p : Pr S.length mu H (S ++ [some (O.lst acc)]).length (muAdd (zOff mu mu0) S.length Dd) H := by
      refine ⟨by simp, fun a o h f => ⟨h, fun l e => ?_, fun z => f.2 (nz a z)⟩, fun l a hl h => ?_⟩
      · dsimp only [muAdd] at e
        split at e
        · cases e; exact f.2 hz
        · exact f.1 l e
      · dsimp only [muAdd] at h
        rw [if_neg (Nat.ne_of_lt hl)] at h
        exact h
    refine q (.ref Dd) H (muAdd (zOff mu mu0) S.length Dd) ?_ ?_ (.ref (by simp) fun a e => by
      dsimp only [muAdd] at e
      rw [if_pos rfl] at e
      cases e; rfl)
    · refine ⟨by simp; exact Nat.le_succ_of_le I.e.le, I.e.keep, fun l a hl h => ?_, fun l a hl h => ?_, I.e.trk, rfl⟩
      · dsimp only [muAdd] at h
        rw [if_neg (Nat.ne_of_lt (Nat.lt_of_lt_of_le hl I.e.le))] at h
        exact I.e.old l a hl h
      · dsimp only [muAdd] at h
        split at h
        · cases h; exact I.h0
        · exact I.e.new l a hl h
    · refine ⟨fun l m a e1 e2 => ?_, fun l o e => ?_, fun l h => ?_, fun a h => I.s.zt a (nz a h), fun l a h z => ?_⟩
      · dsimp only [muAdd] at e1 e2
        split at e1 <;> split at e2
        · rename_i z1 z2; rw [z1, z2]
        · cases e1; exact absurd e2 (nr m)
        · cases e2; exact absurd e1 (nr l)
        · exact I.s.inj l m a e1 e2
      · by_cases hl : l < S.length
        · rw [List.getElem?_append_left hl] at e
          obtain ⟨a, h1, h2⟩ := I.s.live l o e
          exact ⟨a, by dsimp only [muAdd]; rw [if_neg (Nat.ne_of_lt hl)]; exact h1, h2.pr p rfl⟩
        · have hl' : l = S.length := by
            have := (List.getElem?_eq_some_iff.mp e).1
            rw [List.length_append] at this
            have h1 : ([some (O.lst acc)] : Store).length = 1 := rfl
            omega
          subst hl'
          rw [List.getElem?_append_right (Nat.le_refl _), Nat.sub_self] at e
          cases e
          exact ⟨Dd, if_pos rfl, .lst I.at_ (I.r.pr p)⟩
      · dsimp only [muAdd]
        by_cases e : l = S.length
        · subst e
          exact absurd (by rw [List.getElem?_append_right (Nat.le_refl _), Nat.sub_self]; rfl) (h (.lst acc))
        · rw [if_neg e]
          refine I.s.dead l fun y z => h y ?_
          rw [List.getElem?_append_left (List.getElem?_eq_some_iff.mp z).1]
          exact z
      · dsimp only [muAdd] at h z
        split at h
        · cases h; exact I.n0 z
        · exact I.s.zd l a h (nz a z)
theorem LcI.step {n0 : Nat} {mu0 : Mu} {H0 : Hp} {Dd : Addr} {acc : List D} {va : List V} (I : LcI K cl n0 mu0 H0 Dd S mu H acc va) {S' : Store} {mu' : Mu} {H' : Hp} (e : Ext S.length mu H S'.length mu' H') (s : SR K cl mu' H' S') : LcI K cl n0 mu0 H0 Dd S' mu' H' acc va := by
  have hz : mu.z Dd := by rw [I.z]; exact .inr rfl
  have nr : ∀ l, mu l ≠ some Dd := fun l q => I.s.zd l Dd q hz
  exact ⟨I.e.trans ⟨e.le, e.keep, e.old, e.new, e.trk, rfl⟩, s, e.zz.trans I.z, I.h0, I.n0, e.keep _ _ I.at_ nr, I.r.mono e⟩
theorem LcI.app {n0 : Nat} {mu0 : Mu} {H0 : Hp} {Dd : Addr} {acc : List D} {va : List V} (I : LcI K cl n0 mu0 H0 Dd S mu H acc va) {v : V} {d : D} (r : VRel K cl S.length mu H v d) : LcI K cl n0 mu0 H0 Dd S mu (upd H Dd (.lst (va ++ [v]))) (acc ++ [d]) (va ++ [v]) := by
  have hz : mu.z Dd := by rw [I.z]; exact .inr rfl
  refine ⟨⟨I.e.le, fun a o h f => ?_, I.e.old, I.e.new, fun a h => ?_, I.e.zz⟩, sr_zput I.s hz, I.z, I.h0, I.n0, upd_same, (I.r.append (.cons r .nil)).pr (pr_zput hz)⟩
  · rw [upd_ne (ne_of_none h I.h0)]; exact I.e.keep a o h f
  · by_cases q : a = Dd
    · rw [q]; exact I.h0
    · rw [upd_ne q] at h; exact I.e.trk a h
end

abbrev W0 : WX := fun _ _ _ _ => False
theorem Af.noX {K : PySem.W.Frag} {cl : Cl} {α β α' β' : Type} {R : Rl α β} {R' : Rl α' β'} {n n' : Nat} {mu mu' : Mu} {H H' : Hp} {σ σ' : St} {W W' : WX} {o : Out α} {k : α → Store → Out α'} {Q : β' → Hp → Prop} (h : Af K cl R' n mu H σ W ((noX o).bind k) Q) :
    Af K cl R n' mu' H' σ' W' o (fun v H1 => ∃ mu1 d S1, SR K cl mu1 H1 S1 ∧ Ext n' mu' H' S1.length mu1 H1 ∧ R S1.length mu1 H1 v d ∧ Af K cl R' n mu H σ W (k d S1) Q) := by
  cases o with
  | ok d S' => exact fun v H' mu' e s r => ⟨mu', d, S', s, e, r, h⟩
  | exc C fs S' => exact h.elim
  | stuck => exact h
section
variable {X : Cx} {cl : Cl} {W : WX} {pos : Pos} {k : Nat}
theorem lc_step {live : Bool} {vs : List Nat} {i : DI} {g : DG} {t : DT} {f : DE} (hg : GIx g vs) {mu δ S σ H Q} (s : SR X.K cl mu H S) (r : ERel X.K cl S.length mu H σ δ) (q : Af X.K cl (VRel X.K cl) S.length mu H σ W (eLc live vs i g t f δ S) Q) :
    tLc (tI X.K cl W i) (tG X.K cl g) (tT X.K cl W0 t) (tE X.K cl W0 f) vs σ H Q := by
  refine ⟨mu, δ, S, s, r, (Af.bind q).mono fun J H1 ⟨mu1, p, S1, s1, e1, r1, q1⟩ => ?_⟩
  obtain ⟨items, ck⟩ := p
  dsimp only at q1
  split at q1
  case isFalse => exact q1.elim
  rename_i hz
  intro Dd hD
  have rw0 : ERel X.K cl S1.length mu1 H1 (wipe σ vs) (wipeD δ vs) := (r.mono e1).wipe vs
  have stg : ∀ {mu' : Mu} {H' : Hp} {S' : Store} {acc : List D} {va : List V}, LcI X.K cl S1.length mu1 H1 Dd S' mu' H' acc va → Ext S1.length mu1 H1 S'.length (zOff mu' mu1) H' := fun I => I.e
  refine ⟨fun i m H' => m = items.length - i ∧ i ≤ items.length ∧ ∃ mu' S' acc va, LcI X.K cl S1.length mu1 H1 Dd S' mu' H' acc va ∧ ERel X.K cl S'.length mu' H' (wipe σ vs) (wipeD δ vs) ∧ acc.length ≤ i ∧
      Af X.K cl (VRel X.K cl) S1.length mu1 H1 σ W ((compD g t f ck (wipeD δ vs) (items.drop i) S').bind (lcEnd live acc)) Q,
    ⟨_, rfl, Nat.zero_le _, zAdd mu1 Dd, S1, [], [], ⟨?_, sr_zadd s1 hD, rfl, hD, (s1.ot hD).2, upd_same, .nil⟩, rw0.pr (pr_zadd hD), Nat.le_refl _, q1⟩, ?_⟩
  · exact ⟨Nat.le_refl _, fun a o h _ => by rw [upd_ne (ne_of_none h hD)]; exact h, fun _ _ _ h => h, fun l a hl h => absurd h (by
      have : (zOff (zAdd mu1 Dd) mu1) l = mu1 l := rfl
      rw [this, s1.top l hl]; exact fun z => nomatch z), fun a h => by
      by_cases e : a = Dd
      · rw [e]; exact hD
      · rw [upd_ne e] at h; exact h, rfl⟩
  · rintro i m H' ⟨rfl, hle, mu', S', acc, va, I, r', ha, q'⟩
    by_cases hc : ckS ck S'
    · obtain ⟨t1, t2⟩ := r1.turn mu' H' S' I.pr I.s hc i
      by_cases hlt : i < items.length
      · have hd : items.drop i = items[i] :: items.drop (i + 1) := List.drop_eq_getElem_cons hlt
        rw [hd] at q'
        unfold compD at q'
        rw [if_pos hc] at q'
        obtain ⟨go, yl⟩ := t2 items[i] (List.getElem?_eq_getElem hlt)
        refine .inr ⟨go, _, fun _ h => h, fun x H2 y => ?_⟩
        obtain ⟨e2, s2, r2⟩ := yl x H2 y
        have I2 := I.step e2 s2
        split at q'
        case h_2 => exact q'.elim
        rename_i da hda
        refine ⟨mu', S', _, da, s2, r2, hda, fun va' hv => ?_⟩
        have rb := ERel.setAll hv (r'.mono e2)
        refine ⟨wipe_all (σ := wipe σ vs) (fun p hp => ?_) |>.trans (wipe_wipe σ vs), ?_⟩
        · have : p.1 ∈ va'.map (·.1) := List.mem_map.mpr ⟨p, hp, rfl⟩
          rw [hv.1] at this
          obtain ⟨p', hp', e'⟩ := List.mem_map.mp this
          rw [← e']
          exact hg _ _ _ hda p' hp'
        have q2 : Af X.K cl (VRel X.K cl) S1.length mu1 H1 σ W ((noX (t (setAll (wipeD δ vs) da) S')).bind fun b S1' => (if b then (noX (f (setAll (wipeD δ vs) da) S1')).bind fun x S2 => (compD g t f ck (wipeD δ vs) (items.drop (i + 1)) S2).bind fun xs S3 => .ok (x :: xs) S3 else compD g t f ck (wipeD δ vs) (items.drop (i + 1)) S1').bind (lcEnd live acc)) Q := by
          cases z : noX (t (setAll (wipeD δ vs) da) S') with
          | ok b S1' => rw [z] at q'; exact q'
          | exc C fs S1' => rw [z] at q'; exact q'
          | stuck => rw [z] at q'; exact q'
        refine ⟨mu', _, S', s2, rb, (Af.noX (R := RB) q2).mono fun b H3 ⟨mu3, d3, S3, s3, e3, r3, q3⟩ => ?_⟩
        cases (show b = d3 from r3)
        have I3 := I2.step e3 s3
        have r3' : ERel X.K cl S3.length mu3 H3 (wipe σ vs) (wipeD δ vs) := (r'.mono e2).mono e3
        cases b with
        | false =>
          rw [if_neg Bool.false_ne_true] at q3 ⊢
          exact ⟨_, by omega, rfl, hlt, mu3, S3, acc, va, I3, r3', by omega, q3⟩
        | true =>
          rw [if_pos rfl] at q3 ⊢
          have q4 : Af X.K cl (VRel X.K cl) S1.length mu1 H1 σ W ((noX (f (setAll (wipeD δ vs) da) S3)).bind fun x S2 => (compD g t f ck (wipeD δ vs) (items.drop (i + 1)) S2).bind (lcEnd live (acc ++ [x]))) Q := by
            cases z : noX (f (setAll (wipeD δ vs) da) S3) with
            | ok x S4 =>
              rw [z] at q3
              have q3 : Af X.K cl (VRel X.K cl) S1.length mu1 H1 σ W (((compD g t f ck (wipeD δ vs) (items.drop (i + 1)) S4).bind fun xs S3 => .ok (x :: xs) S3).bind (lcEnd live acc)) Q := q3
              show Af X.K cl (VRel X.K cl) S1.length mu1 H1 σ W ((compD g t f ck (wipeD δ vs) (items.drop (i + 1)) S4).bind (lcEnd live (acc ++ [x]))) Q
              cases z2 : compD g t f ck (wipeD δ vs) (items.drop (i + 1)) S4 with
              | ok xs S5 =>
                rw [z2] at q3
                show Af X.K cl (VRel X.K cl) S1.length mu1 H1 σ W (lcEnd live (acc ++ [x]) xs S5) Q
                have q3 : Af X.K cl (VRel X.K cl) S1.length mu1 H1 σ W (lcEnd live acc (x :: xs) S5) Q := q3
                unfold lcEnd at q3 ⊢
                rw [List.append_assoc]
                exact q3
              | exc C fs S5 => rw [z2] at q3; exact q3
              | stuck => rw [z2] at q3; exact q3
            | exc C fs S4 => rw [z] at q3; exact q3
            | stuck => rw [z] at q3; exact q3
          refine ⟨mu3, _, S3, s3, rb.mono e3, (Af.noX q4).mono fun v H4 ⟨mu4, d4, S4, s4, e4, r4, q5⟩ => ?_⟩
          have I4 := I3.step e4 s4
          have hva : va.length = acc.length := I4.r.length
          have hz4 : mu4.z Dd := by rw [I4.z]; exact .inr rfl
          refine ⟨va, I4.at_, by omega, _, by omega, rfl, hlt, mu4, S4, acc ++ [d4], va ++ [v], I4.app r4, (r3'.mono e4).pr (pr_zput hz4), by rw [List.length_append]; exact Nat.succ_le_succ ha, q5⟩
      · have hi : i = items.length := by omega
        subst hi
        rw [List.drop_length] at q'
        unfold compD at q'
        rw [if_pos hc] at q'
        refine .inl ⟨t1 rfl, ?_⟩
        have q' : Af X.K cl (VRel X.K cl) S1.length mu1 H1 σ W (lcEnd live acc [] S') Q := q'
        unfold lcEnd at q'
        rw [List.append_nil] at q'
        exact I.off live q'
    · exfalso
      cases hd : items.drop i with
      | nil => rw [hd] at q'; unfold compD at q'; rw [if_neg hc] at q'; exact q'
      | cons d ds => rw [hd] at q'; unfold compD at q'; rw [if_neg hc] at q'; exact q'
variable {elt tg iter : Expr} {ifs : List Expr} {scope : Scope} {own : List (Str × Nat)}
structure FTs (X : Cx) (cl : Cl) (W : WX) (es : List Expr) (f : DT) : Prop where
  pts : PTs X es (tT X.K cl W f)
theorem pts_imp {es : List Expr} {t t' : TT} (h : PTs X es t) (i : ∀ σ H Q, t' σ H Q → t σ H Q) : PTs X es t' := ⟨fun pins s σ H Q I q => h.run pins s σ H Q I (i σ H Q q)⟩
theorem fts_nil : FTs X cl W [] tYesD := ⟨pts_imp pts_nil fun σ H Q ⟨mu, δ, S, s, r, q⟩ => Af.now q s rfl⟩
theorem fts_one {c : Expr} {t : DT} (h : FT X cl W c t) : FTs X cl W [c] t := ⟨pts_one h.pt⟩
theorem Good.blk (G : Good X W k) (s : Shared) (H : Hp) (C : Addr) (cl' : List (Str × Addr)) (fp : List Addr) : Good (X.blk s H scope (compEnvC scope cl' C X.env) fp) W0 k := ⟨G.calm, takes0, G.room, G.nd, G.grd, PassesOwn.never⟩
theorem fe_lc {live : Bool} {i : DI} {g : DG} {t : DT} {f : DE} (G : Good X W k) (hi : FI X cl W tg iter i) (ok : BlkOk X.N X.env.scope scope own) (gx : GIx g (own.map (·.2)))
    (hg : ∀ (s : Shared) (H : Hp) (C : Addr) (cl' : List (Str × Addr)) (fp : List Addr), FG (X.blk s H scope (compEnvC scope cl' C X.env) fp) cl tg g)
    (ht : ∀ (s : Shared) (H : Hp) (C : Addr) (cl' : List (Str × Addr)) (fp : List Addr), FTs (X.blk s H scope (compEnvC scope cl' C X.env) fp) cl W0 ifs t)
    (he : ∀ (s : Shared) (H : Hp) (C : Addr) (cl' : List (Str × Addr)) (fp : List Addr), FE (X.blk s H scope (compEnvC scope cl' C X.env) fp) cl W0 elt f) (hs : ∀ x, foldedSetIterable iter X.env x = pure x := by intro _; rfl) :
    FE X cl W (.ListComp elt [⟨tg, iter, ifs, 0⟩] scope pos) (eLc live (own.map (·.2)) i g t f) :=
  fe_of (pe_lc G.calm G.nd hi.pi ok (fun s H C cl' fp => (hg s H C cl' fp).pg) (fun s H C cl' fp => (ht s H C cl' fp).pts) (fun s H C cl' fp => (he s H C cl' fp).pe) hs) fun mu δ S σ H Q s r q => lc_step gx s r q
theorem fs_setLc {live : Bool} {j : Nat} {y : Str} {py spos : Pos} {i : DI} {g : DG} {t : DT} {f : DE} (G : Good X W k) (hi : FI X cl W tg iter i) (ok : BlkOk X.N X.env.scope scope own) (gx : GIx g (own.map (·.2)))
    (hg : ∀ (s : Shared) (H : Hp) (C : Addr) (cl' : List (Str × Addr)) (fp : List Addr), FG (X.blk s H scope (compEnvC scope cl' C X.env) fp) cl tg g)
    (ht : ∀ (s : Shared) (H : Hp) (C : Addr) (cl' : List (Str × Addr)) (fp : List Addr), FTs (X.blk s H scope (compEnvC scope cl' C X.env) fp) cl W0 ifs t)
    (he : ∀ (s : Shared) (H : Hp) (C : Addr) (cl' : List (Str × Addr)) (fp : List Addr), FE (X.blk s H scope (compEnvC scope cl' C X.env) fp) cl W0 elt f)
    (hsw : swapsWith (.ListComp elt [⟨tg, iter, ifs, 0⟩] scope pos) (some (.Name y py)) spos.line X.env = pure true) (hy : X.N[j]? = some y := by rfl) (hyl : X.env.scope.names.lookup y = some .local := by rfl) (hs : ∀ x, foldedSetIterable iter X.env x = pure x := by intro _; rfl) :
    FS X cl W (.Assign [.Name y py] (.ListComp elt [⟨tg, iter, ifs, 0⟩] scope pos) spos) (sSet j (eLc live (own.map (·.2)) i g t f)) :=
  fs_of (ps_setLc G.calm G.nd hy hyl hsw hi.pi ok (fun s H C cl' fp => (hg s H C cl' fp).pg) (fun s H C cl' fp => (ht s H C cl' fp).pts) (fun s H C cl' fp => (he s H C cl' fp).pe) hs) fun mu δ S σ H D s r q =>
    lc_step gx s r ((AfS.toS r q).mono fun v H1 ⟨mu1, d, S1, s1, e1, r1, q1⟩ => AfS.now q1 s1 ((r.mono e1).set r1))
end
end Mi
namespace Mi
open PySem L2

/-! what has no place of the store in it -/
mutual
def noref : D → Bool
  | .ref _ => false
  | .tup xs => norefs xs
  | .lst xs => norefs xs
  | .scr xs => norefs xs
  | .dic kvs => norefK kvs
  | .ins _ fs => norefF fs
  | .exc _ fs => norefF fs
  | _ => true
def norefs : List D → Bool
  | [] => true
  | x :: xs => noref x && norefs xs
def norefK : List (Key × D) → Bool
  | [] => true
  | (_, x) :: xs => noref x && norefK xs
def norefF : List (Str × D) → Bool
  | [] => true
  | (_, x) :: xs => noref x && norefF xs
end
theorem norefK_zip : ∀ {ks : List Key} {ds : List D}, ks.length = ds.length → norefK (ks.zip ds) = true → norefs ds = true
  | [], [], _, _ => rfl
  | k :: ks, d :: ds, hl, h => by
    rw [List.zip_cons_cons] at h
    simp only [norefK, Bool.and_eq_true] at h
    simp only [norefs, Bool.and_eq_true]
    exact ⟨h.1, norefK_zip (by simpa using hl) h.2⟩
theorem norefF_zip : ∀ {ks : List Str} {ds : List D}, ks.length = ds.length → norefF (ks.zip ds) = true → norefs ds = true
  | [], [], _, _ => rfl
  | k :: ks, d :: ds, hl, h => by
    rw [List.zip_cons_cons] at h
    simp only [norefF, Bool.and_eq_true] at h
    simp only [norefs, Bool.and_eq_true]
    exact ⟨h.1, norefF_zip (by simpa using hl) h.2⟩
/-- what is read stands on, places or not -/
def Kp (mu : Mu) (H : Hp) (mu' : Mu) (H' : Hp) : Prop := ∀ a o, H a = some o → Ot mu a → H' a = some o ∧ Ot mu' a
section
variable {K : PySem.W.Frag} {cl : Cl} {n n' : Nat} {mu mu' : Mu} {H H' : Hp}
theorem Fz.kp {a : Addr} {o : HO} (e : Kp mu H mu' H') (h : Fz mu H a o) : Fz mu' H' a o := by
  obtain ⟨h, f⟩ := h
  rcases h with h | ⟨q, h⟩
  · exact ⟨.inl (e _ _ h f).1, (e _ _ h f).2⟩
  · exact ⟨.inr ⟨q, (e _ _ h f).1⟩, (e _ _ h f).2⟩
theorem FzL.kp {a : Addr} {o : HO} (e : Kp mu H mu' H') (h : FzL mu H a o) : FzL mu' H' a o := by
  obtain ⟨⟨q, h⟩, f⟩ := h
  exact ⟨⟨q, (e _ _ h f).1⟩, (e _ _ h f).2⟩
theorem TupF.kp {a : Addr} {vs : List V} (e : Kp mu H mu' H') (h : TupF K mu H a vs) : TupF K mu' H' a vs := h.elim (fun h => .inl (h.kp e)) .inr
theorem ScrF.kp {a : Addr} {vs : List V} (e : Kp mu H mu' H') (h : ScrF K mu H a vs) : ScrF K mu' H' a vs := h.elim (fun h => .inl (h.kp e)) .inr
theorem LstF.kp {a : Addr} {vs : List V} (e : Kp mu H mu' H') (h : LstF mu H a vs) : LstF mu' H' a vs := e _ _ h.1 h.2
mutual
theorem VRel.nr (e : Kp mu H mu' H') : ∀ {v : V} {d : D}, noref d = true → VRel K cl n mu H v d → VRel K cl n' mu' H' v d
  | _, _, _, .non => .non
  | _, _, _, .bl b => .bl b
  | _, _, _, .int i => .int i
  | _, _, _, .str x => .str x
  | _, _, _, .ty x => .ty x
  | _, _, _, .cls h => .cls h
  | _, _, h, .ref _ _ => by simp [noref] at h
  | _, _, h, .tup f r => .tup (f.kp e) (VRels.nr e (by simpa [noref] using h) r)
  | _, _, h, .lst f r => .lst (f.kp e) (VRels.nr e (by simpa [noref] using h) r)
  | _, _, h, .scr f r => .scr (f.kp e) (VRels.nr e (by simpa [noref] using h) r)
  | _, _, h, .dic f hl r => .dic (f.kp e) hl (VRels.nr e (norefK_zip (hl.trans r.length) (by simpa [noref] using h)) r)
  | _, _, h, .ins hc q f hl r => .ins hc (e _ _ q f).1 (e _ _ q f).2 hl (VRels.nr e (norefF_zip (hl.trans r.length) (by simpa [noref] using h)) r)
  | _, _, h, .ex0 hc q f => .ex0 hc (e _ _ q f).1 (e _ _ q f).2
  | _, _, h, .exd hc q f q2 f2 ne hl r => .exd hc (e _ _ q f).1 (e _ _ q f).2 (e _ _ q2 f2).1 (e _ _ q2 f2).2 ne hl (VRels.nr e (norefF_zip (hl.trans r.length) (by simpa [noref] using h)) r)
theorem VRels.nr (e : Kp mu H mu' H') : ∀ {vs : List V} {ds : List D}, norefs ds = true → VRels K cl n mu H vs ds → VRels K cl n' mu' H' vs ds
  | _, _, _, .nil => .nil
  | _, _, h, .cons q r => by
    simp only [norefs, Bool.and_eq_true] at h
    exact .cons (VRel.nr e h.1 q) (VRels.nr e h.2 r)
end
theorem XF.nr {d : Option Addr} {fs : List (Str × D)} (e : Kp mu H mu' H') (h1 : ∀ a o, H a = some o → H' a = some o) (h : norefF fs = true) (x : XF K cl n mu H d fs) : XF K cl n' mu' H' d fs := by
  rcases x with x | ⟨a, ks, vs, ds, h2, h3, h4, ne, rfl, hl, r⟩
  · exact .inl x
  · exact .inr ⟨a, ks, vs, ds, h2, h1 _ _ h3, (e _ _ h3 h4).2, ne, rfl, hl, r.nr e (norefF_zip (hl.trans r.length) h)⟩
end

/-- what a def is worth, as its promise -/
def spOf (K : PySem.W.Frag) (cl : Cl) (np : Nat) (g : List D → Store → Out D) : Sp := fun vs H Q E => vs.length = np ∧ ∃ mu ds S, SR K cl mu H S ∧ VRels K cl S.length mu H vs ds ∧ Af K cl (VRel K cl) S.length mu H [] (fun c d _ H' => E c d H') (g ds S) Q
theorem Af.sig {K : PySem.W.Frag} {cl : Cl} {n : Nat} {mu : Mu} {H : Hp} {σ : St} {W : WX} {o : Out D} {Q : VK} (h : Af K cl (VRel K cl) n mu H σ W o Q) : Af K cl (VRel K cl) n mu H [] (fun c d _ H' => WE W σ c d H') o Q := by
  cases o with
  | ok d S' => exact h
  | exc C fs S' => exact h
  | stuck => exact h
/-- a def's body run -/
def runD (n : Nat) (z : DS) (ds : List D) (S : Store) : Out D := match z (ds.map some ++ List.replicate (n - ds.length) none) S with
  | .nx _ S' => .ok .non S'
  | .rt d S' => .ok d S'
  | .exc C fs _ S' => .exc C fs S'
  | _ => .stuck
theorem erel_start {K : PySem.W.Frag} {cl : Cl} {n : Nat} {mu : Mu} {H : Hp} {vs : List V} {ds : List D} {N : List Str} (r : VRels K cl n mu H vs ds) : ERel K cl n mu H (L2.start N vs) (ds.map some ++ List.replicate (N.length - ds.length) none) := by
  unfold L2.start
  refine ⟨by simp only [List.length_append, List.length_map, List.length_replicate, r.length], fun i d e => ?_⟩
  by_cases hi : i < ds.length
  · rw [List.getElem?_append_left (by simpa using hi), List.getElem?_map] at e
    cases hd : ds[i]? with
    | none => rw [hd] at e; cases e
    | some d' =>
      rw [hd] at e
      cases e
      obtain ⟨v, hv, rv⟩ := r.get hd
      refine ⟨v, ?_, rv⟩
      rw [List.getElem?_append_left (by rw [List.length_map, r.length]; exact hi), List.getElem?_map, hv]
      rfl
  · rw [List.getElem?_append_right (by simpa using hi), List.getElem?_replicate] at e
    split at e <;> cases e
/-- a def keeps its promise wherever nothing is being shown -/
structure FnG (P : Program) (w : World) (K : PySem.W.Frag) (mg : Str → Option Value) (base : Heap) (k : Nat) (f : Addr) (fd : FuncData) (ps : List Str) (sp : Sp) : Prop where
  many : ∀ vs H Q E, sp vs H Q E → vs.length = ps.length
  go : ∀ (A : Around) (outer : List PySem.Env) (s : Shared) (H : Hp) (args : Args) (us : List Value) (vs : List V) (Q : VK) (E : XK), Room k A → A.guards = some [] →
    Env0 P w K mg base A outer s H → BindsTo s fd args (ps.zip us) → Vals vs us → sp vs H Q E → codeAny (model P w) A (.call (.ref f) args) (CR (L2.CX P w) outer P w H s Q E) s
theorem FnG.imp {P : Program} {w : World} {K : PySem.W.Frag} {mg : Str → Option Value} {base : Heap} {k : Nat} {f : Addr} {fd : FuncData} {ps : List Str} {sp sp' : Sp}
    (F : FnG P w K mg base k f fd ps sp) (i : ∀ vs H Q E, sp' vs H Q E → sp vs H Q E) : FnG P w K mg base k f fd ps sp' where
  many := fun vs H Q E z => F.many vs H Q E (i vs H Q E z)
  go := fun A o s H a us vs Q E r g e b v z => F.go A o s H a us vs Q E r g e b v (i vs H Q E z)
section
variable {P : Program} {w : World} {K : PySem.W.Frag} {mg : Str → Option Value} {base : Heap} {cl : Cl}
theorem def_ok {x qual : Str} {st : Stmt} {f : Addr} {fd : FuncData} {N ps : List Str} {k np : Nat} (F : Fun K x qual st f fd) (S : FnScope N ps (defScope st)) (hp : ps.length = np) (z : DS)
    (h : ∀ (cdv : Value) (A : Around) (outer : List PySem.Env) (s : Shared) (H : Hp) (E : XK) (W : WX), Good (cxOf (L2.CX P w) P w K mg base N qual (defScope st) f cdv A outer s H E) W k →
      FSs (cxOf (L2.CX P w) P w K mg base N qual (defScope st) f cdv A outer s H E) cl W (defBody st) z) : FnG P w K mg base (k + 1) f fd ps (spOf K cl np (runD N.length z)) := by
  obtain ⟨oc, od, kV, doc, pm, an, cdv, ct, osl, rfl, lk, hcd⟩ := F.ex
  refine ⟨fun vs H Q E hs => hs.1.trans hp.symm, fun A outer s H args us vs Q E room gd env bnd vals hs => ?_⟩
  have nvs : vs.length = ps.length := hs.1.trans hp.symm
  have inK : K.In s.heap := env.mod.kin.keeps fun b o e => (env.bs b o e).1
  have kinds : ∀ y ∈ ps.zip us, (defScope st).names.lookup y.1 = some .local ∨ ((defScope st).names.lookup y.1 = some .cell ∧ ((cellsFrom (s.heap.objs.size + 1) (defScope st).names []).lookup y.1).isSome = true) := by
    rintro ⟨n, v⟩ hy
    exact (S.par n (List.of_mem_zip hy).1).imp id fun q => ⟨q, PySem.W.cellsFrom_some _ _ _ (.inl q)⟩
  refine codeAny_call_function room.depth (inK _ _ lk) rfl S.co S.gen rfl (PySem.W.codeRec_of inK hcd) (bnd _ _ _ _ ?_)
  refine wpAny_newFunctionEnv_cells S.kind kinds fun env1 he s1 x => ?_
  subst he
  refine ⟨(env.mod.nolimit.keeps fun b o e => (env.bs b o e).1).keeps x.toInCall.keep, codeAny_func ?_⟩
  obtain ⟨_, mu, ds, St', sr, r, q⟩ := hs
  have G : Good (cxOf (L2.CX P w) P w K mg base N qual (defScope st) f cdv A outer s H E) (fun cls d _ H' => E cls d H') k := ⟨rfl, takes_of rfl rfl rfl rfl, room.deeper _, S.nd, gd, passes_of rfl⟩
  have I : Inv (cxOf (L2.CX P w) P w K mg base N qual (defScope st) f cdv A outer s H E) [] (L2.start N vs) H s1 := inv_start S room.hd env nvs vals x
  have rd : tS K cl (fun cls d _ H' => E cls d H') z { nx := fun _ H' => Q .non H', rt := Q } (L2.start N vs) H := by
    refine ⟨mu, ds.map some ++ List.replicate (N.length - ds.length) none, St', sr, erel_start r, ?_⟩
    unfold runD at q
    cases hz : z (ds.map some ++ List.replicate (N.length - ds.length) none) St' with
    | nx δ' S' => rw [hz] at q; exact fun σ' H' mu' e s _ => q _ H' mu' e s .non
    | rt d S' => rw [hz] at q; exact q
    | exc C fs δ' S' => rw [hz] at q; exact fun CA dx σ' H' mu' hc e s _ x => q CA dx H' mu' hc e s x
    | bk _ _ => rw [hz] at q; exact q.elim
    | ct _ _ => rw [hz] at q; exact q.elim
    | stuck => rw [hz] at q; exact q.elim
  refine wpAny_mono ((h cdv A outer s H E _ G).pss.run [] s1 (L2.start N vs) H _ I rd) (fun fl s' hq => ?_) fun _ _ y => y
  cases fl with
  | ret u => obtain ⟨v, σ', H', J, rv, y⟩ := hq; exact ⟨v, H', J.os, J.bare, J.base, J.hok, rv, y⟩
  | next => obtain ⟨σ', H', J, y⟩ := hq; exact ⟨V.non, H', J.os, J.bare, J.base, J.hok, rfl, y⟩
  | brk => obtain ⟨_, _, _, y⟩ := hq; exact y.elim
  | cont => obtain ⟨_, _, _, y⟩ := hq; exact y.elim
end

/-! calls -/
abbrev GD := List D → Store → Out D
def callD (np : Nat) (g : GD) (dv : List D) (ds : List D) (S : Store) : Out D := if (ds ++ dv).length = np then g (ds ++ dv) S else .stuck
/-- a call that leaves the store as it is: it is given nothing of it -/
def pureD (g : GD) : GD := fun ds S => if norefs ds = true then match g ds [] with
  | .ok d _ => if noref d = true then .ok d S else .stuck
  | .exc C fs _ => if norefF fs = true then .exc C fs S else .stuck
  | .stuck => .stuck
  else .stuck
theorem pure_ok {K : PySem.W.Frag} {cl : Cl} {mu : Mu} {H : Hp} {S : Store} {σ : St} {W : WX} {vs : List V} {ds : List D} {g : GD} {Q : VK} {np : Nat} {E : XK} (s : SR K cl mu H S) (r : VRels K cl S.length mu H vs ds) (hl : vs.length = np)
    (q : Af K cl (VRel K cl) S.length mu H [] (fun c d _ H' => E c d H') (pureD g ds S) Q) : spOf K cl np g vs H Q E := by
  unfold pureD at q
  split at q
  case isFalse => exact q.elim
  rename_i hn
  have k0 : Kp mu H ⟨fun _ => none, fun a => mu.z a ∨ ∃ l, mu l = some a⟩ H := fun a o h f => ⟨h, (fun l z => nomatch z), fun z => Or.elim z f.2 fun ⟨l, e⟩ => f.1 l e⟩
  refine ⟨hl, ⟨fun _ => none, fun a => mu.z a ∨ ∃ l, mu l = some a⟩, ds, [], ⟨(fun _ _ _ e => nomatch e), (fun l o e => by simp at e), fun _ _ => rfl, fun a h => ?_, (fun _ _ e => nomatch e)⟩, r.nr k0 hn, ?_⟩
  · rcases h with h | ⟨l, e⟩
    · exact s.zt a h
    · obtain ⟨o, _, z⟩ := s.at_ e
      exact z.there
  have back : ∀ {n' : Nat} {mu' : Mu} {H' : Hp}, Ext 0 ⟨fun _ => none, fun a => mu.z a ∨ ∃ l, mu l = some a⟩ H n' mu' H' → (∀ a o, H a = some o → H' a = some o) ∧ Ext S.length mu H S.length mu H' ∧ SR K cl mu H' S ∧ ∀ a, Ot mu' a → Ot mu a := fun {n' mu' H'} e => by
    have hk : ∀ a o, H a = some o → H' a = some o := fun a o h => e.keep a o h (fun l z => nomatch z)
    have ex : Ext S.length mu H S.length mu H' := ⟨Nat.le_refl _, fun a o h _ => hk a o h, fun _ _ _ h => h, fun l a hl z => (by rw [s.top l hl] at z; cases z), e.trk, rfl⟩
    refine ⟨hk, ex, s.re ex.pr rfl (fun l a h => ?_) (fun a h z => s.zt a h (e.trk a z)) s.zd, fun a h => ?_⟩
    · obtain ⟨o, _, z⟩ := s.at_ h
      cases z with
      | lst z _ => rw [z]; exact hk _ _ z
      | dic z _ _ => rw [z]; exact hk _ _ z
      | ins _ z _ _ => rw [z]; exact hk _ _ z
    · have := h.2
      rw [e.zz] at this
      exact ⟨fun l z => this (.inr ⟨l, z⟩), fun z => this (.inl z)⟩
  cases hz : g ds [] with
  | ok d S' =>
    rw [hz] at q
    dsimp only at q
    split at q
    case isFalse => exact q.elim
    rename_i hd
    intro v H' mu' e s' rv
    obtain ⟨b1, b2, b3, b4⟩ := back e
    exact q v H' mu b2 b3 (rv.nr (fun a o h f => ⟨h, b4 a f⟩) hd)
  | exc C fs S' =>
    rw [hz] at q
    dsimp only at q
    split at q
    case isFalse => exact q.elim
    rename_i hd
    intro CA dx H' mu' hc e s' x
    obtain ⟨b1, b2, b3, b4⟩ := back e
    exact q CA dx H' mu hc b2 b3 (x.nr (fun a o h f => ⟨h, b4 a f⟩) (fun _ _ h => h) hd)
  | stuck => rw [hz] at q; exact q.elim

/-- a promise for a def as it is called -/
structure Df (X : Cx) (cl : Cl) (j : Nat) (np : Nat) (f : Addr) (fd : FuncData) (ps : List Str) (g : GD) : Prop where
  ok : FnG X.prog X.w X.K X.mg X.base j f fd ps (spOf X.K cl np g)
theorem Df.pure {X : Cx} {cl : Cl} {j np : Nat} {f : Addr} {fd : FuncData} {ps : List Str} {g : GD} (F : Df X cl j np f fd ps g) : Df X cl j np f fd ps (pureD g) :=
  ⟨F.ok.imp fun vs H Q E ⟨hl, mu, ds, S, s, r, q⟩ => pure_ok (σ := []) (W := W0) s r hl q⟩
section
variable {X : Cx} {cl : Cl} {W : WX} {pos p apos : Pos} {k j np : Nat} {x m C : Str} {f CA : Addr} {fd : FuncData} {ps : List Str} {g : GD} {e o : Expr} {es : List Expr} {fa : DA} {fo : DE}
theorem sp_of {n : Nat} {mu : Mu} {H : Hp} {S : Store} {σ : St} {vs : List V} {ds : List D} {Q : VK} (s : SR X.K cl mu H S) (r : VRels X.K cl S.length mu H vs ds) (hl : ds.length = np) (q : Af X.K cl (VRel X.K cl) S.length mu H σ W (g ds S) Q) : spOf X.K cl np g vs H Q (WE W σ) :=
  ⟨r.length.trans hl, mu, ds, S, s, r, Af.sig q⟩
def eCall (np : Nat) (g : GD) (dv : List D) (fa : DA) : DE := fun δ S => (fa δ S).bind fun ds S1 => callD np g dv ds S1
/-- the callee runs, from a body -/
theorem run_g {pins : List (Addr × Obj)} {σ : St} {H : Hp} {s : Shared} {Q : VK} {us dsv : List Value} {vs dvs : List V} {sp : Sp} (G : Good X W k) (F : FnG X.prog X.w X.K X.mg X.base j f fd ps sp) (hj : j ≤ k) (hb : Binds X.K fd ps dsv) (hd : Vals dvs dsv)
    (I : Inv X pins σ H s) (r : Vals vs us) (h : sp (vs ++ dvs) H Q (WE W σ)) : wpAny (model X.prog X.w) X.A (PySem.call (.ref f) us) (EP X pins σ Q) X.xe s := by
  have r2 := r.append hd
  have nn : (us ++ dsv).length = ps.length := r2.length.symm.trans (F.many _ _ _ _ h)
  refine wpAny_call (codeAny_mono (F.go X.A X.stack s H ⟨us, []⟩ (us ++ dsv) (vs ++ dvs) Q (WE W σ) (G.room.mono hj) G.grd I.env0 (hb s us I.kIn nn) r2 h) fun res s' y => ?_)
  cases res with
  | error x => exact passAt G.tk σ pins H s x s' I y
  | ok fl => cases fl with
    | ret u => exact I.after y
    | next => exact y.elim
    | brk => exact y.elim
    | cont => exact y.elim
def tCl (sp : Sp) (dvs : List V) (W : WX) (t : TA) : TE := fun σ H Q => t σ H fun vs H1 => sp (vs ++ dvs) H1 Q (WE W σ)
theorem pe_cl {dvs : List V} {dsv : List Value} {sp : Sp} {t : TA} (G : Good X W k) (F : FnG X.prog X.w X.K X.mg X.base j f fd ps sp) (hj : j ≤ k) (hm : X.mg x = some (.ref f)) (hk : PySem.W.keepIn X.K (.ref f) = true) (hb : Binds X.K fd ps dsv) (hd : Vals dvs dsv)
    (ha : PA X (e :: es) t) (hg : Gl X x) (hdb : (x == ("__debug__" : Str)) = false) (he : starEach (e :: es) X.env = (false, eval e X.env) :: starEach es X.env) (hpl : (backTo pos (starEach es X.env)).any (·.1) = false) : PE X (.Call (.Name x p) (e :: es) [] pos) (tCl sp dvs W t) where
  run := fun pins s σ H Q I h => wpAny_Call_Name_kw (ld_glob I hg hm (PySem.W.callWith_K (h₀ := X.base) I.ok.mod.kin hk
    (thn (ha.run pos pins s σ H _ I h) fun us s1 ⟨vs, H1, I1, r, y⟩ => ⟨I1.kIn, run_g G F hj hb hd I1 r y⟩) he hpl) hdb)
theorem pe_cl0 {dvs : List V} {dsv : List Value} {sp : Sp} (G : Good X W k) (F : FnG X.prog X.w X.K X.mg X.base j f fd ps sp) (hj : j ≤ k) (hm : X.mg x = some (.ref f)) (hk : PySem.W.keepIn X.K (.ref f) = true) (hb : Binds X.K fd ps dsv) (hd : Vals dvs dsv)
    (hg : Gl X x) (hdb : (x == ("__debug__" : Str)) = false) : PE X (.Call (.Name x p) [] [] pos) (tCl sp dvs W tNil) where
  run := fun pins s σ H Q I h => wpAny_Call_Name_kw (ld_glob I hg hm (PySem.W.callWith_K0 I.kIn hk (run_g (us := []) G F hj hb hd I .nil h)) hdb)
theorem fe_call {dv : List D} {dvs : List V} {dsv : List Value} (G : Good X W k) (F : Df X cl j np f fd ps g) (hj : j ≤ k) (hm : X.mg x = some (.ref f)) (hk : PySem.W.keepIn X.K (.ref f) = true) (hb : Binds X.K fd ps dsv) (hd : Vals dvs dsv) (hdv : ∀ n mu H, VRels X.K cl n mu H dvs dv)
    (ha : FA X cl W (e :: es) fa) (hg : Gl X x := by rfl) (hdb : (x == ("__debug__" : Str)) = false := by decide) (he : starEach (e :: es) X.env = (false, eval e X.env) :: starEach es X.env := by rfl) (hpl : (backTo pos (starEach es X.env)).any (·.1) = false := by rfl) :
    FE X cl W (.Call (.Name x p) (e :: es) [] pos) (eCall np g dv fa) :=
  fe_of (pe_cl G F.ok hj hm hk hb hd ha.pa hg hdb he hpl) fun mu δ S σ H Q s r q => by
    refine ⟨mu, δ, S, s, r, (Af.bind q).mono fun vs H1 ⟨mu1, ds, S1, s1, e1, r1, q1⟩ => ?_⟩
    unfold callD at q1
    split at q1
    · rename_i hl
      exact sp_of (n := 0) s1 (r1.append (hdv _ _ _)) hl q1
    · exact q1.elim

/-! methods of own classes -/
def insOf (S : Store) : D → Option (Str × List (Str × D))
  | .ins C fs => some (C, fs)
  | .ref l => match S[l]? with | some (some (.ins C fs)) => some (C, fs) | _ => none
  | _ => none
theorem lookup_zip {α β : Type} {x : Str} : ∀ {ks : List Str} {vs : List α} {ds : List β}, ks.length = vs.length → vs.length = ds.length → ((ks.zip ds).lookup x = none ↔ (ks.zip vs).lookup x = none)
  | [], _, _, _, _ => by simp
  | k :: ks, v :: vs, d :: ds, h1, h2 => by
    rw [List.zip_cons_cons, List.zip_cons_cons, List.lookup_cons, List.lookup_cons]
    cases x == k with
    | true => simp
    | false => exact lookup_zip (by simpa using h1) (by simpa using h2)
theorem ins_at {K : PySem.W.Frag} {mu : Mu} {H : Hp} {S : Store} {v : V} {d : D} {fs : List (Str × D)} (s : SR K cl mu H S) (r : VRel K cl S.length mu H v d) (e : insOf S d = some (C, fs)) :
    ∃ (a CA dx : Addr) (ks : List Str) (vs : List V) (ds : List D), v = .ref a ∧ cl C = some CA ∧ H a = some (.ins CA dx (ks.zip vs)) ∧ ks.length = vs.length ∧ VRels K cl S.length mu H vs ds ∧ fs = ks.zip ds := by
  cases d with
  | ins C' fs' =>
    cases e
    cases r with
    | ins hc z _ hl q => exact ⟨_, _, _, _, _, _, rfl, hc, z, hl, q, rfl⟩
  | ref l =>
    unfold insOf at e
    simp only at e
    split at e
    · rename_i ys hy
      cases e
      obtain ⟨a, rfl, _, q⟩ := ref_at s r hy
      cases q with
      | ins hc z hl q => exact ⟨a, _, _, _, _, _, rfl, hc, z, hl, q, rfl⟩
    · cases e
  | _ => cases e
end
end Mi
namespace Mi
open PySem L2

def BOk (X : Cx) (cl : Cl) (W : WX) (r : List V → Hp → VK → Prop) (g : GD) : Prop := ∀ mu S σ H vs ds Q, SR X.K cl mu H S → VRels X.K cl S.length mu H vs ds → Af X.K cl (VRel X.K cl) S.length mu H σ W (g ds S) Q → r vs H Q
def eB (g : GD) (fa : DA) : DE := fun δ S => (fa δ S).bind g
section
variable {X : Cx} {cl : Cl} {W : WX} {a b c e o : Expr} {es : List Expr} {fa : DA} {fe fo : DE} {pos p apos cpos : Pos} {k : Nat} {x : Str} {id T : String} {r : List V → Hp → VK → Prop} {g : GD}
theorem fe_blt (hc : CallR X (.builtin id) r) (hk : BOk X cl W r g) (hm : X.mg x = none) (ha : FA X cl W (e :: es) fa) (hv : bootBuiltins x = some (.builtin id)) (hg : Gl X x := by rfl) (hn : x ≠ "__name__" := by decide) (hdb : (x == ("__debug__" : Str)) = false := by decide)
    (he : starEach (e :: es) X.env = (false, eval e X.env) :: starEach es X.env := by rfl) (hpl : (backTo pos (starEach es X.env)).any (·.1) = false := by rfl) : FE X cl W (.Call (.Name x p) (e :: es) [] pos) (eB g fa) :=
  fe_of (pe_callB hc hg hm hv ha.pa hn hdb he hpl) fun mu δ S σ H Q s r q => ⟨mu, δ, S, s, r, (Af.bind q).mono fun v H1 ⟨mu1, d, S1, s1, e1, r1, q1⟩ => hk mu1 S1 σ H1 v d Q s1 r1 q1⟩
theorem fe_bty (hc : CallR X (.type T) r) (hk : BOk X cl W r g) (hm : X.mg x = none) (ha : FA X cl W (e :: es) fa) (hv : bootBuiltins x = some (.type T)) (hg : Gl X x := by rfl) (hn : x ≠ "__name__" := by decide) (hdb : (x == ("__debug__" : Str)) = false := by decide)
    (he : starEach (e :: es) X.env = (false, eval e X.env) :: starEach es X.env := by rfl) (hpl : (backTo pos (starEach es X.env)).any (·.1) = false := by rfl) : FE X cl W (.Call (.Name x p) (e :: es) [] pos) (eB g fa) :=
  fe_of (pe_callTy hc hg hm hv ha.pa hn hdb he hpl) fun mu δ S σ H Q s r q => ⟨mu, δ, S, s, r, (Af.bind q).mono fun v H1 ⟨mu1, d, S1, s1, e1, r1, q1⟩ => hk mu1 S1 σ H1 v d Q s1 r1 q1⟩
theorem CallR.or {f : Value} {r r' : List V → Hp → VK → Prop} (h : CallR X f r) (h' : CallR X f r') : CallR X f (fun xs H Q => r xs H Q ∨ r' xs H Q) := by
  intro pins s σ H xs us Q I rr q
  rcases q with q | q
  · exact h pins s σ H xs us Q I rr q
  · exact h' pins s σ H xs us Q I rr q

/-! len -/
def bLen : GD := fun ds S => match ds with
  | [.str x] => if x.length ≤ sizeLine then .ok (.int x.length) S else .stuck
  | [x] => match anyOf S x with
    | some xs => .ok (.int xs.length) S
    | none => match dicOf S x with | some kvs => .ok (.int kvs.length) S | none => .stuck
  | _ => .stuck
def rLenAll (X : Cx) : List V → Hp → VK → Prop := fun xs H Q => (∃ x n, xs = [x] ∧ LenV X.K x H n ∧ Q (.int n) H) ∨ ∃ a kvs, xs = [V.ref a] ∧ Rd H a (.dK kvs) ∧ Q (.int kvs.length) H
theorem call_lenAll : CallR X (.builtin "len") (rLenAll X) := by
  intro pins s σ H xs us Q I r h
  rcases h with h | ⟨a, kvs, rfl, hd, q⟩
  · exact call_len pins s σ H xs us Q I r h
  · obtain ⟨u, rfl, ru⟩ := vals1 r
    cases ru
    exact d_len I hd fun t s' I' => ⟨.int kvs.length, H, I', ⟨t, rfl⟩, q⟩
theorem bok_len : BOk X cl W (rLenAll X) bLen := fun mu S σ H vs ds Q s r q => by
  unfold bLen at q
  split at q
  · split at q
    · rename_i z hz
      cases r with
      | cons h1 r2 => cases r2; cases h1; exact .inl ⟨_, _, rfl, ⟨hz, rfl⟩, Af.now q s (.int _)⟩
    · exact q.elim
  · split at q
    · rename_i xs hx
      cases r with
      | cons h1 r2 =>
        cases r2
        obtain ⟨a, us, rfl, hu, ru⟩ := any_at s h1 hx
        refine .inl ⟨_, _, rfl, ?_, Af.now q s (.int _)⟩
        rcases hu with hu | hu
        · exact .inl ⟨us, hu, ru.length.symm⟩
        · exact .inr ⟨us, hu, ru.length.symm⟩
    · split at q
      · rename_i kvs hd
        cases r with
        | cons h1 r2 =>
          cases r2
          obtain ⟨a, ks, us, ds, rfl, hu, hl, ru, rfl⟩ := dic_at s h1 hd
          have e1 : (ks.zip us).length = (ks.zip ds).length := by rw [List.length_zip, List.length_zip, ru.length]
          refine .inr ⟨a, _, rfl, hu, ?_⟩
          rw [e1]
          exact Af.now q s (.int _)
      · exact q.elim
  · exact q.elim
theorem fe_len (hm : X.mg "len" = none) (ha : FA X cl W [e] fa) (hg : Gl X "len" := by rfl) (he : starEach [e] X.env = (false, eval e X.env) :: starEach [] X.env := by rfl) (hpl : (backTo pos (starEach [] X.env)).any (·.1) = false := by rfl) : FE X cl W (.Call (.Name "len" p) [e] [] pos) (eB bLen fa) :=
  fe_blt call_lenAll bok_len hm ha PySem.boot_len hg (by decide) (by decide) he hpl

/-! isinstance of a built-in type -/
def tyName (S : Store) : D → Option String
  | .non => some "NoneType"
  | .bl _ => some "bool"
  | .int _ => some "int"
  | .str _ => some "str"
  | .tup _ => some "tuple"
  | .lst _ => some "list"
  | .scr _ => none
  | .dic _ => some "dict"
  | .ref l => match S[l]? with
    | some (some (.lst _)) => some "list"
    | some (some (.dic _)) => some "dict"
    | _ => none
  | _ => none
def isT (a n : String) : Bool := a == n || (a == "bool" && n == "int")
theorem kit_isT : ∀ a ∈ ["NoneType", "bool", "int", "str", "tuple", "list", "dict"], ∀ n ∈ ["int", "bool", "str", "list", "tuple", "dict"], kitB a n = some (isT a n) := by decide +kernel
theorem ty_at {K : PySem.W.Frag} {mu : Mu} {H : Hp} {S : Store} {v : V} {x : D} {t : String} (s : SR K cl mu H S) (r : VRel K cl S.length mu H v x) (e : tyName S x = some t) : TyX K H v (.type t) ∧ t ∈ ["NoneType", "bool", "int", "str", "tuple", "list", "dict"] := by
  cases x with
  | non => cases e; cases r; exact ⟨.base .non, by decide⟩
  | bl b => cases e; cases r; exact ⟨.base (.bl _), by decide⟩
  | int b => cases e; cases r; exact ⟨.base (.int _), by decide⟩
  | str b => cases e; cases r; exact ⟨.base (.str _), by decide⟩
  | tup xs =>
    cases e
    cases r with
    | tup f _ =>
      rcases f with f | ⟨o, its, n, h1, h2, _⟩
      · rcases f.1 with f | ⟨o, f⟩
        · exact ⟨.base (.tup f), by decide⟩
        · exact ⟨.fTuple f, by decide⟩
      · exact ⟨.kTuple h1 h2, by decide⟩
  | lst xs => cases e; cases r with | lst f _ => exact ⟨.base (.lst f.1), by decide⟩
  | dic kvs =>
    cases e
    cases r with
    | dic f _ _ =>
      obtain ⟨o, f⟩ := f.1
      exact ⟨.fDict f, by decide⟩
  | ref l =>
    unfold tyName at e
    simp only at e
    split at e
    · rename_i hx
      cases e
      obtain ⟨a, rfl, _, o⟩ := ref_at s r hx
      cases o with | lst h _ => exact ⟨.base (.lst h), by decide⟩
    · rename_i hx
      cases e
      obtain ⟨a, rfl, _, o⟩ := ref_at s r hx
      cases o with | dic h _ _ => exact ⟨.base (.dK h), by decide⟩
    · cases e
  | scr _ => cases e
  | ty _ => cases e
  | cls _ => cases e
  | ins _ _ => cases e
  | exc _ _ => cases e
def eIsi (n : String) (f : DE) : DE := fun δ S => (f δ S).bind fun x S1 => match tyName S1 x with | some t => .ok (.bl (isT t n)) S1 | none => .stuck
theorem fe_isi {n : String} {y : Str} {p2 : Pos} (hm : X.mg "isinstance" = none) (hm2 : X.mg y = none) (hv : bootBuiltins y = some (.type n)) (h : FE X cl W e fe) (hn : n ∈ ["int", "bool", "str", "list", "tuple", "dict"] := by decide) (hg : Gl X "isinstance" := by rfl) (hg2 : Gl X y := by rfl)
    (hy : y ≠ "__name__" := by decide) (hyd : (y == ("__debug__" : Str)) = false := by decide)
    (he : starEach [e, .Name y p2] X.env = (false, eval e X.env) :: starEach [.Name y p2] X.env := by rfl) (he2 : starEach [.Name y p2] X.env = (false, eval (.Name y p2) X.env) :: starEach [] X.env := by rfl) (hpl : (backTo pos (starEach [.Name y p2] X.env)).any (·.1) = false := by rfl) :
    FE X cl W (.Call (.Name "isinstance" p) [e, .Name y p2] [] pos) (eIsi n fe) :=
  fe_of (pe_callB call_isi hg hm PyProof.Rows.boot_isinstance (pa_cons h.pe (pa_cons (pe_bltn (v := .ty n) hg2 hm2 hv rfl hy hyd) pa_nil he2) he) (by decide) (by decide) he hpl) fun mu δ S σ H Q s r q => by
    refine ⟨mu, δ, S, s, r, (Af.bind q).mono fun v H1 ⟨mu1, d, S1, s1, e1, r1, q1⟩ => ?_⟩
    split at q1
    · rename_i t ht
      obtain ⟨h1, h2⟩ := ty_at s1 r1 ht
      exact ⟨v, .ty n, .type t, .type n, isT t n, rfl, .ty n, h1, kit_ty (kit_isT t h2 n hn), Af.now q1 s1 (.bl _)⟩
    · exact q1.elim

/-! lists of truths, of whole numbers, of texts -/
def blsOf : List D → Option (List Bool)
  | [] => some []
  | .bl b :: xs => (blsOf xs).map (b :: ·)
  | _ => none
def intsOf : List D → Option (List Int)
  | [] => some []
  | .int b :: xs => (intsOf xs).map (b :: ·)
  | _ => none
def strsOf : List D → Option (List Str)
  | [] => some []
  | .str b :: xs => (strsOf xs).map (b :: ·)
  | _ => none
theorem bls_at {K : PySem.W.Frag} {n : Nat} {mu : Mu} {H : Hp} : ∀ {vs : List V} {ds : List D} {bs : List Bool}, VRels K cl n mu H vs ds → blsOf ds = some bs → vs = bs.map V.bl
  | _, _, _, .nil, e => by cases e; rfl
  | _, _, _, .cons h r, e => by
    cases h <;> first | (cases e; done) | skip
    rename_i ds b
    unfold blsOf at e
    cases z : blsOf ds with
    | none => rw [z] at e; cases e
    | some bs => rw [z] at e; cases e; rw [bls_at r z]; rfl
theorem ints_at {K : PySem.W.Frag} {n : Nat} {mu : Mu} {H : Hp} : ∀ {vs : List V} {ds : List D} {bs : List Int}, VRels K cl n mu H vs ds → intsOf ds = some bs → vs = bs.map V.int
  | _, _, _, .nil, e => by cases e; rfl
  | _, _, _, .cons h r, e => by
    cases h <;> first | (cases e; done) | skip
    rename_i ds b
    unfold intsOf at e
    cases z : intsOf ds with
    | none => rw [z] at e; cases e
    | some bs => rw [z] at e; cases e; rw [ints_at r z]; rfl
theorem strs_at {K : PySem.W.Frag} {n : Nat} {mu : Mu} {H : Hp} : ∀ {vs : List V} {ds : List D} {bs : List Str}, VRels K cl n mu H vs ds → strsOf ds = some bs → vs = bs.map V.str
  | _, _, _, .nil, e => by cases e; rfl
  | _, _, _, .cons h r, e => by
    cases h <;> first | (cases e; done) | skip
    rename_i ds b
    unfold strsOf at e
    cases z : strsOf ds with
    | none => rw [z] at e; cases e
    | some bs => rw [z] at e; cases e; rw [strs_at r z]; rfl
def seq1 {α : Type} (f : List D → Option α) (k : α → Store → Out D) : GD := fun ds S => match ds with
  | [x] => match seqOf S x with
    | some xs => match f xs with | some bs => k bs S | none => .stuck
    | none => .stuck
  | _ => .stuck
theorem seq1_at {K : PySem.W.Frag} {mu : Mu} {H : Hp} {S : Store} {σ : St} {α : Type} {f : List D → Option α} {kk : α → Store → Out D} {vs : List V} {ds : List D} {Q : VK} (s : SR K cl mu H S) (r : VRels K cl S.length mu H vs ds) (q : Af K cl (VRel K cl) S.length mu H σ W (seq1 f kk ds S) Q) :
    ∃ a us xs bs, vs = [.ref a] ∧ SqL K H a us ∧ VRels K cl S.length mu H us xs ∧ f xs = some bs ∧ Af K cl (VRel K cl) S.length mu H σ W (kk bs S) Q := by
  unfold seq1 at q
  split at q
  · split at q
    · split at q
      · rename_i x _ xs hx _ bs hb
        cases r with
        | cons h1 r2 =>
          cases r2
          obtain ⟨a, us, rfl, hu, ru⟩ := seq_at s h1 hx
          exact ⟨a, us, xs, bs, rfl, hu, ru, hb, q⟩
      · exact q.elim
    · exact q.elim
  · exact q.elim
def bAll : GD := seq1 blsOf fun bs S => .ok (.bl (bs.all fun b => b)) S
def bAny : GD := seq1 blsOf fun bs S => .ok (.bl (bs.any fun b => b)) S
def bSum : GD := seq1 intsOf fun bs S => .ok (.int bs.sum) S
theorem bok_all : BOk X cl W (rAll X.K) bAll := fun mu S σ H vs ds Q s r q => by
  obtain ⟨a, us, xs, bs, rfl, hu, ru, hb, q⟩ := seq1_at s r q
  have e := bls_at ru hb
  subst e
  exact ⟨a, bs, rfl, hu, Af.now q s (.bl _)⟩
theorem bok_any : BOk X cl W (rAny X.K) bAny := fun mu S σ H vs ds Q s r q => by
  obtain ⟨a, us, xs, bs, rfl, hu, ru, hb, q⟩ := seq1_at s r q
  have e := bls_at ru hb
  subst e
  exact ⟨a, bs, rfl, hu, Af.now q s (.bl _)⟩
theorem bok_sum : BOk X cl W (rSum X.K) bSum := fun mu S σ H vs ds Q s r q => by
  obtain ⟨a, us, xs, bs, rfl, hu, ru, hb, q⟩ := seq1_at s r q
  have e := ints_at ru hb
  subst e
  exact ⟨a, bs, rfl, hu, Af.now q s (.int _)⟩
def mxI (m : Int) (l : List Int) : Int := l.foldl (fun a b => if b > a then b else a) m
def mnI (m : Int) (l : List Int) : Int := l.foldl (fun a b => if b < a then b else a) m
theorem mxI_le : ∀ (l : List Int) (m : Int), m ≤ mxI m l ∧ (∀ y ∈ l, y ≤ mxI m l) ∧ (mxI m l = m ∨ mxI m l ∈ l)
  | [], m => ⟨Int.le_refl _, fun _ h => (nomatch h), .inl rfl⟩
  | x :: l, m => by
    show m ≤ mxI (if x > m then x else m) l ∧ (∀ y ∈ x :: l, y ≤ mxI (if x > m then x else m) l) ∧ (mxI (if x > m then x else m) l = m ∨ mxI (if x > m then x else m) l ∈ x :: l)
    obtain ⟨h1, h2, h3⟩ := mxI_le l (if x > m then x else m)
    refine ⟨?_, fun y hy => ?_, ?_⟩
    · exact Int.le_trans (by split <;> omega) h1
    · rcases List.mem_cons.mp hy with rfl | hy
      · exact Int.le_trans (by split <;> omega) h1
      · exact h2 y hy
    · rcases h3 with h3 | h3
      · rw [h3]
        split
        · exact .inr List.mem_cons_self
        · exact .inl rfl
      · exact .inr (List.mem_cons_of_mem _ h3)
theorem mnI_le : ∀ (l : List Int) (m : Int), mnI m l ≤ m ∧ (∀ y ∈ l, mnI m l ≤ y) ∧ (mnI m l = m ∨ mnI m l ∈ l)
  | [], m => ⟨Int.le_refl _, fun _ h => (nomatch h), .inl rfl⟩
  | x :: l, m => by
    show mnI (if x < m then x else m) l ≤ m ∧ (∀ y ∈ x :: l, mnI (if x < m then x else m) l ≤ y) ∧ (mnI (if x < m then x else m) l = m ∨ mnI (if x < m then x else m) l ∈ x :: l)
    obtain ⟨h1, h2, h3⟩ := mnI_le l (if x < m then x else m)
    refine ⟨?_, fun y hy => ?_, ?_⟩
    · exact Int.le_trans h1 (by split <;> omega)
    · rcases List.mem_cons.mp hy with rfl | hy
      · exact Int.le_trans h1 (by split <;> omega)
      · exact h2 y hy
    · rcases h3 with h3 | h3
      · rw [h3]
        split
        · exact .inr List.mem_cons_self
        · exact .inl rfl
      · exact .inr (List.mem_cons_of_mem _ h3)
def bMax1 : GD := seq1 intsOf fun bs S => match bs with | m :: l => .ok (.int (mxI m l)) S | [] => .stuck
def bMin1 : GD := seq1 intsOf fun bs S => match bs with | m :: l => .ok (.int (mnI m l)) S | [] => .stuck
theorem bok_max1 : BOk X cl W (rMax X.K) bMax1 := fun mu S σ H vs ds Q s r q => by
  obtain ⟨a, us, xs, bs, rfl, hu, ru, hb, q⟩ := seq1_at s r q
  have e := ints_at ru hb
  subst e
  split at q
  · rename_i m l
    refine ⟨a, _, rfl, hu, by simp, fun y hy hz => ?_⟩
    obtain ⟨h1, h2, h3⟩ := mxI_le l m
    have hm : mxI m l ∈ m :: l := h3.elim (fun h => by rw [h]; exact List.mem_cons_self) (List.mem_cons_of_mem _)
    have hy' : y ≤ mxI m l := by
      rcases List.mem_cons.mp hy with rfl | hy
      · exact h1
      · exact h2 _ hy
    have e : y = mxI m l := Int.le_antisymm hy' (hz _ hm)
    rw [e]
    exact Af.now q s (.int _)
  · exact q.elim
theorem bok_min1 : BOk X cl W (rMin X.K) bMin1 := fun mu S σ H vs ds Q s r q => by
  obtain ⟨a, us, xs, bs, rfl, hu, ru, hb, q⟩ := seq1_at s r q
  have e := ints_at ru hb
  subst e
  split at q
  · rename_i m l
    refine ⟨a, _, rfl, hu, by simp, fun y hy hz => ?_⟩
    obtain ⟨h1, h2, h3⟩ := mnI_le l m
    have hm : mnI m l ∈ m :: l := h3.elim (fun h => by rw [h]; exact List.mem_cons_self) (List.mem_cons_of_mem _)
    have hy' : mnI m l ≤ y := by
      rcases List.mem_cons.mp hy with rfl | hy
      · exact h1
      · exact h2 _ hy
    have e : y = mnI m l := Int.le_antisymm (hz _ hm) hy'
    rw [e]
    exact Af.now q s (.int _)
  · exact q.elim
def bMax2 : GD := fun ds S => match ds with | [.int i, .int j] => .ok (.int (if j > i then j else i)) S | _ => .stuck
def bMin2 : GD := fun ds S => match ds with | [.int i, .int j] => .ok (.int (if j < i then j else i)) S | _ => .stuck
theorem two_ints {K : PySem.W.Frag} {n : Nat} {mu : Mu} {H : Hp} {vs : List V} {i j : Int} (r : VRels K cl n mu H vs [.int i, .int j]) : vs = [.int i, .int j] := by
  cases r with
  | cons h r => cases r with | cons h2 r => cases r; cases h; cases h2; rfl
theorem bok_max2 : BOk X cl W (fun xs H Q => ∃ i j, xs = [.int i, .int j] ∧ Q (.int (if j > i then j else i)) H) bMax2 := fun mu S σ H vs ds Q s r q => by
  unfold bMax2 at q
  split at q
  · exact ⟨_, _, two_ints r, Af.now q s (.int _)⟩
  · exact q.elim
theorem bok_min2 : BOk X cl W (fun xs H Q => ∃ i j, xs = [.int i, .int j] ∧ Q (.int (if j < i then j else i)) H) bMin2 := fun mu S σ H vs ds Q s r q => by
  unfold bMin2 at q
  split at q
  · exact ⟨_, _, two_ints r, Af.now q s (.int _)⟩
  · exact q.elim
def bAbs : GD := fun ds S => match ds with | [.int i] => .ok (.int (if i < 0 then -i else i)) S | _ => .stuck
theorem bok_abs : BOk X cl W (fun xs H Q => ∃ i, xs = [.int i] ∧ Q (.int (if i < 0 then -i else i)) H) bAbs := fun mu S σ H vs ds Q s r q => by
  unfold bAbs at q
  split at q
  · cases r with | cons h r => cases r; cases h; exact ⟨_, rfl, Af.now q s (.int _)⟩
  · exact q.elim

/-! int, str, repr -/
def bInt : GD := fun ds S => match ds with
  | [.int i] => .ok (.int i) S
  | [.bl b] => .ok (.int (if b then 1 else 0)) S
  | [.str x] => match PySem.intText? x with | some n => if x.length ≤ 640 then .ok (.int n) S else .stuck | none => .stuck
  | _ => .stuck
def rIntAll : List V → Hp → VK → Prop := fun xs H Q => ((∃ i, xs = [.int i] ∧ Q (.int i) H) ∨ ∃ k, xs = [.bl k] ∧ Q (.int (if k then 1 else 0)) H) ∨ ∃ a n, xs = [.str a] ∧ PySem.intText? a = some n ∧ a.length ≤ 640 ∧ Q (.int n) H
theorem bok_int : BOk X cl W rIntAll bInt := fun mu S σ H vs ds Q s r q => by
  unfold bInt at q
  split at q
  · cases r with | cons h r => cases r; cases h; exact .inl (.inl ⟨_, rfl, Af.now q s (.int _)⟩)
  · cases r with | cons h r => cases r; cases h; exact .inl (.inr ⟨_, rfl, Af.now q s (.int _)⟩)
  · split at q
    · split at q
      · rename_i n hn hl
        cases r with | cons h r => cases r; cases h; exact .inr ⟨_, n, rfl, hn, hl, Af.now q s (.int _)⟩
      · exact q.elim
    · exact q.elim
  · exact q.elim
theorem call_intAll : CallR X (.type "int") rIntAll := CallR.or call_int1 call_int_str
def bStr : GD := fun ds S => match ds with
  | [.int i] => if i.natAbs.log2 < 1920 then .ok (.str (toString i)) S else .stuck
  | [.str x] => .ok (.str x) S
  | _ => .stuck
def rStrAll : List V → Hp → VK → Prop := fun xs H Q => (∃ i, xs = [.int i] ∧ i.natAbs.log2 < 1920 ∧ Q (.str (toString i)) H) ∨ ∃ a, xs = [.str a] ∧ Q (.str a) H
theorem call_strAll : CallR X (.type "str") rStrAll := CallR.or call_str_int SkE.call_str_str
theorem bok_str : BOk X cl W rStrAll bStr := fun mu S σ H vs ds Q s r q => by
  unfold bStr at q
  split at q
  · split at q
    · rename_i hl
      cases r with | cons h r => cases r; cases h; exact .inl ⟨_, rfl, hl, Af.now q s (.str _)⟩
    · exact q.elim
  · cases r with | cons h r => cases r; cases h; exact .inr ⟨_, rfl, Af.now q s (.str _)⟩
  · exact q.elim
def rRepr (K : PySem.W.Frag) : List V → Hp → VK → Prop := fun xs H Q => ∃ x p, xs = [x] ∧ Dp K H x p ∧ p.showable = true ∧ p.hasDict = false ∧ p.depth ≤ 60 ∧ p.shown.length ≤ sizeLine ∧ Q (.str p.shown) H
theorem call_repr (G : Good X W k) : CallR X (.builtin "repr") (rRepr X.K) := by
  intro pins s σ H xs us Q I r h
  obtain ⟨x, p, rfl, hp, h1, h2, h3, h4, q⟩ := h
  obtain ⟨u, rfl, ru⟩ := vals1 r
  obtain ⟨as, rd⟩ := Dp.reads I p x u hp ru
  cases hp with
  | non => cases ru; exact PySem.P.repr_of_none ⟨.str _, H, I.tok _, ⟨_, rfl⟩, q⟩
  | bl b => cases ru; exact PySem.P.repr_of_bool ⟨.str _, H, I.tok _, ⟨_, rfl⟩, q⟩
  | int i =>
    obtain ⟨t, rfl⟩ := ru
    exact PySem.P.repr_of_int (by simpa [PyData.showable] using h1) ⟨.str _, H, I.tok _, ⟨_, rfl⟩, q⟩
  | str z =>
    obtain ⟨t, rfl⟩ := ru
    exact PySem.P.repr_of_str ⟨.str _, H, I.tok _, ⟨_, rfl⟩, q⟩ h4
  | lst _ _ =>
    cases ru
    exact repr_of_reads' rd h1 (PyData.noDict_hsm h2) G.grd (by have := G.room.units; omega) (fun _ _ e => e) (fun h' u tk hk => ⟨.str _, H, I.kept (t' := tk) hk, ⟨u, rfl⟩, q⟩) h4
  | tup _ _ =>
    cases ru
    exact repr_of_reads' rd h1 (PyData.noDict_hsm h2) G.grd (by have := G.room.units; omega) (fun _ _ e => e) (fun h' u tk hk => ⟨.str _, H, I.kept (t' := tk) hk, ⟨u, rfl⟩, q⟩) h4
/-- a text as long as it may be shown -/
def bRepr (n : Nat) : GD := fun ds S => match ds with
  | [x] => match pyOf S n x with
    | some p => if p.showable = true ∧ p.hasDict = false ∧ p.depth ≤ 60 ∧ p.shown.length ≤ sizeLine then .ok (.str p.shown) S else .stuck
    | none => .stuck
  | _ => .stuck
theorem bok_repr {n : Nat} : BOk X cl W (rRepr X.K) (bRepr n) := fun mu S σ H vs ds Q s r q => by
  unfold bRepr at q
  split at q
  · split at q
    · split at q
      · rename_i p hp hc
        cases r with
        | cons h r => cases r; exact ⟨_, p, rfl, py_dp s n h hp, hc.1, hc.2.1, hc.2.2.1, hc.2.2.2, Af.now q s (.str _)⟩
      · exact q.elim
    · exact q.elim
  · exact q.elim

/-! list, tuple: copies -/
def bList (live : Bool) : GD := fun ds S => match ds with
  | [x] => match anyOf S x with
    | some xs => if live then .ok (.ref S.length) (S ++ [some (.lst xs)]) else .ok (.lst xs) S
    | none => .stuck
  | _ => .stuck
def rListOf (X : Cx) : List V → Hp → VK → Prop := fun xs H Q => ∃ p ys, xs = [.ref p] ∧ (SqL X.K H p ys ∨ SqT X.K H p ys) ∧ ∀ l, H l = none → Q (.ref l) (upd H l (.lst ys))
theorem bok_list {live : Bool} : BOk X cl W (rListOf X) (bList live) := fun mu S σ H vs ds Q s r q => by
  unfold bList at q
  split at q
  · split at q
    · rename_i x xs hx
      cases r with
      | cons h r =>
        cases r
        obtain ⟨a, us, rfl, hu, ru⟩ := any_at s h hx
        refine ⟨a, us, rfl, hu, ?_⟩
        cases live with
        | true => exact Af.lstL q s ru
        | false => exact Af.lst q s ru
    · exact q.elim
  · exact q.elim
def bTuple : GD := fun ds S => match ds with
  | [.tup xs] => .ok (.tup xs) S
  | [x] => match seqOf S x with
    | some xs => .ok (.tup xs) S
    | none => .stuck
  | _ => .stuck
def rTupleOf (X : Cx) : List V → Hp → VK → Prop := fun xs H Q => ∃ p ys, xs = [.ref p] ∧ ((SqL X.K H p ys ∧ ∀ l, H l = none → Q (.ref l) (upd H l (.tup ys))) ∨ (SqT X.K H p ys ∧ Q (.ref p) H))
theorem bok_tuple : BOk X cl W (rTupleOf X) bTuple := fun mu S σ H vs ds Q s r q => by
  unfold bTuple at q
  split at q
  · cases r with
    | cons h r =>
      cases r
      obtain ⟨a, us, rfl, hu, ru⟩ := tup_at h
      exact ⟨a, us, rfl, .inr ⟨hu, Af.now q s h⟩⟩
  · split at q
    · rename_i x _ xs hx
      cases r with
      | cons h r =>
        cases r
        obtain ⟨a, us, rfl, hu, ru⟩ := seq_at s h hx
        exact ⟨a, us, rfl, .inl ⟨hu, Af.tup q s ru⟩⟩
    · exact q.elim
  · exact q.elim

/-! the built-ins by their names -/
section
variable {a b : Expr}
theorem fe_all (G : Good X W k) (hm : X.mg "all" = none) (ha : FA X cl W [e] fa) (hg : Gl X "all" := by rfl) (he : starEach [e] X.env = (false, eval e X.env) :: starEach [] X.env := by rfl) : FE X cl W (.Call (.Name "all" p) [e] [] pos) (eB bAll fa) :=
  fe_blt (cr_all G.calm) bok_all hm ha (by decide +kernel) hg (by decide) (by decide) he rfl
theorem fe_any (G : Good X W k) (hm : X.mg "any" = none) (ha : FA X cl W [e] fa) (hg : Gl X "any" := by rfl) (he : starEach [e] X.env = (false, eval e X.env) :: starEach [] X.env := by rfl) : FE X cl W (.Call (.Name "any" p) [e] [] pos) (eB bAny fa) :=
  fe_blt (cr_any G.calm) bok_any hm ha (by decide +kernel) hg (by decide) (by decide) he rfl
theorem fe_sum (G : Good X W k) (hm : X.mg "sum" = none) (ha : FA X cl W [e] fa) (hg : Gl X "sum" := by rfl) (he : starEach [e] X.env = (false, eval e X.env) :: starEach [] X.env := by rfl) : FE X cl W (.Call (.Name "sum" p) [e] [] pos) (eB bSum fa) :=
  fe_blt (cr_sum G.calm) bok_sum hm ha (by decide +kernel) hg (by decide) (by decide) he rfl
theorem fe_max1 (G : Good X W k) (hm : X.mg "max" = none) (ha : FA X cl W [e] fa) (hg : Gl X "max" := by rfl) (he : starEach [e] X.env = (false, eval e X.env) :: starEach [] X.env := by rfl) : FE X cl W (.Call (.Name "max" p) [e] [] pos) (eB bMax1 fa) :=
  fe_blt (cr_max G.calm) bok_max1 hm ha (by decide +kernel) hg (by decide) (by decide) he rfl
theorem fe_min1 (G : Good X W k) (hm : X.mg "min" = none) (ha : FA X cl W [e] fa) (hg : Gl X "min" := by rfl) (he : starEach [e] X.env = (false, eval e X.env) :: starEach [] X.env := by rfl) : FE X cl W (.Call (.Name "min" p) [e] [] pos) (eB bMin1 fa) :=
  fe_blt (cr_min G.calm) bok_min1 hm ha (by decide +kernel) hg (by decide) (by decide) he rfl
theorem fe_max2 (G : Good X W k) (hm : X.mg "max" = none) (ha : FA X cl W [a, b] fa) (hg : Gl X "max" := by rfl) (he : starEach [a, b] X.env = (false, eval a X.env) :: starEach [b] X.env := by rfl) (hpl : (backTo pos (starEach [b] X.env)).any (·.1) = false := by rfl) : FE X cl W (.Call (.Name "max" p) [a, b] [] pos) (eB bMax2 fa) :=
  fe_blt (call_max2 G.calm) bok_max2 hm ha (by decide +kernel) hg (by decide) (by decide) he hpl
theorem fe_min2 (G : Good X W k) (hm : X.mg "min" = none) (ha : FA X cl W [a, b] fa) (hg : Gl X "min" := by rfl) (he : starEach [a, b] X.env = (false, eval a X.env) :: starEach [b] X.env := by rfl) (hpl : (backTo pos (starEach [b] X.env)).any (·.1) = false := by rfl) : FE X cl W (.Call (.Name "min" p) [a, b] [] pos) (eB bMin2 fa) :=
  fe_blt (call_min2 G.calm) bok_min2 hm ha (by decide +kernel) hg (by decide) (by decide) he hpl
theorem fe_abs (hm : X.mg "abs" = none) (ha : FA X cl W [e] fa) (hg : Gl X "abs" := by rfl) (he : starEach [e] X.env = (false, eval e X.env) :: starEach [] X.env := by rfl) : FE X cl W (.Call (.Name "abs" p) [e] [] pos) (eB bAbs fa) :=
  fe_blt call_abs bok_abs hm ha (by decide +kernel) hg (by decide) (by decide) he rfl
theorem fe_intc (hm : X.mg "int" = none) (ha : FA X cl W [e] fa) (hg : Gl X "int" := by rfl) (he : starEach [e] X.env = (false, eval e X.env) :: starEach [] X.env := by rfl) : FE X cl W (.Call (.Name "int" p) [e] [] pos) (eB bInt fa) :=
  fe_bty call_intAll bok_int hm ha (by decide +kernel) hg (by decide) (by decide) he rfl
theorem fe_strc (hm : X.mg "str" = none) (ha : FA X cl W [e] fa) (hg : Gl X "str" := by rfl) (he : starEach [e] X.env = (false, eval e X.env) :: starEach [] X.env := by rfl) : FE X cl W (.Call (.Name "str" p) [e] [] pos) (eB bStr fa) :=
  fe_bty call_strAll bok_str hm ha (by decide +kernel) hg (by decide) (by decide) he rfl
theorem fe_repr {n : Nat} (G : Good X W k) (hm : X.mg "repr" = none) (ha : FA X cl W [e] fa) (hg : Gl X "repr" := by rfl) (he : starEach [e] X.env = (false, eval e X.env) :: starEach [] X.env := by rfl) : FE X cl W (.Call (.Name "repr" p) [e] [] pos) (eB (bRepr n) fa) :=
  fe_blt (call_repr G) bok_repr hm ha (by decide +kernel) hg (by decide) (by decide) he rfl
theorem fe_listc {live : Bool} (hm : X.mg "list" = none) (ha : FA X cl W [e] fa) (hg : Gl X "list" := by rfl) (he : starEach [e] X.env = (false, eval e X.env) :: starEach [] X.env := by rfl) : FE X cl W (.Call (.Name "list" p) [e] [] pos) (eB (bList live) fa) :=
  fe_bty call_list_of bok_list hm ha (by decide +kernel) hg (by decide) (by decide) he rfl
theorem fe_tuplec (hm : X.mg "tuple" = none) (ha : FA X cl W [e] fa) (hg : Gl X "tuple" := by rfl) (he : starEach [e] X.env = (false, eval e X.env) :: starEach [] X.env := by rfl) : FE X cl W (.Call (.Name "tuple" p) [e] [] pos) (eB bTuple fa) :=
  fe_bty call_tuple_of bok_tuple hm ha (by decide +kernel) hg (by decide) (by decide) he rfl
end

/-! methods of built-in types -/
/-- receiver and arguments, by values -/
def MOk (X : Cx) (cl : Cl) (W : WX) (T : String) (r : V → List V → Hp → VK → Prop) (g : D → GD) : Prop := ∀ mu S σ H v x vs ds Q, SR X.K cl mu H S → VRel X.K cl S.length mu H v x → VRels X.K cl S.length mu H vs ds → Af X.K cl (VRel X.K cl) S.length mu H σ W (g x ds S) Q → r v vs H Q
/-- what the receiver is, ahead of the arguments -/
def isTy (T : String) (S : Store) (x : D) : Bool := match x with
  | .str _ => T == "str"
  | .lst _ => T == "list"
  | .scr _ => T == "list"
  | .ref l => match S[l]? with
    | some (some (.lst _)) => T == "list"
    | some (some (.dic _)) => T == "dict"
    | _ => false
  | .dic _ => false
  | _ => false
theorem isTy_at {K : PySem.W.Frag} {mu : Mu} {H : Hp} {S : Store} {v : V} {x : D} {T : String} (s : SR K cl mu H S) (r : VRel K cl S.length mu H v x) (e : isTy T S x = true) : tyV K T v H := by
  cases x with
  | str z => cases r; exact beq_iff_eq.mp e
  | lst xs => cases r with | lst f _ => exact .inl ⟨beq_iff_eq.mp e, _, f.sq⟩
  | scr xs => cases r with | scr f _ => exact .inl ⟨beq_iff_eq.mp e, _, f.sq⟩
  | ref l =>
    unfold isTy at e
    simp only at e
    split at e
    · rename_i hx
      obtain ⟨a, rfl, _, o⟩ := ref_at s r hx
      cases o with | lst h _ => exact .inl ⟨beq_iff_eq.mp e, _, .inl (.inl h)⟩
    · rename_i hx
      obtain ⟨a, rfl, _, o⟩ := ref_at s r hx
      cases o with | dic h _ _ => exact .inr (.inr (.inl ⟨beq_iff_eq.mp e, .inl ⟨_, h⟩⟩))
    · cases e
  | _ => cases e
def eM (T : String) (g : D → GD) (fo : DE) (fa : DA) : DE := fun δ S => (fo δ S).bind fun x S1 => if isTy T S1 x = true then (fa δ S1).bind fun ds S2 => g x ds S2 else .stuck
def eM0 (T : String) (g : D → GD) (fo : DE) : DE := fun δ S => (fo δ S).bind fun x S1 => if isTy T S1 x = true then g x [] S1 else .stuck
theorem fe_m {name : Str} {rr : V → List V → Hp → VK → Prop} {gm : D → GD} (pa : PlainAttrs T) (slot : Slot T name id) (hty : typeOf (.builtin id) = pure (.type "method_descriptor")) (hm : MtR X id rr) (hk : MOk X cl W T rr gm) (ho : FE X cl W o fo) (ha : FA X cl W (e :: es) fa)
    (hbase : attributeBase o name X.env (eval o X.env) = eval o X.env := by rfl)
    (hfew : ((backTo cpos (starEach (e :: es) X.env)).all (fun x => !x.1) && (backToKw cpos (keywordEach [] X.env)).all (fun x => x.1.isSome)
      && decide ((e :: es).length + ([] : List Keyword).length + (if ([] : List Keyword).isEmpty then 0 else 1) < 30)) = true := by rfl)
    (hline : (apos.endLine == cpos.line) = true := by rfl) (hs : starEach (e :: es) X.env = (false, eval e X.env) :: starEach es X.env := by rfl) (hplain : (backTo cpos (starEach es X.env)).any (·.1) = false := by rfl) :
    FE X cl W (.Call (.Attribute o name apos) (e :: es) [] cpos) (eM T gm fo fa) :=
  fe_of (pe_bm pa slot hty hm ho.pe ha.pa hbase hfew hline hs hplain) fun mu δ S σ H Q s r q => by
    refine ⟨mu, δ, S, s, r, (Af.bind q).mono fun v H1 ⟨mu1, d, S1, s1, e1, r1, q1⟩ => ?_⟩
    split at q1
    · rename_i ht
      refine ⟨isTy_at s1 r1 ht, mu1, δ, S1, s1, r.mono e1, (Af.bind q1).mono fun vs H2 ⟨mu2, ds, S2, s2, e2, r2, q2⟩ => ?_⟩
      exact hk mu2 S2 σ H2 v d vs ds Q s2 (r1.mono e2) r2 q2
    · exact q1.elim
theorem fe_m0 {name : Str} {rr : V → List V → Hp → VK → Prop} {gm : D → GD} (pa : PlainAttrs T) (slot : Slot T name id) (hty : typeOf (.builtin id) = pure (.type "method_descriptor")) (hm : MtR X id rr) (hk : MOk X cl W T rr gm) (ho : FE X cl W o fo)
    (hbase : attributeBase o name X.env (eval o X.env) = eval o X.env := by rfl) (hline : (apos.endLine == cpos.line) = true := by rfl) : FE X cl W (.Call (.Attribute o name apos) [] [] cpos) (eM0 T gm fo) :=
  fe_of (pe_bm0 pa slot hty hm ho.pe hbase hline) fun mu δ S σ H Q s r q => by
    refine ⟨mu, δ, S, s, r, (Af.bind q).mono fun v H1 ⟨mu1, d, S1, s1, e1, r1, q1⟩ => ?_⟩
    split at q1
    · rename_i ht
      exact ⟨isTy_at s1 r1 ht, hk mu1 S1 σ H1 v d [] [] Q s1 r1 .nil q1⟩
    · exact q1.elim
/-! sep.join(texts) -/
def mJoin (x : D) : GD := fun ds S => match x, ds with
  | .str a, [y] => match anyOf S y with
    | some xs => match strsOf xs with
      | some ys => if (ys.map (·.length)).sum + ys.length * a.length ≤ 16777216 then .ok (.str (Txt.join a ys)) S else .stuck
      | none => .stuck
    | none => .stuck
  | _, _ => .stuck
theorem mok_join : MOk X cl W "str" (fun x xs H Q => ∃ a p, ∃ ys : List Str, x = .str a ∧ xs = [.ref p] ∧ (SqL X.K H p (ys.map V.str) ∨ SqT X.K H p (ys.map V.str)) ∧
    (ys.map (·.length)).sum + ys.length * a.length ≤ 16777216 ∧ Q (.str (Txt.join a ys)) H) mJoin := fun mu S σ H v x vs ds Q s rx r q => by
  unfold mJoin at q
  split at q
  · split at q
    · split at q
      · split at q
        · rename_i _ xs hx _ ys hy hz
          cases rx
          cases r with
          | cons h r =>
            cases r
            obtain ⟨p, us, rfl, hu, ru⟩ := any_at s h hx
            have e := strs_at ru hy
            subst e
            exact ⟨_, p, ys, rfl, rfl, hu, hz, Af.now q s (.str _)⟩
        · exact q.elim
      · exact q.elim
    · exact q.elim
  · exact q.elim
theorem fe_join (ho : FE X cl W o fo) (ha : FA X cl W [e] fa)
    (hbase : attributeBase o "join" X.env (eval o X.env) = eval o X.env := by rfl)
    (hfew : ((backTo cpos (starEach [e] X.env)).all (fun x => !x.1) && (backToKw cpos (keywordEach [] X.env)).all (fun x => x.1.isSome)
      && decide (([e] : List Expr).length + ([] : List Keyword).length + (if ([] : List Keyword).isEmpty then 0 else 1) < 30)) = true := by rfl)
    (hline : (apos.endLine == cpos.line) = true := by rfl) (hs : starEach [e] X.env = (false, eval e X.env) :: starEach [] X.env := by rfl) :
    FE X cl W (.Call (.Attribute o "join" apos) [e] [] cpos) (eM "str" mJoin fo fa) := fe_m PySem.F.plainAttrs_str PySem.F.slot_str_join PySem.F.type_str_join mt_join mok_join ho ha hbase hfew hline hs rfl
/-! xs.append(x), xs.pop(), xs.pop(i) -/
def mAppend (x : D) : GD := fun ds S => match x, ds with
  | .ref l, [y] => match S[l]? with
    | some (some (.lst xs)) => if xs.length < sizeLine then .ok .non (S.set l (some (.lst (xs ++ [y])))) else .stuck
    | _ => .stuck
  | _, _ => .stuck
def mPop (x : D) : GD := fun ds S => match x, ds with
  | .ref l, [] => match S[l]? with
    | some (some (.lst xs)) => match xs.getLast? with
      | some y => .ok y (S.set l (some (.lst xs.dropLast)))
      | none => .stuck
    | _ => .stuck
  | _, _ => .stuck
def mPopAt (x : D) : GD := fun ds S => match x, ds with
  | .ref l, [.int i] => match S[l]? with
    | some (some (.lst xs)) => if -(2 ^ 63) ≤ i ∧ i < 2 ^ 63 then match seqIndex? i xs.length with
      | some k => match xs[k]? with
        | some y => .ok y (S.set l (some (.lst (xs.eraseIdx k))))
        | none => .stuck
      | none => .stuck
      else .stuck
    | _ => .stuck
  | _, _ => .stuck
def mClear (x : D) : GD := fun ds S => match x, ds with
  | .ref l, [] => match S[l]? with
    | some (some (.lst xs)) => .ok .non (S.set l (some (.lst [])))
    | _ => .stuck
  | _, _ => .stuck
theorem Af.put {K : PySem.W.Frag} {mu : Mu} {H : Hp} {S : Store} {σ : St} {l : Nat} {a : Addr} {xs : List D} {us : List V} {d : D} {v : V} {Q : VK} (s : SR K cl mu H S) (hm : mu l = some a) (ru : VRels K cl S.length mu H us xs) (r : VRel K cl S.length mu H v d)
    (q : Af K cl (VRel K cl) S.length mu H σ W (.ok d (S.set l (some (.lst xs)))) Q) : Q v (upd H a (.lst us)) :=
  q v _ mu (ext_put s hm) (sr_put s hm (.lst upd_same (ru.mono (ext_put s hm)))) (r.mono (ext_put s hm))
theorem lst_live {K : PySem.W.Frag} {mu : Mu} {H : Hp} {S : Store} {v : V} {l : Nat} {xs : List D} (s : SR K cl mu H S) (r : VRel K cl S.length mu H v (.ref l)) (e : S[l]? = some (some (.lst xs))) : ∃ a us, v = .ref a ∧ mu l = some a ∧ H a = some (.lst us) ∧ VRels K cl S.length mu H us xs := by
  obtain ⟨a, rfl, hm, o⟩ := ref_at s r e
  cases o with
  | lst h ru => exact ⟨a, _, rfl, hm, h, ru⟩
theorem mok_append : MOk X cl W "list" rAppend mAppend := fun mu S σ H v x vs ds Q s rx r q => by
  unfold mAppend at q
  split at q
  · split at q
    · split at q
      · rename_i xs hx hz
        obtain ⟨a, us, rfl, hm, h, ru⟩ := lst_live s rx hx
        cases r with
        | cons h1 r =>
          cases r
          exact ⟨a, us, _, rfl, rfl, h, by rw [ru.length]; exact hz, Af.put s hm (ru.append (.cons h1 .nil)) .non q⟩
      · exact q.elim
    · exact q.elim
  · exact q.elim
theorem dropLast_rel {K : PySem.W.Frag} {n : Nat} {mu : Mu} {H : Hp} {us : List V} {xs : List D} (r : VRels K cl n mu H us xs) : VRels K cl n mu H us.dropLast xs.dropLast := by
  rw [List.dropLast_eq_take, List.dropLast_eq_take, r.length]
  exact r.take _
theorem mok_pop : MOk X cl W "list" rPop mPop := fun mu S σ H v x vs ds Q s rx r q => by
  unfold mPop at q
  split at q
  · split at q
    · split at q
      · rename_i xs hx _ y hy
        obtain ⟨a, us, rfl, hm, h, ru⟩ := lst_live s rx hx
        cases r
        rw [List.getLast?_eq_getElem?] at hy
        obtain ⟨w, hw, rw'⟩ := ru.get hy
        exact ⟨a, us, w, rfl, rfl, h, by rw [ru.length]; exact hw, Af.put s hm (dropLast_rel ru) rw' q⟩
      · exact q.elim
    · exact q.elim
  · exact q.elim
theorem mok_popAt : MOk X cl W "list" rPopAt mPopAt := fun mu S σ H v x vs ds Q s rx r q => by
  unfold mPopAt at q
  split at q
  · split at q
    · split at q
      · rename_i xs hx hz
        split at q
        · split at q
          · rename_i _ kk hk _ y hy
            obtain ⟨a, us, rfl, hm, h, ru⟩ := lst_live s rx hx
            cases r with
            | cons h1 r =>
              cases r
              cases h1
              obtain ⟨w, hw, rw'⟩ := ru.get hy
              exact ⟨a, us, _, kk, w, rfl, rfl, h, hz.1, hz.2, by rw [ru.length]; exact hk, hw, Af.put s hm (ru.eraseIdx _) rw' q⟩
          · exact q.elim
        · exact q.elim
      · exact q.elim
    · exact q.elim
  · exact q.elim
theorem mok_clear : MOk X cl W "list" rClear mClear := fun mu S σ H v x vs ds Q s rx r q => by
  unfold mClear at q
  split at q
  · split at q
    · rename_i xs hx
      obtain ⟨a, us, rfl, hm, h, ru⟩ := lst_live s rx hx
      cases r
      exact ⟨a, us, rfl, rfl, h, Af.put s hm .nil .non q⟩
    · exact q.elim
  · exact q.elim
theorem fe_append (ho : FE X cl W o fo) (ha : FA X cl W [e] fa)
    (hbase : attributeBase o "append" X.env (eval o X.env) = eval o X.env := by rfl)
    (hfew : ((backTo cpos (starEach [e] X.env)).all (fun x => !x.1) && (backToKw cpos (keywordEach [] X.env)).all (fun x => x.1.isSome)
      && decide (([e] : List Expr).length + ([] : List Keyword).length + (if ([] : List Keyword).isEmpty then 0 else 1) < 30)) = true := by rfl)
    (hline : (apos.endLine == cpos.line) = true := by rfl) (hs : starEach [e] X.env = (false, eval e X.env) :: starEach [] X.env := by rfl) :
    FE X cl W (.Call (.Attribute o "append" apos) [e] [] cpos) (eM "list" mAppend fo fa) := fe_m PySem.F.plainAttrs_list PySem.F.slot_list_append PySem.F.type_list_append mt_append mok_append ho ha hbase hfew hline hs rfl
theorem fe_popAt (ho : FE X cl W o fo) (ha : FA X cl W [e] fa)
    (hbase : attributeBase o "pop" X.env (eval o X.env) = eval o X.env := by rfl)
    (hfew : ((backTo cpos (starEach [e] X.env)).all (fun x => !x.1) && (backToKw cpos (keywordEach [] X.env)).all (fun x => x.1.isSome)
      && decide (([e] : List Expr).length + ([] : List Keyword).length + (if ([] : List Keyword).isEmpty then 0 else 1) < 30)) = true := by rfl)
    (hline : (apos.endLine == cpos.line) = true := by rfl) (hs : starEach [e] X.env = (false, eval e X.env) :: starEach [] X.env := by rfl) :
    FE X cl W (.Call (.Attribute o "pop" apos) [e] [] cpos) (eM "list" mPopAt fo fa) := fe_m PySem.F.plainAttrs_list PySem.F.slot_list_pop PySem.F.type_list_pop mt_popAt mok_popAt ho ha hbase hfew hline hs rfl
theorem fe_pop (ho : FE X cl W o fo) (hbase : attributeBase o "pop" X.env (eval o X.env) = eval o X.env := by rfl) (hline : (apos.endLine == cpos.line) = true := by rfl) :
    FE X cl W (.Call (.Attribute o "pop" apos) [] [] cpos) (eM0 "list" mPop fo) := fe_m0 PySem.F.plainAttrs_list PySem.F.slot_list_pop PySem.F.type_list_pop mt_pop mok_pop ho hbase hline
theorem fe_clear (ho : FE X cl W o fo) (hbase : attributeBase o "clear" X.env (eval o X.env) = eval o X.env := by rfl) (hline : (apos.endLine == cpos.line) = true := by rfl) :
    FE X cl W (.Call (.Attribute o "clear" apos) [] [] cpos) (eM0 "list" mClear fo) := fe_m0 PySem.F.plainAttrs_list PySem.F.slot_list_clear PySem.F.type_list_clear mt_clear mok_clear ho hbase hline
/-! xs.index(y), of flat things -/
def mIndex (x : D) : GD := fun ds S => match ds with
  | [y] => match seqOf S x with
    | some xs => if flatD y && xs.all flatD then match xs.findIdx? fun z => eqF z y with | some j => .ok (.int j) S | none => .stuck else .stuck
    | none => .stuck
  | _ => .stuck
end
end Mi
namespace Mi
open PySem L2

/-! dicts by their pairs -/
def KRel (K : PySem.W.Frag) (cl : Cl) (n : Nat) (mu : Mu) (H : Hp) (kvs : List (Key × V)) (kds : List (Key × D)) : Prop := kvs.map (·.1) = kds.map (·.1) ∧ VRels K cl n mu H (kvs.map (·.2)) (kds.map (·.2))
theorem zip_un {α β : Type} : ∀ l : List (α × β), (l.map (·.1)).zip (l.map (·.2)) = l
  | [] => rfl
  | (a, b) :: l => by simp only [List.map_cons, List.zip_cons_cons, zip_un l]
section
variable {K : PySem.W.Frag} {cl : Cl} {n n' : Nat} {mu mu' mu0 : Mu} {H H' H0 : Hp} {S : Store} {σ : St} {W : WX}
theorem KRel.pr (e : Pr n mu H n' mu' H') {kvs : List (Key × V)} {kds : List (Key × D)} (r : KRel K cl n mu H kvs kds) : KRel K cl n' mu' H' kvs kds := ⟨r.1, r.2.pr e⟩
theorem KRel.of {ks : List Key} {vs : List V} {ds : List D} (hl : ks.length = vs.length) (r : VRels K cl n mu H vs ds) : KRel K cl n mu H (ks.zip vs) (ks.zip ds) := by
  have h2 : ks.length = ds.length := hl.trans r.length
  have m1 : (ks.zip vs).map (·.1) = ks := List.map_fst_zip (Nat.le_of_eq hl)
  have m2 : (ks.zip ds).map (·.1) = ks := List.map_fst_zip (Nat.le_of_eq h2)
  have m3 : (ks.zip vs).map (·.2) = vs := List.map_snd_zip (Nat.le_of_eq hl.symm)
  have m4 : (ks.zip ds).map (·.2) = ds := List.map_snd_zip (Nat.le_of_eq h2.symm)
  exact ⟨by rw [m1, m2], by rw [m3, m4]; exact r⟩
theorem VRel.dic' {a : Addr} {kvs : List (Key × V)} {kds : List (Key × D)} (f : FzL mu H a (.dK kvs)) (r : KRel K cl n mu H kvs kds) : VRel K cl n mu H (.ref a) (.dic kds) := by
  have e1 := zip_un kvs
  have e2 := zip_un kds
  rw [← e2, ← r.1]
  exact .dic (by rw [e1]; exact f) (by simp) r.2
theorem ORel.dic' {a : Addr} {kvs : List (Key × V)} {kds : List (Key × D)} (h : H a = some (.dK kvs)) (r : KRel K cl n mu H kvs kds) : ORel K cl n mu H a (.dic kds) := by
  have e1 := zip_un kvs
  have e2 := zip_un kds
  rw [← e2, ← r.1]
  exact .dic (by rw [e1]; exact h) (by simp) r.2
theorem dic_k (s : SR K cl mu H S) {v : V} {d : D} {kds : List (Key × D)} (r : VRel K cl S.length mu H v d) (e : dicOf S d = some kds) : ∃ a kvs, v = .ref a ∧ Rd H a (.dK kvs) ∧ KRel K cl S.length mu H kvs kds := by
  obtain ⟨a, ks, vs, ds, h1, h2, h3, h4, rfl⟩ := dic_at s r e
  exact ⟨a, _, h1, h2, .of h3 h4⟩
theorem dic_live (s : SR K cl mu H S) {v : V} {l : Nat} {kds : List (Key × D)} (r : VRel K cl S.length mu H v (.ref l)) (e : S[l]? = some (some (.dic kds))) : ∃ a kvs, v = .ref a ∧ mu l = some a ∧ H a = some (.dK kvs) ∧ KRel K cl S.length mu H kvs kds := by
  obtain ⟨a, rfl, hm, o⟩ := ref_at s r e
  cases o with
  | dic h hl ru => exact ⟨a, _, rfl, hm, h, .of hl ru⟩
def putD (kds : List (Key × D)) (k : Key) (d : D) : List (Key × D) :=
  if (kds.any fun kv => decide (kv.1 = k)) = true then kds.map (fun kv => if kv.1 = k then (kv.1, d) else kv) else kds ++ [(k, d)]
def dropD (kds : List (Key × D)) (k : Key) : List (Key × D) := kds.filter fun kv => decide (kv.1 ≠ k)
theorem KRel.any {k : Key} : ∀ {kvs : List (Key × V)} {kds : List (Key × D)}, KRel K cl n mu H kvs kds → (kvs.any fun kv => decide (kv.1 = k)) = (kds.any fun kv => decide (kv.1 = k))
  | [], [], _ => rfl
  | [], _ :: _, ⟨h, _⟩ => by cases h
  | _ :: _, [], ⟨h, _⟩ => by cases h
  | (k1, v) :: kvs, (k2, d) :: kds, ⟨h1, h2⟩ => by
    rw [List.map_cons, List.map_cons] at h1 h2
    injection h1 with e1 e2
    cases h2 with
    | cons q1 q2 =>
      have e1 : k1 = k2 := e1
      subst e1
      rw [List.any_cons, List.any_cons, KRel.any (k := k) ⟨e2, q2⟩]
theorem KRel.cons {k : Key} {v : V} {d : D} {kvs : List (Key × V)} {kds : List (Key × D)} (h : VRel K cl n mu H v d) (r : KRel K cl n mu H kvs kds) : KRel K cl n mu H ((k, v) :: kvs) ((k, d) :: kds) := ⟨by rw [List.map_cons, List.map_cons, r.1], .cons h r.2⟩
theorem KRel.nil : KRel K cl n mu H [] [] := ⟨rfl, .nil⟩
theorem KRel.induct {P : List (Key × V) → List (Key × D) → Prop} (h0 : P [] []) (hc : ∀ k v d kvs kds, VRel K cl n mu H v d → KRel K cl n mu H kvs kds → P kvs kds → P ((k, v) :: kvs) ((k, d) :: kds)) : ∀ {kvs : List (Key × V)} {kds : List (Key × D)}, KRel K cl n mu H kvs kds → P kvs kds
  | [], [], _ => h0
  | [], _ :: _, ⟨h, _⟩ => by cases h
  | _ :: _, [], ⟨h, _⟩ => by cases h
  | (k1, v) :: kvs, (k2, d) :: kds, ⟨h1, h2⟩ => by
    rw [List.map_cons, List.map_cons] at h1 h2
    injection h1 with e1 e2
    cases h2 with
    | cons q1 q2 =>
      have e1 : k1 = k2 := e1
      subst e1
      exact hc _ _ _ _ _ q1 ⟨e2, q2⟩ (KRel.induct h0 hc ⟨e2, q2⟩)
theorem KRel.append {kvs kvs2 : List (Key × V)} {kds kds2 : List (Key × D)} (r : KRel K cl n mu H kvs kds) (r2 : KRel K cl n mu H kvs2 kds2) : KRel K cl n mu H (kvs ++ kvs2) (kds ++ kds2) :=
  ⟨by rw [List.map_append, List.map_append, r.1, r2.1], by rw [List.map_append, List.map_append]; exact r.2.append r2.2⟩
theorem KRel.put {k : Key} {v : V} {d : D} {kvs : List (Key × V)} {kds : List (Key × D)} (h : VRel K cl n mu H v d) (r : KRel K cl n mu H kvs kds) : KRel K cl n mu H (putK kvs k v) (putD kds k d) := by
  unfold putK putD
  rw [r.any]
  split
  · exact KRel.induct (P := fun kvs kds => KRel K cl n mu H (kvs.map (fun kv => if kv.1 = k then (kv.1, v) else kv)) (kds.map (fun kv => if kv.1 = k then (kv.1, d) else kv))) .nil (fun k1 v1 d1 kvs kds q _ ih => by
      rw [List.map_cons, List.map_cons]
      by_cases e : k1 = k
      · simp only [e, if_true]; exact .cons h ih
      · simp only [e, if_false]; exact .cons q ih) r
  · exact r.append (.cons h .nil)
theorem KRel.drop {k : Key} {kvs : List (Key × V)} {kds : List (Key × D)} (r : KRel K cl n mu H kvs kds) : KRel K cl n mu H (dropK kvs k) (dropD kds k) := by
  unfold dropK dropD
  exact KRel.induct (P := fun kvs kds => KRel K cl n mu H (kvs.filter fun kv => decide (kv.1 ≠ k)) (kds.filter fun kv => decide (kv.1 ≠ k))) .nil (fun k1 v1 d1 kvs kds q _ ih => by
      rw [List.filter_cons, List.filter_cons]
      by_cases e : k1 = k
      · simp only [e, ne_eq, not_true, decide_false]; exact ih
      · simp only [e, ne_eq, not_false_iff, decide_true, if_true]; exact .cons q ih) r
def mergeD (kds more : List (Key × D)) : List (Key × D) := more.foldl (fun acc kv => putD acc kv.1 kv.2) kds
theorem KRel.merge {more : List (Key × V)} {mored : List (Key × D)} (m : KRel K cl n mu H more mored) : ∀ {kvs : List (Key × V)} {kds : List (Key × D)}, KRel K cl n mu H kvs kds → KRel K cl n mu H (mergeK kvs more) (mergeD kds mored) :=
  KRel.induct (P := fun more mored => ∀ {kvs : List (Key × V)} {kds : List (Key × D)}, KRel K cl n mu H kvs kds → KRel K cl n mu H (mergeK kvs more) (mergeD kds mored)) (fun r => r) (fun k v d kvs kds h _ ih => fun r => ih (r.put h)) m
/-- a thing that was nobody's is taken up: read from then on, or with a place of its own -/
theorem adopt {n0 : Nat} {p : Addr} (e : Ext n0 mu0 H0 S.length (zOff mu mu0) H) (s : SR K cl mu H S) (hz : mu.z = (zAdd mu0 p).z) (h0 : H0 p = none) (n0' : ¬ mu0.z p) :
    SR K cl (zOff mu mu0) H S ∧ Pr S.length mu H S.length (zOff mu mu0) H ∧ Ot (zOff mu mu0) p := by
  have zp : mu.z p := by rw [hz]; exact .inr rfl
  have nz : ∀ a, mu0.z a → mu.z a := fun a h => by rw [hz]; exact .inl h
  have p1 : Pr S.length mu H S.length (zOff mu mu0) H := ⟨Nat.le_refl _, fun a o h f => ⟨h, f.1, fun z => f.2 (nz a z)⟩, fun _ _ _ h => h⟩
  exact ⟨s.re p1 rfl (fun _ _ _ => rfl) (fun a h => s.zt a (nz a h)) fun l a h z => s.zd l a h (nz a z), p1, fun l q => s.zd l p q zp, n0'⟩
theorem adoptL {n0 : Nat} {p : Addr} {o : O} (e : Ext n0 mu0 H0 S.length (zOff mu mu0) H) (s : SR K cl mu H S) (hz : mu.z = (zAdd mu0 p).z) (h0 : H0 p = none) (n0' : ¬ mu0.z p)
    (r : ∀ mu' n', Pr S.length mu H n' mu' H → ORel K cl n' mu' H p o) : ∃ mu', Ext n0 mu0 H0 (S ++ [some o]).length mu' H ∧ SR K cl mu' H (S ++ [some o]) ∧ VRel K cl (S ++ [some o]).length mu' H (.ref p) (.ref S.length) := by
  have zp : mu.z p := by rw [hz]; exact .inr rfl
  have nz : ∀ a, mu0.z a → mu.z a := fun a h => by rw [hz]; exact .inl h
  have nr : ∀ l, mu l ≠ some p := fun l q => s.zd l p q zp
  have p1 : Pr S.length mu H (S ++ [some o]).length (muAdd (zOff mu mu0) S.length p) H := by
    refine ⟨by simp, fun a o h f => ⟨h, fun l e => ?_, fun z => f.2 (nz a z)⟩, fun l a hl h => ?_⟩
    · dsimp only [muAdd] at e
      split at e
      · cases e; exact f.2 zp
      · exact f.1 l e
    · dsimp only [muAdd] at h
      rw [if_neg (Nat.ne_of_lt hl)] at h
      exact h
  refine ⟨muAdd (zOff mu mu0) S.length p, ?_, ?_, .ref (by simp) fun a e => by
      dsimp only [muAdd] at e
      rw [if_pos rfl] at e
      cases e; rfl⟩
  · refine ⟨by simp; exact Nat.le_succ_of_le e.le, e.keep, fun l a hl h => ?_, fun l a hl h => ?_, e.trk, rfl⟩
    · dsimp only [muAdd] at h
      rw [if_neg (Nat.ne_of_lt (Nat.lt_of_lt_of_le hl e.le))] at h
      exact e.old l a hl h
    · dsimp only [muAdd] at h
      split at h
      · cases h; exact h0
      · exact e.new l a hl h
  · refine ⟨fun l m a e1 e2 => ?_, fun l o e => ?_, fun l h => ?_, fun a h => s.zt a (nz a h), fun l a h z => ?_⟩
    · dsimp only [muAdd] at e1 e2
      split at e1 <;> split at e2
      · rename_i z1 z2; rw [z1, z2]
      · cases e1; exact absurd e2 (nr m)
      · cases e2; exact absurd e1 (nr l)
      · exact s.inj l m a e1 e2
    · by_cases hl : l < S.length
      · rw [List.getElem?_append_left hl] at e
        obtain ⟨a, h1, h2⟩ := s.live l o e
        exact ⟨a, by dsimp only [muAdd]; rw [if_neg (Nat.ne_of_lt hl)]; exact h1, h2.pr p1 rfl⟩
      · have hl' : l = S.length := by
          have := (List.getElem?_eq_some_iff.mp e).1
          rw [List.length_append] at this
          have h1 : ([some o] : Store).length = 1 := rfl
          simp at this
          omega
        subst hl'
        rw [List.getElem?_append_right (Nat.le_refl _), Nat.sub_self] at e
        cases e
        exact ⟨p, if_pos rfl, r _ _ p1⟩
    · dsimp only [muAdd]
      by_cases e : l = S.length
      · subst e
        exact absurd (by rw [List.getElem?_append_right (Nat.le_refl _), Nat.sub_self]; rfl) (h o)
      · rw [if_neg e]
        refine s.dead l fun y z => h y ?_
        rw [List.getElem?_append_left (List.getElem?_eq_some_iff.mp z).1]
        exact z
    · dsimp only [muAdd] at h z
      split at h
      · cases h; exact n0' z
      · exact s.zd l a h (nz a z)
end

section
variable {X : Cx} {cl : Cl} {W : WX} {pos : Pos} {k : Nat}
/-! {} -/
def eDic0 (live : Bool) : DE := fun _ S => if live then .ok (.ref S.length) (S ++ [some (.dic [])]) else .ok (.dic []) S
theorem fe_dic0 {live : Bool} : FE X cl W (.Dict [] [] pos) (eDic0 live) := fe_of (pe_lk pe_dnewK) fun mu δ S σ H Q s r q => by
  intro p hp
  cases live with
  | true => exact .inl (Af.live q s hp (.dic' upd_same .nil))
  | false => exact .inr ⟨p, _, rfl, upd_same, True.intro, fun od => by rw [upd_upd]; exact q _ _ mu (ext_new s hp) (sr_new s hp) (.dic' (fl_new s hp) .nil)⟩
/-! {k: v, ..} -/
def pairsD : List (Key × DE) → Env → Store → Out (List (Key × D))
  | [], _, S => .ok [] S
  | (k, f) :: r, δ, S => (f δ S).bind fun x S1 => (pairsD r δ S1).bind fun xs S2 => .ok ((k, x) :: xs) S2
def eDic (live : Bool) (l : List (Key × DE)) : DE := fun δ S => (noX (pairsD l δ S)).bind fun kds S1 => if kds.length ≤ 15 then (if live then .ok (.ref S1.length) (S1 ++ [some (.dic (mergeD [] kds))]) else .ok (.dic (mergeD [] kds)) S1) else .stuck
/-- the pairs: the keys are written -/
structure FPs (X : Cx) (cl : Cl) (W : WX) (pos : Pos) (keys : List (Option Expr)) (values : List Expr) (l : List (Key × DE)) : Prop where
  ps : PPs X pos keys values (l.map fun p => (tC (kV p.1), tE X.K cl W p.2))
theorem fps_nil : FPs X cl W pos [] [] [] := ⟨pps_nil⟩
theorem fps_str {x : Str} {j : Nat} {kp : Pos} {v : Expr} {ks : List (Option Expr)} {vs : List Expr} {f : DE} {l : List (Key × DE)} (hv : FE X cl W v f) (hr : FPs X cl W pos ks vs l) : FPs X cl W pos (some (.Constant (.str x) j kp) :: ks) (v :: vs) ((.inr x, f) :: l) := ⟨pps_cons pe_str hv.pe hr.ps⟩
theorem fps_int {x : Int} {j : Nat} {kp : Pos} {v : Expr} {ks : List (Option Expr)} {vs : List Expr} {f : DE} {l : List (Key × DE)} (hv : FE X cl W v f) (hr : FPs X cl W pos ks vs l) : FPs X cl W pos (some (.Constant (.int x) j kp) :: ks) (v :: vs) ((.inl x, f) :: l) := ⟨pps_cons pe_int hv.pe hr.ps⟩
theorem pairs_ok {K : PySem.W.Frag} : ∀ (l : List (Key × DE)) {mu : Mu} {δ : Env} {S : Store} {σ : St} {H : Hp} {Q : List (Key × V) → Hp → Prop}, SR K cl mu H S → ERel K cl S.length mu H σ δ → Af K cl (KRel K cl) S.length mu H σ W (pairsD l δ S) Q →
    tPairs (l.map fun p => (tC (kV p.1), tE K cl W p.2)) σ H fun ps H2 => ∃ kvs : List (Key × V), ps = kvs.map (fun kv => (kV kv.1, kv.2)) ∧ Q kvs H2
  | [], mu, δ, S, σ, H, Q, s, r, q => ⟨[], rfl, Af.now q s .nil⟩
  | (k, f) :: l, mu, δ, S, σ, H, Q, s, r, q => by
    refine ⟨mu, δ, S, s, r, (Af.bind (R := VRel K cl) q).mono fun v H1 ⟨mu1, d, S1, s1, e1, r1, q1⟩ => ?_⟩
    have q2 : Af K cl (KRel K cl) S1.length mu1 H1 σ W (pairsD l δ S1) fun kvs H2 => ∀ mu2 : Mu, True → Q ((k, v) :: kvs) H2 := by
      cases z : pairsD l δ S1 with
      | ok kds S2 => rw [z] at q1; exact fun kvs H' mu' e s r _ _ => q1 _ H' mu' e s (.cons (r1.mono e) r)
      | exc C fs S2 => rw [z] at q1; exact q1
      | stuck => rw [z] at q1; exact q1
    have q3 := pairs_ok l s1 (r.mono e1) q2
    have wk : ∀ (trs : List (TE × TE)), (∀ p ∈ trs, (∀ σ H Q Q', (∀ v H', Q v H' → Q' v H') → p.1 σ H Q → p.1 σ H Q') ∧ (∀ σ H Q Q', (∀ v H', Q v H' → Q' v H') → p.2 σ H Q → p.2 σ H Q')) → ∀ (σ : St) (H : Hp) (Q Q' : List (V × V) → Hp → Prop), (∀ x H', Q x H' → Q' x H') → tPairs trs σ H Q → tPairs trs σ H Q' := fun trs => by
      induction trs with
      | nil => intro _ σ H Q Q' i q; exact i _ _ q
      | cons p trs ih =>
        intro hm σ H Q Q' i q
        obtain ⟨m1, m2⟩ := hm p List.mem_cons_self
        refine m1 _ _ _ _ (fun x H1 q => ?_) q
        refine m2 _ _ _ _ (fun y H2 q => ?_) q
        exact ih (fun p hp => hm p (List.mem_cons_of_mem _ hp)) _ _ _ _ (fun ps H3 q => i _ _ q) q
    refine wk _ (fun p hp => ?_) _ _ _ _ (fun ps H2 ⟨kvs, e, q⟩ => ?_) q3
    · obtain ⟨p', _, rfl⟩ := List.mem_map.mp hp
      exact ⟨fun σ H Q Q' i q => i _ _ q, fun σ H Q Q' i ⟨mu, δ, S, s, r, q⟩ => ⟨mu, δ, S, s, r, q.mono i⟩⟩
    · exact ⟨(k, v) :: kvs, by rw [e, List.map_cons], q mu1 True.intro⟩
theorem fe_dic {live : Bool} {keys : List (Option Expr)} {values : List Expr} {l : List (Key × DE)} (h : FPs X cl W pos keys values l) (hall : keys.all (·.isSome) = true := by rfl) (hl : keys.length = values.length := by rfl) (h0 : keys ≠ [] := by exact fun z => nomatch z) (h15 : keys.length ≤ 15 := by decide) :
    FE X cl W (.Dict keys values pos) (eDic live l) := fe_of (pe_lk (pe_disp h.ps hall hl h0 h15)) fun mu δ S σ H Q s r q => by
  intro p hp
  have s1 := sr_zadd (o := .dK []) s hp
  have q2 : Af X.K cl (KRel X.K cl) S.length (zAdd mu p) (upd H p (.dK [])) σ W (pairsD l δ S) fun kvs H2 => H2 p = some (.dK []) ∧ kvs.length ≤ 15 ∧ (Q (.ref p) (upd H2 p (.dK (mergeK [] kvs))) ∨ ∃ d u, V.ref p = .ref d ∧ (upd H2 p (.dK (mergeK [] kvs))) d = some u ∧ Mut (some u) ∧ ∀ od, Q (.ref p) (upd (upd H2 p (.dK (mergeK [] kvs))) d (.frz od u))) := by
    refine (Af.noX q).mono fun kvs H2 ⟨mu2, kds, S2, s2, e2, r2, q2⟩ => ?_
    have nr : ∀ l, (zAdd mu p) l ≠ some p := fun l e => s.ne hp l e
    have hp2 : H2 p = some (.dK []) := e2.keep _ _ upd_same nr
    split at q2
    case isFalse => exact q2.elim
    rename_i hz
    have hlen : kvs.length = kds.length := by have := congrArg List.length r2.1; simpa using this
    refine ⟨hp2, by omega, ?_⟩
    have hz2 : mu2.z p := by rw [e2.zz]; exact .inr rfl
    have ex : ∀ o, Ext S.length mu H S2.length (zOff mu2 mu) (upd H2 p o) := fun o => by
      refine ⟨e2.le, fun a o h f => ?_, e2.old, fun l a hl h => ?_, fun a h => ?_, rfl⟩
      · have ne := ne_of_none h hp
        rw [upd_ne ne]
        exact e2.keep a o (by rw [upd_ne ne]; exact h) f
      · have := e2.new l a hl h
        by_cases e : a = p
        · rw [e]; exact hp
        · rw [upd_ne e] at this; exact this
      · by_cases e : a = p
        · rw [e]; exact hp
        · rw [upd_ne e] at h
          have := e2.trk a h
          rw [upd_ne e] at this
          exact this
    cases live with
    | false =>
      refine .inr ⟨p, _, rfl, upd_same, True.intro, fun od => ?_⟩
      rw [upd_upd]
      have s3 := sr_zput (o := .frz od (.dK (mergeK [] kvs))) s2 hz2
      have rm : KRel X.K cl S2.length mu2 (upd H2 p (.frz od (.dK (mergeK [] kvs)))) (mergeK [] kvs) (mergeD [] kds) := KRel.merge (r2.pr (pr_zput hz2)) .nil
      obtain ⟨a1, a2, a3⟩ := adopt (ex _) s3 e2.zz hp (s.ot hp).2
      exact q2 _ _ _ (ex _) a1 (.dic' ⟨⟨od, upd_same⟩, a3⟩ (rm.pr a2))
    | true =>
      have s3 := sr_zput (o := .dK (mergeK [] kvs)) s2 hz2
      have rm : KRel X.K cl S2.length mu2 (upd H2 p (.dK (mergeK [] kvs))) (mergeK [] kvs) (mergeD [] kds) := KRel.merge (r2.pr (pr_zput hz2)) .nil
      obtain ⟨mu3, b1, b2, b3⟩ := adoptL (o := .dic (mergeD [] kds)) (ex _) s3 e2.zz hp (s.ot hp).2 fun mu' n' pr => .dic' upd_same (rm.pr pr)
      exact .inl (q2 _ _ mu3 b1 b2 b3)
  have rd := pairs_ok l s1 (r.pr (pr_zadd hp)) q2
  have wk : ∀ (trs : List (TE × TE)), (∀ p ∈ trs, (∀ σ H Q Q', (∀ v H', Q v H' → Q' v H') → p.1 σ H Q → p.1 σ H Q') ∧ (∀ σ H Q Q', (∀ v H', Q v H' → Q' v H') → p.2 σ H Q → p.2 σ H Q')) → ∀ (σ : St) (H : Hp) (Q Q' : List (V × V) → Hp → Prop), (∀ x H', Q x H' → Q' x H') → tPairs trs σ H Q → tPairs trs σ H Q' := fun trs => by
      induction trs with
      | nil => intro _ σ H Q Q' i q; exact i _ _ q
      | cons p trs ih =>
        intro hm σ H Q Q' i q
        obtain ⟨m1, m2⟩ := hm p List.mem_cons_self
        refine m1 _ _ _ _ (fun x H1 q => ?_) q
        refine m2 _ _ _ _ (fun y H2 q => ?_) q
        exact ih (fun p hp => hm p (List.mem_cons_of_mem _ hp)) _ _ _ _ (fun ps H3 q => i _ _ q) q
  refine wk _ (fun p hp => ?_) _ _ _ _ (fun ps H2 ⟨kvs, e, q1, q2, q3⟩ => ⟨q1, kvs, e, q2, q3⟩) rd
  obtain ⟨p', _, rfl⟩ := List.mem_map.mp hp
  exact ⟨fun σ H Q Q' i q => i _ _ q, fun σ H Q Q' i ⟨mu, δ, S, s, r, q⟩ => ⟨mu, δ, S, s, r, q.mono i⟩⟩
end
end Mi
namespace Mi
open PySem PySem.Spec PyProof.Rows L2

/-- the law's own call, from the heap behind the top -/
theorem law_enter {P : Program} {w : World} {K : PySem.W.Frag} {mg mb : Str → Option Value} {k : Nat} {fa a : Addr} {fd : FuncData} {x : Str} {cl : Cl} {g : GD} {t : Shared} {us : List Value} {ns : List Int}
    (inK : K.In t.heap) (gl : t.heap.Ns mainGlobals mg) (bl : t.heap.Ns builtinsNs mb) (bb : ∀ y : Str, y ≠ "__name__" → mb y = bootBuiltins y) (nl : t.heap.NoLimit) (gen : t.gens = #[])
    (at_ : t.heap.get? a = some { cls := .type "list", data := .seq us.toArray }) (ii : IntsAre us ns) (few : ns.length ≤ sizeLine) (room : Room k callerA)
    (F : ∀ base : Heap, K.In base → base.Ns mainGlobals mg → FnG P w K mg base k fa fd [x] (spOf K cl 1 g)) (bind : ∀ (s : Shared) (u : Value), BindsTo s fd ⟨[u], []⟩ [(x, u)])
    (good : ∃ S, g [.scr (ns.map D.int)] [] = .ok (.bl true) S) :
    codeAny (model P w) callerA (.call (.ref fa) ⟨[.ref a], []⟩) (fun r s' => r = .ok (.ret (.bool true)) ∧ OldK t.heap s'.heap ∧ s'.os = t.os ∧ AllBare s'.gens) t := by
  have rv := vals_ints ii
  have len := ii.length
  suffices main : ∀ H : Hp, (∀ b u, H b = some u → b = a ∧ u = .frz { cls := .type "list", data := .seq us.toArray } (.lst (ns.map V.int))) → (H a ≠ none → K.lookup a = none) → SqL K H a (ns.map V.int) →
      codeAny (model P w) callerA (.call (.ref fa) ⟨[.ref a], []⟩) (fun r s' => r = .ok (.ret (.bool true)) ∧ OldK t.heap s'.heap ∧ s'.os = t.os ∧ AllBare s'.gens) t by
    cases hk : K.lookup a with
    | some o =>
      have e := inK a o hk
      rw [at_] at e
      cases e
      exact main (fun _ => none) (fun _ _ z => nomatch z) (fun z => absurd rfl z) (.inr ⟨_, us.toArray, _, hk, rfl, rfl, rfl, by rw [List.size_toArray, len]; exact few, by simpa using rv⟩)
    | none =>
      refine main (fun b => if b = a then some (.frz { cls := .type "list", data := .seq us.toArray } (.lst (ns.map V.int))) else none) (fun b u z => ?_) (fun _ => hk) (.inl (.inr ⟨_, if_pos rfl⟩))
      by_cases e : b = a
      · rw [if_pos e] at z; cases z; exact ⟨e, rfl⟩
      · rw [if_neg e] at z; cases z
  intro H one away sq
  have dictFree : ∀ {b : Addr} {m : Str → Option Value}, t.heap.Ns b m → (hidT t.heap H).Ns b m := by
    rintro b m ⟨o, es, ep, e, d, r⟩
    refine ⟨o, es, ep, hidT_get e ?_, d, r⟩
    cases z : H b with
    | none => rfl
    | some u =>
      obtain ⟨rfl, _⟩ := one b u z
      rw [at_] at e; cases e; cases d
  have baseK : K.In (hidT t.heap H) := by
    intro b o e
    refine hidT_get (inK b o e) ?_
    cases z : H b with
    | none => rfl
    | some u =>
      obtain ⟨rfl, _⟩ := one b u z
      rw [away (by rw [z]; exact fun y => nomatch y)] at e; cases e
  have hok : HOk P w H t.heap := by
    intro b u z
    obtain ⟨rfl, rfl⟩ := one b u z
    exact ⟨at_, by rw [List.length_map]; exact few, us, _, rv, at_⟩
  obtain ⟨mc, c1, c2⟩ := nl
  have md : Mod K mg (hidT t.heap H) := ⟨baseK, dictFree gl, ⟨mb, dictFree bl, bb⟩, mc, dictFree c1, c2⟩
  have en : Env0 P w K mg (hidT t.heap H) callerA [] t H := ⟨rfl, md, fun b o e => of_hidT e, Nat.le_of_eq (hidT_size _ _), trivial, (fun b hb => nomatch hb), hok, .of_eq gen⟩
  have vi : ∀ (l : List Int), VRels K cl 0 ⟨fun _ => none, fun _ => False⟩ H (l.map V.int) (l.map D.int) := fun l => by
    induction l with
    | nil => exact .nil
    | cons i l ih => exact .cons (.int i) ih
  have sc : ScrF K ⟨fun _ => none, fun _ => False⟩ H a (ns.map V.int) := sq.imp (fun h => ⟨h, (fun _ z => nomatch z), id⟩) id
  obtain ⟨S, hS⟩ := good
  have sp : spOf K cl 1 g [.ref a] H (fun v _ => v = .bl true) fun _ _ _ => False := by
    refine ⟨rfl, ⟨fun _ => none, fun _ => False⟩, [.scr (ns.map D.int)], [], ⟨(fun _ _ _ e => nomatch e), (fun l o e => by simp at e), (fun _ _ => rfl), (fun _ h => h.elim), fun _ _ e => nomatch e⟩, .cons (.scr sc (vi ns)) .nil, ?_⟩
    rw [hS]
    intro v H' mu' _ _ r
    cases r; rfl
  refine codeAny_mono ((F _ baseK (dictFree gl)).go callerA [] t H ⟨[.ref a], []⟩ [.ref a] [.ref a] _ _ room rfl en (bind t (.ref a)) (.cons rfl .nil) sp) fun r s' h => ?_
  cases r with
  | error e =>
    obtain ⟨_, _, _, _, _, _, _, _, _, _, _, _, z⟩ := h
    exact z.elim
  | ok fl => cases fl with
    | next => exact h.elim
    | brk => exact h.elim
    | cont => exact h.elim
    | ret u =>
      obtain ⟨v, H', os, bare, un, hok', r', q⟩ := h
      have q : v = .bl true := q
      subst q
      cases (show u = Value.bool true from r')
      refine ⟨rfl, OldK.of_keep fun b o e => ?_, os, bare⟩
      cases z : H b with
      | none => exact un.keep b o e z (fun y => nomatch y) (fun y => nomatch y)
      | some u =>
        obtain ⟨rfl, rfl⟩ := one b u z
        rw [at_] at e
        cases e
        exact (hok' _ _ (un.frzs _ _ _ z)).1
theorem loose_int {p : Program} {lv : List (Str × PySem.W.WData)} {mg : Str → Option Value} {h : Heap} {x : Str} {i : Int} (X : PySem.W.XL p lv mg h) (hm : (x, PySem.W.WData.int i) ∈ lv) : ∃ t, mg x = some (.int i t) := by
  obtain ⟨v, e, r⟩ := X.2.val _ hm
  cases r
  exact ⟨_, e⟩
theorem law_end {l : PySem.W.OpenLaw} {n k : Nat} {q : Program} {loose : List Str} {XP : (Str → Option Value) → Heap → Prop} {YP : World → Heap → Prop} {d : DefRec} {K : Params → PySem.W.Frag} {x : Str} {g : GD}
    (hn : l.most = some n) (hn2 : n ≤ sizeLine) (hdf : d.params.defaults = []) (hr : Room k callerA) (hY : ∀ (w : World) (h : Heap), YP w h → (K w.params).In h)
    (good : ∀ ns : List Int, ns.length ≤ n → (∀ z ∈ ns, Builtin.Int.intBits z ≤ 1048576) → ∃ S, g [.scr (ns.map D.int)] [] = .ok (.bl true) S)
    (F : ∀ (w : World) (mg : Str → Option Value) (fa : Addr) (h : Heap), (K w.params).In h → h.Ns mainGlobals mg → XP mg h → mg d.name = some (.ref fa) →
      ∃ (fd : FuncData) (cl : Cl), (∀ (s : Shared) (u : Value), BindsTo s fd ⟨[u], []⟩ [(x, u)]) ∧ ∀ base : Heap, (K w.params).In base → base.Ns mainGlobals mg → FnG l.prog w (K w.params) mg base k fa fd [x] (spOf (K w.params) cl 1 g)) :
    PySem.W.WalkO q loose XP YP l.row.toRowW d [] (fun f vs => PySem.call f vs) := by
  refine Att.attach_callB hn hdf fun w s₀ s₁ mg mb fa o pm cd doc a vs ns G Y ho hd hcd hmg hobj hints hlen hbits hg => ?_
  obtain ⟨fd, cl, hb, hF⟩ := F w mg fa _ (hY w _ Y) G.T.g G.X hmg
  exact law_enter (hY w _ Y) G.T.g G.T.b G.T.builtins G.T.nolimit hg hobj hints (Nat.le_trans hlen hn2) hr hF hb (good ns hlen hbits)
end Mi
namespace Mi
open PySem L2

/-- a def of the module as it is called by its name -/
structure Cal (P : Program) (w : World) (K : PySem.W.Frag) (mg : Str → Option Value) (base : Heap) (cl : Cl) (j np : Nat) (x : Str) (g : GD) : Prop where
  ex : ∃ (f : Addr) (fd : FuncData) (ps : List Str), mg x = some (.ref f) ∧ PySem.W.keepIn K (.ref f) = true ∧ Binds K fd ps [] ∧ FnG P w K mg base j f fd ps (spOf K cl np g)
theorem Cal.pure {P : Program} {w : World} {K : PySem.W.Frag} {mg : Str → Option Value} {base : Heap} {cl : Cl} {j np : Nat} {x : Str} {g : GD} (c : Cal P w K mg base cl j np x g) : Cal P w K mg base cl j np x (pureD g) := by
  obtain ⟨f, fd, ps, h1, h2, h3, h4⟩ := c.ex
  exact ⟨f, fd, ps, h1, h2, h3, h4.imp fun vs H Q E ⟨hl, mu, ds, S, s, r, q⟩ => pure_ok (σ := []) (W := W0) s r hl q⟩
section
variable {X : Cx} {cl : Cl} {W : WX} {pos p : Pos} {k j np : Nat} {x : Str} {g : GD} {e : Expr} {es : List Expr} {fa : DA}
theorem fe_callC (G : Good X W k) (c : Cal X.prog X.w X.K X.mg X.base cl j np x g) (hj : j ≤ k) (ha : FA X cl W (e :: es) fa) (hg : Gl X x := by rfl) (hdb : (x == ("__debug__" : Str)) = false := by decide)
    (he : starEach (e :: es) X.env = (false, eval e X.env) :: starEach es X.env := by rfl) (hpl : (backTo pos (starEach es X.env)).any (·.1) = false := by rfl) : FE X cl W (.Call (.Name x p) (e :: es) [] pos) (eCall np g [] fa) := by
  obtain ⟨f, fd, ps, h1, h2, h3, h4⟩ := c.ex
  exact fe_call (dvs := []) (dsv := []) G ⟨h4⟩ hj h1 h2 h3 .nil (fun _ _ _ => .nil) ha hg hdb he hpl
theorem fe_globI {i : Int} (h : ∃ t, X.mg x = some (.int i t)) (hg : Gl X x := by rfl) (hd : (x == ("__debug__" : Str)) = false := by decide) : FE X cl W (.Name x pos) (eC (.int i)) := by
  obtain ⟨t, h⟩ := h
  exact fe_const (v := .int i) (pe_glob hg h ⟨t, rfl⟩ hd) fun _ _ _ => .int i
theorem fe_globS {i : Str} (h : ∃ t, X.mg x = some (.str i t)) (hg : Gl X x := by rfl) (hd : (x == ("__debug__" : Str)) = false := by decide) : FE X cl W (.Name x pos) (eC (.str i)) := by
  obtain ⟨t, h⟩ := h
  exact fe_const (v := .str i) (pe_glob hg h ⟨t, rfl⟩ hd) fun _ _ _ => .str i
end
end Mi
namespace Mi
open PySem L2
theorem blkB {N N' : List Str} {sc sc' scope : Scope} {own : List (Str × Nat)} (h1 : N = N') (h2 : sc = sc') (h : blkC N' sc' scope own = true) : BlkOk N sc scope own := by
  subst h1 h2
  exact blkOk_by h
section
variable {X : Cx} {cl : Cl} {W : WX} {pos p apos cpos : Pos} {k : Nat} {o e : Expr} {fo : DE} {fa : DA}
/-! sign in text: its place -/
def mSIndex (x : D) : GD := fun ds S => match x, ds with
  | .str a, [.str b] => match Builtin.Str.occurrences a b 0 a.length 1 with
    | i :: _ => .ok (.int (i : Nat)) S
    | [] => .stuck
  | _, _ => .stuck
theorem mok_sindex : MOk X cl W "str" (fun x xs H Q => ∃ a b i rest, x = .str a ∧ xs = [.str b] ∧ Builtin.Str.occurrences a b 0 a.length 1 = i :: rest ∧ Q (.int (i : Nat)) H) mSIndex := fun mu S σ H v x vs ds Q s rx r q => by
  unfold mSIndex at q
  split at q
  · split at q
    · rename_i a b _ i rest h
      cases rx
      cases r with
      | cons h1 r =>
        cases r
        cases h1
        exact ⟨a, b, i, rest, rfl, rfl, h, Af.now q s (.int _)⟩
    · exact q.elim
  · exact q.elim
theorem fe_sindex (ho : FE X cl W o fo) (ha : FA X cl W [e] fa)
    (hbase : attributeBase o "index" X.env (eval o X.env) = eval o X.env := by rfl)
    (hfew : ((backTo cpos (starEach [e] X.env)).all (fun x => !x.1) && (backToKw cpos (keywordEach [] X.env)).all (fun x => x.1.isSome)
      && decide (([e] : List Expr).length + ([] : List Keyword).length + (if ([] : List Keyword).isEmpty then 0 else 1) < 30)) = true := by rfl)
    (hline : (apos.endLine == cpos.line) = true := by rfl) (hs : starEach [e] X.env = (false, eval e X.env) :: starEach [] X.env := by rfl) :
    FE X cl W (.Call (.Attribute o "index" apos) [e] [] cpos) (eM "str" mSIndex fo fa) := fe_m PySem.F.plainAttrs_str PySem.F.slot_str_index PySem.F.type_str_index mt_sindex mok_sindex ho ha hbase hfew hline hs rfl
end
end Mi
namespace Mi
open PySem L2
/-! the terms by rules -/
section
variable {δ : Env} {S : Store} {f g h : DE} {t t' : DT} {a : DA} {i j : Nat} {d : D} {gg : G2} {z z' : DS} {x y : Int} {u v : Str} {b c : Bool} {xs ys : List D}
@[simp] theorem sSeq_ap : sSeq z z' δ S = (z δ S).then z' := of_eq_true (eq_self _)
@[simp] theorem sSet_ap : sSet i f δ S = toS δ (f δ S) fun d S1 => .nx (δ.set i (some d)) S1 := of_eq_true (eq_self _)
@[simp] theorem sIf_ap : sIf t z z' δ S = toS δ (t δ S) fun b S1 => if b then z δ S1 else z' δ S1 := of_eq_true (eq_self _)
@[simp] theorem sRet_ap : sRet f δ S = toS δ (f δ S) fun d S1 => .rt d S1 := of_eq_true (eq_self _)
@[simp] theorem sRetN_ap : sRetN δ S = .rt .non S := of_eq_true (eq_self _)
@[simp] theorem sExpr_ap : sExpr f δ S = toS δ (f δ S) fun _ S1 => .nx δ S1 := of_eq_true (eq_self _)
@[simp] theorem sNext_ap : sNext δ S = .nx δ S := of_eq_true (eq_self _)
@[simp] theorem sBreak_ap : sBreak δ S = .bk δ S := of_eq_true (eq_self _)
@[simp] theorem sCont_ap : sCont δ S = .ct δ S := of_eq_true (eq_self _)
@[simp] theorem sPar_ap : sPar i j a δ S = toS δ (a δ S) fun ds S1 => match ds with | [x, y] => .nx ((δ.set i (some x)).set j (some y)) S1 | _ => .stuck := of_eq_true (eq_self _)
@[simp] theorem sAsg_ap {g : DG} : sAsg g f δ S = toS δ (f δ S) fun d S1 => match g d S1 with | some da => .nx (setAll δ da) S1 | none => .stuck := of_eq_true (eq_self _)
@[simp] theorem gName_ap : gName i d S = some [(i, d)] := of_eq_true (eq_self _)
@[simp] theorem sFor_ap {w : DI} {g : DG} : sFor w g z δ S = toS δ (w δ S) fun p S1 => forD p.2 g z p.1 δ S1 := of_eq_true (eq_self _)
@[simp] theorem eVar_0 : eVar 0 (some d :: δ) S = .ok d S := of_eq_true (eq_self _)
@[simp] theorem eVar_s {o : Option D} : eVar (i + 1) (o :: δ) S = eVar i δ S := of_eq_true (eq_self _)
@[simp] theorem eC_ap : eC d δ S = .ok d S := of_eq_true (eq_self _)
@[simp] theorem aNil_ap : aNil δ S = .ok [] S := of_eq_true (eq_self _)
@[simp] theorem aCons_ap : aCons f a δ S = (f δ S).bind fun x S1 => (a δ S1).bind fun xs S2 => .ok (x :: xs) S2 := of_eq_true (eq_self _)
@[simp] theorem e2_ap : e2 gg f g δ S = (f δ S).bind fun x S1 => (g δ S1).bind fun y S2 => gg x y S2 := of_eq_true (eq_self _)
@[simp] theorem e3_ap {g1 g2 : G2} : e3 g1 g2 f g h δ S = (f δ S).bind fun x S1 => (g δ S1).bind fun y S2 => (toB (g1 x y S2)).bind fun t S3 => if t then (h δ S3).bind fun z S4 => g2 y z S4 else .ok (.bl false) S3 := of_eq_true (eq_self _)
@[simp] theorem toB_stuck : toB .stuck = .stuck := of_eq_true (eq_self _)
@[simp] theorem tV_ap : tV f δ S = toB (f δ S) := of_eq_true (eq_self _)
@[simp] theorem tAnd_ap : tAndD t t' δ S = (t δ S).bind fun b S1 => if b then t' δ S1 else .ok false S1 := of_eq_true (eq_self _)
@[simp] theorem tOr_ap : tOrD t t' δ S = (t δ S).bind fun b S1 => if b then .ok true S1 else t' δ S1 := of_eq_true (eq_self _)
@[simp] theorem tNot_ap : tNotD t δ S = (t δ S).bind fun b S1 => .ok (!b) S1 := of_eq_true (eq_self _)
@[simp] theorem eAnd_ap : eAndD f g δ S = (toB (f δ S)).bind fun b S1 => if b then g δ S1 else .ok (.bl false) S1 := of_eq_true (eq_self _)
@[simp] theorem eOr_ap : eOrD f g δ S = (toB (f δ S)).bind fun b S1 => if b then .ok (.bl true) S1 else g δ S1 := of_eq_true (eq_self _)
@[simp] theorem eNot_ap : eNotD f δ S = (toB (f δ S)).bind fun b S1 => .ok (.bl (!b)) S1 := of_eq_true (eq_self _)
@[simp] theorem eIf_ap : eIf t f g δ S = (t δ S).bind fun b S1 => if b then f δ S1 else g δ S1 := of_eq_true (eq_self _)
@[simp] theorem eNeg_ap : eNeg f δ S = (f δ S).bind fun x S1 => match x with | .int i => .ok (.int (-i)) S1 | _ => .stuck := of_eq_true (eq_self _)
@[simp] theorem eTup_ap : eTup a δ S = (a δ S).bind fun xs S1 => if xs.length ≤ sizeLine then .ok (.tup xs) S1 else .stuck := of_eq_true (eq_self _)
@[simp] theorem eLst_ap : eLst a δ S = (a δ S).bind fun xs S1 => if xs.length ≤ sizeLine then .ok (.lst xs) S1 else .stuck := of_eq_true (eq_self _)
@[simp] theorem eLstL_ap : eLstL a δ S = (a δ S).bind fun xs S1 => if xs.length ≤ sizeLine then .ok (.ref S1.length) (S1 ++ [some (.lst xs)]) else .stuck := of_eq_true (eq_self _)
@[simp] theorem eB_ap {k : GD} : eB k a δ S = (a δ S).bind k := of_eq_true (eq_self _)
@[simp] theorem eIsi_ap {n : String} : eIsi n f δ S = (f δ S).bind fun x S1 => match tyName S1 x with | some t => .ok (.bl (isT t n)) S1 | none => .stuck := of_eq_true (eq_self _)
@[simp] theorem eCall_ap {n : Nat} {k : GD} {dv : List D} : eCall n k dv a δ S = (a δ S).bind fun ds S1 => callD n k dv ds S1 := of_eq_true (eq_self _)
@[simp] theorem eM_ap {T : String} {k : D → GD} : eM T k f a δ S = (f δ S).bind fun x S1 => if isTy T S1 x = true then (a δ S1).bind fun ds S2 => k x ds S2 else .stuck := of_eq_true (eq_self _)
@[simp] theorem eM0_ap {T : String} {k : D → GD} : eM0 T k f δ S = (f δ S).bind fun x S1 => if isTy T S1 x = true then k x [] S1 else .stuck := of_eq_true (eq_self _)
@[simp] theorem eIsN_ap : eIsN f δ S = (f δ S).bind fun x S1 => match isNone x with | some b => .ok (.bl b) S1 | none => .stuck := of_eq_true (eq_self _)
@[simp] theorem eNotN_ap : eNotN f δ S = (f δ S).bind fun x S1 => match isNone x with | some b => .ok (.bl (!b)) S1 | none => .stuck := of_eq_true (eq_self _)
@[simp] theorem oNone_ap : oNone δ S = .ok none S := of_eq_true (eq_self _)
@[simp] theorem oSome_ap : oSome f δ S = (f δ S).bind fun x S1 => match x with | .int i => .ok (some i) S1 | _ => .stuck := of_eq_true (eq_self _)
@[simp] theorem eSl_ap {l k : DO} : eSl f l k δ S = (f δ S).bind fun x S1 => (l δ S1).bind fun lo S2 => (k δ S2).bind fun hi S3 => dSl x lo hi S3 := of_eq_true (eq_self _)
@[simp] theorem iTup_ap : iTup f δ S = (f δ S).bind fun x S1 => match x with | .tup xs => .ok (xs, none) S1 | _ => .stuck := of_eq_true (eq_self _)
@[simp] theorem iStr_ap : iStr f δ S = (f δ S).bind fun x S1 => match x with | .str z => .ok (z.cps.toList.map fun c => .str ⟨#[c]⟩, none) S1 | _ => .stuck := of_eq_true (eq_self _)
@[simp] theorem iRange1_ap : iRange1 a δ S = (a δ S).bind fun ds S1 => match ds with
  | [.int j] => if -(2 ^ 62) ≤ j ∧ j < 2 ^ 62 then .ok (rngD 0 j.toNat, none) S1 else .stuck
  | _ => .stuck := of_eq_true (eq_self _)
@[simp] theorem iRange2_ap : iRange2 a δ S = (a δ S).bind fun ds S1 => match ds with
  | [.int i, .int j] => if -(2 ^ 62) ≤ i ∧ i < 2 ^ 62 ∧ -(2 ^ 62) ≤ j ∧ j < 2 ^ 62 then .ok (rngD i (j - i).toNat, none) S1 else .stuck
  | _ => .stuck := of_eq_true (eq_self _)
@[simp] theorem setAll_nil {α : Type} {l : List (Option α)} : setAll l [] = l := of_eq_true (eq_self _)
@[simp] theorem setAll_cons {α : Type} {l : List (Option α)} {p : Nat × α} {r : List (Nat × α)} : setAll l (p :: r) = setAll (l.set p.1 (some p.2)) r := of_eq_true (eq_self _)
@[simp] theorem wipeD_nil : wipeD δ [] = δ := of_eq_true (eq_self _)
@[simp] theorem wipeD_cons {l : List Nat} : wipeD δ (i :: l) = (wipeD δ l).set i none := of_eq_true (eq_self _)
@[simp] theorem ckS_none : ckS none S = True := of_eq_true (eq_self _)
/-! operators -/
@[simp] theorem dAdd_int : dAdd (.int x) (.int y) S = .ok (.int (x + y)) S := of_eq_true (eq_self _)
@[simp] theorem dAdd_str : dAdd (.str u) (.str v) S = if u.length + v.length ≤ sizeLine then .ok (.str (u ++ v)) S else .stuck := of_eq_true (eq_self _)
@[simp] theorem dAdd_tup : dAdd (.tup xs) (.tup ys) S = if xs.length + ys.length ≤ sizeLine then .ok (.tup (xs ++ ys)) S else .stuck := of_eq_true (eq_self _)
@[simp] theorem dSub_int : dSub (.int x) (.int y) S = .ok (.int (x - y)) S := of_eq_true (eq_self _)
theorem dMul_int (h : IntMulOk x y) : dMul (.int x) (.int y) S = .ok (.int (x * y)) S := if_pos h
theorem dDiv_int (h : 0 < y) (h' : y.natAbs.log2 < 9000) : dDiv (.int x) (.int y) S = .ok (.int (x / y)) S := if_pos ⟨h, h'⟩
theorem dMod_int (h : 0 < y) : dMod (.int x) (.int y) S = .ok (.int (x % y)) S := if_pos h
theorem dPow_int (h : CPow x y) : dPow (.int x) (.int y) S = .ok (.int (x ^ y.toNat)) S := if_pos h
@[simp] theorem dLt_int : dLt (.int x) (.int y) S = .ok (.bl (decide (x < y))) S := of_eq_true (eq_self _)
@[simp] theorem dLe_int : dLe (.int x) (.int y) S = .ok (.bl (decide (x ≤ y))) S := of_eq_true (eq_self _)
@[simp] theorem dLe_str : dLe (.str u) (.str v) S = .ok (.bl (!ltS v u)) S := of_eq_true (eq_self _)
@[simp] theorem dGt_int : dGt (.int x) (.int y) S = .ok (.bl (decide (y < x))) S := of_eq_true (eq_self _)
@[simp] theorem dGe_int : dGe (.int x) (.int y) S = .ok (.bl (decide (y ≤ x))) S := of_eq_true (eq_self _)
@[simp] theorem dEq_int {n : Nat} : dEq n (.int x) (.int y) S = .ok (.bl (decide (x = y))) S := of_eq_true (eq_self _)
@[simp] theorem dEq_str {n : Nat} : dEq n (.str u) (.str v) S = .ok (.bl (decide (u = v))) S := of_eq_true (eq_self _)
@[simp] theorem dNe_int {n : Nat} : dNe n (.int x) (.int y) S = .ok (.bl (!decide (x = y))) S := of_eq_true (eq_self _)
@[simp] theorem dNe_str {n : Nat} : dNe n (.str u) (.str v) S = .ok (.bl (!decide (u = v))) S := of_eq_true (eq_self _)
@[simp] theorem bMin2_int : bMin2 [.int x, .int y] S = .ok (.int (if y < x then y else x)) S := of_eq_true (eq_self _)
@[simp] theorem bMax2_int : bMax2 [.int x, .int y] S = .ok (.int (if y > x then y else x)) S := of_eq_true (eq_self _)
@[simp] theorem bAbs_int : bAbs [.int x] S = .ok (.int (if x < 0 then -x else x)) S := of_eq_true (eq_self _)
@[simp] theorem bLen_str : bLen [.str u] S = if u.length ≤ sizeLine then .ok (.int u.length) S else .stuck := of_eq_true (eq_self _)
@[simp] theorem bLen_lst : bLen [.lst xs] S = .ok (.int xs.length) S := of_eq_true (eq_self _)
@[simp] theorem bLen_tup : bLen [.tup xs] S = .ok (.int xs.length) S := of_eq_true (eq_self _)
@[simp] theorem bLen_scr : bLen [.scr xs] S = .ok (.int xs.length) S := of_eq_true (eq_self _)
@[simp] theorem dIx_lst : dIx (.lst xs) (.int x) S = (match atD xs x with | some d => .ok d S | none => .stuck) := of_eq_true (eq_self _)
@[simp] theorem dIx_tup : dIx (.tup xs) (.int x) S = (match atD xs x with | some d => .ok d S | none => .stuck) := of_eq_true (eq_self _)
@[simp] theorem dIx_scr : dIx (.scr xs) (.int x) S = (match atD xs x with | some d => .ok d S | none => .stuck) := of_eq_true (eq_self _)
@[simp] theorem dIx_str : dIx (.str u) (.int x) S = (match atD u.cps.toList x with | some c => if u.length ≤ sizeLine then .ok (.str ⟨#[c]⟩) S else .stuck | none => .stuck) := of_eq_true (eq_self _)
/-! calls -/
def endD (o : OS) : Out D := match o with
  | .nx _ S' => .ok .non S'
  | .rt d S' => .ok d S'
  | .exc C fs _ S' => .exc C fs S'
  | _ => .stuck
@[simp] theorem endD_nx : endD (.nx δ S) = .ok .non S := of_eq_true (eq_self _)
@[simp] theorem endD_rt : endD (.rt d S) = .ok d S := of_eq_true (eq_self _)
@[simp] theorem endD_exc {C : Str} {fs : List (Str × D)} : endD (.exc C fs δ S) = .exc C fs S := of_eq_true (eq_self _)
theorem runD_ap {n : Nat} {ds : List D} : runD n z ds S = endD (z (ds.map some ++ List.replicate (n - ds.length) none) S) := by
  unfold runD endD
  rfl
theorem call_pure {n : Nat} {k : GD} {ds : List D} {r : D} (hl : ds.length = n) (h1 : norefs ds = true) (h2 : ∃ S', k ds [] = .ok r S') (h3 : noref r = true) : callD n (pureD k) [] ds S = .ok r S := by
  obtain ⟨S', h2⟩ := h2
  unfold callD
  rw [List.append_nil, if_pos hl]
  unfold pureD
  rw [if_pos h1, h2]
  exact if_pos h3
theorem call_mut {n : Nat} {k : GD} {ds : List D} (hl : ds.length = n) : callD n k [] ds S = k ds S := by
  unfold callD
  rw [List.append_nil, if_pos hl]
@[simp] theorem lcEnd_f : lcEnd false xs ys S = .ok (.lst (xs ++ ys)) S := of_eq_true (eq_self _)
@[simp] theorem lcEnd_t : lcEnd true xs ys S = .ok (.ref S.length) (S ++ [some (.lst (xs ++ ys))]) := of_eq_true (eq_self _)
@[simp] theorem bAll_lst : bAll [.lst xs] S = match blsOf xs with | some bs => .ok (.bl (bs.all fun b => b)) S | none => .stuck := by cases h : blsOf xs <;> simp [bAll, seq1, seqOf, lstOf, h]
@[simp] theorem bAny_lst : bAny [.lst xs] S = match blsOf xs with | some bs => .ok (.bl (bs.any fun b => b)) S | none => .stuck := by cases h : blsOf xs <;> simp [bAny, seq1, seqOf, lstOf, h]
@[simp] theorem bSum_lst : bSum [.lst xs] S = match intsOf xs with | some bs => .ok (.int bs.sum) S | none => .stuck := by cases h : intsOf xs <;> simp [bSum, seq1, seqOf, lstOf, h]
@[simp] theorem eLc_ap {live : Bool} {vs : List Nat} {w : DI} {gg : DG} : eLc live vs w gg t f δ S = (w δ S).bind fun p S1 => if p.1.length ≤ sizeLine then
  (compD gg t f p.2 (wipeD δ vs) p.1 S1).bind (lcEnd live []) else .stuck := of_eq_true (eq_self _)
/-! loops -/
theorem atD_nat {α : Type} {l : List α} {k : Nat} {e : α} (h : l[k]? = some e) : atD l (k : Int) = some e := by
  unfold atD ixN
  obtain ⟨hk, he⟩ := List.getElem?_eq_some_iff.mp h
  simp [hk, he]
theorem atD_int {α : Type} {l : List α} {x : Int} (h0 : 0 ≤ x) (h1 : x < l.length) : ∃ e, l[x.toNat]? = some e ∧ atD l x = some e := by
  have hk : x.toNat < l.length := by omega
  refine ⟨l[x.toNat], List.getElem?_eq_getElem hk, ?_⟩
  have := atD_nat (l := l) (k := x.toNat) (List.getElem?_eq_getElem hk)
  rwa [Int.toNat_of_nonneg h0] at this
theorem for_inv (I : Env → Store → Prop) {g : DG} {f : DS} : ∀ {items : List D} {δ : Env} {S : Store}, I δ S →
    (∀ d ∈ items, ∀ δ S, I δ S → ∃ da, g d S = some da ∧ ∃ δ' S', (f (setAll δ da) S = .nx δ' S' ∨ f (setAll δ da) S = .ct δ' S') ∧ I δ' S') → ∃ δ' S', forD none g f items δ S = .nx δ' S' ∧ I δ' S'
  | [], δ, S, h, _ => ⟨δ, S, by unfold forD; exact if_pos trivial, h⟩
  | d :: items, δ, S, h, hs => by
    obtain ⟨da, h1, δ', S', h2, h3⟩ := hs d (List.mem_cons_self ..) δ S h
    obtain ⟨δ2, S2, h4, h5⟩ := for_inv I (items := items) h3 fun d hd => hs d (List.mem_cons_of_mem _ hd)
    refine ⟨δ2, S2, ?_, h5⟩
    unfold forD
    rw [if_pos (show ckS none S from trivial), h1]
    rcases h2 with h2 | h2 <;> (simp only [h2]; exact h4)
theorem comp_map {g : DG} {t : DT} {f : DE} {δ : Env} {S : Store} (k : D → D) : ∀ {items : List D}, (∀ d ∈ items, ∃ da, g d S = some da ∧ t (setAll δ da) S = .ok true S ∧ f (setAll δ da) S = .ok (k d) S) → compD g t f none δ items S = .ok (items.map k) S
  | [], _ => by unfold compD; exact if_pos trivial
  | d :: items, h => by
    obtain ⟨da, h1, h2, h3⟩ := h d (List.mem_cons_self ..)
    have ih := comp_map k (items := items) fun d hd => h d (List.mem_cons_of_mem _ hd)
    unfold compD
    rw [if_pos (show ckS none S from trivial), h1]
    simp only [h2, h3, noX, bind_ok, if_true, ih, List.map_cons]
theorem comp_filter {g : DG} {t : DT} {f : DE} {δ : Env} {S : Store} (p : D → Bool) (k : D → D) : ∀ {items : List D}, (∀ d ∈ items, ∃ da, g d S = some da ∧ t (setAll δ da) S = .ok (p d) S ∧ (p d = true → f (setAll δ da) S = .ok (k d) S)) → compD g t f none δ items S = .ok ((items.filter p).map k) S
  | [], _ => by unfold compD; exact if_pos trivial
  | d :: items, h => by
    obtain ⟨da, h1, h2, h3⟩ := h d (List.mem_cons_self ..)
    have ih := comp_filter p k (items := items) fun d hd => h d (List.mem_cons_of_mem _ hd)
    unfold compD
    rw [if_pos (show ckS none S from trivial), h1]
    cases hp : p d with
    | true => simp only [h2, hp, h3 hp, noX, bind_ok, if_true, ih, List.map_cons, List.filter_cons]
    | false => simp [h2, hp, noX, ih]
theorem comp_ex (P : D → Prop) {g : DG} {t : DT} {f : DE} {δ : Env} {S : Store} : ∀ {items : List D}, (∀ d ∈ items, ∃ da, g d S = some da ∧ t (setAll δ da) S = .ok true S ∧ ∃ y, f (setAll δ da) S = .ok y S ∧ P y) → ∃ ys, compD g t f none δ items S = .ok ys S ∧ ys.length = items.length ∧ ∀ y ∈ ys, P y
  | [], _ => ⟨[], by unfold compD; exact if_pos trivial, rfl, fun _ h => nomatch h⟩
  | d :: items, h => by
    obtain ⟨da, h1, h2, y, h3, h4⟩ := h d (List.mem_cons_self ..)
    obtain ⟨ys, e1, e2, e3⟩ := comp_ex P (items := items) fun d hd => h d (List.mem_cons_of_mem _ hd)
    refine ⟨y :: ys, ?_, by simp [e2], fun z hz => ?_⟩
    · unfold compD
      rw [if_pos (show ckS none S from trivial), h1]
      simp only [h2, h3, noX, bind_ok, if_true, e1]
    · rcases List.mem_cons.mp hz with rfl | hz
      · exact h4
      · exact e3 z hz
theorem mem_rng {lo : Int} {n : Nat} {d : D} (h : d ∈ rngD lo n) : ∃ i : Nat, i < n ∧ d = .int (lo + i) := by
  unfold rngD at h
  obtain ⟨i, hi, rfl⟩ := List.mem_map.mp h
  exact ⟨i, List.mem_range.mp hi, rfl⟩
/-! texts of bounded length, of real signs -/
structure TX (n : Nat) (s : Str) : Prop where
  len : s.length ≤ n
  cps : ∀ c ∈ s.cps.toList, c < 1114112
theorem TX.app {n m : Nat} {s t : Str} (h : TX n s) (h' : TX m t) : TX (n + m) (s ++ t) := by
  have e : (s ++ t).cps.toList = s.cps.toList ++ t.cps.toList := by show (s.cps ++ t.cps).toList = _; simp
  refine ⟨?_, fun c hc => ?_⟩
  · have : (s ++ t).length = s.length + t.length := by show (s.cps ++ t.cps).size = _; simp [Str.length]
    rw [this]; exact Nat.add_le_add h.len h'.len
  · rw [e] at hc
    rcases List.mem_append.mp hc with hc | hc
    · exact h.cps c hc
    · exact h'.cps c hc
theorem TX.le {n m : Nat} {s : Str} (h : TX n s) (l : n ≤ m) : TX m s := ⟨Nat.le_trans h.len l, h.cps⟩
theorem TX.cut {n : Nat} {s : Str} (h : TX n s) (lo hi : Option Int) : TX n (cutS s lo hi) := by
  refine ⟨Nat.le_trans (cutS_length s lo hi) h.len, fun c hc => ?_⟩
  unfold cutS at hc
  simp only [List.toList_toArray] at hc
  exact h.cps c (List.mem_of_mem_drop (List.mem_of_mem_take hc))
theorem TX.one {c : Nat} (h : c < 1114112) : TX 1 ⟨#[c]⟩ := ⟨Nat.le_refl _, fun d hd => by have : d ∈ [c] := hd; rw [List.mem_singleton.mp this]; exact h⟩
def txB (n : Nat) (s : Str) : Bool := decide (s.length ≤ n) && s.cps.toList.all fun c => decide (c < 1114112)
theorem TX.of {n : Nat} {s : Str} (h : txB n s = true) : TX n s := by
  rw [txB, Bool.and_eq_true] at h
  exact ⟨of_decide_eq_true h.1, fun c hc => of_decide_eq_true (List.all_eq_true.mp h.2 c hc)⟩
theorem TX.join {n : Nat} : ∀ {l : List Str}, (∀ s ∈ l, TX n s) → TX (l.length * n) (Str.join Str.empty l)
  | [], _ => ⟨Nat.zero_le _, fun c h => by have : c ∈ ([] : List Nat) := h; cases this⟩
  | [x], h => by rw [List.length_singleton, Nat.one_mul]; exact h x (List.mem_singleton.mpr rfl)
  | x :: y :: r, h => by
    have ih := TX.join (l := y :: r) fun s hs => h s (List.mem_cons_of_mem _ hs)
    have e : Str.join Str.empty (x :: y :: r) = x ++ Str.empty ++ Str.join Str.empty (y :: r) := rfl
    rw [e]
    refine (((h x (List.mem_cons_self ..)).app (m := 0) ⟨Nat.le_refl _, fun c h => by have : c ∈ ([] : List Nat) := h; cases this⟩).app ih).le ?_
    simp only [List.length_cons]
    rw [Nat.add_one_mul (r.length + 1)]
    omega
theorem tx_str {n : Nat} (h : n < 10 ^ 600) : TX 601 (Str.ofString (toString (n : Int))) := by
  have e : Str.ofString (toString (n : Int)) = ⟨((Nat.toDigits 10 n).map Char.toNat).toArray⟩ := PyProof.Rows.text_ofNat n
  rw [e]
  refine ⟨?_, fun c hc => ?_⟩
  · show ((Nat.toDigits 10 n).map Char.toNat).toArray.size ≤ 601
    rw [List.size_toArray, List.length_map]
    exact Nat.le_trans (m := 600) (PyProof.Rows.digits10_le (k := 600) (by decide) h) (by decide)
  · simp only [List.toList_toArray] at hc
    obtain ⟨d, _, rfl⟩ := List.mem_map.mp hc
    have := d.valid
    show d.val.toNat < 1114112
    rcases this with h | h
    · exact Nat.lt_trans h (by decide)
    · exact h.2
@[simp] theorem bRepr_bl {n : Nat} {b : Bool} : bRepr n [.bl b] S = .ok (.str (if b then "True" else "False")) S := by
  cases n <;> cases b <;> (unfold bRepr; simp only [pyOf, pyG]; exact if_pos (by decide +kernel))
@[simp] theorem bRepr_non {n : Nat} : bRepr n [.non] S = .ok (.str "None") S := by
  cases n <;> (unfold bRepr; simp only [pyOf, pyG]; exact if_pos (by decide +kernel))
theorem bRepr_int {n : Nat} {x : Int} (h : x.natAbs.log2 < 1920) : bRepr n [.int x] S = .ok (.str (toString x)) S := by
  cases n <;> (unfold bRepr; simp only [pyOf, pyG]; exact if_pos ⟨decide_eq_true h, rfl, by simp [PyData.depth], by simpa [PyData.shown] using int_text_fits h⟩)
@[simp] theorem blsOf_map {α : Type} (k : α → Bool) (l : List α) : blsOf (l.map fun x => .bl (k x)) = some (l.map k) := by
  induction l with
  | nil => rfl
  | cons x l ih => simp only [List.map_cons, blsOf, ih, Option.map_some]
@[simp] theorem intsOf_map {α : Type} (k : α → Int) (l : List α) : intsOf (l.map fun x => .int (k x)) = some (l.map k) := by
  induction l with
  | nil => rfl
  | cons x l ih => simp only [List.map_cons, intsOf, ih, Option.map_some]
@[simp] theorem strsOf_map {α : Type} (k : α → Str) (l : List α) : strsOf (l.map fun x => .str (k x)) = some (l.map k) := by
  induction l with
  | nil => rfl
  | cons x l ih => simp only [List.map_cons, strsOf, ih, Option.map_some]
end
end Mi
namespace Mi
open PySem L2
/-! an error that is caught is kept -/
section
variable {X : Cx} {pins : List (Addr × Obj)} {σ : St} {H : Hp} {s : Shared}
theorem exo_is {P : Program} {w : World} {h : Heap} {a CA : Addr} {d : Option Addr} {oe : Obj} {vs : Array Value} (e : h.get? a = some oe) (h1 : oe.cls = .ref CA) (h2 : oe.dict = d) (h3 : oe.data = .fields vs) : ObjOk P w H h a (ExcO a CA d) :=
  ⟨⟨oe, vs, e, h1, h2, h3⟩, ⟨oe, e⟩, fun _ _ ⟨o, v, q, r⟩ k => ⟨o, v, k o q, r⟩⟩
theorem adopt_exc {a CA : Addr} {d : Option Addr} {oe : Obj} {vs : Array Value} (I : Inv X ((a, oe) :: pins) σ H s) (h0 : X.s_0.heap.get? a = none) (hp : ∀ p ∈ X.pn ++ pins, p.1 ≠ a)
    (h1 : oe.cls = .ref CA) (h2 : oe.dict = d) (h3 : oe.data = .fields vs) : Inv X pins σ (upd H a (ExcO a CA d)) s := by
  obtain ⟨ea, na, aL, aF, _⟩ := I.pin (a, oe) (List.mem_append_right _ (List.mem_cons_self ..))
  have old : ∀ {b : Addr} {o : Obj}, X.s_0.heap.get? b = some o → b ≠ a := fun {b o} e z => by
    rw [z, h0] at e
    exact nomatch e
  have nn : ∀ {b : Addr} {o : HO}, H b = some o → upd H a (ExcO a CA d) b = some o := fun {b o} e => by
    rw [upd_ne (ne_of_none e na)]
    exact e
  refine { ok := I.ok, os := I.os, bare := I.bare, base := ?_, loc := I.loc, cell := I.cell, free := ?_, freeC := ?_, pin := ?_, hok := ?_, len := I.len }
  · exact { keep := I.base.keep, slot := I.base.slot, free := fun b o e n x => by
              rw [upd_ne (old e)]
              exact I.base.free b o e n x,
            there := I.base.there, tups := fun b xs e => nn (I.base.tups b xs e), frzs := fun b o u e => nn (I.base.frzs b o u e), tbls := fun b ps e => by
              obtain ⟨more, q⟩ := I.base.tbls b ps e
              exact ⟨more, nn q⟩ }
  · rw [upd_ne (Ne.symm aL)]
    exact I.free
  · intro x c e
    obtain ⟨v, o, ho, hc⟩ := I.cell x c e
    rw [upd_ne fun z => by rw [z, ea] at ho; cases ho; rw [h3] at hc; exact nomatch hc]
    exact I.freeC x c e
  · intro p hm
    have hm' : p ∈ X.pn ++ (a, oe) :: pins := by
      rcases List.mem_append.mp hm with z | z
      · exact List.mem_append_left _ z
      · exact List.mem_append_right _ (List.mem_cons_of_mem _ z)
    obtain ⟨q1, q2, q3⟩ := I.pin p hm'
    refine ⟨q1, ?_, q3⟩
    rw [upd_ne (hp p hm)]
    exact q2
  · intro b u e
    by_cases hb : b = a
    · rw [hb, upd_same] at e
      cases e
      rw [hb]
      exact exo_is ea h1 h2 h3
    · rw [upd_ne hb] at e
      exact (I.hok b u e).stay (fun c v _ q => q) (fun c q => nn q) fun c xs q => nn q
/-- the end of a suite, the error's own object still told -/
theorem out_of_suite {a : Addr} {oe : Obj} (J : Inv (X.suite a ((a, oe) :: (X.pn ++ pins))) [] σ H s) (ok : X.Ok) : Inv X ((a, oe) :: pins) σ H s where
  ok := ok
  os := J.os
  bare := J.bare
  base := J.base
  loc := J.loc
  cell := J.cell
  free := J.free
  freeC := J.freeC
  pin := fun p hm => J.pin p (by
    rw [List.append_nil]
    rcases List.mem_append.mp hm with z | z
    · exact List.mem_cons_of_mem _ (List.mem_append_left _ z)
    · rcases List.mem_cons.mp z with z | z
      · rw [z]; exact List.mem_cons_self ..
      · exact List.mem_cons_of_mem _ (List.mem_append_right _ z))
  hok := J.hok
  len := J.len
/-- what the clause wishes: an error that it takes; behind its suite (slot j gets what slot i has) the error is kept -/
def wKeep (K : PySem.W.Frag) (c : Value) (i j : Nat) (D : Ends) : WX := fun cls d σ H => ∃ CA : Addr, cls = .ref CA ∧ PySem.W.exmOne K cls c = some true ∧
  ∀ a, H a = none → ∃ v, (σ.set i (some (.ref a)))[i]? = some (some v) ∧ D.nx (((σ.set i (some (.ref a))).set j (some v)).set i none) (upd H a (ExcO a CA d))
end
section
variable {X : Cx} {x n : Str} {c : Value} {i j : Nat} {body suite : List Stmt} {b0 : Stmt} {np pos pos' : Pos} {tb : WX → TS}
theorem ps_keep (hx : X.ex = []) (hs : X.stack = X.env :: X.outer) (hf : X.env.frame = some X.env.locals) (hN : X.N.Nodup) (hi : X.N[i]? = some n) (hln : X.env.kindOf n = some .local) (hc : Names X x c)
    (hb : ∀ (W : WX) (pn : List (Addr × Obj)) (xe : Value → Shared → Prop), Takes (X.tr pn xe) W → PassesOwn (model X.prog X.w) X.A X.env xe → PSs (X.tr pn xe) body (tb W))
    (hsu : ∀ (a : Addr) (oe : Obj) (pn : List (Addr × Obj)), PSs (X.suite a ((a, oe) :: pn)) (b0 :: suite) (fun D σ H => ∃ v, σ[i]? = some (some v) ∧ D.nx (σ.set j (some v)) H)) :
    PS X (.Try body [.ExceptHandler (some (.Name x np)) (some n) (b0 :: suite) pos'] [] [] pos) (fun D σ H => tb (wKeep X.K c i j D) D σ H) := by
  constructor
  intro pins s σ H D I h
  have ok := I.ok
  have frames : X.A.frames = some (X.env :: X.outer) := ok.frames.trans (congrArg some hs)
  -- from the air to the end of the suite
  have caught : ∀ u s', XE (X.tr (X.pn ++ pins) fun e t => wpAny (model X.prog X.w) X.A (noteFrame e X.env) (fun _ t2 => wpAny (model X.prog X.w) X.A (setFlight e none) (fun _ t3 =>
      wpAny (model X.prog X.w) X.A (handleBy e X.env [.ExceptHandler (some (.Name x np)) (some n) (b0 :: suite) pos']) (SP X pins D) X.xe t3) X.xe t2) X.xe t) (wKeep X.K c i j D) u s' →
      wpAny (model X.prog X.w) X.A (noteFrame u X.env) (fun _ t2 => wpAny (model X.prog X.w) X.A (setFlight u none) (fun _ t3 =>
        wpAny (model X.prog X.w) X.A (handleBy u X.env [.ExceptHandler (some (.Name x np)) (some n) (b0 :: suite) pos']) (SP X pins D) X.xe t3) X.xe t2) X.xe s' := by
    rintro u s' ⟨a, B, sI, pins', σ1, H1, cls, d, eu, J', below, up, sky, na, os, ag, CA, ec, takes, wish⟩
    subst eu ec
    have J : Inv X pins σ1 H1 sI := J'.ofTry ok
    have sky2 : Sky B (X.env :: X.outer) a (Zc (.ref CA) d) X.env.locals s'.heap := hs ▸ sky
    refine Sky.land Zc.steady frames hf sky2 fun g fl upg => ?_
    obtain ⟨og, vg, eg, zg, dg⟩ := fl.there
    have outF : a ∉ frs (X.env :: X.outer) := by
      intro hm
      obtain ⟨_, o2, e2, bad⟩ := fl.2.2.1.mem hm
      rw [eg] at e2
      cases e2
      exact bad _ dg
    have newI : sI.heap.get? a = none := by
      cases z : sI.heap.get? a with
      | none => rfl
      | some o =>
        have w := below a o z (by rw [show (X.tr _ _).stack = X.stack from rfl, hs]; exact outF)
        rw [fl.2.1] at w
        exact nomatch w
    have new0 : X.s_0.heap.get? a = none := by
      cases z : X.s_0.heap.get? a with
      | none => rfl
      | some o =>
        obtain ⟨o2, w⟩ := J.base.there a o z (by rw [hx]; exact fun q => nomatch q)
        rw [newI] at w
        exact nomatch w
    have apart : ∀ p ∈ X.pn ++ pins, p.1 ≠ a := fun p hp z => by
      have w := (J.pin p hp).1
      rw [z, newI] at w
      exact nomatch w
    have notL : a ≠ X.env.locals := fun z => outF (List.mem_filterMap.mpr ⟨X.env, List.mem_cons_self .., by rw [hf, z]⟩)
    have notF : a ∉ X.fs := fun hm => by
      obtain ⟨e, he, q⟩ := List.mem_filterMap.mp hm
      exact outF (List.mem_filterMap.mpr ⟨e, List.mem_cons_of_mem _ he, q⟩)
    have Jg : Inv X pins σ1 H1 { s' with heap := g } := J.landed below fl.1 (up.trans upg) os ag
    have Sg := Jg.suite eg dg na notL notF
    refine wpAny_handleBy_cons (codeAny_handlers_test ?_) (fun q => nomatch q)
    have looks := PySem.W.exm_one (M := model X.prog X.w) Jg.kIn (fun A Q E s k q => wpAny_typeOf_ref (k _ _ eg) (by rw [zg.1]; exact q)) takes
    have named : ∀ {Q : Value → Shared → Prop} {E : Value → Shared → Prop}, Q c { s' with heap := g } → wpAny (model X.prog X.w) (X.A.mark (some (.ref a))) (eval (.Name x np) X.env) Q E { s' with heap := g } := by
      intro Q E q
      obtain ⟨gl, db, m | ⟨m, b, nn⟩⟩ := hc
      · exact ld_glob (X := X.suite a ((a, og) :: (X.pn ++ pins))) Sg gl m q db
      · exact ld_blt (X := X.suite a ((a, og) :: (X.pn ++ pins))) Sg gl m b q nn db
    refine named (looks.here (codeAny_handlers_suite_as ?_))
    refine HandSPX.lands_againZ fl fun k fl2 up2 => ?_
    obtain ⟨ok2, vk, ek, zk, dk⟩ := fl2.there
    have Jk : Inv X pins σ1 H1 { s' with heap := k } := J.landed below fl2.1 ((up.trans upg).trans up2) os ag
    have Sk := Jk.suite ek dk na notL notF
    refine store_ok (X := X.suite a ((a, ok2) :: (X.pn ++ pins))) (v := .ref a) Sk hN hi (.inl hln) rfl (fun t St => ?_) (.inr hln)
    obtain ⟨v, gv, fin⟩ := wish a na
    refine wpAny_mono ((hsu a ok2 (X.pn ++ pins)).run [] t _ H1 { nx := fun σ2 H2 => σ2 = (σ1.set i (some (.ref a))).set j (some v) ∧ H2 = H1, rt := fun _ _ => False, bk := fun _ _ => False, ct := fun _ _ => False } St ⟨v, gv, rfl, rfl⟩) (fun f t2 hf2 => ?_) (fun _ _ z => z.elim)
    cases f with
    | next =>
      obtain ⟨σ2, H2, S2, e1, e2⟩ := hf2
      subst e1 e2
      exact gone_ok (out_of_suite S2 ok) hN hi hln fun t3 J3 => ⟨_, _, adopt_exc J3 new0 apart zk.1 zk.2 dk, fin⟩
    | brk => obtain ⟨_, _, _, z⟩ := hf2; exact z.elim
    | cont => obtain ⟨_, _, _, z⟩ := hf2; exact z.elim
    | ret u => obtain ⟨_, _, _, _, _, z⟩ := hf2; exact z.elim
  refine wpAny_Try_except (wpAny_mono ((hb (wKeep X.K c i j D) (X.pn ++ pins) _ caught PassesOwn.looking).run [] s σ H D (I.toTry _) h) (fun f t hf2 => ?_) fun _ _ z => z)
  cases f with
  | next => obtain ⟨σ2, H2, J2, q⟩ := hf2; exact wpAny_execs_nil ⟨σ2, H2, J2.ofTry ok, q⟩
  | brk => obtain ⟨σ2, H2, J2, q⟩ := hf2; exact ⟨σ2, H2, J2.ofTry ok, q⟩
  | cont => obtain ⟨σ2, H2, J2, q⟩ := hf2; exact ⟨σ2, H2, J2.ofTry ok, q⟩
  | ret u => obtain ⟨v, σ2, H2, J2, r, q⟩ := hf2; exact ⟨v, σ2, H2, J2.ofTry ok, r, q⟩
end
end Mi
namespace Mi
open PySem L2
/-! the classes of errors -/
def veBases : List Value := [.type "ValueError", .type "Exception", .type "BaseException", .type "object"]
structure ExcK (K : PySem.W.Frag) (a : Addr) : Prop where
  kp : PySem.W.keepIn K (.ref a) = true
  sb : PySem.W.subIn K (.ref a) (.type "BaseException") = some true
  ty : PySem.W.typeIn K (.ref a) = some (.type "type")
  ec : ExcC K a
/-- all errors are of one base -/
def subE (C T : Str) : Bool := decide (C = T) || decide (T = "CraneError")
/-- es: all classes of errors; pl: those without an __init__ of their own -/
structure ETab (K : PySem.W.Frag) (mg : Str → Option Value) (cl : Cl) (es pl : List Str) : Prop where
  at_ : ∀ C ∈ es, ∃ CA, cl C = some CA ∧ mg C = some (.ref CA) ∧ ExcK K CA
  new : ∀ C ∈ pl, ∀ CA, cl C = some CA → PySem.W.excIn K CA veBases "ValueError.__new__" = true
  kit : ∀ C ∈ es, ∀ T ∈ es, ∀ CA TA, cl C = some CA → cl T = some TA → PySem.W.kitOne K (.ref CA) (.ref TA) = some (subE C T)
  kitV : ∀ C ∈ es, ∀ CA, cl C = some CA → PySem.W.kitOne K (.ref CA) (.type "ValueError") = some true
  exm : ∀ C ∈ es, ∀ T ∈ es, ∀ CA TA, cl C = some CA → cl T = some TA → PySem.W.exmOne K (.ref CA) (.ref TA) = some (subE C T)
/-- one error caught in the heap -/
theorem exo_look {P : Program} {w : World} {H : Hp} {h : Heap} {a CA : Addr} {d : Option Addr} (hok : HOk P w H h) (e : H a = some (ExcO a CA d)) : ∃ o vs, h.get? a = some o ∧ o.cls = .ref CA ∧ o.dict = d ∧ o.data = .fields vs := by
  have x : ObjOk P w H h a (ExcO a CA d) := hok a _ e
  exact x.1
section
variable {X : Cx} {cl : Cl} {W : WX} {k : Nat} {es pl : List Str} {C : Str} {p p1 p2 p3 pos pos' np : Pos}
/-- isinstance(e, c) of an error that is kept -/
def rIsX (K : PySem.W.Frag) : List V → Hp → VK → Prop := fun xs H Q => ∃ (a D : Addr) (c : V) (cv : Value) (b : Bool), xs = [.ref a, c] ∧ H a = some (ExcO a D none) ∧ ExcC K D ∧ (∀ u, RelV c u → u = cv) ∧ PySem.W.kitOne K (.ref D) cv = some b ∧ Q (.bl b) H
theorem call_isX : CallR X (.builtin "isinstance") (rIsX X.K) := by
  intro pins s σ H xs us Q I r h
  obtain ⟨a, D, c, cv, b, e1, e2, ec, hc, hk, q⟩ := h
  subst e1
  obtain ⟨o, vs, g1, g2, g3, g4⟩ := exo_look I.hok e2
  have J : PySem.W.InstAt s.heap a o D none := by
    obtain ⟨oc, od, oda, osl⟩ := o
    dsimp only at g2 g3 g4
    subst g2 g3 g4
    exact ⟨g1, rfl, rfl, trivial⟩
  match us, r with
  | [_, uc], .cons ra (.cons rc .nil) =>
    cases ra
    rw [hc uc rc]
    exact PySem.W.kia_one (PySem.W.handS_kitx_exc ec.hg ec.hk ec.hs ec.hd ec.ha ec.hn ec.ht ec.hm) I.kIn J hk (fun z => nomatch z) fun tk => ⟨.bl b, H, I.kept (t' := tk) fun _ _ z => z, rfl, q⟩
def bIsX (es : List Str) : GD := fun ds S => match ds with
  | [.exc C [], .cls T] => if C ∈ es ∧ T ∈ es then .ok (.bl (subE C T)) S else .stuck
  | [.exc C [], .ty T] => if C ∈ es ∧ T = "ValueError" then .ok (.bl true) S else .stuck
  | _ => .stuck
theorem ex0_at {n : Nat} {mu : Mu} {H : Hp} {K : PySem.W.Frag} {v : V} (r : VRel K cl n mu H v (.exc C [])) : ∃ a CA, v = .ref a ∧ cl C = some CA ∧ H a = some (ExcO a CA none) := by
  generalize hf : ([] : List (Str × D)) = fs at r
  cases r with
  | ex0 h1 h2 _ => exact ⟨_, _, rfl, h1, h2⟩
  | @exd _ _ _ _ ks vs ds _ _ _ _ _ ne hl r =>
    cases ks with
    | nil => exact absurd rfl ne
    | cons x ks =>
      cases r with
      | nil => cases hl
      | cons _ _ => cases hf
theorem bok_isX (T : ETab X.K X.mg cl es pl) : BOk X cl W (rIsX X.K) (bIsX es) := fun mu S σ H vs ds Q s r q => by
  unfold bIsX at q
  split at q
  · split at q
    · rename_i C T' hm
      cases r with
      | cons r1 r2 =>
        cases r2 with
        | cons r2 r3 =>
          cases r3
          obtain ⟨a, CA, rfl, h1, h2⟩ := ex0_at r1
          cases r2 with
          | cls h3 =>
            obtain ⟨CA', h4, _, x⟩ := T.at_ _ hm.1
            rw [h1] at h4
            cases h4
            exact ⟨a, CA, _, _, _, rfl, h2, x.ec, (fun u z => z), T.kit _ hm.1 _ hm.2 _ _ h1 h3, Af.now q s (.bl _)⟩
    · exact q.elim
  · split at q
    · rename_i C T' hm
      cases r with
      | cons r1 r2 =>
        cases r2 with
        | cons r2 r3 =>
          cases r3
          obtain ⟨a, CA, rfl, h1, h2⟩ := ex0_at r1
          cases r2 with
          | ty _ =>
            obtain ⟨CA', h4, _, x⟩ := T.at_ _ hm.1
            rw [h1] at h4
            cases h4
            exact ⟨a, CA, _, .type "ValueError", _, rfl, h2, x.ec, (fun u z => by rw [hm.2] at z; exact z), T.kitV _ hm.1 _ h1, Af.now q s (.bl _)⟩
    · exact q.elim
  · exact q.elim
theorem fe_cls {CA : Addr} (h1 : X.mg C = some (.ref CA)) (h2 : cl C = some CA) (hg : Gl X C := by rfl) (hd : (C == ("__debug__" : Str)) = false := by decide) : FE X cl W (.Name C pos) (eC (.cls C)) :=
  fe_const (v := .ref CA) (pe_glob hg h1 rfl hd) fun _ _ _ => .cls h2
theorem fe_clsE (T : ETab X.K X.mg cl es pl) (hC : C ∈ es) (hg : Gl X C := by rfl) (hd : (C == ("__debug__" : Str)) = false := by decide) : FE X cl W (.Name C pos) (eC (.cls C)) := by
  obtain ⟨CA, h1, h2, _⟩ := T.at_ C hC
  exact fe_cls h2 h1 hg hd
theorem fe_valErr (hm : X.mg "ValueError" = none) (hg : Gl X "ValueError" := by rfl) : FE X cl W (.Name "ValueError" pos) (eC (.ty "ValueError")) :=
  fe_const (v := .ty "ValueError") (pe_bltn hg hm (by decide +kernel) rfl) fun _ _ _ => .ty _
theorem fe_isx {e e2 : Expr} {fa : DA} (T : ETab X.K X.mg cl es pl) (hm : X.mg "isinstance" = none) (ha : FA X cl W [e, e2] fa) (hg : Gl X "isinstance" := by rfl) (he : starEach [e, e2] X.env = (false, eval e X.env) :: starEach [e2] X.env := by rfl) (hpl : (backTo pos (starEach [e2] X.env)).any (·.1) = false := by rfl) :
    FE X cl W (.Call (.Name "isinstance" p) [e, e2] [] pos) (eB (bIsX es) fa) := fe_blt call_isX (bok_isX T) hm ha (by decide +kernel) hg (by decide) (by decide) he hpl
/-! raise -/
def sRaise (C : Str) : DS := fun δ S => .exc C [] δ S
theorem fs_raise {m : Str} {j : Nat} (G : Good X W k) (T : ETab X.K X.mg cl es pl) (hC : C ∈ pl) (hE : C ∈ es) (hg : Gl X C := by rfl) (hdb : (C == ("__debug__" : Str)) = false := by decide) :
    FS X cl W (.Raise (some (.Call (.Name C p) [.Constant (.str m) j p2] [] pos)) none pos') (sRaise C) := by
  obtain ⟨CA, h1, h2, x⟩ := T.at_ C hE
  exact fs_of (ps_raise G.calm G.tk (pmk_own PySem.F.excBase_ValueError (T.new C hC CA h1) h2 x.kp (raises_own x.sb x.ty) hg hdb)) fun mu δ S σ H D s r q => q CA none σ H mu h1 s.rfl' s r (.inl ⟨rfl, rfl⟩)
/-! try: .. except CraneError as n: m = n -/
def sTry (es : List Str) (B : Str) (i j : Nat) (z : DS) : DS := fun δ S => match z δ S with
  | .exc C fs δ' S' => if C ∈ es ∧ B ∈ es ∧ subE C B = true ∧ i < δ'.length then .nx (((δ'.set i (some (.exc C fs))).set j (some (.exc C fs))).set i none) S' else .stuck
  | o => o
theorem ERel.unset {K : PySem.W.Frag} {n : Nat} {mu : Mu} {H : Hp} {σ : St} {δ : Env} {i : Nat} (r : ERel K cl n mu H σ δ) : ERel K cl n mu H (σ.set i none) (δ.set i none) := by
  refine ⟨by rw [List.length_set, List.length_set]; exact r.1, fun j d e => ?_⟩
  by_cases hj : i = j
  · subst hj
    by_cases hl : i < δ.length
    · rw [List.getElem?_set_self hl] at e; cases e
    · rw [List.getElem?_eq_none (by rw [List.length_set]; omega)] at e; cases e
  · rw [List.getElem?_set_ne hj] at e ⊢
    exact r.2 j d e
theorem Good.tr {W' : WX} {pn : List (Addr × Obj)} {xe : Value → Shared → Prop} (G : Good X W k) (t : Takes (X.tr pn xe) W') (o : PassesOwn (model X.prog X.w) X.A X.env xe) : Good (X.tr pn xe) W' k :=
  ⟨G.calm, t, G.room, G.nd, G.grd, o⟩
theorem fs_try {i j : Nat} {n m B : Str} {body : List Stmt} {zb : DS} (G : Good X W k) (T : ETab X.K X.mg cl es pl) (hB : B ∈ es)
    (hb : ∀ (W' : WX) (pn : List (Addr × Obj)) (xe : Value → Shared → Prop), Good (X.tr pn xe) W' k → FSs (X.tr pn xe) cl W' body zb)
    (hs : X.stack = X.env :: X.outer := by rfl) (hf : X.env.frame = some X.env.locals := by rfl) (hi : X.N[i]? = some n := by rfl) (hln : X.env.kindOf n = some .local := by rfl) (hnv : Vis X.env.scope n := by exact Or.inl rfl) (hnd : (n == ("__debug__" : Str)) = false := by decide) (hnc : (n == ("__classdict__" : Str)) = false := by decide)
    (hj : X.N[j]? = some m := by rfl) (hmx : Loc X.env.scope m := by first | exact Or.inl rfl | exact Or.inr rfl) (hmf : X.fn m = true ∨ X.env.scope.names.lookup m = some .local := by first | exact Or.inl rfl | exact Or.inr rfl)
    (hsw : swapsWith (.Name n p2) (some (.Name m p1)) p3.line X.env = pure false := by rfl) (hg : Gl X B := by rfl) (hdb : (B == ("__debug__" : Str)) = false := by decide) (hx : X.ex = [] := by rfl) :
    FS X cl W (.Try body [.ExceptHandler (some (.Name B np)) (some n) [.Assign [.Name m p1] (.Name n p2) p3] pos'] [] [] pos) (sTry es B i j zb) := by
  obtain ⟨BA, b1, b2, _⟩ := T.at_ B hB
  refine fs_of (ps_keep (i := i) (j := j) (tb := fun W' => tS X.K cl W' zb) hx hs hf G.nd hi hln ⟨hg, hdb, .inl b2⟩ (fun W' pn xe tk po => (hb W' pn xe (G.tr tk po)).pss) (fun a oe pn => ?_)) fun mu δ S σ H D s r q => ?_
  · refine pss_imp (pss_one (ps_set (i := j) G.nd hj hmx (pe_var hi hnv hnd hnc) hsw hmf)) fun D σ H hh => ?_
    obtain ⟨v, e, d⟩ := hh
    exact ⟨v, e, d⟩
  · refine ⟨mu, δ, S, s, r, ?_⟩
    unfold sTry at q
    cases hz : zb δ S with
    | exc C fs δ' S' =>
      rw [hz] at q
      dsimp only at q
      split at q
      · rename_i hc
        intro CA dx σ' H' mu' hca e s' r' x
        refine ⟨CA, rfl, (T.exm C hc.1 B hB CA BA hca b1).trans (congrArg some hc.2.2.1), fun a na => ⟨.ref a, List.getElem?_set_self (by rw [r'.1]; exact hc.2.2.2), ?_⟩⟩
        have en := ext_new (o := ExcO a CA dx) s' na
        have vr : VRel X.K cl S'.length mu' (upd H' a (ExcO a CA dx)) (.ref a) (.exc C fs) := by
          rcases x with ⟨rfl, rfl⟩ | ⟨d, ks, vs, ds, rfl, hd, hdo, ne, rfl, hl, rr⟩
          · exact .ex0 hca upd_same (s'.ot na)
          · exact .exd hca upd_same (s'.ot na) (by rw [upd_ne (ne_of_none hd na)]; exact hd) hdo ne hl (rr.mono en)
        exact q _ _ mu' (e.trans en) (sr_new s' na) ((((r'.mono en).set vr).set vr).unset)
      · exact q.elim
    | nx δ' S' => rw [hz] at q; exact q
    | rt d S' => rw [hz] at q; exact q
    | bk δ' S' => rw [hz] at q; exact q
    | ct δ' S' => rw [hz] at q; exact q
    | stuck => rw [hz] at q; exact q
end
end Mi
namespace Mi
open PySem L2
/-! own classes: fields -/
/-- the classes and the names of their fields -/
abbrev Flds := List (Str × List Str)
def okF (cs : Flds) (C f : Str) : Bool := (cs.lookup C).any fun l => decide (f ∈ l)
structure CTab (K : PySem.W.Frag) (cl : Cl) (cs : Flds) : Prop where
  at_ : ∀ C f, okF cs C f = true → ∃ CA, cl C = some CA ∧ Cls K CA ∧ NoAttr K CA f
def putFD (f : Str) (v : D) : List (Str × D) → List (Str × D)
  | [] => [(f, v)]
  | (g, x) :: r => if g = f then (g, v) :: r else (g, x) :: putFD f v r
/-- fields of the heap and fields of the store -/
def FRel (K : PySem.W.Frag) (cl : Cl) (n : Nat) (mu : Mu) (H : Hp) (fv : List (Str × V)) (fd : List (Str × D)) : Prop := ∃ (ks : List Str) (vs : List V) (ds : List D), fv = ks.zip vs ∧ fd = ks.zip ds ∧ ks.length = vs.length ∧ VRels K cl n mu H vs ds
section
variable {K : PySem.W.Frag} {cl : Cl} {n : Nat} {mu : Mu} {H : Hp}
theorem FRel.nil : FRel K cl n mu H [] [] := ⟨[], [], [], rfl, rfl, rfl, .nil⟩
theorem FRel.cons {f : Str} {v : V} {d : D} {fv : List (Str × V)} {fd : List (Str × D)} (h : VRel K cl n mu H v d) (r : FRel K cl n mu H fv fd) : FRel K cl n mu H ((f, v) :: fv) ((f, d) :: fd) := by
  obtain ⟨ks, vs, ds, rfl, rfl, hl, rr⟩ := r
  exact ⟨f :: ks, v :: vs, d :: ds, rfl, rfl, by simp [hl], .cons h rr⟩
theorem FRel.inv {f : Str} {v : V} {fv : List (Str × V)} {fd : List (Str × D)} (r : FRel K cl n mu H ((f, v) :: fv) fd) : ∃ d fd', fd = (f, d) :: fd' ∧ VRel K cl n mu H v d ∧ FRel K cl n mu H fv fd' := by
  obtain ⟨ks, vs, ds, e, rfl, hl, rr⟩ := r
  cases ks with
  | nil => cases e
  | cons x ks =>
    cases rr with
    | nil => cases hl
    | cons h rr =>
      cases e
      exact ⟨_, _, rfl, h, ks, _, _, rfl, rfl, by simpa using hl, rr⟩
theorem FRel.inv0 {fd : List (Str × D)} (r : FRel K cl n mu H [] fd) : fd = [] := by
  obtain ⟨ks, vs, ds, e, rfl, hl, rr⟩ := r
  cases ks with
  | nil => rfl
  | cons x ks =>
    cases rr with
    | nil => cases hl
    | cons h rr => cases e
theorem FRel.len : ∀ {fv : List (Str × V)} {fd : List (Str × D)}, FRel K cl n mu H fv fd → fv.length = fd.length
  | [], _, r => by rw [r.inv0]; rfl
  | (f, v) :: fv, _, r => by
    obtain ⟨d, fd', rfl, _, r'⟩ := r.inv
    simp [FRel.len r']
theorem FRel.look {f : Str} {d : D} : ∀ {fv : List (Str × V)} {fd : List (Str × D)}, FRel K cl n mu H fv fd → fd.lookup f = some d → ∃ v, fv.lookup f = some v ∧ VRel K cl n mu H v d
  | [], _, r, e => by rw [r.inv0] at e; cases e
  | (g, v) :: fv, _, r, e => by
    obtain ⟨d', fd', rfl, h, r'⟩ := r.inv
    rw [List.lookup_cons] at e ⊢
    cases hb : f == g with
    | true => rw [hb] at e; cases e; exact ⟨v, rfl, h⟩
    | false => rw [hb] at e; exact FRel.look r' e
theorem FRel.put {f : Str} {v : V} {d : D} (h : VRel K cl n mu H v d) : ∀ {fv : List (Str × V)} {fd : List (Str × D)}, FRel K cl n mu H fv fd → FRel K cl n mu H (putF f v fv) (putFD f d fd)
  | [], _, r => by rw [r.inv0]; exact .cons h .nil
  | (g, x) :: fv, _, r => by
    obtain ⟨d', fd', rfl, h', r'⟩ := r.inv
    unfold putF putFD
    by_cases e : g = f
    · rw [if_pos e, if_pos e]; exact .cons h r'
    · rw [if_neg e, if_neg e]; exact .cons h' (FRel.put h r')
theorem FRel.mono {n1 : Nat} {mu1 : Mu} {H1 : Hp} {fv : List (Str × V)} {fd : List (Str × D)} (e : Ext n mu H n1 mu1 H1) (r : FRel K cl n mu H fv fd) : FRel K cl n1 mu1 H1 fv fd := by
  obtain ⟨ks, vs, ds, h1, h2, hl, rr⟩ := r
  exact ⟨ks, vs, ds, h1, h2, hl, rr.mono e⟩
theorem ins_fr {S : Store} {v : V} {d : D} {C : Str} {fs : List (Str × D)} (s : SR K cl mu H S) (r : VRel K cl S.length mu H v d) (e : insOf S d = some (C, fs)) :
    ∃ (a CA dx : Addr) (fv : List (Str × V)), v = .ref a ∧ cl C = some CA ∧ H a = some (.ins CA dx fv) ∧ FRel K cl S.length mu H fv fs := by
  obtain ⟨a, CA, dx, ks, vs, ds, h1, h2, h3, hl, rr, h4⟩ := ins_at s r e
  exact ⟨a, CA, dx, _, h1, h2, h3, ks, vs, ds, rfl, h4, hl, rr⟩
end
section
variable {X : Cx} {cl : Cl} {W : WX} {k : Nat} {cs : Flds} {f : Str} {pos pos' : Pos} {o value : Expr} {fo fv : DE}
def eFld (cs : Flds) (f : Str) (fo : DE) : DE := fun δ S => (fo δ S).bind fun x S1 => match insOf S1 x with
  | some (C, fs) => match fs.lookup f with
    | some d => if okF cs C f = true then .ok d S1 else .stuck
    | none => .stuck
  | none => .stuck
theorem fe_fld (T : CTab X.K cl cs) (ho : FE X cl W o fo) (hb : attributeBase o f X.env (eval o X.env) = eval o X.env := by rfl) : FE X cl W (.Attribute o f pos) (eFld cs f fo) :=
  fe_of (pe_fld ho.pe hb) fun mu δ S σ H Q s r q => by
    refine ⟨mu, δ, S, s, r, (Af.bind q).mono fun v H1 ⟨mu1, d, S1, s1, e1, r1, q1⟩ => ?_⟩
    split at q1
    · rename_i C fs hi
      split at q1
      · rename_i d' hl
        split at q1
        · rename_i hk
          obtain ⟨a, CA, dx, fv, rfl, hc, hH, fr⟩ := ins_fr s1 r1 hi
          obtain ⟨CA', hc', c, na⟩ := T.at_ _ _ hk
          rw [hc] at hc'; cases hc'
          obtain ⟨w, hw, rw'⟩ := fr.look hl
          exact ⟨a, CA, dx, fv, w, rfl, hH, c, na, hw, Af.now q1 s1 rw'⟩
        · exact q1.elim
      · exact q1.elim
    · exact q1.elim
def setF (cs : Flds) (f : Str) (l : Nat) (y : D) (S : Store) : Option Store := match S[l]? with
  | some (some (.ins C fs)) => if okF cs C f = true ∧ fs.length < 1000 then some (S.set l (some (.ins C (putFD f y fs)))) else none
  | _ => none
def sFldD (cs : Flds) (f : Str) (fo fv : DE) : DS := fun δ S => toS δ (fv δ S) fun y S1 => toS δ (fo δ S1) fun x S2 => match x with
  | .ref l => match setF cs f l y S2 with
    | some S3 => .nx δ S3
    | none => .stuck
  | _ => .stuck
theorem ERel.mono' {K : PySem.W.Frag} {n n1 : Nat} {mu mu1 : Mu} {H H1 : Hp} {σ : St} {δ : Env} (e : Ext n mu H n1 mu1 H1) (h : ERel K cl n mu H σ δ) : ERel K cl n1 mu1 H1 σ δ := h.mono e
theorem put_ins {K : PySem.W.Frag} {mu : Mu} {H : Hp} {S S3 : Store} {l : Nat} {y : D} {v w : V} (T : CTab K cl cs) (s : SR K cl mu H S) (r : VRel K cl S.length mu H v (.ref l)) (ry : VRel K cl S.length mu H w y) (e : setF cs f l y S = some S3) :
    ∃ a C dx fs, v = .ref a ∧ H a = some (.ins C dx fs) ∧ Cls K C ∧ NoAttr K C f ∧ fs.length < 1000 ∧ Ext S.length mu H S3.length mu (upd H a (.ins C dx (putF f w fs))) ∧ SR K cl mu (upd H a (.ins C dx (putF f w fs))) S3 := by
  unfold setF at e
  split at e
  · rename_i C fs hS
    split at e
    · rename_i hc
      cases e
      obtain ⟨a, rfl, hm, oo⟩ := ref_at s r hS
      cases oo with
      | @ins CA dx _ ks vs ds hcl hH hl rr =>
        obtain ⟨CA', hc', c, na⟩ := T.at_ _ _ hc.1
        rw [hcl] at hc'; cases hc'
        have fr : FRel K cl S.length mu H (ks.zip vs) (ks.zip ds) := ⟨ks, vs, ds, rfl, rfl, hl, rr⟩
        have ex := ext_put (o := .ins CA dx (putF f w (ks.zip vs))) (x := some (.ins C (putFD f y (ks.zip ds)))) s hm
        obtain ⟨ks', vs', ds', e1, e2, hl', rr'⟩ := (fr.put (f := f) ry).mono ex
        refine ⟨a, CA, dx, _, rfl, hH, c, na, by rw [fr.len]; exact hc.2, ex, sr_put s hm ?_⟩
        rw [e2] at rr' ⊢
        exact .ins hcl (by rw [upd_same, e1]) hl' rr'
    · cases e
  · cases e
theorem fs_fld (T : CTab X.K cl cs) (ho : FE X cl W o fo) (hv : FE X cl W value fv) (hs : swapsWith value (some (.Attribute o f pos')) pos.line X.env = pure false := by rfl) : FS X cl W (.Assign [.Attribute o f pos'] value pos) (sFldD cs f fo fv) :=
  fs_of (ps_fld ho.pe hv.pe hs) fun mu δ S σ H D s r q => by
    refine ⟨mu, δ, S, s, r, (AfS.toS r q).mono fun y H1 ⟨mu1, d, S1, s1, e1, r1, q1⟩ => ?_⟩
    refine ⟨mu1, δ, S1, s1, r.mono e1, (AfS.toS (r.mono e1) q1).mono fun x H2 ⟨mu2, d2, S2, s2, e2, r2, q2⟩ => ?_⟩
    split at q2
    · split at q2
      · rename_i S3 h3
        obtain ⟨a, C, dx, fs, rfl, hH, c, na, hl, ex, s3⟩ := put_ins T s2 r2 (r1.mono e2) h3
        exact ⟨a, C, dx, fs, rfl, hH, c, na, hl, q2 _ _ _ ex s3 (((r.mono e1).mono e2).mono ex)⟩
      · exact q2.elim
    · exact q2.elim
end
/-! own classes: methods and making -/
structure CalM (P : Program) (w : World) (K : PySem.W.Frag) (mg : Str → Option Value) (base : Heap) (cl : Cl) (j np : Nat) (C m : Str) (dv : List D) (g : GD) : Prop where
  ex : ∃ (CA f : Addr) (fd : FuncData) (ps : List Str) (dvs : List V) (dsv : List Value), cl C = some CA ∧ Cls K CA ∧ Meth K CA m f ∧ Binds K fd ps dsv ∧ Vals dvs dsv ∧ (∀ n mu H, VRels K cl n mu H dvs dv) ∧ FnG P w K mg base j f fd ps (spOf K cl np g)
structure CalN (P : Program) (w : World) (K : PySem.W.Frag) (mg : Str → Option Value) (base : Heap) (cl : Cl) (j np : Nat) (C : Str) (g : GD) : Prop where
  ex : ∃ (CA f : Addr) (fd : FuncData) (ps : List Str), cl C = some CA ∧ mg C = some (.ref CA) ∧ Mk K CA f ∧ Binds K fd ps [] ∧ FnG P w K mg base j f fd ps (spOf K cl np g)
theorem CalM.pure {P : Program} {w : World} {K : PySem.W.Frag} {mg : Str → Option Value} {base : Heap} {cl : Cl} {j np : Nat} {C m : Str} {dv : List D} {g : GD} (c : CalM P w K mg base cl j np C m dv g) : CalM P w K mg base cl j np C m dv (pureD g) := by
  obtain ⟨CA, f, fd, ps, dvs, dsv, h1, h2, h3, h4, h5, h6, h7⟩ := c.ex
  exact ⟨CA, f, fd, ps, dvs, dsv, h1, h2, h3, h4, h5, h6, h7.imp fun vs H Q E ⟨hl, mu, ds, S, s, r, q⟩ => pure_ok (σ := []) (W := W0) s r hl q⟩
section
variable {X : Cx} {cl : Cl} {W : WX} {k j np : Nat} {C m : Str} {g : GD} {dv : List D} {apos pos p : Pos} {o e : Expr} {es : List Expr} {fo : DE} {fa : DA}
/-- o.m(..) of an instance of C -/
def eMeth (C m : Str) (np : Nat) (g : GD) (dv : List D) (fo : DE) (fa : DA) : DE := fun δ S => (fo δ S).bind fun x S1 => match insOf S1 x with
  | some (C', fs) => if C' = C ∧ fs.lookup m = none then (fa δ S1).bind fun ds S2 => callD np g dv (x :: ds) S2 else .stuck
  | none => .stuck
def tClM (K : PySem.W.Frag) (CA : Addr) (m : Str) (sp : Sp) (dvs : List V) (W : WX) (ta : TE) (t : TA) : TE := fun σ H Q => ta σ H fun x H1 => ∃ a dx fs, x = .ref a ∧ H1 a = some (.ins CA dx fs) ∧ fs.lookup m = none ∧ t σ H1 fun vs H2 => sp (x :: (vs ++ dvs)) H2 Q (WE W σ)
theorem lookup_zip0 {fv : List (Str × V)} {fs : List (Str × D)} {K : PySem.W.Frag} {n : Nat} {mu : Mu} {H : Hp} (r : FRel K cl n mu H fv fs) (h : fs.lookup m = none) : fv.lookup m = none := by
  obtain ⟨ks, vs, ds, rfl, rfl, hl, rr⟩ := r
  exact (lookup_zip hl rr.length).mp h
theorem meth_af {K : PySem.W.Frag} {CA f : Addr} {fd : FuncData} {ps : List Str} {dvs : List V} {n : Nat} {mu : Mu} {δ : Env} {S : Store} {σ : St} {H : Hp} {Q : VK} {ft : DA} {t : TA} (hcl : cl C = some CA) (hdv : ∀ n mu H, VRels K cl n mu H dvs dv)
    (ht : t = tA K cl W ft) {to : TE} (hto : to = tE K cl W fo) (s : SR K cl mu H S) (r : ERel K cl S.length mu H σ δ) (q : Af K cl (VRel K cl) S.length mu H σ W (eMeth C m np g dv fo ft δ S) Q) :
    tClM K CA m (spOf K cl np g) dvs W to t σ H Q := by
  subst ht hto
  refine ⟨mu, δ, S, s, r, (Af.bind q).mono fun v H1 ⟨mu1, d, S1, s1, e1, r1, q1⟩ => ?_⟩
  split at q1
  · rename_i C' fs hi
    split at q1
    · rename_i hc
      obtain ⟨a, CA', dx, fv, rfl, hcl', hH, fr⟩ := ins_fr s1 r1 hi
      rw [hc.1, hcl] at hcl'; cases hcl'
      refine ⟨a, dx, fv, rfl, hH, lookup_zip0 fr hc.2, mu1, δ, S1, s1, r.mono e1, (Af.bind q1).mono fun vs H2 ⟨mu2, ds, S2, s2, e2, r2, q2⟩ => ?_⟩
      unfold callD at q2
      split at q2
      · rename_i hl
        have rr := (VRels.cons (r1.mono e2) r2).append (hdv S2.length mu2 H2)
        exact ⟨rr.length.trans hl, mu2, _, S2, s2, rr, Af.sig q2⟩
      · exact q2.elim
    · exact q1.elim
  · exact q1.elim
theorem fe_meth {pl : Sem Bool} (G : Good X W k) (c : CalM X.prog X.w X.K X.mg X.base cl j np C m dv g) (hj : j ≤ k) (ho : FE X cl W o fo) (ha : FA X cl W (e :: es) fa)
    (hst : starEach (e :: es) X.env = (false, eval e X.env) :: starEach es X.env := by rfl) (hpl : (backTo pos (starEach es X.env)).any (·.1) = false := by rfl)
    (ht : eval (.Call (.Attribute o m apos) (e :: es) [] pos) X.env = (do
      let ov ← eval o X.env
      standAt apos.atName
      let r ← holding [ov] (getMethod ov m pl)
      callWith pos r.1 r.2 (backTo pos (starEach (e :: es) X.env)) (backToKw pos (keywordEach [] X.env))) := by rfl) :
    FE X cl W (.Call (.Attribute o m apos) (e :: es) [] pos) (eMeth C m np g dv fo fa) := by
  obtain ⟨CA, f, fd, ps, dvs, dsv, hcl, hC, hm, hb, hd, hdv, F⟩ := c.ex
  refine fe_of (t := tClM X.K CA m (spOf X.K cl np g) dvs W (tE X.K cl W fo) (tA X.K cl W fa)) ⟨fun pins s σ H Q I h => ?_⟩ fun mu δ S σ H Q s r q => meth_af (f := f) (fd := fd) (ps := ps) (n := 0) hcl hdv rfl rfl s r q
  refine PySem.W.methodCall_KW (pl := pl) (thn (ho.pe.run pins s σ H _ I h) fun u t ⟨x, H1, I1, rx, a, dx, fs, ex, ea, hl, y⟩ => ?_) ht
  subst ex
  cases (show u = Value.ref a from rx)
  exact getmeth_ok I1 ea hC hm hl (PySem.W.callWith_K (first := [.ref a]) (h₀ := X.base) I.ok.mod.kin hm.kp
    (thn (ha.pa.run pos pins t σ H1 _ I1 y) fun us t2 ⟨vs, H2, I2, rv, z⟩ => ⟨I2.kIn, run_g (us := .ref a :: us) (vs := .ref a :: vs) G F hj hb hd I2 (.cons rfl rv) z⟩) hst hpl)
theorem fe_meth0 {pl : Sem Bool} (G : Good X W k) (c : CalM X.prog X.w X.K X.mg X.base cl j np C m dv g) (hj : j ≤ k) (ho : FE X cl W o fo)
    (ht : eval (.Call (.Attribute o m apos) [] [] pos) X.env = (do
      let ov ← eval o X.env
      standAt apos.atName
      let r ← holding [ov] (getMethod ov m pl)
      callWith pos r.1 r.2 (backTo pos (starEach [] X.env)) (backToKw pos (keywordEach [] X.env))) := by rfl) :
    FE X cl W (.Call (.Attribute o m apos) [] [] pos) (eMeth C m np g dv fo aNil) := by
  obtain ⟨CA, f, fd, ps, dvs, dsv, hcl, hC, hm, hb, hd, hdv, F⟩ := c.ex
  refine fe_of (t := tClM X.K CA m (spOf X.K cl np g) dvs W (tE X.K cl W fo) tNil) ⟨fun pins s σ H Q I h => ?_⟩ fun mu δ S σ H Q s r q => ?_
  · refine PySem.W.methodCall_KW (pl := pl) (thn (ho.pe.run pins s σ H _ I h) fun u t ⟨x, H1, I1, rx, a, dx, fs, ex, ea, hl, y⟩ => ?_) ht
    subst ex
    cases (show u = Value.ref a from rx)
    exact getmeth_ok I1 ea hC hm hl (PySem.W.callWith_K0 (first := [.ref a]) I1.kIn hm.kp (run_g (us := [.ref a]) (vs := [.ref a]) G F hj hb hd I1 (.cons rfl .nil) y))
  · have z := meth_af (f := f) (fd := fd) (ps := ps) (n := 0) (t := tA X.K cl W aNil) hcl hdv rfl rfl s r q
    obtain ⟨mu0, δ0, S0, s0, r0, q0⟩ := z
    refine ⟨mu0, δ0, S0, s0, r0, q0.mono fun v H1 ⟨a, dx, fs, h1, h2, h3, mu1, δ1, S1, s1, r1, q1⟩ => ⟨a, dx, fs, h1, h2, h3, Af.now q1 s1 .nil⟩⟩
/-! making -/
def eMake (C : Str) (np : Nat) (g : GD) (fa : DA) : DE := fun δ S => (fa δ S).bind fun ds S1 => match callD np g [] (.ref S1.length :: ds) (S1 ++ [some (.ins C [])]) with
  | .ok .non S2 => .ok (.ref S1.length) S2
  | .exc C' fs S2 => .exc C' fs S2
  | _ => .stuck
def tMk (CA : Addr) (sp : Sp) (W : WX) (t : TA) : TE := fun σ H Q => t σ H fun vs H1 => ∀ x dx, H1 x = none → H1 dx = none → dx ≠ x →
  sp (.ref x :: vs) (upd (upd H1 dx (.own x)) x (.ins CA dx [])) (fun v H2 => v = .non ∧ Q (.ref x) H2) (WE W σ)
theorem run_mk {CA f : Addr} {fd : FuncData} {ps : List Str} {sp : Sp} {pins : List (Addr × Obj)} {σ : St} {H : Hp} {s : Shared} {Q : VK} {us : List Value} {vs : List V} (G : Good X W k) (M : Mk X.K CA f) (F : FnG X.prog X.w X.K X.mg X.base j f fd ps sp) (hj : j + 1 ≤ k) (hb : Binds X.K fd ps [])
    (I : Inv X pins σ H s) (r : Vals vs us) (h : ∀ x dx, H x = none → H dx = none → dx ≠ x → sp (.ref x :: vs) (upd (upd H dx (.own x)) x (.ins CA dx [])) (fun v H2 => v = .non ∧ Q (.ref x) H2) (WE W σ)) :
    wpAny (model X.prog X.w) X.A (PySem.call (.ref CA) us) (EP X pins σ Q) X.xe s := by
  have f1 : H s.heap.objs.size = none := I.hok.fresh (Nat.le_refl _)
  have f2 : H (s.heap.objs.size + 1) = none := I.hok.fresh (Nat.le_succ _)
  have wish := h _ _ f2 f1 (Nat.ne_of_lt (Nat.lt_succ_self _))
  have I2 := Inv.made (C := CA) I
  have r2 : Vals (V.ref (s.heap.objs.size + 1) :: vs) (Value.ref (s.heap.objs.size + 1) :: us) := .cons rfl r
  have len := r2.length.symm.trans (F.many _ _ _ _ wish)
  have bound := hb _ (Value.ref (s.heap.objs.size + 1) :: us) I2.kIn (by rw [List.append_nil]; exact len)
  rw [List.append_nil] at bound
  have room : Room (j + 1) X.A := G.room.mono hj
  refine wpAny_call (make_map (f := f) I.kIn M.makes M.init (beq_iff_eq.mp M.fn) (codeAny_mono (F.go _ X.stack _ _ ⟨Value.ref (s.heap.objs.size + 1) :: us, []⟩ _ _ _ _ (room.make CA us []) (by first | exact G.grd | (simpa [Around.under] using G.grd)) (I2.env0.make CA us []) bound r2 wish) fun res t y => ?_))
  cases res with
  | error x => exact passAt G.tk σ pins _ _ x t I2 y
  | ok fl => cases fl with
    | ret u =>
      obtain ⟨v, H2, J, rv, ev, z⟩ := I2.after y
      subst ev
      exact ⟨rv, .ref (s.heap.objs.size + 1), H2, J, rfl, z⟩
    | next => exact y.elim
    | brk => exact y.elim
    | cont => exact y.elim
theorem fe_make {C : Str} (G : Good X W k) (c : CalN X.prog X.w X.K X.mg X.base cl j np C g) (hj : j + 1 ≤ k) (ha : FA X cl W (e :: es) fa) (hg : Gl X C := by rfl) (hdb : (C == ("__debug__" : Str)) = false := by decide)
    (he : starEach (e :: es) X.env = (false, eval e X.env) :: starEach es X.env := by rfl) (hpl : (backTo pos (starEach es X.env)).any (·.1) = false := by rfl) : FE X cl W (.Call (.Name C p) (e :: es) [] pos) (eMake C np g fa) := by
  obtain ⟨CA, f, fd, ps, hcl, hmg, M, hb, F⟩ := c.ex
  refine fe_of (t := tMk CA (spOf X.K cl np g) W (tA X.K cl W fa)) ⟨fun pins s σ H Q I h => ?_⟩ fun mu δ S σ H Q s r q => ?_
  · exact wpAny_Call_Name_kw (ld_glob I hg hmg (PySem.W.callWith_K (h₀ := X.base) I.ok.mod.kin M.kp
      (thn (ha.pa.run pos pins s σ H _ I h) fun us t ⟨vs, H1, I1, rv, y⟩ => ⟨I1.kIn, run_mk G M F hj hb I1 rv y⟩) he hpl) hdb)
  · refine ⟨mu, δ, S, s, r, (Af.bind q).mono fun vs H1 ⟨mu1, ds, S1, s1, e1, r1, q1⟩ x dx hx hdx hne => ?_⟩
    have sd := sr_new (o := .own x) s1 hdx
    have ed := ext_new (o := .own x) s1 hdx
    have hx' : upd H1 dx (.own x) x = none := by rw [upd_ne hne.symm]; exact hx
    have ex := ext_add (o := HO.ins CA dx []) (x := some (O.ins C [])) sd hx'
    have sx := sr_add (o := HO.ins CA dx []) (x := O.ins C []) sd hx' (ORel.ins (ks := []) (vs := []) (ds := []) hcl upd_same rfl .nil)
    have eall := ed.trans ex
    have rr : VRels X.K cl (S1 ++ [some (O.ins C [])]).length (muAdd mu1 S1.length x) (upd (upd H1 dx (.own x)) x (.ins CA dx [])) (.ref x :: vs) (.ref S1.length :: ds) :=
      .cons (.ref (by simp) fun a z => by dsimp only [muAdd] at z; rw [if_pos rfl] at z; cases z; rfl) (r1.mono eall)
    unfold callD at q1
    split at q1
    · rename_i d2 S2 hcall
      split at hcall
      · rename_i hl
        rw [List.append_nil] at hl hcall
        refine ⟨rr.length.trans hl, _, _, _, sx, rr, ?_⟩
        rw [hcall]
        intro v H' mu' e' s' rv
        cases rv
        refine ⟨rfl, q1 _ H' mu' (eall.trans e') s' (.ref (Nat.lt_of_lt_of_le (by simp) e'.le) fun a z => ?_)⟩
        have z2 := e'.old _ _ (by simp) z
        dsimp only [muAdd] at z2
        rw [if_pos rfl] at z2
        cases z2
        rfl
      · cases hcall
    · rename_i C' fs S2 hcall
      split at hcall
      · rename_i hl
        rw [List.append_nil] at hl hcall
        refine ⟨rr.length.trans hl, _, _, _, sx, rr, ?_⟩
        rw [hcall]
        intro CA' dx' H' mu' hc' e' s' x'
        exact q1 CA' dx' H' mu' hc' (eall.trans e') s' x'
      · cases hcall
    · exact q1.elim
end
/-! either of two -/
section
variable {X : Cx} {cl : Cl} {W : WX} {e : Expr} {f f1 f2 : DE}
theorem fe_alt (h1 : FE X cl W e f1) (h2 : FE X cl W e f2) (hf : ∀ δ S, f δ S = f1 δ S ∨ f δ S = f2 δ S) : FE X cl W e f := by
  refine fe_of (t := fun σ H Q => tE X.K cl W f1 σ H Q ∨ tE X.K cl W f2 σ H Q) ⟨fun pins s σ H Q I h => h.elim (h1.pe.run pins s σ H Q I) (h2.pe.run pins s σ H Q I)⟩ fun mu δ S σ H Q s r q => ?_
  rcases hf δ S with z | z
  · rw [z] at q; exact .inl ⟨mu, δ, S, s, r, q⟩
  · rw [z] at q; exact .inr ⟨mu, δ, S, s, r, q⟩
/-- the class of what fo tells decides -/
def eByC (C : Str) (fo f1 f2 : DE) : DE := fun δ S => match fo δ S with
  | .ok x S1 => match insOf S1 x with
    | some (C', _) => if C' = C then f1 δ S else f2 δ S
    | none => f2 δ S
  | _ => f1 δ S
theorem fe_byC {C : Str} {fo : DE} (h1 : FE X cl W e f1) (h2 : FE X cl W e f2) : FE X cl W e (eByC C fo f1 f2) := fe_alt h1 h2 fun δ S => by
  unfold eByC
  split
  · split
    · split
      · exact .inl rfl
      · exact .inr rfl
    · exact .inr rfl
  · exact .inl rfl
end
end Mi
namespace Mi
open PySem L2
/-! a call behind which the callee's own things are forgotten -/
mutual
def ltR (n : Nat) : D → Bool
  | .ref l => decide (l < n)
  | .tup xs => ltRs n xs
  | .lst xs => ltRs n xs
  | .scr xs => ltRs n xs
  | .dic kvs => ltK n kvs
  | .ins _ fs => ltF n fs
  | .exc _ fs => ltF n fs
  | _ => true
def ltRs (n : Nat) : List D → Bool
  | [] => true
  | x :: xs => ltR n x && ltRs n xs
def ltK (n : Nat) : List (Key × D) → Bool
  | [] => true
  | (_, x) :: xs => ltR n x && ltK n xs
def ltF (n : Nat) : List (Str × D) → Bool
  | [] => true
  | (_, x) :: xs => ltR n x && ltF n xs
end
def ltO (n : Nat) : O → Bool
  | .lst xs => ltRs n xs
  | .dic kvs => ltK n kvs
  | .ins _ fs => ltF n fs
def clSt (n : Nat) (S : Store) : Bool := S.all fun o => match o with
  | some o => ltO n o
  | none => true
def muR (mu : Mu) (n : Nat) : Mu := ⟨fun l => if l < n then mu l else none, mu.z⟩
theorem ltK_zip {n : Nat} : ∀ {ks : List Key} {ds : List D}, ks.length = ds.length → ltK n (ks.zip ds) = true → ltRs n ds = true
  | [], [], _, _ => rfl
  | k :: ks, d :: ds, hl, h => by
    rw [List.zip_cons_cons] at h
    simp only [ltK, Bool.and_eq_true] at h
    simp only [ltRs, Bool.and_eq_true]
    exact ⟨h.1, ltK_zip (by simpa using hl) h.2⟩
theorem ltF_zip {n : Nat} : ∀ {ks : List Str} {ds : List D}, ks.length = ds.length → ltF n (ks.zip ds) = true → ltRs n ds = true
  | [], [], _, _ => rfl
  | k :: ks, d :: ds, hl, h => by
    rw [List.zip_cons_cons] at h
    simp only [ltF, Bool.and_eq_true] at h
    simp only [ltRs, Bool.and_eq_true]
    exact ⟨h.1, ltF_zip (by simpa using hl) h.2⟩
section
variable {K : PySem.W.Frag} {cl : Cl} {n n' : Nat} {mu : Mu} {H : Hp}
theorem Ot.shr {a : Addr} (h : Ot mu a) : Ot (muR mu n) a := by
  refine ⟨fun l e => ?_, h.2⟩
  dsimp only [muR] at e
  split at e
  · exact h.1 l e
  · cases e
theorem Fz.shr {a : Addr} {o : HO} (h : Fz mu H a o) : Fz (muR mu n) H a o := ⟨h.1, h.2.shr⟩
theorem FzL.shr {a : Addr} {o : HO} (h : FzL mu H a o) : FzL (muR mu n) H a o := ⟨h.1, h.2.shr⟩
theorem TupF.shr {a : Addr} {vs : List V} (h : TupF K mu H a vs) : TupF K (muR mu n) H a vs := h.elim (fun h => .inl h.shr) .inr
theorem ScrF.shr {a : Addr} {vs : List V} (h : ScrF K mu H a vs) : ScrF K (muR mu n) H a vs := h.elim (fun h => .inl h.shr) .inr
theorem LstF.shr {a : Addr} {vs : List V} (h : LstF mu H a vs) : LstF (muR mu n) H a vs := ⟨h.1, h.2.shr⟩
mutual
theorem VRel.shr : ∀ {v : V} {d : D}, ltR n d = true → VRel K cl n' mu H v d → VRel K cl n (muR mu n) H v d
  | _, _, _, .non => .non
  | _, _, _, .bl b => .bl b
  | _, _, _, .int i => .int i
  | _, _, _, .str x => .str x
  | _, _, _, .ty x => .ty x
  | _, _, _, .cls h => .cls h
  | _, _, h, .ref _ q => .ref (by simpa [ltR] using h) fun a e => q a (by
      dsimp only [muR] at e
      split at e
      · exact e
      · cases e)
  | _, _, h, .tup f r => .tup f.shr (VRels.shr (by simpa [ltR] using h) r)
  | _, _, h, .lst f r => .lst f.shr (VRels.shr (by simpa [ltR] using h) r)
  | _, _, h, .scr f r => .scr f.shr (VRels.shr (by simpa [ltR] using h) r)
  | _, _, h, .dic f hl r => .dic f.shr hl (VRels.shr (ltK_zip (hl.trans r.length) (by simpa [ltR] using h)) r)
  | _, _, h, .ins hc q f hl r => .ins hc q f.shr hl (VRels.shr (ltF_zip (hl.trans r.length) (by simpa [ltR] using h)) r)
  | _, _, _, .ex0 hc q f => .ex0 hc q f.shr
  | _, _, h, .exd hc q f q2 f2 ne hl r => .exd hc q f.shr q2 f2.shr ne hl (VRels.shr (ltF_zip (hl.trans r.length) (by simpa [ltR] using h)) r)
theorem VRels.shr : ∀ {vs : List V} {ds : List D}, ltRs n ds = true → VRels K cl n' mu H vs ds → VRels K cl n (muR mu n) H vs ds
  | _, _, _, .nil => .nil
  | _, _, h, .cons q r => by
    simp only [ltRs, Bool.and_eq_true] at h
    exact .cons (VRel.shr h.1 q) (VRels.shr h.2 r)
end
theorem XF.shr {d : Option Addr} {fs : List (Str × D)} (h : ltF n fs = true) (x : XF K cl n' mu H d fs) : XF K cl n (muR mu n) H d fs := by
  rcases x with x | ⟨a, ks, vs, ds, h2, h3, h4, ne, rfl, hl, r⟩
  · exact .inl x
  · exact .inr ⟨a, ks, vs, ds, h2, h3, h4.shr, ne, rfl, hl, r.shr (ltF_zip (hl.trans r.length) h)⟩
theorem ORel.shr {a : Addr} {o : O} (h : ltO n o = true) (r : ORel K cl n' mu H a o) : ORel K cl n (muR mu n) H a o := by
  cases r with
  | lst e r => exact .lst e (r.shr h)
  | dic e hl r => exact .dic e hl (r.shr (ltK_zip (hl.trans r.length) h))
  | ins c e hl r => exact .ins c e hl (r.shr (ltF_zip (hl.trans r.length) h))
theorem muR_some {l : Nat} {a : Addr} (e : muR mu n l = some a) : l < n ∧ mu l = some a := by
  dsimp only [muR] at e
  split at e
  · rename_i h; exact ⟨h, e⟩
  · cases e
theorem SR.shr {S' : Store} (s : SR K cl mu H S') (hn : n ≤ S'.length) (hc : clSt n (S'.take n) = true) : SR K cl (muR mu n) H (S'.take n) where
  inj := fun l m a e1 e2 => s.inj l m a (muR_some e1).2 (muR_some e2).2
  live := fun l o e => by
    have hl : l < n := by
      have := (List.getElem?_eq_some_iff.mp e).1
      rw [List.length_take] at this
      omega
    have e' : S'[l]? = some (some o) := by rw [List.getElem?_take] at e; rw [if_pos hl] at e; exact e
    obtain ⟨a, h1, h2⟩ := s.live l o e'
    have ho : ltO n o = true := List.all_eq_true.mp hc _ (List.mem_of_getElem? e)
    refine ⟨a, by dsimp only [muR]; rw [if_pos hl]; exact h1, ?_⟩
    rw [List.length_take, Nat.min_eq_left hn]
    exact h2.shr ho
  dead := fun l h => by
    dsimp only [muR]
    by_cases hl : l < n
    · rw [if_pos hl]
      exact s.dead l fun o e => h o (by rw [List.getElem?_take, if_pos hl]; exact e)
    · rw [if_neg hl]
  zt := s.zt
  zd := fun l a e => s.zd l a (muR_some e).2
theorem Ext.shr {H0 : Hp} {mu0 : Mu} (e : Ext n mu0 H0 n' mu H) : Ext n mu0 H0 n (muR mu n) H where
  le := Nat.le_refl _
  keep := e.keep
  old := fun l a hl h => e.old l a hl (muR_some h).2
  new := fun l a hl h => absurd (muR_some h).1 (Nat.not_lt.mpr hl)
  trk := e.trk
  zz := e.zz
end
/-- what the callee made for itself is forgotten -/
def gcD (g : GD) : GD := fun ds S => match g ds S with
  | .ok d S' => if ltR S.length d = true ∧ clSt S.length (S'.take S.length) = true then .ok d (S'.take S.length) else .stuck
  | .exc C fs S' => if ltF S.length fs = true ∧ clSt S.length (S'.take S.length) = true then .exc C fs (S'.take S.length) else .stuck
  | .stuck => .stuck
theorem gc_af {K : PySem.W.Frag} {cl : Cl} {mu : Mu} {H : Hp} {S : Store} {σ : St} {W : WX} {ds : List D} {g : GD} {Q : VK} (q : Af K cl (VRel K cl) S.length mu H σ W (gcD g ds S) Q) : Af K cl (VRel K cl) S.length mu H σ W (g ds S) Q := by
  unfold gcD at q
  cases hz : g ds S with
  | ok d S' =>
    rw [hz] at q
    dsimp only at q
    split at q
    case isFalse => exact q.elim
    rename_i hc
    intro v H' mu' e s' r
    have hl : (S'.take S.length).length = S.length := by rw [List.length_take, Nat.min_eq_left e.le]
    exact q v H' (muR mu' S.length) (by rw [hl]; exact e.shr) (s'.shr e.le hc.2) (by rw [hl]; exact r.shr hc.1)
  | exc C fs S' =>
    rw [hz] at q
    dsimp only at q
    split at q
    case isFalse => exact q.elim
    rename_i hc
    intro CA dx H' mu' hcl e s' x
    have hl : (S'.take S.length).length = S.length := by rw [List.length_take, Nat.min_eq_left e.le]
    exact q CA dx H' (muR mu' S.length) hcl (by rw [hl]; exact e.shr) (s'.shr e.le hc.2) (by rw [hl]; exact x.shr hc.1)
  | stuck => rw [hz] at q; exact q.elim
theorem gc_sp {K : PySem.W.Frag} {cl : Cl} {np : Nat} {g : GD} : ∀ vs H Q E, spOf K cl np (gcD g) vs H Q E → spOf K cl np g vs H Q E := fun vs H Q E ⟨hl, mu, ds, S, s, r, q⟩ => ⟨hl, mu, ds, S, s, r, gc_af q⟩
section
variable {P : Program} {w : World} {K : PySem.W.Frag} {mg : Str → Option Value} {base : Heap} {cl : Cl} {j np : Nat} {C m x : Str} {dv : List D} {g : GD}
theorem Cal.gc (c : Cal P w K mg base cl j np x g) : Cal P w K mg base cl j np x (gcD g) := by
  obtain ⟨f, fd, ps, h1, h2, h3, h4⟩ := c.ex
  exact ⟨f, fd, ps, h1, h2, h3, h4.imp gc_sp⟩
theorem CalM.gc (c : CalM P w K mg base cl j np C m dv g) : CalM P w K mg base cl j np C m dv (gcD g) := by
  obtain ⟨CA, f, fd, ps, dvs, dsv, h1, h2, h3, h4, h5, h6, h7⟩ := c.ex
  exact ⟨CA, f, fd, ps, dvs, dsv, h1, h2, h3, h4, h5, h6, h7.imp gc_sp⟩
theorem CalN.gc (c : CalN P w K mg base cl j np C g) : CalN P w K mg base cl j np C (gcD g) := by
  obtain ⟨CA, f, fd, ps, h1, h2, h3, h4, h5⟩ := c.ex
  exact ⟨CA, f, fd, ps, h1, h2, h3, h4, h5.imp gc_sp⟩
end
/-! what is told of a call's end by the store -/
section
variable {g : GD} {ds : List D} {S S' : Store} {d : D}
theorem gc_ok (h : g ds S = .ok d S') (h1 : ltR S.length d = true) (h2 : clSt S.length (S'.take S.length) = true) : gcD g ds S = .ok d (S'.take S.length) := by
  unfold gcD
  rw [h]
  exact if_pos ⟨h1, h2⟩
theorem gc_exc {C : Str} {fs : List (Str × D)} (h : g ds S = .exc C fs S') (h1 : ltF S.length fs = true) (h2 : clSt S.length (S'.take S.length) = true) : gcD g ds S = .exc C fs (S'.take S.length) := by
  unfold gcD
  rw [h]
  exact if_pos ⟨h1, h2⟩
end
end Mi
namespace Mi
open PySem L2
/-! repr of data with dicts in it -/
def keyPy : Key → PyData
  | .inl i => .int i
  | .inr s => .str s
mutual
def pyR (r : Nat → Option PyData) : D → Option PyData
  | .non => some .none
  | .bl b => some (.bool b)
  | .int i => some (.int i)
  | .str x => some (.str x)
  | .ref l => r l
  | .tup xs => (pyRs r xs).map .tuple
  | .lst xs => (pyRs r xs).map .list
  | .scr xs => (pyRs r xs).map .list
  | .dic kvs => (pyRk r kvs).map .dict
  | .ty _ => none
  | .cls _ => none
  | .ins _ _ => none
  | .exc _ _ => none
def pyRs (r : Nat → Option PyData) : List D → Option (List PyData)
  | [] => some []
  | x :: xs => match pyR r x, pyRs r xs with
    | some p, some ps => some (p :: ps)
    | _, _ => none
def pyRk (r : Nat → Option PyData) : List (Key × D) → Option (List (PyData × PyData))
  | [] => some []
  | (k, x) :: xs => match pyR r x, pyRk r xs with
    | some p, some ps => some ((keyPy k, p) :: ps)
    | _, _ => none
end
/-! data as the heap has it; no dict of it is the interpreter's own -/
mutual
inductive RX (h : Heap) : Value → PyData → Prop
  | none : RX h .none .none
  | bool (b) : RX h (.bool b) (.bool b)
  | int (i t) : RX h (.int i t) (.int i)
  | str (x t) : RX h (.str x t) (.str x)
  | list {a o vs n xs} : h.get? a = some o → o.cls = .type "list" → o.data = .seq vs n → RXs h vs.toList xs → RX h (.ref a) (.list xs)
  | tuple {a o vs n xs} : h.get? a = some o → o.cls = .type "tuple" → o.data = .seq vs n → RXs h vs.toList xs → RX h (.ref a) (.tuple xs)
  | dict {a o es n kvs} : h.get? a = some o → o.cls = .type "dict" → o.data = .dict es n → (a == sysModules) = false → RXs h (es.toList.map (·.key)) (kvs.map (·.1)) → RXs h (es.toList.map (·.val)) (kvs.map (·.2)) → RX h (.ref a) (.dict kvs)
inductive RXs (h : Heap) : List Value → List PyData → Prop
  | nil : RXs h [] []
  | cons {v d vs ds} : RX h v d → RXs h vs ds → RXs h (v :: vs) (d :: ds)
end
mutual
theorem RX.reads {h : Heap} : ∀ {v : Value} {d : PyData}, RX h v d → ∃ as, Reads h v d as
  | _, _, .none => ⟨_, .none⟩
  | _, _, .bool b => ⟨_, .bool b⟩
  | _, _, .int i t => ⟨_, .int i t⟩
  | _, _, .str x t => ⟨_, .str x t⟩
  | _, _, .list h1 h2 h3 r => let ⟨_, q⟩ := RXs.reads r; ⟨_, .list h1 h2 h3 q⟩
  | _, _, .tuple h1 h2 h3 r => let ⟨_, q⟩ := RXs.reads r; ⟨_, .tuple h1 h2 h3 q⟩
  | _, _, .dict h1 h2 h3 _ r1 r2 => let ⟨_, q1⟩ := RXs.reads r1; let ⟨_, q2⟩ := RXs.reads r2; ⟨_, .dict h1 h2 h3 q1 q2⟩
theorem RXs.reads {h : Heap} : ∀ {vs : List Value} {ds : List PyData}, RXs h vs ds → ∃ as, ReadsAll h vs ds as
  | _, _, .nil => ⟨_, .nil⟩
  | _, _, .cons r rs => let ⟨_, q1⟩ := RX.reads r; let ⟨_, q2⟩ := RXs.reads rs; ⟨_, .cons q1 q2⟩
end
section
variable {prog : Program} {w : World} {h : Heap}
mutual
theorem RX.rep : ∀ {v : Value} {d : PyData}, RX h v d → d.showable = true → d.shown.length ≤ sizeLine → ∃ bs, ReadAtMost h d.depth bs ∧ ReprK prog w bs h d.depth v d.shown
  | _, _, .none, _, _ => ⟨[], (fun _ z => nomatch z), by simp only [PyData.shown]; exact .of_is .none _ _ _⟩
  | _, _, .bool b, _, _ => ⟨[], (fun _ z => nomatch z), by simp only [PyData.shown]; exact .of_is (.bool b) _ _ _⟩
  | _, _, .int i t, hs, _ => ⟨[], (fun _ z => nomatch z), by simp only [PyData.shown]; exact .of_is (.int t (by simpa [PyData.showable] using hs)) _ _ _⟩
  | _, _, .str x t, _, hz => ⟨[], (fun _ z => nomatch z), by simp only [PyData.shown]; exact .of_is (.str x t (by simpa only [PyData.shown] using hz)) _ _ _⟩
  | _, _, .list (a := a) (vs := vs) (xs := xs) g1 g2 g3 r, hs, hz => by
    have fits : (listText (PyData.shownAll xs)).length ≤ sizeLine := by simpa only [PyData.shown] using hz
    obtain ⟨bs, kb, kk⟩ := RXs.rep r (by simpa [PyData.showable] using hs) fun t ht => Nat.le_trans (listText_mem_le ht) fits
    obtain ⟨as, q⟩ := (RX.list g1 g2 g3 r).reads
    have dp : PyData.depthAll xs < (PyData.list xs).depth := by simp only [PyData.depth]; omega
    have out := not_mem_of_deeper q dp kb
    refine ⟨a :: bs, ReadAtMost.cons q (Nat.le_of_lt dp) kb, ?_⟩
    simp only [PyData.depth, PyData.shown]
    obtain ⟨l⟩ := vs
    match l, r, kk, g3 with
    | [], .nil, _, g3 => simp only [PyData.shownAll, listText_nil]; exact ReprK.listEmpty g1 g2 g3
    | y :: l, r, kk, g3 => exact ReprK.list g1 g2 g3 out (by simpa using kk.length_eq) fun i z e => kk.item i z (by simpa using e)
  | _, _, .tuple (a := a) (xs := xs) g1 g2 g3 r, hs, hz => by
    have fits : (tupleText (PyData.shownAll xs)).length ≤ sizeLine := by simpa only [PyData.shown] using hz
    obtain ⟨bs, kb, kk⟩ := RXs.rep r (by simpa [PyData.showable] using hs) fun t ht => Nat.le_trans (tupleText_mem_le ht) fits
    obtain ⟨as, q⟩ := (RX.tuple g1 g2 g3 r).reads
    have dp : PyData.depthAll xs < (PyData.tuple xs).depth := by simp only [PyData.depth]; omega
    have out := not_mem_of_deeper q dp kb
    refine ⟨a :: bs, ReadAtMost.cons q (Nat.le_of_lt dp) kb, ?_⟩
    simp only [PyData.depth, PyData.shown]
    exact ReprK.tuple g1 g2 g3 out kk
  | _, _, .dict (a := a) (es := es) (kvs := kvs) g1 g2 g3 sm r1 r2, hs, hz => by
    have fits : (dictText (PyData.shownKv kvs)).length ≤ sizeLine := by simpa only [PyData.shown] using hz
    obtain ⟨s1, s2⟩ := PyData.showableKv_split kvs (by simpa [PyData.showable] using hs)
    obtain ⟨b1, m1, k1⟩ := RXs.rep r1 s1 fun t ht => by
      obtain ⟨p, hp, hl⟩ := PyData.shownKv_key_le kvs t ht
      exact Nat.le_trans (Nat.le_trans hl (dictText_mem_le hp)) fits
    obtain ⟨b2, m2, k2⟩ := RXs.rep r2 s2 fun t ht => by
      obtain ⟨p, hp, hl⟩ := PyData.shownKv_val_le kvs t ht
      exact Nat.le_trans (Nat.le_trans hl (dictText_mem_le hp)) fits
    obtain ⟨as, q⟩ := (RX.dict g1 g2 g3 sm r1 r2).reads
    have dp : PyData.depthKv kvs < (PyData.dict kvs).depth := by simp only [PyData.depth]; omega
    have mm := (m1.mono (PyData.depthAll_keys_le kvs)).append (m2.mono (PyData.depthAll_vals_le kvs))
    have out := not_mem_of_deeper q dp mm
    refine ⟨a :: (b1 ++ b2), ReadAtMost.cons q (Nat.le_of_lt dp) mm, ?_⟩
    simp only [PyData.depth, PyData.shown, PyData.shownKv_eq]
    exact ReprK.dict g1 g2 g3 sm out (ReprEntriesK.of_two _ _ _ (k1.more_le (fun b z => List.mem_append_left _ z) (PyData.depthAll_keys_le kvs)) (k2.more_le (fun b z => List.mem_append_right _ z) (PyData.depthAll_vals_le kvs)))
theorem RXs.rep : ∀ {vs : List Value} {ds : List PyData}, RXs h vs ds → PyData.showableAll ds = true → (∀ t ∈ PyData.shownAll ds, t.length ≤ sizeLine) → ∃ bs, ReadAtMost h (PyData.depthAll ds) bs ∧ ReprAllK prog w bs h (PyData.depthAll ds) vs (PyData.shownAll ds)
  | _, _, .nil, _, _ => ⟨[], (fun _ z => nomatch z), by simp only [PyData.shownAll]; exact .nil⟩
  | _, _, .cons (d := d) (ds := ds) r rs, hs, hz => by
    have hs2 : d.showable = true ∧ PyData.showableAll ds = true := by simpa [PyData.showableAll] using hs
    obtain ⟨b1, m1, k1⟩ := RX.rep r hs2.1 (hz _ (by simp only [PyData.shownAll]; exact List.mem_cons_self ..))
    obtain ⟨b2, m2, k2⟩ := RXs.rep rs hs2.2 fun t ht => hz t (by simp only [PyData.shownAll]; exact List.mem_cons_of_mem _ ht)
    refine ⟨b1 ++ b2, ?_, ?_⟩
    · simp only [PyData.depthAll]
      exact (m1.mono (Nat.le_max_left _ _)).append (m2.mono (Nat.le_max_right _ _))
    · simp only [PyData.depthAll, PyData.shownAll]
      exact .cons ((k1.more fun b z => List.mem_append_left _ z).level_le (Nat.le_max_left _ _)) (k2.more_le (fun b z => List.mem_append_right _ z) (Nat.le_max_right _ _))
end
end
section
variable {X : Cx} {cl : Cl} {pins : List (Addr × Obj)} {σ : St} {H : Hp} {s : Shared} {n : Nat} {mu : Mu}
theorem keyPy_rx {k : Key} {v : Value} (h : keyIs k v = true) (hp : Heap) : RX hp v (keyPy k) := by
  rcases keyIs_shape h with ⟨i, t, rfl, rfl⟩ | ⟨x, t, rfl, rfl⟩
  · exact .int i t
  · exact .str x t
mutual
theorem rx_of (I : Inv X pins σ H s) {r : Nat → Option PyData} (hr : ∀ v l p u, VRel X.K cl n mu H v (.ref l) → r l = some p → RelV v u → RX s.heap u p) : ∀ {v : V} {d : D} {p : PyData} {u : Value}, VRel X.K cl n mu H v d → pyR r d = some p → RelV v u → RX s.heap u p
  | _, _, _, _, .non, e, q => by cases e; cases q; exact .none
  | _, _, _, _, .bl b, e, q => by cases e; cases q; exact .bool b
  | _, _, _, _, .int i, e, q => by cases e; obtain ⟨t, rfl⟩ := q; exact .int i t
  | _, _, _, _, .str x, e, q => by cases e; obtain ⟨t, rfl⟩ := q; exact .str x t
  | _, _, _, _, .ty _, e, _ => by cases e
  | _, _, _, _, .cls _, e, _ => by cases e
  | _, _, _, _, .ins _ _ _ _ _, e, _ => by cases e
  | _, _, _, _, .ex0 _ _ _, e, _ => by cases e
  | _, _, _, _, .exd _ _ _ _ _ _ _ _, e, _ => by cases e
  | _, _, _, _, .ref hl h, e, q => hr _ _ _ _ (.ref hl h) e q
  | _, .tup ds, p, _, .tup f rr, e, q => by
    have e : (pyRs r ds).map PyData.tuple = some p := e
    cases z : pyRs r ds with
    | none => rw [z] at e; cases e
    | some ps =>
      rw [z] at e; cases e; cases q
      obtain ⟨its, rv, ⟨o, ho, hc, m, hd⟩, _⟩ := I.tuple f.sq
      exact .tuple ho hc hd (rxs_of I hr rr z rv)
  | _, .lst ds, p, _, .lst f rr, e, q => by
    have e : (pyRs r ds).map PyData.list = some p := e
    cases z : pyRs r ds with
    | none => rw [z] at e; cases e
    | some ps =>
      rw [z] at e; cases e; cases q
      obtain ⟨its, rv, ⟨o, m, ho, hc, _, hd⟩, _⟩ := I.list f.sq
      exact .list ho hc hd (rxs_of I hr rr z rv)
  | _, .scr ds, p, _, .scr f rr, e, q => by
    have e : (pyRs r ds).map PyData.list = some p := e
    cases z : pyRs r ds with
    | none => rw [z] at e; cases e
    | some ps =>
      rw [z] at e; cases e; cases q
      obtain ⟨its, rv, ⟨o, m, ho, hc, _, hd⟩, _⟩ := I.list f.sq
      exact .list ho hc hd (rxs_of I hr rr z rv)
  | _, _, p, _, .dic (ks := ks) (vs := vs) (ds := ds) f hl rr, e, q => by
    have e : (pyRk r (ks.zip ds)).map PyData.dict = some p := e
    cases z : pyRk r (ks.zip ds) with
    | none => rw [z] at e; cases e
    | some ps =>
      rw [z] at e; cases e; cases q
      obtain ⟨_, sm, ws, kv, o, es, ep, ho, hc, hd, _, pr, _⟩ := dk_rd I.hok f.fz.1
      obtain ⟨r1, r2⟩ := rxk_of I hr ks rr hl z kv pr
      exact .dict ho hc.1 hd sm r1 r2
theorem rxs_of (I : Inv X pins σ H s) {r : Nat → Option PyData} (hr : ∀ v l p u, VRel X.K cl n mu H v (.ref l) → r l = some p → RelV v u → RX s.heap u p) : ∀ {vs : List V} {ds : List D} {ps : List PyData} {us : List Value}, VRels X.K cl n mu H vs ds → pyRs r ds = some ps → Vals vs us → RXs s.heap us ps
  | _, _, _, _, .nil, e, q => by cases e; cases q; exact .nil
  | _, _, _, _, .cons (d := d) (ds := ds) h rr, e, q => by
    unfold pyRs at e
    cases z1 : pyR r d with
    | none => rw [z1] at e; cases e
    | some p =>
      cases z2 : pyRs r ds with
      | none => rw [z1, z2] at e; cases e
      | some ps =>
        rw [z1, z2] at e
        cases e
        cases q with
        | cons q1 q2 => exact .cons (rx_of I hr h z1 q1) (rxs_of I hr rr z2 q2)
theorem rxk_of (I : Inv X pins σ H s) {r : Nat → Option PyData} (hr : ∀ v l p u, VRel X.K cl n mu H v (.ref l) → r l = some p → RelV v u → RX s.heap u p) : ∀ (ks : List Key) {vs : List V} {ds : List D} {ps : List (PyData × PyData)} {ws : List (Key × Value)} {es : List DictEntry}, VRels X.K cl n mu H vs ds → ks.length = vs.length → pyRk r (ks.zip ds) = some ps → KV (ks.zip vs) ws → Pairs (mixKind X.prog X.w) es ws →
    RXs s.heap (es.map (·.key)) (ps.map (·.1)) ∧ RXs s.heap (es.map (·.val)) (ps.map (·.2))
  | [], _, _, _, _, _, .nil, _, e, kv, pr => by
    cases e
    cases kv
    cases pr
    exact ⟨.nil, .nil⟩
  | k :: ks, _, _, _, _, _, .cons (d := d) (ds := ds) h rr, hl, e, kv, pr => by
    simp only [List.zip_cons_cons] at e kv
    unfold pyRk at e
    cases z1 : pyR r d with
    | none => rw [z1] at e; cases e
    | some p =>
      cases z2 : pyRk r (ks.zip ds) with
      | none => rw [z1, z2] at e; cases e
      | some ps =>
        rw [z1, z2] at e
        cases e
        cases kv with
        | cons q1 q2 =>
          cases pr with
          | cons p1 p2 p3 =>
            obtain ⟨e1, e2⟩ := q1
            obtain ⟨a1, a2⟩ := rxk_of I hr ks rr (by simpa using hl) z2 q2 p3
            refine ⟨.cons (keyPy_rx (by rw [show k = _ from e1]; exact p1) _) a1, .cons ?_ a2⟩
            have q0 := rx_of I hr h z1 e2
            rw [← p2] at q0
            exact q0
end
def pyX (S : Store) : Nat → D → Option PyData
  | 0 => pyR fun _ => none
  | k + 1 => pyR fun l => match S[l]? with
    | some (some (.lst xs)) => (xs.mapM (pyX S k)).map .list
    | _ => none
theorem rxs_by {h : Heap} {f : D → Option PyData} (hk : ∀ v d p u, VRel X.K cl n mu H v d → f d = some p → RelV v u → RX h u p) : ∀ {vs : List V} {ds : List D} {ps : List PyData} {us : List Value}, VRels X.K cl n mu H vs ds → ds.mapM f = some ps → Vals vs us → RXs h us ps
  | _, _, _, _, .nil, e, q => by cases e; cases q; exact .nil
  | _, _, _, _, .cons (d := d) (ds := ds) r rs, e, q => by
    rw [List.mapM_cons] at e
    cases z1 : f d with
    | none => rw [z1] at e; cases e
    | some p1 =>
      cases z2 : ds.mapM f with
      | none => rw [z1, z2] at e; cases e
      | some p2 =>
        rw [z1, z2] at e
        cases e
        cases q with
        | cons q1 q2 => exact .cons (hk _ _ _ _ r z1 q1) (rxs_by hk rs z2 q2)
theorem rx_py {S : Store} (I : Inv X pins σ H s) (sr : SR X.K cl mu H S) : ∀ (k : Nat) (v : V) (d : D) (p : PyData) (u : Value), VRel X.K cl S.length mu H v d → pyX S k d = some p → RelV v u → RX s.heap u p
  | 0, _, _, _, _, r, e, q => rx_of I (fun _ _ _ _ _ z _ => by cases z) r e q
  | k + 1, v, d, p, u, r, e, q => by
    refine rx_of I (fun v l p u r e q => ?_) r e q
    split at e
    · rename_i xs hx
      obtain ⟨a, rfl, hm, o⟩ := ref_at sr r hx
      cases o with
      | @lst vs _ hH rs =>
        cases z : xs.mapM (pyX S k) with
        | none => rw [z] at e; cases e
        | some ps =>
          rw [z] at e; cases e; cases q
          obtain ⟨its, rv, ⟨o, m, ho, hc, _, hd⟩, _⟩ := I.list (.inl (.inl hH))
          exact .list ho hc hd (rxs_by (rx_py I sr k) rs z rv)
    · cases e
variable {W : WX} {k : Nat} {e : Expr} {fa : DA} {p pos : Pos}
/-- repr(x) of anything that is data -/
def bRepX (n : Nat) : GD := fun ds S => match ds with
  | [x] => match pyX S n x with
    | some p => if p.showable = true ∧ p.depth ≤ 60 ∧ p.shown.length ≤ sizeLine then .ok (.str p.shown) S else .stuck
    | none => .stuck
  | _ => .stuck
def tRX (cl : Cl) (X : Cx) (W : WX) (n : Nat) (fa : DA) : TE := fun σ H Q => ∃ mu δ S, SR X.K cl mu H S ∧ ERel X.K cl S.length mu H σ δ ∧ Af X.K cl (VRel X.K cl) S.length mu H σ W (eB (bRepX n) fa δ S) Q
theorem fe_repX {n : Nat} (G : Good X W k) (hm : X.mg "repr" = none) (ha : FA X cl W [e] fa) (hg : Gl X "repr" := by rfl) (he : starEach [e] X.env = (false, eval e X.env) :: starEach [] X.env := by rfl) (hpl : (backTo pos (starEach [] X.env)).any (·.1) = false := by rfl) :
    FE X cl W (.Call (.Name "repr" p) [e] [] pos) (eB (bRepX n) fa) := by
  have hc : CallR X (.builtin "repr") fun xs H Q => ∃ mu S d v pd, xs = [v] ∧ SR X.K cl mu H S ∧ VRel X.K cl S.length mu H v d ∧ pyX S n d = some pd ∧ pd.showable = true ∧ pd.depth ≤ 60 ∧ pd.shown.length ≤ sizeLine ∧ Q (.str pd.shown) H := by
    intro pins s σ H xs us Q I r h
    obtain ⟨mu, S, d, v, pd, rfl, sr, rv, hp, h1, h2, h3, q⟩ := h
    obtain ⟨u, rfl, ru⟩ := vals1 r
    have rx := rx_py I sr n _ _ _ _ rv hp ru
    have dp : X.A.units + (pd.depth + 1) < cLine := by have := G.room.units; omega
    have node : ∀ (a : Addr) (T idr : String) (sl : SlotG T "__repr__" idr) (ty : s.TypeIs (.ref a) T), (∀ (A : Around) (E : Value → Shared → Prop) (Q : Value → Shared → Prop), A.guards = some [] → A.units + pd.depth < cLine → (∀ h' u tk, (∀ b o, s.heap.get? b = some o → h'.get? b = some o) → Q (.str pd.shown u) { s with heap := h', toks := tk }) → wpAny (model X.prog X.w) A (PySem.call (.builtin idr) [.ref a]) Q E s) →
        wpAny (model X.prog X.w) X.A (PySem.call (.builtin "repr") [.ref a]) (EP X pins σ Q) X.xe s := fun a T idr sl ty hcall =>
      call_repr_slot (by have := G.room.units; omega) ty sl (hcall X.A.in1 _ _ G.grd (by show X.A.units + 1 + pd.depth < cLine; omega) fun h' u tk hk => ⟨_, _, rfl, .str pd.shown, H, I.kept (t' := tk) hk, ⟨u, rfl⟩, q⟩)
    cases rx with
    | none => exact PySem.P.repr_of_none ⟨.str _, H, I.tok _, ⟨_, rfl⟩, q⟩
    | bool b => exact PySem.P.repr_of_bool ⟨.str _, H, I.tok _, ⟨_, rfl⟩, q⟩
    | int i t => exact PySem.P.repr_of_int (by simpa [PyData.showable] using h1) ⟨.str _, H, I.tok _, ⟨_, rfl⟩, q⟩
    | str x t => exact PySem.P.repr_of_str ⟨.str _, H, I.tok _, ⟨_, rfl⟩, q⟩ h3
    | @list a o vs m xs g1 g2 g3 rr =>
      have fits : (listText (PyData.shownAll xs)).length ≤ sizeLine := by simpa only [PyData.shown] using h3
      obtain ⟨bs, kb, kk⟩ := RXs.rep (prog := X.prog) (w := X.w) rr (by simpa [PyData.showable] using h1) fun t ht => Nat.le_trans (listText_mem_le ht) fits
      obtain ⟨as, q0⟩ := (RX.list g1 g2 g3 rr).reads
      have out := not_mem_of_deeper q0 (show PyData.depthAll xs < (PyData.list xs).depth by simp only [PyData.depth]; omega) kb
      refine node a "list" "list.__repr__" PySem.F.slot_list_repr.toG ⟨o, g1, g2⟩ fun A E Q hg hu hq => ?_
      simp only [PyData.depth] at hu
      simp only [PyData.shown] at hq
      obtain ⟨l⟩ := vs
      cases l with
      | nil =>
        have rr2 : RXs s.heap [] xs := rr
        cases rr2
        simp only [PyData.shownAll, listText_nil] at hq
        exact call_list_repr_empty ⟨o, g1, g2⟩ g1 g3 (hq s.heap _ _ fun _ _ z => z)
      | cons y l => exact call_list_reprK g1 g2 g3 out (by simpa using kk.length_eq) (fun i z e => kk.item i z (by simpa using e)) hg (fun b _ => Clear.nil b) hu (fun _ _ z => z) hq fits
    | @tuple a o vs m xs g1 g2 g3 rr =>
      have fits : (tupleText (PyData.shownAll xs)).length ≤ sizeLine := by simpa only [PyData.shown] using h3
      obtain ⟨bs, kb, kk⟩ := RXs.rep (prog := X.prog) (w := X.w) rr (by simpa [PyData.showable] using h1) fun t ht => Nat.le_trans (tupleText_mem_le ht) fits
      obtain ⟨as, q0⟩ := (RX.tuple g1 g2 g3 rr).reads
      have out := not_mem_of_deeper q0 (show PyData.depthAll xs < (PyData.tuple xs).depth by simp only [PyData.depth]; omega) kb
      refine node a "tuple" "tuple.__repr__" PySem.F.slot_tuple_repr ⟨o, g1, g2⟩ fun A E Q hg hu hq => ?_
      simp only [PyData.depth] at hu
      simp only [PyData.shown] at hq
      exact call_tuple_reprK g1 g2 g3 out kk hg (fun b _ => Clear.nil b) hu (fun _ _ z => z) hq fits
    | @dict a o es m kvs g1 g2 g3 sm r1 r2 =>
      have fits : (dictText (PyData.shownKv kvs)).length ≤ sizeLine := by simpa only [PyData.shown] using h3
      obtain ⟨s1, s2⟩ := PyData.showableKv_split kvs (by simpa [PyData.showable] using h1)
      obtain ⟨b1, m1, k1⟩ := RXs.rep (prog := X.prog) (w := X.w) r1 s1 fun t ht => by
        obtain ⟨y, hy, hl⟩ := PyData.shownKv_key_le kvs t ht
        exact Nat.le_trans (Nat.le_trans hl (dictText_mem_le hy)) fits
      obtain ⟨b2, m2, k2⟩ := RXs.rep (prog := X.prog) (w := X.w) r2 s2 fun t ht => by
        obtain ⟨y, hy, hl⟩ := PyData.shownKv_val_le kvs t ht
        exact Nat.le_trans (Nat.le_trans hl (dictText_mem_le hy)) fits
      obtain ⟨as, q0⟩ := (RX.dict g1 g2 g3 sm r1 r2).reads
      have out := not_mem_of_deeper q0 (show PyData.depthKv kvs < (PyData.dict kvs).depth by simp only [PyData.depth]; omega) ((m1.mono (PyData.depthAll_keys_le kvs)).append (m2.mono (PyData.depthAll_vals_le kvs)))
      refine node a "dict" "dict.__repr__" PySem.F.slot_dict_repr ⟨o, g1, g2⟩ fun A E Q hg hu hq => ?_
      simp only [PyData.depth] at hu
      simp only [PyData.shown, PyData.shownKv_eq] at hq
      exact call_dict_reprK g1 g2 g3 sm out (ReprEntriesK.of_two _ _ _ (k1.more_le (fun b z => List.mem_append_left _ z) (PyData.depthAll_keys_le kvs)) (k2.more_le (fun b z => List.mem_append_right _ z) (PyData.depthAll_vals_le kvs))) hg (fun b _ => Clear.nil b) hu (fun _ _ z => z) hq (by rw [← PyData.shownKv_eq]; exact fits)
  refine fe_blt (g := bRepX n) hc (fun mu S σ H vs ds Q s r q => ?_) hm ha (by decide +kernel) hg (by decide) (by decide) he hpl
  unfold bRepX at q
  split at q
  · split at q
    · split at q
      · rename_i pd hp hc
        cases r with
        | cons h r => cases r; exact ⟨mu, S, _, _, pd, rfl, s, h, hp, hc.1, hc.2.1, hc.2.2, Af.now q s (.str _)⟩
      · exact q.elim
    · exact q.elim
  · exact q.elim
end
end Mi
namespace Mi
open PySem L2
section
variable {X : Cx} {cl : Cl} {W : WX} {k : Nat} {pos p tpos p1 p2 p3 : Pos} {e e2' a b : Expr} {fa fb : DE} {fx : DA}
/-! xs[::-1] -/
def eRev (f : DE) : DE := fun δ S => (f δ S).bind fun x S1 => match seqOf S1 x with
  | some xs => .ok (.lst xs.reverse) S1
  | none => .stuck
theorem VRels.rev {K : PySem.W.Frag} {n : Nat} {mu : Mu} {H : Hp} : ∀ {vs : List V} {ds : List D}, VRels K cl n mu H vs ds → VRels K cl n mu H vs.reverse ds.reverse
  | _, _, .nil => .nil
  | _, _, .cons h r => by
    rw [List.reverse_cons, List.reverse_cons]
    exact (VRels.rev r).append (.cons h .nil)
theorem fe_rev {kk : Nat} (ha : FE X cl W e fa) : FE X cl W (.Subscript e (.Slice none none (some (.UnaryOp .USub (.Constant (.int 1) kk p1) p2)) p3) pos) (eRev fa) := fe_of (pe_revL ha.pe) fun mu δ S σ H Q s r q => by
  refine ⟨mu, δ, S, s, r, (Af.bind q).mono fun v H1 ⟨mu1, d, S1, s1, e1, r1, q1⟩ => ?_⟩
  split at q1
  · rename_i xs hx
    obtain ⟨a, us, rfl, hu, ru⟩ := seq_at s1 r1 hx
    exact ⟨a, us, rfl, hu, Af.lst q1 s1 ru.rev⟩
  · exact q1.elim
/-! is True, is False -/
def dIs : G2 := fun x y S => match x, y with
  | .bl a, .bl b => .ok (.bl (a == b)) S
  | _, _ => .stuck
theorem ok_is : OpOk X cl W rIsB dIs := fun mu S σ H v u x y Q s rx ry q => by
  unfold dIs at q
  split at q
  · cases rx
    cases ry
    exact ⟨_, _, rfl, rfl, Af.now q s (.bl _)⟩
  · exact q.elim
theorem fe_is (ha : FE X cl W a fa) (hb : FE X cl W b fb) (hm : behindInMarks .Is b = false := by rfl) : FE X cl W (.Compare a [.Is] [b] pos) (e2 dIs fa fb) := fe_cmp op_isBl ok_is ha hb hm
theorem ft_is (ha : FE X cl W a fa) (hb : FE X cl W b fb) (hm : behindInMarks .Is b = false := by rfl) : FT X cl W (.Compare a [.Is] [b] pos) (tV (e2 dIs fa fb)) := ft_cmp op_isBl ok_is ha hb hm
/-! == of two lists of other lengths: nothing of them is looked at -/
def lensD (S : Store) (x y : D) : Bool := match seqOf S x, seqOf S y with
  | some xs, some ys => decide (xs.length ≠ ys.length)
  | _, _ => false
def dEqX (n : Nat) : G2 := fun x y S => if lensD S x y = true then .ok (.bl false) S else dEq n x y S
def dNeX (n : Nat) : G2 := fun x y S => if lensD S x y = true then .ok (.bl true) S else dNe n x y S
def rLens (K : PySem.W.Frag) (r : Bool) : R2 := fun x y H Q => ∃ a b xs ys, x = .ref a ∧ y = .ref b ∧ SqL K H a xs ∧ SqL K H b ys ∧ xs.length ≠ ys.length ∧ Q (.bl r) H
theorem op_eqLens (hu : X.A.units + 64 < cLine) : OpR X (compareOp .Eq) (rLens X.K false) := by
  intro pins s σ H x y v u Q I rx ry h
  obtain ⟨a, b, xs, ys, rfl, rfl, h1, h2, hl, q⟩ := h
  cases rx
  cases ry
  obtain ⟨is1, r1, p1, _⟩ := I.list h1
  obtain ⟨is2, r2, p2, _⟩ := I.list h2
  exact SeqAt.RcAt.lists_lengths p1.isList p2.isList (by have := r1.length; have := r2.length; simp; omega) (by omega) X.prog X.w _ _ ⟨.bl false, H, I, rfl, q⟩
theorem op_neLens (hu : X.A.units + 64 < cLine) : OpR X (compareOp .NotEq) (rLens X.K true) := by
  intro pins s σ H x y v u Q I rx ry h
  obtain ⟨a, b, xs, ys, rfl, rfl, h1, h2, hl, q⟩ := h
  cases rx
  cases ry
  obtain ⟨is1, r1, p1, _⟩ := I.list h1
  obtain ⟨is2, r2, p2, _⟩ := I.list h2
  exact SeqAt.RcNeAt.lists_lengths p1.isList p2.isList (by have := r1.length; have := r2.length; simp; omega) (by omega) X.prog X.w _ _ ⟨.bl true, H, I, rfl, q⟩
theorem lens_at {mu : Mu} {H : Hp} {S : Store} {v u : V} {x y : D} (s : SR X.K cl mu H S) (rx : VRel X.K cl S.length mu H v x) (ry : VRel X.K cl S.length mu H u y) (e : lensD S x y = true) :
    ∃ a b xs ys, v = .ref a ∧ u = .ref b ∧ SqL X.K H a xs ∧ SqL X.K H b ys ∧ xs.length ≠ ys.length := by
  unfold lensD at e
  split at e
  · rename_i xs ys h1 h2
    obtain ⟨a, us, e1, q1, r1⟩ := seq_at s rx h1
    obtain ⟨b, ws, e2, q2, r2⟩ := seq_at s ry h2
    exact ⟨a, b, us, ws, e1, e2, q1, q2, by rw [r1.length, r2.length]; exact of_decide_eq_true e⟩
  · cases e
theorem ok_eqX {n : Nat} : OpOk X cl W (fun x y H Q => rLens X.K false x y H Q ∨ rEqAll X x y H Q) (dEqX n) := fun mu S σ H v u x y Q s rx ry q => by
  unfold dEqX at q
  split at q
  · rename_i h
    obtain ⟨a, b, us, ws, e1, e2, q1, q2, hl⟩ := lens_at s rx ry h
    exact .inl ⟨a, b, us, ws, e1, e2, q1, q2, hl, Af.now q s (.bl _)⟩
  · exact .inr (ok_eq mu S σ H v u x y Q s rx ry q)
theorem ok_neX {n : Nat} : OpOk X cl W (fun x y H Q => rLens X.K true x y H Q ∨ rNeAll X x y H Q) (dNeX n) := fun mu S σ H v u x y Q s rx ry q => by
  unfold dNeX at q
  split at q
  · rename_i h
    obtain ⟨a, b, us, ws, e1, e2, q1, q2, hl⟩ := lens_at s rx ry h
    exact .inl ⟨a, b, us, ws, e1, e2, q1, q2, hl, Af.now q s (.bl _)⟩
  · exact .inr (ok_ne mu S σ H v u x y Q s rx ry q)
theorem fe_eqX (G : Good X W k) {n : Nat} (ha : FE X cl W a fa) (hb : FE X cl W b fb) : FE X cl W (.Compare a [.Eq] [b] pos) (e2 (dEqX n) fa fb) := fe_cmp (OpR.or (op_eqLens G.room.units) (op_eqAll G.room.units)) ok_eqX ha hb (nomark _)
theorem fe_neX (G : Good X W k) {n : Nat} (ha : FE X cl W a fa) (hb : FE X cl W b fb) : FE X cl W (.Compare a [.NotEq] [b] pos) (e2 (dNeX n) fa fb) := fe_cmp (OpR.or (op_neLens G.room.units) (op_neAll G.room.units)) ok_neX ha hb (nomark _)
theorem ft_eqX (G : Good X W k) {n : Nat} (ha : FE X cl W a fa) (hb : FE X cl W b fb) : FT X cl W (.Compare a [.Eq] [b] pos) (tV (e2 (dEqX n) fa fb)) := ft_cmp (OpR.or (op_eqLens G.room.units) (op_eqAll G.room.units)) ok_eqX ha hb (nomark _)
theorem ft_neX (G : Good X W k) {n : Nat} (ha : FE X cl W a fa) (hb : FE X cl W b fb) : FT X cl W (.Compare a [.NotEq] [b] pos) (tV (e2 (dNeX n) fa fb)) := ft_cmp (OpR.or (op_neLens G.room.units) (op_neAll G.room.units)) ok_neX ha hb (nomark _)
/-! zip of two lists that never change -/
def iZipD (f : DA) : DI := fun δ S => (f δ S).bind fun ds S1 => match ds with
  | [.lst xs, .lst ys] => .ok (List.zipWith (fun x y => .tup [x, y]) xs ys, none) S1
  | _ => .stuck
theorem fi_zip {elts : List Expr} {kk : Nat} (hm : X.mg "zip" = none) (ha : FA X cl W [e, e2'] fx) (hg : Gl X "zip" := by rfl) (hs : starEach [e, e2'] X.env = (false, eval e X.env) :: starEach [e2'] X.env := by rfl) (hpl : (backTo pos (starEach [e2'] X.env)).any (·.1) = false := by rfl) :
    FI X cl W (.Tuple elts kk tpos) (.Call (.Name "zip" p) [e, e2'] [] pos) (iZipD fx) := fi_of (pi_zip hg hm ha.pa hs hpl) fun mu δ S σ H R s r q => by
  refine ⟨mu, δ, S, s, r, (Af.bind q).mono fun vv H1 ⟨mu1, dd, S1, s1, e1, r1, q1⟩ => ?_⟩
  split at q1
  · rename_i xs ys
    cases r1 with
    | cons h1 r2 =>
      cases r2 with
      | cons h2 r3 =>
        cases r3
        cases h1 with
        | @lst a vs _ f1 rs1 =>
          cases h2 with
          | @lst b us _ f2 rs2 =>
            refine ⟨a, b, vs, us, rfl, f1.sq, f2.sq, Af.now q1 s1 ⟨fun mu' H' S' e s _ i => ⟨fun hi => ⟨vs, us, (f1.pr e).sq, (f2.pr e).sq, ?_⟩, fun d hd => ?_⟩⟩⟩
            · rw [List.length_zipWith, ← rs1.length, ← rs2.length] at hi
              omega
            · have hx : ∃ x y, xs[i]? = some x ∧ ys[i]? = some y ∧ d = .tup [x, y] := by
                rw [List.getElem?_zipWith] at hd
                cases z1 : xs[i]? with
                | none => rw [z1] at hd; cases hd
                | some x =>
                  cases z2 : ys[i]? with
                  | none => rw [z1, z2] at hd; cases hd
                  | some y => rw [z1, z2] at hd; cases hd; exact ⟨x, y, rfl, rfl, rfl⟩
              obtain ⟨x, y, z1, z2, rfl⟩ := hx
              obtain ⟨v, hv, rv⟩ := rs1.get (i := i) z1
              obtain ⟨u, hu, ru⟩ := rs2.get (i := i) z2
              refine ⟨⟨vs, us, v, u, (f1.pr e).sq, (f2.pr e).sq, hv, hu⟩, fun w H2 y' => ?_⟩
              obtain ⟨T, x', y'', rfl, hT, rfl, hx', hy'⟩ := y'
              have ex := hx' vs (f1.pr e).sq
              have ey := hy' us (f2.pr e).sq
              rw [hv] at ex
              rw [hu] at ey
              cases ex
              cases ey
              have en := ext_new (o := HO.tup [v, u]) s hT
              exact ⟨en, sr_new s hT, .tup (.inl (fz_new s hT)) (.cons ((rv.pr e).mono en) (.cons ((ru.pr e).mono en) .nil))⟩
  · exact q1.elim
end
/-! the tables, from one look -/
def excOne (K : PySem.W.Frag) (a : Addr) : Bool :=
  PySem.W.keepIn K (.ref a) && decide (PySem.W.subIn K (.ref a) (.type "BaseException") = some true) && decide (PySem.W.typeIn K (.ref a) = some (.type "type")) &&
  decide (PySem.W.findIn K (.ref a) "__getattribute__" = some (some (.builtin "BaseException.__getattribute__"))) && decide (PySem.W.findIn K (.ref a) "__getattr__" = some none) && PySem.W.hasDictIn K a &&
  decide (PySem.W.findIn K (.ref a) "__class__" = some (some (.builtin "object.__class__"))) && decide (PySem.W.specialIn K (.builtin "object.__class__") "__get__" = some (some (.builtin "getset_descriptor.__get__"))) &&
  decide (PySem.W.takesIn K (.builtin "object.__class__") = some true) && decide (PySem.W.mroIn K a (.type "object") = some true) && decide (PySem.W.kitOne K (.ref a) (.type "ValueError") = some true)
def excAll (K : PySem.W.Frag) (l p : List (Str × Addr)) : Bool :=
  (l.all fun x => excOne K x.2) && (p.all fun x => PySem.W.excIn K x.2 veBases "ValueError.__new__") &&
  (l.all fun x => l.all fun y => decide (PySem.W.kitOne K (.ref x.2) (.ref y.2) = some (subE x.1 y.1)) && decide (PySem.W.exmOne K (.ref x.2) (.ref y.2) = some (subE x.1 y.1)))
theorem mem_of_lookup {l : List (Str × Addr)} {C : Str} {a : Addr} (h : l.lookup C = some a) : (C, a) ∈ l := by
  induction l with
  | nil => cases h
  | cons x l ih =>
    obtain ⟨D, b⟩ := x
    rw [List.lookup_cons] at h
    cases e : C == D with
    | true =>
      rw [e] at h
      cases h
      rw [beq_iff_eq.mp e]
      exact List.mem_cons_self ..
    | false => rw [e] at h; exact List.mem_cons_of_mem _ (ih h)
theorem lookup_of_mem {l : List (Str × Addr)} {C : Str} (h : C ∈ l.map (·.1)) : ∃ a, l.lookup C = some a := by
  induction l with
  | nil => cases h
  | cons x l ih =>
    obtain ⟨D, b⟩ := x
    rw [List.lookup_cons]
    cases e : C == D with
    | true => exact ⟨b, rfl⟩
    | false =>
      rcases List.mem_cons.mp h with z | z
      · exact absurd z (by simpa using e)
      · exact ih z
theorem excOne_k {K : PySem.W.Frag} {a : Addr} (h : excOne K a = true) : ExcK K a ∧ PySem.W.kitOne K (.ref a) (.type "ValueError") = some true := by
  unfold excOne at h
  simp only [Bool.and_eq_true, decide_eq_true_eq] at h
  obtain ⟨⟨⟨⟨⟨⟨⟨⟨⟨⟨h1, h2⟩, h3⟩, h4⟩, h5⟩, h6⟩, h7⟩, h8⟩, h9⟩, h10⟩, h11⟩ := h
  exact ⟨⟨h1, h2, h3, ⟨h4, h5, h2, h6, h7, h8, h9, h10⟩⟩, h11⟩
theorem excs_of {K : PySem.W.Frag} {mg : Str → Option Value} {cl : Cl} {es pl : List Str} {l p : List (Str × Addr)} (h : excAll K l p = true) (he : l.map (·.1) = es) (hp : p.map (·.1) = pl) (hsub : ∀ x ∈ p, x ∈ l)
    (hcl : ∀ C a, (C, a) ∈ l → cl C = some a ∧ mg C = some (.ref a)) : ETab K mg cl es pl := by
  unfold excAll at h
  simp only [Bool.and_eq_true] at h
  obtain ⟨⟨h1, h2⟩, h3⟩ := h
  have at1 : ∀ C ∈ es, ∃ a, (C, a) ∈ l := fun C hC => by
    rw [← he] at hC
    obtain ⟨a, e⟩ := lookup_of_mem hC
    exact ⟨a, mem_of_lookup e⟩
  have is1 : ∀ {C : Str} {a CA : Addr}, (C, a) ∈ l → cl C = some CA → CA = a := fun hm e => by
    rw [(hcl _ _ hm).1] at e
    exact (Option.some.inj e).symm
  refine ⟨fun C hC => ?_, fun C hC CA e => ?_, fun C hC T hT CA TA e1 e2 => ?_, fun C hC CA e => ?_, fun C hC T hT CA TA e1 e2 => ?_⟩
  · obtain ⟨a, hm⟩ := at1 C hC
    exact ⟨a, (hcl _ _ hm).1, (hcl _ _ hm).2, (excOne_k (List.all_eq_true.mp h1 _ hm)).1⟩
  · rw [← hp] at hC
    obtain ⟨a, e'⟩ := lookup_of_mem hC
    have hm := mem_of_lookup e'
    rw [is1 (hsub _ hm) e]
    exact List.all_eq_true.mp h2 _ hm
  · obtain ⟨a, hm⟩ := at1 C hC
    obtain ⟨b, hn⟩ := at1 T hT
    rw [is1 hm e1, is1 hn e2]
    have := List.all_eq_true.mp (List.all_eq_true.mp h3 _ hm) _ hn
    simp only [Bool.and_eq_true, decide_eq_true_eq] at this
    exact this.1
  · obtain ⟨a, hm⟩ := at1 C hC
    rw [is1 hm e]
    exact (excOne_k (List.all_eq_true.mp h1 _ hm)).2
  · obtain ⟨a, hm⟩ := at1 C hC
    obtain ⟨b, hn⟩ := at1 T hT
    rw [is1 hm e1, is1 hn e2]
    have := List.all_eq_true.mp (List.all_eq_true.mp h3 _ hm) _ hn
    simp only [Bool.and_eq_true, decide_eq_true_eq] at this
    exact this.2
/-- one class's fields -/
structure FldK (K : PySem.W.Frag) (a : Addr) (fl : List Str) : Prop where
  c : Cls K a
  no : ∀ f ∈ fl, NoAttr K a f
theorem ctab_of {K : PySem.W.Frag} {cl : Cl} {cs : Flds} (h : ∀ x ∈ cs, ∃ a, cl x.1 = some a ∧ FldK K a x.2) : CTab K cl cs := ⟨fun C f e => by
  unfold okF at e
  cases z : cs.lookup C with
  | none => rw [z] at e; cases e
  | some fl =>
    rw [z] at e
    have hm : (C, fl) ∈ cs := by
      clear h e
      induction cs with
      | nil => cases z
      | cons x cs ih =>
        obtain ⟨D, b⟩ := x
        rw [List.lookup_cons] at z
        cases e : C == D with
        | true =>
          rw [e] at z
          cases z
          rw [beq_iff_eq.mp e]
          exact List.mem_cons_self ..
        | false => rw [e] at z; exact List.mem_cons_of_mem _ (ih z)
    obtain ⟨a, h1, h2⟩ := h _ hm
    exact ⟨a, h1, h2.c, h2.no f (of_decide_eq_true (by simpa using e))⟩⟩
end Mi
namespace Mi
open PySem L2
section
variable {δ : Env} {S : Store} {f g : DE} {a : DA} {d : D} {x y : Int} {u v : Str} {b c : Bool} {xs ys : List D} {n : Nat} {cs : Flds} {F C : Str} {fs : List (Str × D)}
@[simp] theorem dEqX_int : dEqX n (.int x) (.int y) S = .ok (.bl (decide (x = y))) S := of_eq_true (eq_self _)
@[simp] theorem dEqX_str : dEqX n (.str u) (.str v) S = .ok (.bl (decide (u = v))) S := of_eq_true (eq_self _)
@[simp] theorem dNeX_int : dNeX n (.int x) (.int y) S = .ok (.bl (!decide (x = y))) S := of_eq_true (eq_self _)
@[simp] theorem dNeX_str : dNeX n (.str u) (.str v) S = .ok (.bl (!decide (u = v))) S := of_eq_true (eq_self _)
theorem dNeX_len (h : xs.length ≠ ys.length) : dNeX n (.lst xs) (.lst ys) S = .ok (.bl true) S := if_pos (decide_eq_true h)
theorem dEqX_len (h : xs.length ≠ ys.length) : dEqX n (.lst xs) (.lst ys) S = .ok (.bl false) S := if_pos (decide_eq_true h)
theorem dEq_nil : dEqB n S (.lst []) (.lst []) = some true := by cases n <;> (unfold dEqB; rfl)
@[simp] theorem dEqX_nil : dEqX n (.lst xs) (.lst []) S = .ok (.bl xs.isEmpty) S := by
  cases xs with
  | nil =>
    have e : dEq n (.lst []) (.lst []) S = .ok (.bl true) S := by unfold dEq; rw [dEq_nil]
    exact e
  | cons x xs => exact dEqX_len (by simp)
@[simp] theorem dNeX_nil : dNeX n (.lst xs) (.lst []) S = .ok (.bl (!xs.isEmpty)) S := by
  cases xs with
  | nil =>
    have e : dNe n (.lst []) (.lst []) S = .ok (.bl false) S := by unfold dNe; rw [dEq_nil]; rfl
    exact e
  | cons x xs => exact dNeX_len (by simp)
@[simp] theorem dIs_bl : dIs (.bl b) (.bl c) S = .ok (.bl (b == c)) S := of_eq_true (eq_self _)
@[simp] theorem eRev_ap : eRev f δ S = (f δ S).bind fun x S1 => match seqOf S1 x with | some xs => .ok (.lst xs.reverse) S1 | none => .stuck := of_eq_true (eq_self _)
@[simp] theorem eFld_ap : eFld cs F f δ S = (f δ S).bind fun x S1 => match insOf S1 x with
  | some (C, fs) => match fs.lookup F with | some d => if okF cs C F = true then .ok d S1 else .stuck | none => .stuck
  | none => .stuck := of_eq_true (eq_self _)
@[simp] theorem sFldD_ap : sFldD cs F f g δ S = toS δ (g δ S) fun y S1 => toS δ (f δ S1) fun x S2 => match x with
  | .ref l => match setF cs F l y S2 with | some S3 => .nx δ S3 | none => .stuck
  | _ => .stuck := of_eq_true (eq_self _)
@[simp] theorem eMeth_ap {m : Str} {k : GD} {dv : List D} : eMeth C m n k dv f a δ S = (f δ S).bind fun x S1 => match insOf S1 x with
  | some (C', fs) => if C' = C ∧ fs.lookup m = none then (a δ S1).bind fun ds S2 => callD n k dv (x :: ds) S2 else .stuck
  | none => .stuck := of_eq_true (eq_self _)
@[simp] theorem sRaise_ap : sRaise C δ S = .exc C [] δ S := of_eq_true (eq_self _)
@[simp] theorem eFrz_ap : eFrz f δ S = (f δ S).bind frz := of_eq_true (eq_self _)
@[simp] theorem iZipD_ap : iZipD a δ S = (a δ S).bind fun ds S1 => match ds with
  | [.lst xs, .lst ys] => .ok (List.zipWith (fun x y => .tup [x, y]) xs ys, none) S1
  | _ => .stuck := of_eq_true (eq_self _)
@[simp] theorem insOf_ins : insOf S (.ins C fs) = some (C, fs) := of_eq_true (eq_self _)
@[simp] theorem iLst_ap : iLst f δ S = (f δ S).bind fun x S1 => match x with
  | .lst xs => .ok (xs, none) S1
  | .scr xs => .ok (xs, none) S1
  | .ref l => match S1[l]? with
    | some (some (.lst xs)) => .ok (xs, some (l, xs)) S1
    | _ => .stuck
  | _ => .stuck := of_eq_true (eq_self _)
@[simp] theorem bTuple_lst : bTuple [.lst xs] S = .ok (.tup xs) S := of_eq_true (eq_self _)
@[simp] theorem bTuple_tup : bTuple [.tup xs] S = .ok (.tup xs) S := of_eq_true (eq_self _)
@[simp] theorem bMin1_lst : bMin1 [.lst xs] S = match intsOf xs with | some bs => (match bs with | m :: l => .ok (.int (mnI m l)) S | [] => .stuck) | none => .stuck := by
  cases h : intsOf xs with
  | none => simp [bMin1, seq1, seqOf, lstOf, h]
  | some l => cases l <;> simp [bMin1, seq1, seqOf, lstOf, h]
@[simp] theorem bMax1_lst : bMax1 [.lst xs] S = match intsOf xs with | some bs => (match bs with | m :: l => .ok (.int (mxI m l)) S | [] => .stuck) | none => .stuck := by
  cases h : intsOf xs with
  | none => simp [bMax1, seq1, seqOf, lstOf, h]
  | some l => cases l <;> simp [bMax1, seq1, seqOf, lstOf, h]
end
/-! what may be shown -/
def noR : Nat → Option PyData := fun _ => none
def Rp (n m : Nat) (d : D) : Prop := ∃ p, pyR noR d = some p ∧ p.showable = true ∧ p.depth ≤ m ∧ p.shown.length ≤ n
def shD (d : D) : Str := ((pyR noR d).map PyData.shown).getD Str.empty
theorem Rp.le {n m n' m' : Nat} {d : D} (h : Rp n m d) (hn : n ≤ n') (hm : m ≤ m') : Rp n' m' d := by
  obtain ⟨p, h1, h2, h3, h4⟩ := h
  exact ⟨p, h1, h2, Nat.le_trans h3 hm, Nat.le_trans h4 hn⟩
theorem Rp.rep {n m : Nat} {d : D} (h : Rp n m d) (hn : n ≤ sizeLine) (hm : m ≤ 60) (S : Store) : bRepX 0 [d] S = .ok (.str (shD d)) S := by
  obtain ⟨p, h1, h2, h3, h4⟩ := h
  have e : pyX S 0 d = some p := h1
  unfold bRepX
  simp only [e]
  rw [if_pos ⟨h2, Nat.le_trans h3 hm, Nat.le_trans h4 hn⟩]
  unfold shD
  rw [h1]
  rfl
theorem Rp.non : Rp 4 0 .non := ⟨.none, rfl, rfl, Nat.le_refl _, by decide +kernel⟩
theorem Rp.bl (b : Bool) : Rp 5 0 (.bl b) := ⟨.bool b, rfl, rfl, Nat.le_refl _, by cases b <;> decide +kernel⟩
theorem Rp.str {n : Nat} {s : Str} (h : TX n s) : Rp (10 * n + 2) 0 (.str s) := by
  refine ⟨.str s, rfl, rfl, Nat.le_refl _, ?_⟩
  have := PySem.StrLaws.reprText_len s fun c hc => Nat.lt_of_lt_of_le (h.cps c hc) (by decide)
  simp only [PyData.shown]
  have := h.len
  omega
theorem ofS_len (t : String) : (Str.ofString t).length = t.toList.length := by
  rw [Str.ofString_eq_toList]
  simp [Str.length]
theorem int_len {i : Int} (h : i.natAbs < 10 ^ 100) : (Str.ofString (toString i)).length ≤ 101 := by
  have nat : ∀ m : Nat, m < 10 ^ 100 → (toString m : String).toList.length ≤ 100 := fun m hm => by
    have e := PyProof.Rows.text_ofNat m
    have e2 := congrArg Str.length e
    rw [ofS_len] at e2
    have e3 : (toString (Int.ofNat m)) = (toString m : String) := rfl
    rw [e3] at e2
    rw [e2]
    show ((Nat.toDigits 10 m).map Char.toNat).toArray.size ≤ 100
    rw [List.size_toArray, List.length_map]
    exact PyProof.Rows.digits10_le (by decide) hm
  rw [ofS_len]
  cases i with
  | ofNat m => exact Nat.le_trans (nat m (by simpa using h)) (by decide)
  | negSucc m =>
    have e3 : (toString (Int.negSucc m)) = ("-" ++ toString (m + 1) : String) := rfl
    rw [e3, String.toList_append]
    have := nat (m + 1) (by simpa using h)
    simp only [List.length_append]
    have : ("-" : String).toList.length = 1 := by decide
    omega
theorem Rp.int {i : Int} (h : i.natAbs < 10 ^ 100) : Rp 103 0 (.int i) := by
  have lg : i.natAbs.log2 < 1920 := Nat.lt_of_lt_of_le (m := 400) (PySem.Flt.log2_lt_of (by decide) (Nat.lt_of_lt_of_le h (by decide +kernel))) (by decide)
  refine ⟨.int i, rfl, decide_eq_true lg, Nat.le_refl _, ?_⟩
  simp only [PyData.shown]
  exact Nat.le_trans (int_len h) (by decide)
theorem Rp.all {n m : Nat} : ∀ {ds : List D}, (∀ d ∈ ds, Rp n m d) → ∃ ps, pyRs noR ds = some ps ∧ PyData.showableAll ps = true ∧ PyData.depthAll ps ≤ m ∧ ((PyData.shownAll ps).map (·.length)).sum ≤ ds.length * n ∧ (PyData.shownAll ps).length = ds.length
  | [], _ => ⟨[], rfl, rfl, Nat.zero_le _, by simp [PyData.shownAll], rfl⟩
  | d :: ds, h => by
    obtain ⟨p, h1, h2, h3, h4⟩ := h d (List.mem_cons_self ..)
    obtain ⟨ps, q1, q2, q3, q4, q5⟩ := Rp.all (ds := ds) fun x hx => h x (List.mem_cons_of_mem _ hx)
    refine ⟨p :: ps, by simp [pyRs, h1, q1], by simp [PyData.showableAll, h2, q2], by simp only [PyData.depthAll]; omega, ?_, by simp [PyData.shownAll, q5]⟩
    simp only [PyData.shownAll, List.map_cons, List.sum_cons, List.length_cons]
    rw [Nat.add_one_mul]
    omega
theorem Rp.lst {n m : Nat} {ds : List D} (h : ∀ d ∈ ds, Rp n m d) : Rp (ds.length * (n + 2) + 3) (m + 1) (.lst ds) := by
  obtain ⟨ps, q1, q2, q3, q4, q5⟩ := Rp.all h
  refine ⟨.list ps, by simp [pyR, q1], by simp [PyData.showable, q2], by simp only [PyData.depth]; omega, ?_⟩
  simp only [PyData.shown]
  have := listText_len_le (PyData.shownAll ps)
  rw [q5] at this
  rw [Nat.mul_add]
  omega
theorem Rp.tup {n m : Nat} {ds : List D} (h : ∀ d ∈ ds, Rp n m d) : Rp (ds.length * (n + 2) + 3) (m + 1) (.tup ds) := by
  obtain ⟨ps, q1, q2, q3, q4, q5⟩ := Rp.all h
  refine ⟨.tuple ps, by simp [pyR, q1], by simp [PyData.showable, q2], by simp only [PyData.depth]; omega, ?_⟩
  simp only [PyData.shown]
  have := tupleText_len_le (PyData.shownAll ps)
  rw [q5] at this
  rw [Nat.mul_add]
  omega
theorem Rp.dic0 : Rp 2 1 (.dic []) := ⟨.dict [], rfl, rfl, by decide, by decide +kernel⟩
section
variable {g : DG} {f : DS} {S : Store} {δ : Env} {ck : Ck}
theorem for_ix (I : Nat → Env → Store → Prop) : ∀ {items : List D} {n : Nat} {δ : Env} {S : Store}, I n δ S →
    (∀ i d δ S, items[i]? = some d → I (n + i) δ S → ∃ da, g d S = some da ∧ ∃ δ' S', (f (setAll δ da) S = .nx δ' S' ∨ f (setAll δ da) S = .ct δ' S') ∧ I (n + i + 1) δ' S') → ∃ δ' S', forD none g f items δ S = .nx δ' S' ∧ I (n + items.length) δ' S'
  | [], n, δ, S, h, _ => ⟨δ, S, by unfold forD; exact if_pos trivial, h⟩
  | d :: items, n, δ, S, h, hs => by
    obtain ⟨da, h1, δ', S', h2, h3⟩ := hs 0 d δ S rfl h
    obtain ⟨δ2, S2, h4, h5⟩ := for_ix I (items := items) (n := n + 1) h3 fun i d δ S hd hI => by
      obtain ⟨da, q1, q2⟩ := hs (i + 1) d δ S (by simpa using hd) (by rw [show n + (i + 1) = n + 1 + i by omega]; exact hI)
      exact ⟨da, q1, by rw [show n + 1 + i + 1 = n + (i + 1) + 1 by omega]; exact q2⟩
    refine ⟨δ2, S2, ?_, by rw [List.length_cons, show n + (items.length + 1) = n + 1 + items.length by omega]; exact h5⟩
    unfold forD
    rw [if_pos (show ckS none S from trivial), h1]
    rcases h2 with h2 | h2 <;> (simp only [h2]; exact h4)
theorem comp_mapC {t : DT} {f : DE} (hc : ckS ck S) (k : D → D) : ∀ {items : List D}, (∀ d ∈ items, ∃ da, g d S = some da ∧ t (setAll δ da) S = .ok true S ∧ f (setAll δ da) S = .ok (k d) S) → compD g t f ck δ items S = .ok (items.map k) S
  | [], _ => by unfold compD; exact if_pos hc
  | d :: items, h => by
    obtain ⟨da, h1, h2, h3⟩ := h d (List.mem_cons_self ..)
    have ih := comp_mapC hc k (items := items) fun d hd => h d (List.mem_cons_of_mem _ hd)
    unfold compD
    rw [if_pos hc, h1]
    simp only [h2, h3, noX, bind_ok, if_true, ih, List.map_cons]
end
/-! more rules -/
theorem sz_lit {n : Nat} (h : n ≤ 16777216) : (n ≤ sizeLine) = True := eq_true h
theorem div_lit {x y : Int} {S : Store} (h : 0 < y) (h' : y < 2 ^ 60) : dDiv (.int x) (.int y) S = .ok (.int (x / y)) S :=
  dDiv_int h (Nat.lt_of_lt_of_le (m := 60) (PySem.Flt.log2_lt_of (by decide) (by omega)) (by decide))
@[simp] theorem gTup_tup {n : Nat} {gs : DGs} {xs : List D} {S : Store} : gTup n gs (.tup xs) S = if xs.length = n then gs xs S else none := of_eq_true (eq_self _)
@[simp] theorem gNil_n {S : Store} : gNil [] S = some [] := of_eq_true (eq_self _)
@[simp] theorem gCons_c {g : DG} {gs : DGs} {d : D} {ds : List D} {S : Store} : gCons g gs (d :: ds) S = match g d S, gs ds S with
  | some a, some b => some (a ++ b)
  | _, _ => none := of_eq_true (eq_self _)
mutual
theorem nr_lt {n : Nat} : ∀ {d : D}, noref d = true → ltR n d = true
  | .non, _ => rfl
  | .bl _, _ => rfl
  | .int _, _ => rfl
  | .str _, _ => rfl
  | .ty _, _ => rfl
  | .cls _, _ => rfl
  | .ref _, h => by simp [noref] at h
  | .tup xs, h => by simp only [noref] at h; simp only [ltR]; exact nrs_lt h
  | .lst xs, h => by simp only [noref] at h; simp only [ltR]; exact nrs_lt h
  | .scr xs, h => by simp only [noref] at h; simp only [ltR]; exact nrs_lt h
  | .dic kvs, h => by simp only [noref] at h; simp only [ltR]; exact nrk_lt h
  | .ins _ fs, h => by simp only [noref] at h; simp only [ltR]; exact nrf_lt h
  | .exc _ fs, h => by simp only [noref] at h; simp only [ltR]; exact nrf_lt h
theorem nrs_lt {n : Nat} : ∀ {ds : List D}, norefs ds = true → ltRs n ds = true
  | [], _ => rfl
  | d :: ds, h => by
    simp only [norefs, Bool.and_eq_true] at h
    simp only [ltRs, Bool.and_eq_true]
    exact ⟨nr_lt h.1, nrs_lt h.2⟩
theorem nrk_lt {n : Nat} : ∀ {ds : List (Key × D)}, norefK ds = true → ltK n ds = true
  | [], _ => rfl
  | (_, d) :: ds, h => by
    simp only [norefK, Bool.and_eq_true] at h
    simp only [ltK, Bool.and_eq_true]
    exact ⟨nr_lt h.1, nrk_lt h.2⟩
theorem nrf_lt {n : Nat} : ∀ {ds : List (Str × D)}, norefF ds = true → ltF n ds = true
  | [], _ => rfl
  | (_, d) :: ds, h => by
    simp only [norefF, Bool.and_eq_true] at h
    simp only [ltF, Bool.and_eq_true]
    exact ⟨nr_lt h.1, nrf_lt h.2⟩
end
theorem clSt_app {n : Nat} {S S' : Store} : clSt n (S ++ S') = (clSt n S && clSt n S') := by unfold clSt; rw [List.all_append]
theorem clSt_all {n : Nat} {S : Store} (h : ∀ o ∈ S, ∀ x, o = some x → ltO n x = true) : clSt n S = true := by
  unfold clSt
  rw [List.all_eq_true]
  intro o ho
  cases o with
  | none => rfl
  | some x => exact h _ ho x rfl
end Mi
namespace Mi
open PySem L2
/-! rules whose conditions omega shows -/
theorem ofS_inj {a b : String} : (Str.ofString a = Str.ofString b) = (a = b) := by
  apply propext
  constructor
  · intro h
    rw [Str.ofString_eq_toList, Str.ofString_eq_toList] at h
    injection h with h
    have h2 : a.toList.map Char.toNat = b.toList.map Char.toNat := by
      have := congrArg Array.toList h
      simpa using this
    have h3 : a.toList = b.toList := by
      refine List.map_inj_right (f := Char.toNat) ?_ |>.mp h2
      intro x y hxy
      exact Char.toNat_inj.mp hxy
    exact String.toList_inj.mp h3
  · intro h; rw [h]
theorem ofS_beq {a b : String} : (Str.ofString a == Str.ofString b) = (a == b) := by
  rw [Bool.eq_iff_iff, beq_iff_eq, beq_iff_eq, ofS_inj]
section
variable {S : Store} {x y : Int}
theorem imR' {x y : Int} (h : -(2 ^ 62) ≤ y) (h' : y ≤ 2 ^ 62) : IntMulOk x y := (show CMul x y from .inr ⟨by omega, by omega⟩).ok
theorem imL' {x y : Int} (h : -(2 ^ 62) ≤ x) (h' : x ≤ 2 ^ 62) : IntMulOk x y := (show CMul x y from .inl ⟨by omega, by omega⟩).ok
theorem mul_r (h : -(2 ^ 62) ≤ y) (h' : y ≤ 2 ^ 62) : dMul (.int x) (.int y) S = .ok (.int (x * y)) S := dMul_int (imR' h h')
theorem mul_l (h : -(2 ^ 62) ≤ x) (h' : x ≤ 2 ^ 62) : dMul (.int x) (.int y) S = .ok (.int (x * y)) S := dMul_int (imL' h h')
theorem mod_d (h : 0 < y) : dMod (.int x) (.int y) S = .ok (.int (x % y)) S := dMod_int h
theorem pow10 {n : Nat} (h : n ≤ 1000000) : dPow (.int 10) (.int (OfNat.ofNat n)) S = .ok (.int (10 ^ n)) S := by
  show dPow (.int 10) (.int ((n : Nat) : Int)) S = _
  rw [dPow_int ⟨by omega, by omega, by decide⟩]
  simp
theorem p6 : dPow (.int 10) (.int 6) S = .ok (.int 1000000) S := pow10 (n := 6) (by decide)
theorem p9 : dPow (.int 10) (.int 9) S = .ok (.int 1000000000) S := pow10 (n := 9) (by decide)
theorem p10 : dPow (.int 10) (.int 10) S = .ok (.int 10000000000) S := pow10 (n := 10) (by decide)
theorem p11 : dPow (.int 10) (.int 11) S = .ok (.int 100000000000) S := pow10 (n := 11) (by decide)
theorem p12 : dPow (.int 10) (.int 12) S = .ok (.int 1000000000000) S := pow10 (n := 12) (by decide)
theorem p60 : dPow (.int 10) (.int 60) S = .ok (.int (10 ^ 60)) S := pow10 (n := 60) (by decide)
end
theorem cast_lit (n : Nat) : ((no_index (@OfNat.ofNat Nat n _) : Nat) : Int) = @OfNat.ofNat Int n _ := rfl
theorem eDic0_f {δ : Env} {S : Store} : eDic0 false δ S = .ok (.dic []) S := of_eq_true (eq_self _)
theorem eDic0_t {δ : Env} {S : Store} : eDic0 true δ S = .ok (.ref S.length) (S ++ [some (.dic [])]) := of_eq_true (eq_self _)
theorem eMake_f {C : Str} {np : Nat} {g : GD} {fa : DA} {δ : Env} {S : Store} : eMake C np g fa δ S = (fa δ S).bind fun ds S1 => match callD np g [] (.ref S1.length :: ds) (S1 ++ [some (.ins C [])]) with
  | .ok .non S2 => .ok (.ref S1.length) S2
  | .exc C' fs S2 => .exc C' fs S2
  | _ => .stuck := rfl
theorem sTry_ap {es : List Str} {B : Str} {i j : Nat} {z : DS} {δ : Env} {S : Store} : sTry es B i j z δ S = match z δ S with
  | .exc C fs δ' S' => if C ∈ es ∧ B ∈ es ∧ subE C B = true ∧ i < δ'.length then .nx (((δ'.set i (some (.exc C fs))).set j (some (.exc C fs))).set i none) S' else .stuck
  | o => o := of_eq_true (eq_self _)
theorem call_exc {n : Nat} {k : GD} {ds : List D} {C : Str} {S : Store} (hl : ds.length = n) (h1 : norefs ds = true) (h2 : ∃ S', k ds [] = .exc C [] S') : callD n (pureD k) [] ds S = .exc C [] S := by
  obtain ⟨S', h2⟩ := h2
  unfold callD
  rw [List.append_nil, if_pos hl]
  unfold pureD
  rw [if_pos h1, h2]
  exact if_pos rfl
/-! picks from a list -/
theorem pickI {l : List Int} {x lo hi : Int} (h0 : 0 ≤ x) (h1 : x < l.length) (h : ∀ i ∈ l, lo ≤ i ∧ i ≤ hi) : ∃ r, lo ≤ r ∧ r ≤ hi ∧ atD (l.map D.int) x = some (D.int r) := by
  obtain ⟨c, hc, he⟩ := atD_int (l := l.map D.int) (x := x) h0 (by rw [List.length_map]; exact h1)
  rw [List.getElem?_map] at hc
  cases z : l[x.toNat]? with
  | none => rw [z] at hc; cases hc
  | some r =>
    rw [z] at hc; cases hc
    exact ⟨r, (h r (List.mem_of_getElem? z)).1, (h r (List.mem_of_getElem? z)).2, he⟩
theorem pickD {l : List D} {x : Int} {P : D → Prop} (h0 : 0 ≤ x) (h1 : x < l.length) (h : ∀ d ∈ l, P d) : ∃ d, P d ∧ atD l x = some d := by
  obtain ⟨c, hc, he⟩ := atD_int (l := l) (x := x) h0 h1
  exact ⟨c, h c (List.mem_of_getElem? hc), he⟩
theorem at_ints {l : List Int} {x : Int} (h0 : 0 ≤ x) (h1 : x < l.length) : atD (l.map D.int) x = some (D.int (l.getD x.toNat 0)) := by
  obtain ⟨c, hc, he⟩ := atD_int (l := l.map D.int) (x := x) h0 (by rw [List.length_map]; exact h1)
  rw [he, List.getD_eq_getElem?_getD]
  rw [List.getElem?_map] at hc
  cases z : l[x.toNat]? with
  | none => rw [z] at hc; cases hc
  | some r => rw [z] at hc; cases hc; rfl
theorem at_map {α : Type} {f : α → D} {l : List α} {x : Int} (d : α) (h0 : 0 ≤ x) (h1 : x < l.length) : atD (l.map f) x = some (f (l.getD x.toNat d)) := by
  obtain ⟨c, hc, he⟩ := atD_int (l := l.map f) (x := x) h0 (by rw [List.length_map]; exact h1)
  rw [he, List.getD_eq_getElem?_getD]
  rw [List.getElem?_map] at hc
  cases z : l[x.toNat]? with
  | none => rw [z] at hc; cases hc
  | some r => rw [z] at hc; cases hc; rfl
theorem cut_mem {α : Type} {xs : List α} {lo hi : Option Int} {x : α} (h : x ∈ cutD xs lo hi) : x ∈ xs := List.mem_of_mem_drop (List.mem_of_mem_take h)
theorem cut_len {α : Type} (xs : List α) (lo hi : Option Int) : (cutD xs lo hi).length ≤ xs.length := by
  unfold cutD
  rw [List.length_take, List.length_drop]
  omega
theorem dSl_lst {xs : List D} {lo hi : Option Int} {S : Store} : dSl (.lst xs) lo hi S = .ok (.lst (cutD xs lo hi)) S := of_eq_true (eq_self _)
theorem dSl_scr {xs : List D} {lo hi : Option Int} {S : Store} : dSl (.scr xs) lo hi S = .ok (.lst (cutD xs lo hi)) S := of_eq_true (eq_self _)
theorem dSl_tup {xs : List D} {lo hi : Option Int} {S : Store} : dSl (.tup xs) lo hi S = .ok (.tup (cutD xs lo hi)) S := of_eq_true (eq_self _)
theorem dAdd_lst {xs ys : List D} {S : Store} (h : xs.length + ys.length ≤ 16777216) : dAdd (.lst xs) (.lst ys) S = .ok (.lst (xs ++ ys)) S := if_pos (Nat.le_trans h (by decide))
theorem dMul_lst {xs : List D} {k : Int} {S : Store} (h0 : 0 ≤ k) (h1 : k ≤ 1000000) (h : xs.length * k.toNat ≤ 16777216) : dMul (.lst xs) (.int k) S = .ok (.lst (List.replicate k.toNat xs).flatten) S :=
  if_pos ⟨by omega, by omega, Nat.le_trans h (by decide)⟩
theorem sIx_pos {n d : Nat} {i : Int} (h0 : 0 ≤ i) : HT.sIx n d (some i) = min i.toNat n := by
  show (if i < 0 then _ else min i.toNat n) = _
  rw [if_neg (by omega)]
theorem sIx_neg {n d : Nat} {i : Int} (h0 : i < 0) : HT.sIx n d (some i) = (i + (n : Int)).toNat := by
  show (if i < 0 then _ else min i.toNat n) = _
  rw [if_pos h0]
theorem sIx_no {n d : Nat} : HT.sIx n d none = d := rfl
theorem take_min {α : Type} {xs : List α} {k : Nat} : xs.take (min k xs.length) = xs.take k := by
  by_cases h : k ≤ xs.length
  · rw [Nat.min_eq_left h]
  · rw [Nat.min_eq_right (by omega), List.take_length, List.take_of_length_le (by omega)]
theorem drop_min {α : Type} {xs : List α} {k : Nat} : xs.drop (min k xs.length) = xs.drop k := by
  by_cases h : k ≤ xs.length
  · rw [Nat.min_eq_left h]
  · rw [Nat.min_eq_right (by omega), List.drop_length, List.drop_of_length_le (by omega)]
theorem cut_to {α : Type} {xs : List α} {i : Int} (h0 : 0 ≤ i) : cutD xs none (some i) = xs.take i.toNat := by
  unfold cutD
  rw [sIx_no, sIx_pos h0, List.drop_zero, Nat.sub_zero, take_min]
theorem cut_from {α : Type} {xs : List α} {i : Int} (h0 : 0 ≤ i) : cutD xs (some i) none = xs.drop i.toNat := by
  unfold cutD
  rw [sIx_no, sIx_pos h0, drop_min]
  apply List.take_of_length_le
  rw [List.length_drop]
  omega
theorem cut_between {α : Type} {xs : List α} {i j : Int} (h0 : 0 ≤ i) (h1 : 0 ≤ j) : cutD xs (some i) (some j) = (xs.drop i.toNat).take (j.toNat - i.toNat) := by
  unfold cutD
  rw [sIx_pos h0, sIx_pos h1, drop_min]
  by_cases h : j.toNat ≤ xs.length
  · rw [Nat.min_eq_left h]
    by_cases h' : i.toNat ≤ xs.length
    · rw [Nat.min_eq_left h']
    · rw [Nat.min_eq_right (by omega), List.drop_of_length_le (by omega), List.take_nil, List.take_nil]
  · rw [Nat.min_eq_right (by omega)]
    by_cases h' : i.toNat ≤ xs.length
    · rw [Nat.min_eq_left h', List.take_of_length_le (by rw [List.length_drop]; omega), List.take_of_length_le (by rw [List.length_drop]; omega)]
    · rw [Nat.min_eq_right (by omega), List.drop_of_length_le (by omega), List.take_nil, List.take_nil]
end Mi
namespace Mi
open PySem L2
/-! ranges as lists, and from their end -/
abbrev DRg := Env → Store → Out (Int × Int)
abbrev RPr : Rl (Int × Int) (Int × Int) := fun _ _ _ b c => b = c
def tRgD (K : PySem.W.Frag) (cl : Cl) (W : WX) (f : DRg) : St → Hp → (Int → Int → Hp → Prop) → Prop := fun σ H Q => ∃ mu δ S, SR K cl mu H S ∧ ERel K cl S.length mu H σ δ ∧ Af K cl RPr S.length mu H σ W (f δ S) fun p H' => Q p.1 p.2 H'
structure FRg (X : Cx) (cl : Cl) (W : WX) (e : Expr) (f : DRg) : Prop where
  pr : PRg X e (tRgD X.K cl W f)
section
variable {X : Cx} {cl : Cl} {W : WX} {a b c o i e : Expr} {fa fb fc fo fi : DE} {pos p : Pos} {k : Nat}
def rg1 (f : DE) : DRg := fun δ S => (f δ S).bind fun x S1 => match x with | .int n => .ok (0, n) S1 | _ => .stuck
def rg2 (f g : DE) : DRg := fun δ S => (f δ S).bind fun x S1 => (g δ S1).bind fun y S2 => match x, y with | .int m, .int n => .ok (m, n) S2 | _, _ => .stuck
theorem prg_imp {e : Expr} {t t' : St → Hp → (Int → Int → Hp → Prop) → Prop} (h : PRg X e t) (i : ∀ σ H Q, t' σ H Q → t σ H Q) : PRg X e t' := fun pins s σ H Q I q => h pins s σ H Q I (i σ H Q q)
theorem frg_1 (hm : X.mg "range" = none) (ha : FE X cl W a fa) (hg : Gl X "range" := by rfl) (na : starEach [a] X.env = (false, eval a X.env) :: starEach [] X.env := by rfl) : FRg X cl W (.Call (.Name "range" p) [a] [] pos) (rg1 fa) :=
  ⟨prg_imp (prg_1 hg hm ha.pe na) fun σ H Q ⟨mu, δ, S, s, r, q⟩ => by
    refine ⟨mu, δ, S, s, r, (Af.bind q).mono fun v H1 ⟨mu1, d, S1, s1, e1, r1, q1⟩ => ?_⟩
    split at q1
    · cases r1; exact ⟨_, rfl, Af.now q1 s1 rfl⟩
    · exact q1.elim⟩
theorem frg_2 (hm : X.mg "range" = none) (ha : FE X cl W a fa) (hb : FE X cl W b fb) (hg : Gl X "range" := by rfl) (na : starEach [a, b] X.env = (false, eval a X.env) :: starEach [b] X.env := by rfl)
    (nb : starEach [b] X.env = (false, eval b X.env) :: starEach [] X.env := by rfl) (hp : (backTo pos (starEach [b] X.env)).any (·.1) = false := by rfl) : FRg X cl W (.Call (.Name "range" p) [a, b] [] pos) (rg2 fa fb) :=
  ⟨prg_imp (prg_2 hg hm ha.pe hb.pe na nb hp) fun σ H Q ⟨mu, δ, S, s, r, q⟩ => by
    refine ⟨mu, δ, S, s, r, (Af.bind q).mono fun v H1 ⟨mu1, d, S1, s1, e1, r1, q1⟩ => ?_⟩
    refine ⟨mu1, δ, S1, s1, r.mono e1, (Af.bind q1).mono fun u H2 ⟨mu2, d2, S2, s2, e2, r2, q2⟩ => ?_⟩
    split at q2
    · cases r1; cases r2; exact ⟨_, _, rfl, rfl, Af.now q2 s2 rfl⟩
    · exact q2.elim⟩
def iRevRg (f : DRg) : DI := fun δ S => (f δ S).bind fun p S1 => if -(2 ^ 62) ≤ p.1 ∧ p.1 < 2 ^ 62 ∧ -(2 ^ 62) ≤ p.2 ∧ p.2 < 2 ^ 62 then .ok ((rngD p.1 (p.2 - p.1).toNat).reverse, none) S1 else .stuck
theorem rngD_len (lo : Int) (n : Nat) : (rngD lo n).length = n := by unfold rngD; rw [List.length_map, List.length_range]
theorem rngD_get {lo : Int} {n i : Nat} (h : i < n) : (rngD lo n)[i]? = some (.int (lo + i)) := by
  unfold rngD; rw [List.getElem?_map, List.getElem?_range h]; rfl
theorem it_rev {K : PySem.W.Frag} {n : Nat} {mu : Mu} {H : Hp} {lo : Int} {m : Nat} : ItR K cl n mu H (Itc (lo + (m : Int) - 1) (-1) m) ((rngD lo m).reverse, none) := ⟨fun mu' H' S' e s _ i => by
  have hl : (rngD lo m).reverse.length = m := by rw [List.length_reverse, rngD_len]
  refine ⟨fun hi => by show m ≤ i; rw [← hl]; exact Nat.le_of_eq hi.symm, fun d hd => ?_⟩
  have hi : i < m := by have := (List.getElem?_eq_some_iff.mp hd).1; rw [← hl]; exact this
  refine ⟨hi, fun x H2 y => ?_⟩
  obtain ⟨e1, e2⟩ := y
  subst e1 e2
  have hd' : d = .int (lo + (m : Int) - 1 + (i : Nat) * -1) := by
    have hd : (rngD lo m).reverse[i]? = some d := hd
    rw [List.getElem?_reverse (by rw [rngD_len]; exact hi), rngD_len, rngD_get (by omega)] at hd
    cases hd
    congr 1
    omega
  subst hd'
  exact ⟨s.rfl', s, .int _⟩⟩
theorem fi_rev {tg : Expr} {fr : DRg} (hm : X.mg "reversed" = none) (he : FRg X cl W e fr) (hg : Gl X "reversed" := by rfl) (hs : starEach [e] X.env = (false, eval e X.env) :: starEach [] X.env := by rfl) :
    FI X cl W tg (.Call (.Name "reversed" p) [e] [] pos) (iRevRg fr) := fi_of (pi_revR hg hm he.pr hs) fun mu δ S σ H R s r q => by
  refine ⟨mu, δ, S, s, r, (Af.bind q).mono fun v H1 ⟨mu1, d, S1, s1, e1, r1, q1⟩ => ?_⟩
  split at q1
  · rename_i hz
    cases r1
    exact ⟨hz.1, hz.2.1, hz.2.2.1, hz.2.2.2, Af.now q1 s1 it_rev⟩
  · exact q1.elim
instance (a b : Int) : Decidable (RgOk a b) := inferInstanceAs (Decidable (_ ∧ _))
def eListRg (live : Bool) (f : DRg) : DE := fun δ S => (f δ S).bind fun p S1 => if RgOk p.1 p.2 then (if live then .ok (.ref S1.length) (S1 ++ [some (.lst (rngD p.1 (p.2 - p.1).toNat))]) else .ok (.lst (rngD p.1 (p.2 - p.1).toNat)) S1) else .stuck
theorem rg_rels {K : PySem.W.Frag} {n : Nat} {mu : Mu} {H : Hp} (x y : Int) : VRels K cl n mu H (rgV x y) (rngD x (y - x).toNat) := by
  unfold rgV rngD
  generalize (y - x).toNat = m
  induction (List.range m) with
  | nil => exact .nil
  | cons z l ih => exact .cons (.int _) ih
theorem fe_listRg (G : Good X W k) {live : Bool} {fr : DRg} (hm : X.mg "list" = none) (he : FRg X cl W e fr) (hg : Gl X "list" := by rfl) (na : starEach [e] X.env = (false, eval e X.env) :: starEach [] X.env := by rfl) :
    FE X cl W (.Call (.Name "list" p) [e] [] pos) (eListRg live fr) := fe_of (pe_listRg G.calm hg hm he.pr na) fun mu δ S σ H Q s r q => by
  refine ⟨mu, δ, S, s, r, (Af.bind q).mono fun v H1 ⟨mu1, d, S1, s1, e1, r1, q1⟩ => ?_⟩
  cases r1
  split at q1
  · rename_i hz
    refine ⟨hz, ?_⟩
    cases live
    · exact Af.lst q1 s1 (rg_rels _ _)
    · exact Af.lstL q1 s1 (rg_rels _ _)
  · exact q1.elim
/-! o[i] = e -/
def setAt (o i y : D) (S : Store) : Option Store := match o with
  | .ref l => match S[l]? with
    | some (some (.lst xs)) => (match i with
      | .int k => (ixN xs.length k).map fun j => S.set l (some (.lst (xs.set j y)))
      | _ => none)
    | some (some (.dic kvs)) => (match keyOf i with
      | some k => if kvs.length < 16777216 then some (S.set l (some (.dic (putD kvs k y)))) else none
      | none => none)
    | _ => none
  | _ => none
def sSetAt (fo fi fe : DE) : DS := fun δ S => toS δ (fe δ S) fun y S1 => toS δ (fo δ S1) fun x S2 => toS δ (fi δ S2) fun j S3 => match setAt x j y S3 with
  | some S4 => .nx δ S4
  | none => .stuck
theorem PSet.or {t1 t2 : TSet} (h1 : PSet X t1) (h2 : PSet X t2) : PSet X (fun o i v H Q => t1 o i v H Q ∨ t2 o i v H Q) := fun pins s σ H o i v ov iv u Q I ro ri rv h =>
  h.elim (fun h => h1 pins s σ H o i v ov iv u Q I ro ri rv h) (fun h => h2 pins s σ H o i v ov iv u Q I ro ri rv h)
theorem put_at {K : PySem.W.Frag} {mu : Mu} {H : Hp} {S S4 : Store} {v u w : V} {x j y : D} (s : SR K cl mu H S) (rx : VRel K cl S.length mu H v x) (rj : VRel K cl S.length mu H u j) (ry : VRel K cl S.length mu H w y) (e : setAt x j y S = some S4) :
    ∃ a ho, v = .ref a ∧ ((∃ xs k i, u = .int k ∧ H a = some (.lst xs) ∧ ixN xs.length k = some i ∧ ho = .lst (xs.set i w)) ∨ (∃ kvs q, u = kV q ∧ H a = some (.dK kvs) ∧ kvs.length < sizeLine ∧ ho = .dK (putK kvs q w))) ∧ Ext S.length mu H S4.length mu (upd H a ho) ∧ SR K cl mu (upd H a ho) S4 := by
  unfold setAt at e
  split at e
  · rename_i l
    split at e
    · rename_i xs hx
      split at e
      · rename_i k
        obtain ⟨a, rfl, hm, oo⟩ := ref_at s rx hx
        cases oo with
        | @lst vs _ hH rs =>
          cases rj
          cases z : ixN xs.length k with
          | none => rw [z] at e; cases e
          | some i =>
            rw [z] at e; cases e
            have ex := ext_put (o := .lst (vs.set i w)) (x := some (.lst (xs.set i y))) s hm
            exact ⟨a, _, rfl, .inl ⟨vs, k, i, rfl, hH, by rw [rs.length]; exact z, rfl⟩, ex, sr_put s hm (.lst upd_same ((VRels.set ry i rs).mono ex))⟩
      · cases e
    · rename_i kds hx
      split at e
      · rename_i q hq
        split at e
        · rename_i hz
          cases e
          obtain ⟨a, kvs, rfl, hm, hH, kr⟩ := dic_live s rx hx
          have ex := ext_put (o := .dK (putK kvs q w)) (x := some (.dic (putD kds q y))) s hm
          have kl : kvs.length = kds.length := by have := congrArg List.length kr.1; simpa using this
          exact ⟨a, _, rfl, .inr ⟨kvs, q, key_at rj hq, hH, by rw [kl]; exact Nat.lt_of_lt_of_le hz (by decide), rfl⟩, ex, sr_put s hm (ORel.dic' upd_same ((kr.put (k := q) ry).pr ex.pr))⟩
        · cases e
      · cases e
    · cases e
  · cases e
theorem fs_setAt (G : Good X W k) {value : Expr} {fv : DE} {pos' : Pos} (ho : FE X cl W o fo) (hi : FE X cl W i fi) (hv : FE X cl W value fv) (hs : swapsWith value (some (.Subscript o i pos')) pos.line X.env = pure false := by rfl) (ha : ∀ v, assign (.Subscript o i pos') X.env v = (do
      let ov ← holding [v] (eval o X.env)
      let iv ← holding [v, ov] (eval i X.env)
      standAt pos'
      holding [v, ov, iv] (setItem ov iv v)
      release [v, ov, iv] []) := by intro _; rfl) : FS X cl W (.Assign [.Subscript o i pos'] value pos) (sSetAt fo fi fv) :=
  fs_of (ps_asg hv.pe (pg_sub ho.pe hi.pe (PSet.or set_list (set_dict (Nat.lt_of_le_of_lt (by omega) G.room.units))) ha) hs) fun mu δ S σ H D s r q => by
    refine ⟨mu, δ, S, s, r, (AfS.toS r q).mono fun w H1 ⟨mu1, y, S1, s1, e1, r1, q1⟩ => ?_⟩
    have r' := r.mono e1
    refine ⟨mu1, δ, S1, s1, r', (AfS.toS r' q1).mono fun v H2 ⟨mu2, x, S2, s2, e2, r2, q2⟩ => ?_⟩
    have r'' := r'.mono e2
    refine ⟨mu2, δ, S2, s2, r'', (AfS.toS r'' q2).mono fun u H3 ⟨mu3, j, S3, s3, e3, r3, q3⟩ => ?_⟩
    split at q3
    · rename_i S4 h4
      obtain ⟨a, ho, rfl, hh, ex, s4⟩ := put_at s3 (r2.mono e3) r3 ((r1.mono e2).mono e3) h4
      have fin : D.nx σ (upd H3 a ho) := q3 σ _ mu3 ex s4 ((r''.mono e3).mono ex)
      rcases hh with ⟨xs, k, i, rfl, hH, hi, rfl⟩ | ⟨kvs, q, rfl, hH, hl, rfl⟩
      · exact .inl ⟨a, xs, k, i, rfl, rfl, hH, hi, fin⟩
      · exact .inr ⟨a, _, rfl, DPut.k hH hl, fin⟩
    · exact q3.elim
end
end Mi
namespace Mi
open PySem PySem.Spec PyProof.Rows L2
/-! zip of two lists and a tuple -/
def Itz3 (K : PySem.W.Frag) (a b c : Addr) : It :=
  ⟨fun i H => ∃ (xs ys zs : List V) (x y z : V), SqL K H a xs ∧ SqL K H b ys ∧ SqT K H c zs ∧ xs[i]? = some x ∧ ys[i]? = some y ∧ zs[i]? = some z,
    fun i H v H' => ∃ T x y z, v = .ref T ∧ H T = none ∧ H' = upd H T (.tup [x, y, z]) ∧ (∀ xs, SqL K H a xs → xs[i]? = some x) ∧ (∀ ys, SqL K H b ys → ys[i]? = some y) ∧ ∀ zs, SqT K H c zs → zs[i]? = some z,
    fun i H => ∃ xs ys zs : List V, SqL K H a xs ∧ SqL K H b ys ∧ SqT K H c zs ∧ i ≤ xs.length ∧ i ≤ ys.length ∧ i ≤ zs.length ∧ (i = xs.length ∨ i = ys.length ∨ i = zs.length)⟩
theorem turn_zip3 {P : Program} {w : World} {K : PySem.W.Frag} {elts : List Expr} {kk : Nat} {tpos : Pos} {a b c z TI TO i1 i2 i3 : Addr} (D : ZipSep3 z TI TO i1 i2 i3 [i1, a] [i2, b] [i3, c]) (na : a ≠ i1) (nb : b ≠ i2) (nc : c ≠ i3) :
    Turn P w K (.Tuple elts kk tpos) (Itz3 K a b c) [z, TI, TO, i1, i2, i3] z (fun i h => IsZip h z TI TO .none ∧ IsTupOf3 h TI (.ref i1) (.ref i2) (.ref i3) ∧ (∃ x y u, IsTupOf3 h TO x y u) ∧ h.IsListIter i1 a i ∧ h.IsListIter i2 b i ∧ h.IsTupleIter i3 c i) where
  mem := by simp
  obj := fun i h st q hc => by
    obtain ⟨hz, hTI, ⟨x, y, u, hTO⟩, ⟨o1, e1, _, d1⟩, ⟨o2, e2, _, d2⟩, ⟨o3, e3, _, d3⟩⟩ := st
    have e' : q = z ∨ q = TI ∨ q = TO ∨ q = i1 ∨ q = i2 ∨ q = i3 := by simpa using hc
    rcases e' with q | q | q | q | q | q
    · rw [q]; exact ⟨_, hz, fun v q => nomatch q⟩
    · rw [q]; exact ⟨_, hTI, fun v q => nomatch q⟩
    · rw [q]; exact ⟨_, hTO, fun v q => nomatch q⟩
    · rw [q]; exact ⟨o1, e1, fun v q => by rw [d1] at q; cases q⟩
    · rw [q]; exact ⟨o2, e2, fun v q => by rw [d2] at q; cases q⟩
    · rw [q]; exact ⟨o3, e3, fun v q => by rw [d3] at q; cases q⟩
  keep := fun i h h' st k => by
    obtain ⟨hz, hTI, ⟨x, y, u, hTO⟩, h1, h2, h3⟩ := st
    exact ⟨k z (by simp) _ hz, k TI (by simp) _ hTI, ⟨x, y, u, k TO (by simp) _ hTO⟩, h1.at fun o q => k i1 (by simp) o q, h2.at fun o q => k i2 (by simp) o q, h3.at fun o q => k i3 (by simp) o q⟩
  item := by
    intro X hP hw hK hc i pins s σ H E I hf st hg
    subst hP hw hK
    obtain ⟨hz, hTI, ⟨x0, y0, u0, hTO⟩, h1, h2, h3⟩ := st
    obtain ⟨xs, ys, zs, x, y, v, hqx, hqy, hqz, hx, hy, hv⟩ := hg
    obtain ⟨its, rv, p, _⟩ := I.list hqx
    obtain ⟨its2, rv2, p2, _⟩ := I.list hqy
    obtain ⟨its3, rv3, p3, _⟩ := I.tuple hqz
    obtain ⟨u, hu, ru⟩ := rv.get hx
    obtain ⟨u2, hu2, ru2⟩ := rv2.get hy
    obtain ⟨u3, hu3, ru3⟩ := rv3.get hv
    have hzl : z < s.heap.objs.size := Heap.lt_size hz
    have hh : X.A.in1.handled = none := I.ok.hd hc
    have lt1 : i < its.toArray.size := by have := (List.getElem?_eq_some_iff.mp hu).1; simpa using this
    have lt2 : i < its2.toArray.size := by have := (List.getElem?_eq_some_iff.mp hu2).1; simpa using this
    have lt3 : i < its3.toArray.size := by have := (List.getElem?_eq_some_iff.mp hu3).1; simpa using this
    refine wpAny_pyNext_zipD3_item D (Draws.list hh i1 a na its.toArray) (Draws.list hh i2 b nb its2.toArray) (Draws.tuple hh i3 c nc its3.toArray) hz hTI hTO ⟨h1, p.isList⟩ ⟨h2, p2.isList⟩ ⟨h3, p3⟩ lt1 lt2 lt3
      fun x1 x2 x3 h' tk y1 y2 y3 z' TO' h1' h2' h3' hT hsz hk => ?_
    have g1 : x1 = u := by have : its.toArray[i]? = some x1 := y1; simp only [List.getElem?_toArray] at this; rw [hu] at this; cases this; rfl
    have g2 : x2 = u2 := by have : its2.toArray[i]? = some x2 := y2; simp only [List.getElem?_toArray] at this; rw [hu2] at this; cases this; rfl
    have g3 : x3 = u3 := by have : its3.toArray[i]? = some x3 := y3; simp only [List.getElem?_toArray] at this; rw [hu3] at this; cases this; rfl
    subst g1 g2 g3
    refine ⟨_, rfl, wpAny_letOwnedTupleGo_zip (s := { s with heap := h', toks := tk }) z' fun h'' z'' sb => ?_⟩
    have hT2 : h''.get? s.heap.objs.size = some { cls := .type "tuple", data := .seq #[x1, x2, x3] } := (sb.2 _ (Nat.ne_of_gt hzl)).trans hT
    have new : ObjOk X.prog X.w (upd H s.heap.objs.size (.tup [x, y, v])) h'' s.heap.objs.size (.tup [x, y, v]) :=
      ⟨by show 3 ≤ sizeLine; decide, [x1, x2, x3], .cons ru (.cons ru2 (.cons ru3 .nil)), ⟨_, hT2, rfl, _, rfl⟩⟩
    have I1 : Inv X pins σ (upd H s.heap.objs.size (.tup [x, y, v])) { s with heap := h'', toks := tk } :=
      I.turnedNew (t' := tk) (ch := [z, TI, TO, i1, i2, i3]) (fun c o hb q => (sb.2 c (fun q' => hb (by simp [q']))).trans (hk c o (fun q' => hb (by simp [q'])) (fun q' => hb (by simp [q'])) (fun q' => hb (by simp [q'])) (fun q' => hb (by simp [q'])) (fun q' => hb (by simp [q'])) q)) hf (Nat.le_refl _) new
    refine ⟨.ref s.heap.objs.size, _, I1, rfl, ⟨_, x, y, v, rfl, I.hok.fresh (Nat.le_refl _), rfl, fun l hl => by rw [I.list_inj hl hqx]; exact hx, fun l hl => by rw [I.list_inj hl hqy]; exact hy, fun l hl => by rw [I.tuple_inj hl hqz]; exact hv⟩, ⟨z'', ?_, ⟨x1, x2, x3, ?_⟩, ?_, ?_, ?_⟩, fun c hcm => ?_⟩
    · exact (sb.2 _ D.TIz).trans (hk _ _ D.TIz D.TITO D.TIi1 D.TIi2 D.TIi3 hTI)
    · exact (sb.2 _ D.TOz).trans TO'
    · exact h1'.1.at fun o q => (sb.2 _ D.zi1.symm).trans q
    · exact h2'.1.at fun o q => (sb.2 _ D.zi2.symm).trans q
    · exact h3'.1.at fun o q => (sb.2 _ D.zi3.symm).trans q
    · have hlt : c < s.heap.objs.size := by
        have e' : c = z ∨ c = TI ∨ c = TO ∨ c = i1 ∨ c = i2 ∨ c = i3 := by simpa using hcm
        rcases e' with q | q | q | q | q | q
        · rw [q]; exact hzl
        · rw [q]; exact Heap.lt_size hTI
        · rw [q]; exact Heap.lt_size hTO
        · rw [q]; obtain ⟨_, e1, _⟩ := h1; exact Heap.lt_size e1
        · rw [q]; obtain ⟨_, e2, _⟩ := h2; exact Heap.lt_size e2
        · rw [q]; obtain ⟨_, e3, _⟩ := h3; exact Heap.lt_size e3
      rw [upd_ne (Nat.ne_of_lt hlt)]
      exact (hf c hcm).1
  done := by
    intro X hP hw hK hc i pins s σ H E I hf st hg
    subst hP hw hK
    obtain ⟨hz, hTI, ⟨x0, y0, u0, hTO⟩, h1, h2, h3⟩ := st
    obtain ⟨xs, ys, zs, hqx, hqy, hqz, l1, l2, l3, hend⟩ := hg
    obtain ⟨its, rv, p, _⟩ := I.list hqx
    obtain ⟨its2, rv2, p2, _⟩ := I.list hqy
    obtain ⟨its3, rv3, p3, _⟩ := I.tuple hqz
    have e1 := rv.length
    have e2 := rv2.length
    have e3 := rv3.length
    have hh : X.A.in1.handled = none := I.ok.hd hc
    exact wpAny_pyNext_zipD3_end D (Draws.list hh i1 a na its.toArray) (Draws.list hh i2 b nb its2.toArray) (Draws.tuple hh i3 c nc its3.toArray) hz hTI hTO ⟨h1, p.isList⟩ ⟨h2, p2.isList⟩ ⟨h3, p3⟩ (by simp; omega) (by simp; omega) (by simp; omega) (by simp; omega)
      fun h' tk hk => ⟨rfl, I.turnedL (t' := tk) (ch := [z, TI, TO, i1, i2, i3]) (fun c o hb q => hk c o (fun q' => hb (by simp [q'])) (fun q' => hb (by simp [q'])) (fun q' => hb (by simp [q'])) (fun q' => hb (by simp [q'])) (fun q' => hb (by simp [q'])) q) hf⟩
  self := fun A i s Q E st h => wpAny_pyIter_zip st.1 h
def iZip3 (K : PySem.W.Frag) (ta : TA) : TI := fun σ H R => ta σ H fun vs H1 => ∃ a b c xs ys zs, vs = [.ref a, .ref b, .ref c] ∧ SqL K H1 a xs ∧ SqL K H1 b ys ∧ SqT K H1 c zs ∧ R (Itz3 K a b c) H1
theorem pi_zip3 {X : Cx} {e e2 e3 : Expr} {ta : TA} {p pos tpos : Pos} {elts : List Expr} {kk : Nat} (hg : Gl X "zip") (hm : X.mg "zip" = none) (ha : PA X [e, e2, e3] ta)
    (hs : starEach [e, e2, e3] X.env = (false, eval e X.env) :: starEach [e2, e3] X.env := by rfl) (hpl : (backTo pos (starEach [e2, e3] X.env)).any (·.1) = false := by rfl) :
    PI X (.Tuple elts kk tpos) (.Call (.Name "zip" p) [e, e2, e3] [] pos) (iZip3 X.K ta) := by
  refine ⟨fun pins s σ H R I h => ?_⟩
  refine Call_ (ld_blt I hg hm PyProof.Rows.boot_zip (PyProof.Rows.callWith_type1 (thn (ha.run pos pins s σ H _ I h) fun us s1 ⟨vs, H1, I1, r1, q1⟩ => ?_) hs hpl))
  obtain ⟨a, b, c, xs, ys, zs, ex, hqx, hqy, hqz, q⟩ := q1
  subst ex
  cases r1 with
  | cons r rr =>
    cases rr with
    | cons r' rr =>
      cases rr with
      | cons r'' rr =>
        cases rr
        cases r
        cases r'
        cases r''
        have fresh6 : ∀ c, c ∈ [s1.heap.objs.size + 5, s1.heap.objs.size + 3, s1.heap.objs.size + 4, s1.heap.objs.size, s1.heap.objs.size + 1, s1.heap.objs.size + 2] → FpOk X pins H1 c := fun c hcm => by
          have e' : c = s1.heap.objs.size + 5 ∨ c = s1.heap.objs.size + 3 ∨ c = s1.heap.objs.size + 4 ∨ c = s1.heap.objs.size ∨ c = s1.heap.objs.size + 1 ∨ c = s1.heap.objs.size + 2 := by simpa using hcm
          have hle : s1.heap.objs.size ≤ c := by
            rcases e' with z | z | z | z | z | z
            · rw [z]; exact Nat.le_add_right _ _
            · rw [z]; exact Nat.le_add_right _ _
            · rw [z]; exact Nat.le_add_right _ _
            · rw [z]; exact Nat.le_refl _
            · rw [z]; exact Nat.le_add_right _ _
            · rw [z]; exact Nat.le_add_right _ _
          exact I1.fpOk hle (I1.hok.fresh hle)
        obtain ⟨its, rv, p1, _⟩ := I1.list hqx
        obtain ⟨its2, rv2, p2, _⟩ := I1.list hqy
        obtain ⟨its3, rv3, p3, _⟩ := I1.tuple hqz
        obtain ⟨o3, ho3, _⟩ := id p3
        have l1 : a < s1.heap.objs.size := p1.lt
        have l2 : b < s1.heap.objs.size := p2.lt
        have l3 : c < s1.heap.objs.size := Heap.lt_size ho3
        refine zip_begins3 (begins_list a its.toArray) (begins_list b its2.toArray) (begins_tuple c its3.toArray) p1.isList p2.isList p3 fun h' hz hTI hTO h1 h2 h3 hsz hk => wpAny_pyIter_zip hz ?_
        have I2 : Inv X pins σ H1 { s1 with heap := h' } := I1.kept (t' := s1.toks) hk
        have sep := zip_sep3 (N := s1.heap.objs.size) (fp1 := [a]) (fp2 := [b]) (fp3 := [c]) (fun x hx => by cases List.mem_singleton.mp hx; exact l1) (fun x hx => by cases List.mem_singleton.mp hx; exact l2) (fun x hx => by cases List.mem_singleton.mp hx; exact l3)
        exact ⟨s1.heap.objs.size + 5, [s1.heap.objs.size + 5, s1.heap.objs.size + 3, s1.heap.objs.size + 4, s1.heap.objs.size, s1.heap.objs.size + 1, s1.heap.objs.size + 2], _, _, H1, rfl, I2,
          turn_zip3 sep (Nat.ne_of_lt l1) (Nat.ne_of_lt (Nat.lt_succ_of_lt l2)) (Nat.ne_of_lt (Nat.lt_succ_of_lt (Nat.lt_succ_of_lt l3))), ⟨hz, hTI, ⟨_, _, _, hTO⟩, ⟨_, h1, rfl, rfl⟩, ⟨_, h2, rfl, rfl⟩, ⟨_, h3, rfl, rfl⟩⟩, fresh6, q⟩
section
variable {X : Cx} {cl : Cl} {W : WX} {e e2' e3' : Expr} {fx : DA} {pos p tpos : Pos}
def zip3D : List D → List D → List D → List D
  | x :: xs, y :: ys, z :: zs => .tup [x, y, z] :: zip3D xs ys zs
  | _, _, _ => []
theorem zip3_len : ∀ xs ys zs : List D, (zip3D xs ys zs).length = min (min xs.length ys.length) zs.length
  | x :: xs, y :: ys, z :: zs => by simp only [zip3D, List.length_cons, zip3_len xs ys zs]; omega
  | [], _, _ => by simp [zip3D]
  | _ :: _, [], _ => by simp [zip3D]
  | _ :: _, _ :: _, [] => by simp [zip3D]
theorem zip3_get : ∀ {xs ys zs : List D} {i : Nat} {d : D}, (zip3D xs ys zs)[i]? = some d → ∃ x y z, xs[i]? = some x ∧ ys[i]? = some y ∧ zs[i]? = some z ∧ d = .tup [x, y, z]
  | x :: xs, y :: ys, z :: zs, 0, d, h => by cases h; exact ⟨x, y, z, rfl, rfl, rfl, rfl⟩
  | x :: xs, y :: ys, z :: zs, i + 1, d, h => by
    obtain ⟨a, b, c, h1, h2, h3, h4⟩ := zip3_get (xs := xs) (ys := ys) (zs := zs) (i := i) (by simpa [zip3D] using h)
    exact ⟨a, b, c, by simpa using h1, by simpa using h2, by simpa using h3, h4⟩
  | [], _, _, i, d, h => by simp [zip3D] at h
  | _ :: _, [], _, i, d, h => by simp [zip3D] at h
  | _ :: _, _ :: _, [], i, d, h => by simp [zip3D] at h
def iZip3D (f : DA) : DI := fun δ S => (f δ S).bind fun ds S1 => match ds with
  | [.lst xs, .lst ys, .tup zs] => .ok (zip3D xs ys zs, none) S1
  | _ => .stuck
theorem fi_zip3 {elts : List Expr} {kk : Nat} (hm : X.mg "zip" = none) (ha : FA X cl W [e, e2', e3'] fx) (hg : Gl X "zip" := by rfl) (hs : starEach [e, e2', e3'] X.env = (false, eval e X.env) :: starEach [e2', e3'] X.env := by rfl) (hpl : (backTo pos (starEach [e2', e3'] X.env)).any (·.1) = false := by rfl) :
    FI X cl W (.Tuple elts kk tpos) (.Call (.Name "zip" p) [e, e2', e3'] [] pos) (iZip3D fx) := fi_of (pi_zip3 hg hm ha.pa hs hpl) fun mu δ S σ H R s r q => by
  refine ⟨mu, δ, S, s, r, (Af.bind q).mono fun vv H1 ⟨mu1, dd, S1, s1, e1, r1, q1⟩ => ?_⟩
  split at q1
  · rename_i xs ys zs
    cases r1 with
    | cons h1 r2 =>
      cases r2 with
      | cons h2 r3 =>
        cases r3 with
        | cons h3 r4 =>
          cases r4
          cases h1 with
          | @lst a vs _ f1 rs1 =>
            cases h2 with
            | @lst b us _ f2 rs2 =>
              cases h3 with
              | @tup c ws _ f3 rs3 =>
                refine ⟨a, b, c, vs, us, ws, rfl, f1.sq, f2.sq, f3.sq, Af.now q1 s1 ⟨fun mu' H' S' e s _ i => ⟨fun hi => ⟨vs, us, ws, (f1.pr e).sq, (f2.pr e).sq, (f3.pr e).sq, ?_⟩, fun d hd => ?_⟩⟩⟩
                · have hi : i = (zip3D xs ys zs).length := hi
                  rw [zip3_len, ← rs1.length, ← rs2.length, ← rs3.length] at hi
                  omega
                · obtain ⟨x, y, z, z1, z2, z3, rfl⟩ := zip3_get hd
                  obtain ⟨v, hv, rv⟩ := rs1.get (i := i) z1
                  obtain ⟨u, hu, ru⟩ := rs2.get (i := i) z2
                  obtain ⟨w, hw, rw'⟩ := rs3.get (i := i) z3
                  refine ⟨⟨vs, us, ws, v, u, w, (f1.pr e).sq, (f2.pr e).sq, (f3.pr e).sq, hv, hu, hw⟩, fun w' H2 y' => ?_⟩
                  obtain ⟨T, x', y'', z', rfl, hT, rfl, hx', hy', hz'⟩ := y'
                  have ex := hx' vs (f1.pr e).sq
                  have ey := hy' us (f2.pr e).sq
                  have ez := hz' ws (f3.pr e).sq
                  rw [hv] at ex
                  rw [hu] at ey
                  rw [hw] at ez
                  cases ex
                  cases ey
                  cases ez
                  have en := ext_new (o := HO.tup [v, u, w]) s hT
                  exact ⟨en, sr_new s hT, .tup (.inl (fz_new s hT)) (.cons ((rv.pr e).mono en) (.cons ((ru.pr e).mono en) (.cons ((rw'.pr e).mono en) .nil)))⟩
  · exact q1.elim
end
section
variable {δ : Env} {S : Store} {f g h : DE} {a : DA} {fr : DRg} {x y : Int} {d : D} {xs ys zs : List D}
theorem rg1_ap : rg1 f δ S = (f δ S).bind fun x S1 => match x with | .int n => .ok ((0 : Int), n) S1 | _ => .stuck := of_eq_true (eq_self _)
theorem rg2_ap : rg2 f g δ S = (f δ S).bind fun x S1 => (g δ S1).bind fun y S2 => match x, y with | .int m, .int n => .ok (m, n) S2 | _, _ => .stuck := of_eq_true (eq_self _)
theorem eListRg_ap {live : Bool} : eListRg live fr δ S = (fr δ S).bind fun p S1 => if RgOk p.1 p.2 then (if live then .ok (.ref S1.length) (S1 ++ [some (.lst (rngD p.1 (p.2 - p.1).toNat))]) else .ok (.lst (rngD p.1 (p.2 - p.1).toNat)) S1) else .stuck := of_eq_true (eq_self _)
theorem iRevRg_ap : iRevRg fr δ S = (fr δ S).bind fun p S1 => if -(2 ^ 62) ≤ p.1 ∧ p.1 < 2 ^ 62 ∧ -(2 ^ 62) ≤ p.2 ∧ p.2 < 2 ^ 62 then .ok ((rngD p.1 (p.2 - p.1).toNat).reverse, none) S1 else .stuck := of_eq_true (eq_self _)
theorem iZip3D_ap : iZip3D a δ S = (a δ S).bind fun ds S1 => match ds with
  | [.lst xs, .lst ys, .tup zs] => .ok (zip3D xs ys zs, none) S1
  | _ => .stuck := of_eq_true (eq_self _)
theorem iEnum_ap : iEnum a δ S = (a δ S).bind fun ds S1 => match ds with
  | [.lst xs] => .ok (enumD 0 xs, none) S1
  | [.scr xs] => .ok (enumD 0 xs, none) S1
  | [.ref l] => match S1[l]? with
    | some (some (.lst xs)) => .ok (enumD 0 xs, some (l, xs)) S1
    | _ => .stuck
  | _ => .stuck := of_eq_true (eq_self _)
theorem sSetAt_ap : sSetAt f g h δ S = toS δ (h δ S) fun y S1 => toS δ (f δ S1) fun x S2 => toS δ (g δ S2) fun j S3 => match setAt x j y S3 with
  | some S4 => .nx δ S4
  | none => .stuck := of_eq_true (eq_self _)
theorem ixN_ok {n : Nat} {k : Int} (h0 : 0 ≤ k) (h1 : k < n) : ixN n k = some k.toNat := by
  unfold ixN
  rw [if_pos h0, if_pos h1]
theorem setAt_lst {l : Nat} (hS : S[l]? = some (some (.lst xs))) (h0 : 0 ≤ x) (h1 : x < xs.length) : setAt (.ref l) (.int x) d S = some (S.set l (some (.lst (xs.set x.toNat d)))) := by
  unfold setAt
  simp only [hS, ixN_ok h0 h1, Option.map_some]
end
end Mi
namespace Mi
open PySem L2
/-! rules for simp, their conditions shown by omega -/
theorem rg_ok {j : Int} (h0 : -4611686018427387904 ≤ j) (h1 : j < 4611686018427387904) : (-4611686018427387904 ≤ j ∧ j < 4611686018427387904) = True := eq_true ⟨h0, h1⟩
theorem rg_ok2 {i j : Int} (h0 : -4611686018427387904 ≤ i) (h1 : i < 4611686018427387904) (h2 : -4611686018427387904 ≤ j) (h3 : j < 4611686018427387904) : (-4611686018427387904 ≤ i ∧ i < 4611686018427387904 ∧ -4611686018427387904 ≤ j ∧ j < 4611686018427387904) = True := eq_true ⟨h0, h1, h2, h3⟩
theorem rgl_ok {a b : Int} (h0 : 0 ≤ a) (h2 : a ≤ 16777216) (h3 : 0 ≤ b) (h1 : b ≤ 16777216) : RgOk a b = True := eq_true (.of_le h0 h1 h2 h3)
theorem cmul_r {x y : Int} (h : -(2 ^ 62) ≤ y) (h' : y ≤ 2 ^ 62) : IntMulOk x y = True := eq_true (imR' h h')
theorem cmul_l {x y : Int} (h : -(2 ^ 62) ≤ x) (h' : x ≤ 2 ^ 62) : IntMulOk x y = True := eq_true (imL' h h')
theorem at_int' {l : List Int} {x : Int} (h0 : 0 ≤ x) (h1 : x < l.length) : atD (List.map D.int l) x = some (.int (l.getD x.toNat 0)) := at_ints h0 h1
theorem at_bl' {l : List Bool} {x : Int} (h0 : 0 ≤ x) (h1 : x < l.length) : atD (List.map D.bl l) x = some (.bl (l.getD x.toNat false)) := at_map false h0 h1
theorem at_last {α : Type} {f : α → D} {l : List α} (d : α) (h : 0 < l.length) : atD (List.map f l) (-1) = some (f (l.getD (l.length - 1) d)) := by
  unfold atD ixN
  rw [if_neg (by decide), if_pos (by simp only [List.length_map]; omega)]
  simp only [Option.bind_some, List.getElem?_map, List.getD_eq_getElem?_getD]
  rw [show ((-1 + ((List.map f l).length : Int))).toNat = l.length - 1 by rw [List.length_map]; omega]
  rw [List.getElem?_eq_getElem (show l.length - 1 < l.length by omega)]
  rfl
theorem getD_app_l {α : Type} {l m : List α} {i : Nat} {d : α} (h : i < l.length) : (l ++ m).getD i d = l.getD i d := by
  rw [List.getD_eq_getElem?_getD, List.getD_eq_getElem?_getD, List.getElem?_append_left h]
theorem getD_app_r {α : Type} {l : List α} {x d : α} : (l ++ [x]).getD l.length d = x := by
  rw [List.getD_eq_getElem?_getD, List.getElem?_append_right (Nat.le_refl _), Nat.sub_self]; rfl
theorem getD_ext {α : Type} {l m : List α} (d : α) (hl : l.length = m.length) (h : ∀ i, i < l.length → l.getD i d = m.getD i d) : l = m := by
  apply List.ext_getElem hl
  intro i h1 h2
  have := h i h1
  rwa [List.getD_eq_getElem?_getD, List.getD_eq_getElem?_getD, List.getElem?_eq_getElem h1, List.getElem?_eq_getElem h2] at this
theorem getD_set {α : Type} {l : List α} {i j : Nat} {x d : α} (h : j < l.length) : (l.set i x).getD j d = if i = j then x else l.getD j d := by
  rw [List.getD_eq_getElem?_getD, List.getD_eq_getElem?_getD, List.getElem?_set]
  by_cases e : i = j
  · subst e; simp [h]
  · simp [e]
theorem getD_map {α β : Type} {f : α → β} {l : List α} {i : Nat} {d : α} {e : β} (h : i < l.length) : (l.map f).getD i e = f (l.getD i d) := by
  rw [List.getD_eq_getElem?_getD, List.getD_eq_getElem?_getD, List.getElem?_map, List.getElem?_eq_getElem h]; rfl
theorem getD_mem {α : Type} {l : List α} {i : Nat} {d : α} (h : i < l.length) : l.getD i d ∈ l := by
  rw [List.getD_eq_getElem?_getD, List.getElem?_eq_getElem h]; exact List.getElem_mem h
theorem mem_getD {α : Type} {l : List α} {x : α} (d : α) (h : x ∈ l) : ∃ i, i < l.length ∧ l.getD i d = x := by
  obtain ⟨i, hi, rfl⟩ := List.mem_iff_getElem.mp h
  exact ⟨i, hi, by rw [List.getD_eq_getElem?_getD, List.getElem?_eq_getElem hi]; rfl⟩
/-! greatest and least -/
theorem mx_ge : ∀ (m : Int) (l : List Int), m ≤ mxI m l ∧ ∀ x ∈ l, x ≤ mxI m l
  | m, [] => ⟨Int.le_refl _, fun _ h => nomatch h⟩
  | m, y :: l => by
    have ih := mx_ge (if y > m then y else m) l
    have e : mxI m (y :: l) = mxI (if y > m then y else m) l := rfl
    rw [e]
    refine ⟨Int.le_trans (by split <;> omega) ih.1, fun x hx => ?_⟩
    rcases List.mem_cons.mp hx with rfl | hx
    · exact Int.le_trans (by split <;> omega) ih.1
    · exact ih.2 x hx
theorem mx_mem : ∀ (m : Int) (l : List Int), mxI m l = m ∨ mxI m l ∈ l
  | m, [] => .inl rfl
  | m, y :: l => by
    have ih := mx_mem (if y > m then y else m) l
    have e : mxI m (y :: l) = mxI (if y > m then y else m) l := rfl
    rw [e]
    rcases ih with h | h
    · rw [h]
      split
      · exact .inr (List.mem_cons_self ..)
      · exact .inl rfl
    · exact .inr (List.mem_cons_of_mem _ h)
theorem mx_eq {m v : Int} {l : List Int} (h : v ∈ m :: l) (hle : ∀ x ∈ m :: l, x ≤ v) : mxI m l = v := by
  have g := mx_ge m l
  have q : v ≤ mxI m l := by
    rcases List.mem_cons.mp h with rfl | h
    · exact g.1
    · exact g.2 v h
  have q2 : mxI m l ≤ v := by
    rcases mx_mem m l with e | e
    · rw [e]; exact hle m (List.mem_cons_self ..)
    · exact hle _ (List.mem_cons_of_mem _ e)
  omega
theorem mn_le : ∀ (m : Int) (l : List Int), mnI m l ≤ m ∧ ∀ x ∈ l, mnI m l ≤ x
  | m, [] => ⟨Int.le_refl _, fun _ h => nomatch h⟩
  | m, y :: l => by
    have ih := mn_le (if y < m then y else m) l
    have e : mnI m (y :: l) = mnI (if y < m then y else m) l := rfl
    rw [e]
    refine ⟨Int.le_trans ih.1 (by split <;> omega), fun x hx => ?_⟩
    rcases List.mem_cons.mp hx with rfl | hx
    · exact Int.le_trans ih.1 (by split <;> omega)
    · exact ih.2 x hx
theorem mn_mem : ∀ (m : Int) (l : List Int), mnI m l = m ∨ mnI m l ∈ l
  | m, [] => .inl rfl
  | m, y :: l => by
    have ih := mn_mem (if y < m then y else m) l
    have e : mnI m (y :: l) = mnI (if y < m then y else m) l := rfl
    rw [e]
    rcases ih with h | h
    · rw [h]
      split
      · exact .inr (List.mem_cons_self ..)
      · exact .inl rfl
    · exact .inr (List.mem_cons_of_mem _ h)
theorem mn_eq {m v : Int} {l : List Int} (h : v ∈ m :: l) (hle : ∀ x ∈ m :: l, v ≤ x) : mnI m l = v := by
  have g := mn_le m l
  have q : mnI m l ≤ v := by
    rcases List.mem_cons.mp h with rfl | h
    · exact g.1
    · exact g.2 v h
  have q2 : v ≤ mnI m l := by
    rcases mn_mem m l with e | e
    · rw [e]; exact hle m (List.mem_cons_self ..)
    · exact hle _ (List.mem_cons_of_mem _ e)
  omega
theorem bMax1_eq {l : List Int} {v : Int} {S : Store} (h : v ∈ l) (hle : ∀ x ∈ l, x ≤ v) : bMax1 [.lst (l.map .int)] S = .ok (.int v) S := by
  cases l with
  | nil => cases h
  | cons m l =>
    rw [bMax1_lst]
    have e := intsOf_map (fun x : Int => x) (m :: l)
    rw [List.map_id'] at e
    rw [show intsOf (List.map D.int (m :: l)) = some (m :: l) from e]
    simp only [mx_eq h hle]
theorem bMin1_eq {l : List Int} {v : Int} {S : Store} (h : v ∈ l) (hle : ∀ x ∈ l, v ≤ x) : bMin1 [.lst (l.map .int)] S = .ok (.int v) S := by
  cases l with
  | nil => cases h
  | cons m l =>
    rw [bMin1_lst]
    have e := intsOf_map (fun x : Int => x) (m :: l)
    rw [List.map_id'] at e
    rw [show intsOf (List.map D.int (m :: l)) = some (m :: l) from e]
    simp only [mn_eq h hle]
/-! data: what == compares -/
structure Dt (m : Nat) (d : D) : Prop where
  ex : ∃ p, pyG (fun _ => none) d = some p ∧ PyData.canLay0 p = true ∧ p.depth ≤ m
theorem Dt.le {m n : Nat} {d : D} (h : Dt m d) (hn : m ≤ n) : Dt n d := by
  obtain ⟨p, h1, h2, h3⟩ := h.ex
  exact ⟨p, h1, h2, Nat.le_trans h3 hn⟩
theorem Dt.non : Dt 0 .non := ⟨_, rfl, rfl, Nat.le_refl _⟩
theorem Dt.bl (b : Bool) : Dt 0 (.bl b) := ⟨_, rfl, rfl, Nat.le_refl _⟩
theorem Dt.int (i : Int) : Dt 0 (.int i) := ⟨_, rfl, rfl, Nat.le_refl _⟩
theorem TX.sok {n : Nat} {s : Str} (h : TX n s) : PyData.strOk s = true := by
  unfold PyData.strOk
  rw [Array.all_eq_true']
  intro c hc
  exact decide_eq_true (h.cps c (by simpa using hc))
theorem Dt.str {s : Str} (h : PyData.strOk s = true) : Dt 0 (.str s) := ⟨_, rfl, by unfold PyData.canLay0; exact h, Nat.le_refl _⟩
theorem Dt.all {m : Nat} : ∀ {ds : List D}, (∀ d ∈ ds, Dt m d) → ∃ ps, pyGs (fun _ => none) ds = some ps ∧ PyData.canLayAll0 ps = true ∧ PyData.depthAll ps ≤ m
  | [], _ => ⟨[], rfl, rfl, Nat.zero_le _⟩
  | d :: ds, h => by
    obtain ⟨p, h1, h2, h3⟩ := (h d (List.mem_cons_self ..)).ex
    obtain ⟨ps, q1, q2, q3⟩ := Dt.all (ds := ds) fun x hx => h x (List.mem_cons_of_mem _ hx)
    exact ⟨p :: ps, by simp [pyGs, h1, q1], by simp [PyData.canLayAll0, h2, q2], by simp only [PyData.depthAll]; omega⟩
theorem Dt.lst {m : Nat} {ds : List D} (h : ∀ d ∈ ds, Dt m d) : Dt (m + 1) (.lst ds) := by
  obtain ⟨ps, q1, q2, q3⟩ := Dt.all h
  exact ⟨.list ps, by simp [pyG, q1], by simp [PyData.canLay0, q2], by simp only [PyData.depth]; omega⟩
theorem Dt.tup {m : Nat} {ds : List D} (h : ∀ d ∈ ds, Dt m d) : Dt (m + 1) (.tup ds) := by
  obtain ⟨ps, q1, q2, q3⟩ := Dt.all h
  exact ⟨.tuple ps, by simp [pyG, q1], by simp [PyData.canLay0, q2], by simp only [PyData.depth]; omega⟩
theorem Dt.ints (l : List Int) : Dt 1 (.lst (l.map .int)) := Dt.lst fun d hd => by obtain ⟨i, _, rfl⟩ := List.mem_map.mp hd; exact .int i
theorem Dt.bls (l : List Bool) : Dt 1 (.lst (l.map .bl)) := Dt.lst fun d hd => by obtain ⟨i, _, rfl⟩ := List.mem_map.mp hd; exact .bl i
theorem Dt.eqB {m : Nat} {d : D} (h : Dt m d) (hm : m ≤ 40) (S : Store) : dEqB 0 S d d = some true := by
  obtain ⟨p, h1, h2, h3⟩ := h.ex
  have e : pyOf S 0 d = some p := h1
  have sh : SeqAt.shaped p = true := by
    unfold SeqAt.shaped
    rw [Bool.and_eq_true]
    exact ⟨h2, decide_eq_true (by omega)⟩
  cases d <;> first
    | (unfold dEqB; simp only [e]; rw [if_pos ⟨sh, sh⟩, SeqAt.eqv_refl]; exact h2)
    | (unfold dEqB; simp)
theorem lensD_self {S : Store} {d : D} : lensD S d d = false := by
  unfold lensD
  split
  · rename_i xs ys h1 h2
    rw [h1] at h2; cases h2; simp
  · rfl
theorem Dt.eqX {m : Nat} {d : D} (h : Dt m d) (hm : m ≤ 40) (S : Store) : dEqX 0 d d S = .ok (.bl true) S := by
  unfold dEqX dEq
  rw [lensD_self, h.eqB hm]
  rfl
theorem Dt.neX {m : Nat} {d : D} (h : Dt m d) (hm : m ≤ 40) (S : Store) : dNeX 0 d d S = .ok (.bl false) S := by
  unfold dNeX dNe
  rw [lensD_self, h.eqB hm]
  rfl
theorem eq_ref_nil {l : Nat} {xs : List D} {S : Store} (h : S[l]? = some (some (.lst xs))) : dEqX 1 (.ref l) (.lst []) S = .ok (.bl xs.isEmpty) S := by
  unfold dEqX lensD seqOf lstOf
  simp only [h]
  cases xs with
  | nil =>
    have e : pyOf S 1 (.ref l) = some (.list []) := by
      show (match S[l]? with | some (some (.lst xs)) => (xs.mapM (pyOf S 0)).map PyData.list | _ => none) = _
      rw [h]; rfl
    have e2 : pyOf S 1 (.lst []) = some (.list []) := rfl
    unfold dEq dEqB
    simp only [e, e2]
    rfl
  | cons x xs => rfl
theorem ne_scr_nil {xs : List D} {n : Nat} {S : Store} : dNeX n (.scr xs) (.lst []) S = .ok (.bl (!xs.isEmpty)) S := by
  cases xs with
  | nil =>
    have e : dNe n (.scr []) (.lst []) S = .ok (.bl false) S := by
      unfold dNe
      have : dEqB n S (.scr []) (.lst []) = some true := by cases n <;> (unfold dEqB; rfl)
      rw [this]; rfl
    exact e
  | cons x xs => exact if_pos (decide_eq_true (show (x :: xs).length ≠ ([] : List D).length by simp))
/-! calls of functions that leave the store -/
theorem pureS {n : Nat} {k : GD} {ds : List D} {r : D} (h : ∃ S', k ds [] = .ok r S') (hl : ds.length = n) (h1 : norefs ds = true) (h3 : noref r = true) : ∀ S, callD n (pureD k) [] ds S = .ok r S := fun S => call_pure hl h1 h h3
theorem nr_map {α : Type} {f : α → D} {l : List α} (h : ∀ x ∈ l, noref (f x) = true) : norefs (l.map f) = true := by
  induction l with
  | nil => rfl
  | cons x l ih =>
    simp only [List.map_cons, norefs, Bool.and_eq_true]
    exact ⟨h x (List.mem_cons_self ..), ih fun y hy => h y (List.mem_cons_of_mem _ hy)⟩
theorem nr_int (l : List Int) : norefs (List.map D.int l) = true := nr_map fun _ _ => rfl
theorem nr_bl (l : List Bool) : norefs (List.map D.bl l) = true := nr_map fun _ _ => rfl
theorem bInt_bl {b : Bool} {S : Store} : bInt [.bl b] S = .ok (.int (if b = true then 1 else 0)) S := of_eq_true (eq_self _)
theorem bInt_int {i : Int} {S : Store} : bInt [.int i] S = .ok (.int i) S := of_eq_true (eq_self _)
theorem bList_f {live : Bool} {xs : List D} {S : Store} : bList live [.lst xs] S = if live = true then .ok (.ref S.length) (S ++ [some (.lst xs)]) else .ok (.lst xs) S := by cases live <;> rfl
theorem nat_sub_one {i : Nat} (h : 0 < i) : ((i : Int) - 1) = ((i - 1 : Nat) : Int) := by omega
theorem nat_add_one {i : Nat} : ((i : Int) + 1) = ((i + 1 : Nat) : Int) := by omega
theorem at_zero {α : Type} {a : α} {l : List α} : atD (a :: l) 0 = some a := atD_nat (k := 0) rfl
/-- an append to a list of the store -/
theorem app_ok {l : Nat} {xs : List D} {d : D} {S : Store} (h : S[l]? = some (some (.lst xs))) (hl : xs.length < 16777216) : mAppend (.ref l) [d] S = .ok .non (S.set l (some (.lst (xs ++ [d])))) := by
  show (match S[l]? with | some (some (.lst xs)) => if xs.length < sizeLine then Out.ok D.non (S.set l (some (.lst (xs ++ [d])))) else .stuck | _ => .stuck) = _
  rw [h]
  exact if_pos (Nat.lt_of_lt_of_le hl (by decide))
section
variable {l : Nat} {S : Store} {y d : D} {T : String} {x : Int}
theorem sz_lt {n : Nat} (h : n < 16777216) : (n < sizeLine) = True := eq_true (Nat.lt_of_lt_of_le h (by decide))
theorem dIx_r : dIx (.ref l) y S = match S[l]? with
  | some (some (.lst xs)) => (match y with | .int i => (match atD xs i with | some d => .ok d S | none => .stuck) | _ => .stuck)
  | some (some (.dic kvs)) => (match keyOf y with | some k => (match getK kvs k with | some d => .ok d S | none => .stuck) | none => .stuck)
  | _ => .stuck := by
  have e : dIx (.ref l) y S = (match anyOf S (.ref l), y with
    | some xs, .int i => (match atD xs i with | some d => Out.ok d S | none => .stuck)
    | _, y => match dicOf S (.ref l), keyOf y with
      | some kvs, some k => (match getK kvs k with | some d => Out.ok d S | none => .stuck)
      | _, _ => .stuck) := of_eq_true (eq_self _)
  have e1 : anyOf S (.ref l) = match S[l]? with | some (some (.lst xs)) => some xs | _ => none := of_eq_true (eq_self _)
  have e2 : dicOf S (.ref l) = match S[l]? with | some (some (.dic xs)) => some xs | _ => none := of_eq_true (eq_self _)
  rw [e, e1, e2]
  generalize S[l]? = z
  match z with
  | none => cases y <;> rfl
  | some none => cases y <;> rfl
  | some (some (.lst xs)) => cases y <;> rfl
  | some (some (.dic xs)) => cases y <;> rfl
  | some (some (.ins C fs)) => cases y <;> rfl
theorem bLen_r : bLen [.ref l] S = match S[l]? with
  | some (some (.lst xs)) => .ok (.int xs.length) S
  | some (some (.dic kvs)) => .ok (.int kvs.length) S
  | _ => .stuck := by
  have e : bLen [.ref l] S = (match anyOf S (.ref l) with
    | some xs => .ok (.int xs.length) S
    | none => match dicOf S (.ref l) with | some kvs => .ok (.int kvs.length) S | none => .stuck) := of_eq_true (eq_self _)
  have e1 : anyOf S (.ref l) = match S[l]? with | some (some (.lst xs)) => some xs | _ => none := of_eq_true (eq_self _)
  have e2 : dicOf S (.ref l) = match S[l]? with | some (some (.dic xs)) => some xs | _ => none := of_eq_true (eq_self _)
  rw [e, e1, e2]
  generalize S[l]? = z
  match z with
  | none => rfl
  | some none => rfl
  | some (some (.lst xs)) => rfl
  | some (some (.dic xs)) => rfl
  | some (some (.ins C fs)) => rfl
theorem isTy_r : isTy T S (.ref l) = match S[l]? with
  | some (some (.lst _)) => T == "list"
  | some (some (.dic _)) => T == "dict"
  | _ => false := of_eq_true (eq_self _)
theorem app_r : mAppend (.ref l) [y] S = match S[l]? with
  | some (some (.lst xs)) => if xs.length < sizeLine then .ok .non (S.set l (some (.lst (xs ++ [y])))) else .stuck
  | _ => .stuck := of_eq_true (eq_self _)
theorem pop_r : mPop (.ref l) [] S = match S[l]? with
  | some (some (.lst xs)) => (match xs.getLast? with
      | some y => .ok y (S.set l (some (.lst xs.dropLast)))
      | none => .stuck)
  | _ => .stuck := of_eq_true (eq_self _)
theorem clear_r : mClear (.ref l) [] S = match S[l]? with
  | some (some (.lst xs)) => .ok .non (S.set l (some (.lst [])))
  | _ => .stuck := of_eq_true (eq_self _)
theorem frz_r : frz (.ref l) S = match S[l]? with
  | some (some (.lst xs)) => .ok (.lst xs) (S.set l none)
  | some (some (.dic kvs)) => .ok (.dic kvs) (S.set l none)
  | some (some (.ins C fs)) => .ok (.ins C fs) (S.set l none)
  | _ => .stuck := of_eq_true (eq_self _)
theorem frz_lst {xs : List D} : frz (.lst xs) S = .ok (.lst xs) S := of_eq_true (eq_self _)
theorem frz_dic {xs : List (Key × D)} : frz (.dic xs) S = .ok (.dic xs) S := of_eq_true (eq_self _)
theorem frz_int : frz (.int x) S = .ok (.int x) S := of_eq_true (eq_self _)
theorem isNone_non : isNone .non = some true := of_eq_true (eq_self _)
theorem isNone_int : isNone (.int x) = some false := of_eq_true (eq_self _)
end
theorem comp_rng {g : DG} {t : DT} {f : DE} {δ : Env} {S : Store} {lo : Int} (F : Nat → D) : ∀ {n : Nat}, (∀ i, i < n → ∃ da, g (.int (lo + i)) S = some da ∧ t (setAll δ da) S = .ok true S ∧ f (setAll δ da) S = .ok (F i) S) → compD g t f none δ (rngD lo n) S = .ok ((List.range n).map F) S := by
  intro n h
  have q := comp_map (g := g) (t := t) (f := f) (δ := δ) (S := S) (fun d => match d with | .int i => F (i - lo).toNat | d => d) (items := rngD lo n) (fun d hd => by
    obtain ⟨i, hi, rfl⟩ : ∃ i : Nat, i < n ∧ d = D.int (lo + i) := by
      obtain ⟨i, e⟩ := List.getElem?_of_mem hd
      have hl : i < n := by have := (List.getElem?_eq_some_iff.mp e).1; rwa [rngD_len] at this
      rw [rngD_get hl] at e
      cases e
      exact ⟨i, hl, rfl⟩
    obtain ⟨da, h1, h2, h3⟩ := h i hi
    refine ⟨da, h1, h2, ?_⟩
    simp only [show (lo + (i : Int) - lo).toNat = i by omega]
    exact h3)
  rw [q]
  congr 1
  unfold rngD
  rw [List.map_map]
  apply List.map_congr_left
  intro i _
  simp only [Function.comp]
  rw [show (lo + (i : Int) - lo).toNat = i by omega]
/-- a loop that goes on while p holds, and ends the def with r where it does not -/
theorem for_all {g : DG} {f : DS} (p : Nat → Bool) (r : D) (I : Nat → Env → Store → Prop) : ∀ {items : List D} {n : Nat} {δ : Env} {S : Store}, I n δ S →
    (∀ i d δ S, items[i]? = some d → I (n + i) δ S → ∃ da, g d S = some da ∧ (p (n + i) = true → ∃ δ' S', (f (setAll δ da) S = .nx δ' S' ∨ f (setAll δ da) S = .ct δ' S') ∧ I (n + i + 1) δ' S') ∧ (p (n + i) = false → ∃ S', f (setAll δ da) S = .rt r S')) →
    ((∀ i, i < items.length → p (n + i) = true) ∧ ∃ δ' S', forD none g f items δ S = .nx δ' S' ∧ I (n + items.length) δ' S') ∨ ((∃ i, i < items.length ∧ p (n + i) = false) ∧ ∃ S', forD none g f items δ S = .rt r S')
  | [], n, δ, S, h, _ => .inl ⟨(fun _ h => absurd h (Nat.not_lt_zero _)), δ, S, by unfold forD; exact if_pos trivial, h⟩
  | d :: items, n, δ, S, h, hs => by
    obtain ⟨da, h1, h2, h3⟩ := hs 0 d δ S rfl h
    simp only [Nat.add_zero] at h2 h3
    cases hp : p n with
    | true =>
      obtain ⟨δ', S', h4, h5⟩ := h2 hp
      have st : forD none g f (d :: items) δ S = forD none g f items δ' S' := by
        conv => lhs; unfold forD
        rw [if_pos (show ckS none S from trivial), h1]
        rcases h4 with h4 | h4 <;> simp only [h4]
      have ih := for_all p r I (items := items) (n := n + 1) h5 fun i d δ S hd hI => by
        obtain ⟨da, q1, q2, q3⟩ := hs (i + 1) d δ S (by simpa using hd) (by rw [show n + (i + 1) = n + 1 + i by omega]; exact hI)
        rw [show n + (i + 1) = n + 1 + i by omega] at q2 q3
        exact ⟨da, q1, q2, q3⟩
      rw [st]
      rcases ih with ⟨ha, δ2, S2, q1, q2⟩ | ⟨⟨i, hi, hb⟩, S2, q1⟩
      · refine .inl ⟨fun i hi => ?_, δ2, S2, q1, by rw [List.length_cons, show n + (items.length + 1) = n + 1 + items.length by omega]; exact q2⟩
        cases i with
        | zero => exact hp
        | succ i => rw [show n + (i + 1) = n + 1 + i by omega]; exact ha i (by simpa using hi)
      · exact .inr ⟨⟨i + 1, by simpa using hi, by rw [show n + (i + 1) = n + 1 + i by omega]; exact hb⟩, S2, q1⟩
    | false =>
      obtain ⟨S', h4⟩ := h3 hp
      refine .inr ⟨⟨0, by simp, hp⟩, S', ?_⟩
      unfold forD
      rw [if_pos (show ckS none S from trivial), h1]
      simp only [h4]
theorem enum_at {α : Type} {f : α → D} {l : List α} {i : Nat} {d : D} (e : α) (h : (enumD 0 (l.map f))[i]? = some d) : i < l.length ∧ d = .tup [.int i, f (l.getD i e)] := by
  have hi : i < l.length := by
    have := (List.getElem?_eq_some_iff.mp h).1
    rwa [enumD_length, List.length_map] at this
  rw [enumD_get, List.getElem?_map, List.getElem?_eq_getElem hi] at h
  cases h
  refine ⟨hi, ?_⟩
  rw [Nat.zero_add, List.getD_eq_getElem?_getD, List.getElem?_eq_getElem hi]
  rfl
theorem rev_at {n i : Nat} {d : D} (h : (rngD 0 n).reverse[i]? = some d) : i < n ∧ d = .int ((n - 1 - i : Nat) : Int) := by
  have hi : i < n := by
    have := (List.getElem?_eq_some_iff.mp h).1
    rwa [List.length_reverse, rngD_len] at this
  rw [List.getElem?_reverse (by rw [rngD_len]; exact hi), rngD_len, rngD_get (by omega)] at h
  cases h
  exact ⟨hi, by rw [Int.zero_add]⟩
theorem blsOf_bl (l : List Bool) : blsOf (l.map .bl) = some l := by
  have := blsOf_map (fun b : Bool => b) l
  rwa [List.map_id'] at this
theorem setAt_r {l : Nat} {k : Int} {y : D} {S : Store} : setAt (.ref l) (.int k) y S = match S[l]? with
  | some (some (.lst xs)) => (ixN xs.length k).map fun j => S.set l (some (.lst (xs.set j y)))
  | some (some (.dic kvs)) => if kvs.length < 16777216 then some (S.set l (some (.dic (putD kvs (.inl k) y)))) else none
  | _ => none := by
  have e : setAt (.ref l) (.int k) y S = (match S[l]? with
    | some (some (.lst xs)) => (ixN xs.length k).map fun j => S.set l (some (.lst (xs.set j y)))
    | some (some (.dic kvs)) => (match keyOf (.int k) with
      | some k => if kvs.length < 16777216 then some (S.set l (some (.dic (putD kvs k y)))) else none
      | none => none)
    | _ => none) := of_eq_true (eq_self _)
  rw [e]
  generalize S[l]? = z
  match z with
  | none => rfl
  | some none => rfl
  | some (some (.lst xs)) => rfl
  | some (some (.dic xs)) => rfl
  | some (some (.ins C fs)) => rfl
theorem snoc_get {S : Store} {x : Option O} : (S ++ [x])[S.length]? = some x := by
  rw [List.getElem?_append_right (Nat.le_refl _), Nat.sub_self]; rfl
theorem snoc_set {S : Store} {x y : Option O} : (S ++ [x]).set S.length y = S ++ [y] := by
  rw [List.set_append_right _ _ (Nat.le_refl _), Nat.sub_self]; rfl
theorem popAt_r {l : Nat} {i : Int} {S : Store} {xs : List D} {y : D} (h : S[l]? = some (some (.lst xs))) (h0 : 0 ≤ i) (h1 : i < xs.length) (hy : xs[i.toNat]? = some y) (hb : i < 2 ^ 62) : mPopAt (.ref l) [.int i] S = .ok y (S.set l (some (.lst (xs.eraseIdx i.toNat)))) := by
  have e : mPopAt (.ref l) [.int i] S = (match S[l]? with
    | some (some (.lst xs)) => if -(2 ^ 63) ≤ i ∧ i < 2 ^ 63 then match seqIndex? i xs.length with
      | some k => match xs[k]? with
        | some y => Out.ok y (S.set l (some (.lst (xs.eraseIdx k))))
        | none => .stuck
      | none => .stuck
      else .stuck
    | _ => .stuck) := of_eq_true (eq_self _)
  rw [e, h]
  have q : seqIndex? i xs.length = some i.toNat := by
    unfold seqIndex?
    simp only [show ¬ i < 0 by omega, if_false]
    first
      | rw [if_pos (by omega)]
      | (rw [if_neg (by omega)])
      | (simp; omega)
  simp only [q, hy]
  exact if_pos ⟨by omega, by omega⟩
/-! a list of the store and the same list -/
mutual
theorem pyG_mono {r : Nat → Option PyData} : ∀ {d : D} {p : PyData}, pyG (fun _ => none) d = some p → pyG r d = some p
  | .non, _, h => h
  | .bl _, _, h => h
  | .int _, _, h => h
  | .str _, _, h => h
  | .ref _, _, h => by cases h
  | .ty _, _, h => h
  | .cls _, _, h => h
  | .tup xs, p, h => by
    simp only [pyG] at h ⊢
    cases z : pyGs (fun _ => none) xs with
    | none => rw [z] at h; cases h
    | some ps => rw [z] at h; rw [pyGs_mono z]; exact h
  | .lst xs, p, h => by
    simp only [pyG] at h ⊢
    cases z : pyGs (fun _ => none) xs with
    | none => rw [z] at h; cases h
    | some ps => rw [z] at h; rw [pyGs_mono z]; exact h
  | .scr xs, p, h => by
    simp only [pyG] at h ⊢
    cases z : pyGs (fun _ => none) xs with
    | none => rw [z] at h; cases h
    | some ps => rw [z] at h; rw [pyGs_mono z]; exact h
  | .dic _, _, h => h
  | .ins _ _, _, h => h
  | .exc _ _, _, h => h
theorem pyGs_mono {r : Nat → Option PyData} : ∀ {ds : List D} {ps : List PyData}, pyGs (fun _ => none) ds = some ps → pyGs r ds = some ps
  | [], _, h => h
  | d :: ds, ps, h => by
    simp only [pyGs] at h ⊢
    cases z1 : pyG (fun _ => none) d with
    | none => rw [z1] at h; cases h
    | some p =>
      cases z2 : pyGs (fun _ => none) ds with
      | none => rw [z1, z2] at h; cases h
      | some qs => rw [z1, z2] at h; rw [pyG_mono z1, pyGs_mono z2]; exact h
end
theorem mapM_py {S : Store} : ∀ {ds : List D} {ps : List PyData}, pyGs (fun _ => none) ds = some ps → ds.mapM (pyOf S 0) = some ps
  | [], _, h => by cases h; rfl
  | d :: ds, ps, h => by
    simp only [pyGs] at h
    cases z1 : pyG (fun _ => none) d with
    | none => rw [z1] at h; cases h
    | some p =>
      cases z2 : pyGs (fun _ => none) ds with
      | none => rw [z1, z2] at h; cases h
      | some qs =>
        rw [z1, z2] at h; cases h
        rw [List.mapM_cons, mapM_py z2, show pyOf S 0 d = some p from z1]
        rfl
theorem same_ref {m : Nat} {l : Nat} {xs : List D} {S : Store} (h : S[l]? = some (some (.lst xs))) (hd : ∀ d ∈ xs, Dt m d) (hm : m ≤ 40) : lensD S (.ref l) (.lst xs) = false ∧ dEqB 1 S (.ref l) (.lst xs) = some true := by
  obtain ⟨ps, q1, q2, q3⟩ := Dt.all hd
  have e1 : pyOf S 1 (.ref l) = some (.list ps) := by
    show (match S[l]? with | some (some (.lst xs)) => (xs.mapM (pyOf S 0)).map PyData.list | _ => none) = _
    rw [h]
    simp only [mapM_py q1, Option.map_some]
  have e2 : pyOf S 1 (.lst xs) = some (.list ps) := by
    show (pyGs _ xs).map PyData.list = _
    rw [pyGs_mono q1]; rfl
  have l1 : PyData.canLay0 (.list ps) = true := by simp [PyData.canLay0, q2]
  have sh : SeqAt.shaped (.list ps) = true := by
    unfold SeqAt.shaped
    rw [Bool.and_eq_true]
    exact ⟨l1, decide_eq_true (by simp only [PyData.depth]; omega)⟩
  constructor
  · unfold lensD seqOf lstOf
    simp only [h]
    simp
  · unfold dEqB
    simp only [e1, e2]
    rw [if_pos ⟨sh, sh⟩, SeqAt.eqv_refl]
    exact l1
theorem neX_ref {m : Nat} {l : Nat} {xs : List D} {S : Store} (h : S[l]? = some (some (.lst xs))) (hd : ∀ d ∈ xs, Dt m d) (hm : m ≤ 40) : dNeX 1 (.ref l) (.lst xs) S = .ok (.bl false) S := by
  obtain ⟨a, b⟩ := same_ref h hd hm
  unfold dNeX dNe
  rw [a, b]; rfl
theorem eqX_ref {m : Nat} {l : Nat} {xs : List D} {S : Store} (h : S[l]? = some (some (.lst xs))) (hd : ∀ d ∈ xs, Dt m d) (hm : m ≤ 40) : dEqX 1 (.ref l) (.lst xs) S = .ok (.bl true) S := by
  obtain ⟨a, b⟩ := same_ref h hd hm
  unfold dEqX dEq
  rw [a, b]; rfl
theorem comp_filterC {g : DG} {t : DT} {f : DE} {δ : Env} {S : Store} {ck : Ck} (hc : ckS ck S) (p : D → Bool) (k : D → D) : ∀ {items : List D}, (∀ d ∈ items, ∃ da, g d S = some da ∧ t (setAll δ da) S = .ok (p d) S ∧ (p d = true → f (setAll δ da) S = .ok (k d) S)) → compD g t f ck δ items S = .ok ((items.filter p).map k) S
  | [], _ => by unfold compD; exact if_pos hc
  | d :: items, h => by
    obtain ⟨da, h1, h2, h3⟩ := h d (List.mem_cons_self ..)
    have ih := comp_filterC hc p k (items := items) fun d hd => h d (List.mem_cons_of_mem _ hd)
    unfold compD
    rw [if_pos hc, h1]
    cases hp : p d with
    | true =>
      rw [hp] at h2
      simp only [h2, h3 hp, noX, bind_ok, if_true, ih, List.filter_cons_of_pos hp, List.map_cons]
    | false =>
      rw [hp] at h2
      have hn : ¬ (p d = true) := by rw [hp]; decide
      simp only [h2, noX, bind_ok, Bool.false_eq_true, if_false, ih, List.filter_cons_of_neg hn]
theorem forD_nil {g : DG} {f : DS} {δ : Env} {S : Store} : forD none g f [] δ S = .nx δ S := by unfold forD; exact if_pos trivial
theorem forD_cons {g : DG} {f : DS} {d : D} {ds : List D} {δ δ' : Env} {S S' : Store} {da : List (Nat × D)} (h1 : g d S = some da) (h2 : f (setAll δ da) S = .nx δ' S') : forD none g f (d :: ds) δ S = forD none g f ds δ' S' := by
  conv => lhs; unfold forD
  rw [if_pos (show ckS none S from trivial), h1]
  simp only [h2]
theorem map_erase {α β : Type} {f : α → β} : ∀ (l : List α) (k : Nat), (l.map f).eraseIdx k = (l.eraseIdx k).map f
  | [], _ => rfl
  | _ :: _, 0 => rfl
  | x :: l, k + 1 => by simp only [List.map_cons, List.eraseIdx_cons_succ, map_erase l k]
theorem erase_perm {α : Type} : ∀ {l : List α} {k : Nat} (h : k < l.length), (l[k] :: l.eraseIdx k).Perm l
  | x :: l, 0, h => by simp
  | x :: l, k + 1, h => by
    have h' : k < l.length := by simpa using h
    have ih := erase_perm h'
    simp only [List.getElem_cons_succ, List.eraseIdx_cons_succ]
    exact (List.Perm.swap x l[k] (l.eraseIdx k)).trans (List.Perm.cons x ih)
theorem setF_r {cs : Flds} {f : Str} {l : Nat} {y : D} {S : Store} : setF cs f l y S = match S[l]? with
  | some (some (.ins C fs)) => if okF cs C f = true ∧ fs.length < 1000 then some (S.set l (some (.ins C (putFD f y fs)))) else none
  | _ => none := of_eq_true (eq_self _)
theorem putFD_nil {f : Str} {v : D} : putFD f v [] = [(f, v)] := of_eq_true (eq_self _)
theorem putFD_cons {f g : Str} {v x : D} {r : List (Str × D)} : putFD f v ((g, x) :: r) = if g = f then (g, v) :: r else (g, x) :: putFD f v r := of_eq_true (eq_self _)
/-- comprehensions over a list of things that are put as data -/
theorem comp_fm {α : Type} {enc : α → D} {g : DG} {t : DT} {f : DE} {δ : Env} {S : Store} {ck : Ck} (hc : ckS ck S) (p : α → Bool) (k : α → D) : ∀ {l : List α}, (∀ x ∈ l, ∃ da, g (enc x) S = some da ∧ t (setAll δ da) S = .ok (p x) S ∧ (p x = true → f (setAll δ da) S = .ok (k x) S)) → compD g t f ck δ (l.map enc) S = .ok ((l.filter p).map k) S
  | [], _ => by unfold compD; exact if_pos hc
  | x :: l, h => by
    obtain ⟨da, h1, h2, h3⟩ := h x (List.mem_cons_self ..)
    have ih := comp_fm hc p k (l := l) fun d hd => h d (List.mem_cons_of_mem _ hd)
    rw [List.map_cons]
    unfold compD
    rw [if_pos hc, h1]
    cases hp : p x with
    | true =>
      rw [hp] at h2
      simp only [h2, h3 hp, noX, bind_ok, if_true, ih, List.filter_cons_of_pos hp, List.map_cons]
    | false =>
      rw [hp] at h2
      have hn : ¬ (p x = true) := by rw [hp]; decide
      simp only [h2, noX, bind_ok, Bool.false_eq_true, if_false, ih, List.filter_cons_of_neg hn]
theorem comp_mm {α : Type} {enc : α → D} {g : DG} {t : DT} {f : DE} {δ : Env} {S : Store} {ck : Ck} (hc : ckS ck S) (k : α → D) {l : List α} (h : ∀ x ∈ l, ∃ da, g (enc x) S = some da ∧ t (setAll δ da) S = .ok true S ∧ f (setAll δ da) S = .ok (k x) S) : compD g t f ck δ (l.map enc) S = .ok (l.map k) S := by
  have q := comp_fm (enc := enc) (g := g) (t := t) (f := f) (δ := δ) hc (fun _ => true) k (l := l) fun x hx => by
    obtain ⟨da, h1, h2, h3⟩ := h x hx
    exact ⟨da, h1, h2, fun _ => h3⟩
  rw [q]
  congr 2
  simp
theorem notin_true {wk : List Bool} {S : Store} : dNotIn (.bl true) (.lst (wk.map .bl)) S = .ok (.bl (!wk.any fun b => b)) S := by
  have e : inB S (.bl true) (.lst (wk.map .bl)) = some (wk.any fun b => b) := by
    have fl : (wk.map D.bl).all flatD = true := by rw [List.all_eq_true]; intro d hd; obtain ⟨b, _, rfl⟩ := List.mem_map.mp hd; rfl
    have an : ((wk.map D.bl).any fun z => eqF z (.bl true)) = wk.any fun b => b := by
      rw [List.any_map]
      congr 1
      funext b
      cases b <;> rfl
    show (if flatD (.bl true) && (wk.map D.bl).all flatD then some ((wk.map D.bl).any fun z => eqF z (.bl true)) else none) = _
    rw [fl, an]; rfl
  unfold dNotIn
  rw [e]
end Mi
namespace Mi
open PySem PySem.Spec PyProof.Rows L2
/-! sets of keys: how many unlike ones -/
def memK (ks : List Key) (k : Key) : Bool := ks.any fun j => decide (j = k)
theorem memK_iff {ks : List Key} {k : Key} : memK ks k = true ↔ k ∈ ks := by
  unfold memK
  rw [List.any_eq_true]
  exact ⟨fun ⟨j, h1, h2⟩ => by rw [← of_decide_eq_true h2]; exact h1, fun h => ⟨k, h, decide_eq_true rfl⟩⟩
theorem setOf_cg {prog : Program} {w : World} {h : Heap} {a : Addr} {S S' : Key → Bool} {n n' : Nat} (hS : h.SetOf (mixKind prog w) a S n) (e : ∀ k, S k = S' k) (en : n = n') : h.SetOf (mixKind prog w) a S' n' := by
  have : S = S' := funext e
  subst this; subst en; exact hS
def stepK (σ : List Key) (v : Key) : List Key := if memK σ v = true then σ else σ ++ [v]
def uniqK (ks : List Key) : List Key := ks.foldl stepK []
theorem stepK_mem (σ : List Key) (v k : Key) : k ∈ stepK σ v ↔ k ∈ σ ∨ k = v := by
  unfold stepK
  by_cases h : memK σ v = true
  · rw [if_pos h]
    exact ⟨.inl, fun q => q.elim id fun e => e ▸ memK_iff.mp h⟩
  · rw [if_neg h]; simp
theorem foldK_mem : ∀ (ks σ : List Key) (k : Key), k ∈ ks.foldl stepK σ ↔ k ∈ σ ∨ k ∈ ks
  | [], σ, k => by simp
  | v :: ks, σ, k => by
    rw [List.foldl_cons, foldK_mem ks, stepK_mem, List.mem_cons, or_assoc]
theorem uniqK_mem (ks : List Key) (k : Key) : k ∈ uniqK ks ↔ k ∈ ks := by unfold uniqK; rw [foldK_mem]; simp
theorem uniqK_snoc (ks : List Key) (v : Key) : (uniqK (ks ++ [v])).length = if memK ks v = true then (uniqK ks).length else (uniqK ks).length + 1 := by
  have e : uniqK (ks ++ [v]) = stepK (uniqK ks) v := by unfold uniqK; rw [List.foldl_append]; rfl
  rw [e]
  unfold stepK
  have em : memK (uniqK ks) v = memK ks v := by rw [Bool.eq_iff_iff, memK_iff, memK_iff, uniqK_mem]
  rw [em]
  split <;> simp
theorem foldK_le : ∀ (ks σ : List Key), (ks.foldl stepK σ).length ≤ σ.length + ks.length
  | [], σ => by simp
  | v :: ks, σ => by
    rw [List.foldl_cons]
    have h := foldK_le ks (stepK σ v)
    have : (stepK σ v).length ≤ σ.length + 1 := by unfold stepK; split <;> simp
    rw [List.length_cons]; omega
theorem uniqK_le (ks : List Key) : (uniqK ks).length ≤ ks.length := by have := foldK_le ks []; unfold uniqK; simpa using this
theorem foldK_nodup : ∀ (ks σ : List Key), ks.Nodup → (∀ k ∈ ks, k ∉ σ) → ks.foldl stepK σ = σ ++ ks
  | [], σ, _, _ => by simp
  | v :: ks, σ, h, d => by
    obtain ⟨h1, h2⟩ := List.nodup_cons.mp h
    have e : stepK σ v = σ ++ [v] := by unfold stepK; rw [if_neg fun z => d v List.mem_cons_self (memK_iff.mp z)]
    rw [List.foldl_cons, e, foldK_nodup ks _ h2 fun k hk => ?_]
    · simp
    · simp only [List.mem_append, List.mem_singleton, not_or]
      exact ⟨d k (List.mem_cons_of_mem _ hk), fun e => h1 (e ▸ hk)⟩
theorem uniqK_nodup {ks : List Key} (h : ks.Nodup) : uniqK ks = ks := by unfold uniqK; rw [foldK_nodup ks [] h (by simp)]; simp
theorem vals_getR : ∀ {xs : List V} {us : List Value} {i : Nat} {u : Value}, Vals xs us → us[i]? = some u → ∃ x, xs[i]? = some x ∧ RelV x u
  | _, _, _, _, .nil, e => by simp at e
  | _, _, 0, _, .cons h _, e => by simp at e; subst e; exact ⟨_, rfl, h⟩
  | _, _, i + 1, _, .cons _ r, e => by
    obtain ⟨x, h1, h2⟩ := vals_getR (i := i) r (by simpa using e)
    exact ⟨x, by simpa using h1, h2⟩
section
variable {prog : Program} {w : World} {A : Around} {R : Result → Shared → Prop} {I : Addr} {fp wr : List Addr} {G : Array GenState → Array GenState → Prop} {n : Nat} {P : Nat → Value → Prop} {St : Nat → Shared → Prop}
theorem setK_loop (W : WalksS prog w A.in1 I fp wr G n P St) (S : Addr) (hSf : S ∉ fp)
    (ks : List Key) (hval : ∀ i v, P i v → ∃ k, ks[i]? = some k ∧ RelV (kV k) v) (hb : n + 1 < scanBound) :
    ∀ (k i : Nat) (s : Shared), n - i = k → i ≤ n → St i s →
      s.heap.SetOf (mixKind prog w) S (fun k' => memK (ks.take i) k') (uniqK (ks.take i)).length →
      (∀ s', Moved (S :: wr) G s s' → s'.heap.SetOf (mixKind prog w) S (fun k' => memK (ks.take n) k') (uniqK (ks.take n)).length → R (.ok (.ret .none)) s') →
      codeAny (model prog w) A (.builtin "set.update.loop" ⟨[.ref S, .ref I], []⟩) R s := by
  have hSw : S ∉ wr := fun h => hSf (W.sub _ h)
  have hsub : ∀ b ∈ wr, b ∈ S :: wr := fun b hb => List.mem_cons_of_mem _ hb
  intro k
  induction k with
  | zero =>
    intro i s hk hi hst hS hR
    have hin : i = n := by omega
    subst hin
    refine codeAny_builtin PyProof.Rows.F.entry_set_update_loop ?_
    rw [Around.under_plainId PyProof.Rows.F.plain_set_update_loop _]
    show wpAny _ A.in1 (pyNext (.ref I) >>= _) _ _ s
    refine wpAny_bind (W.done s _ _ hst fun s' hm => ?_)
    show wpAny _ A.in1 (ret Value.none) _ _ s'
    exact wpAny_pure (hR s' (hm.mono hsub) (by
      obtain ⟨o, es, ep, t, ho, rest⟩ := hS
      exact ⟨o, es, ep, t, hm.heap S _ hSw ho, rest⟩))
  | succ k ih =>
    intro i s hk hi hst hS hR
    have hlt : i < n := by omega
    refine codeAny_builtin PyProof.Rows.F.entry_set_update_loop ?_
    rw [Around.under_plainId PyProof.Rows.F.plain_set_update_loop _]
    show wpAny _ A.in1 (pyNext (.ref I) >>= _) _ _ s
    refine wpAny_bind (W.item i s _ _ hlt hst fun v s' hP hst' hm => ?_)
    obtain ⟨k0, hk0, rk0⟩ := hval i v hP
    have hS' : s'.heap.SetOf (mixKind prog w) S (fun k' => memK (ks.take i) k') (uniqK (ks.take i)).length := by
      obtain ⟨o, es, ep, tb, ho, rest⟩ := hS
      exact ⟨o, es, ep, tb, hm.heap S _ hSw ho, rest⟩
    show wpAny _ A.in1 (holding [v] (setAdd S v) >>= _) _ _ s'
    refine wpAny_bind (wpAny_holding ?_)
    unfold setAdd
    refine wpAny_holding ?_
    refine wpAny_bind ((mixKind prog w).pyHash (k := k0) (kV_is rk0) ?_)
    have hroom : (uniqK (ks.take i)).length + 1 < scanBound := by have := uniqK_le (ks.take i); have := List.length_take_le i ks; omega
    refine wpAny_setAddHashed_of (knd := mixKind prog w) (s := { s' with toks := s'.toks + 1 }) (kV_is rk0) (key_scan rk0) hS' hroom fun h' hsb hS2 => ?_

    have hSi : h'.SetOf (mixKind prog w) S (fun k' => memK (ks.take (i + 1)) k') (uniqK (ks.take (i + 1))).length :=
      setOf_cg hS2 (fun k' => by
        rw [List.take_add_one, hk0, Bool.eq_iff_iff]
        simp only [Bool.or_eq_true, memK_iff, decide_eq_true_eq, List.mem_append, Option.toList_some, List.mem_singleton]) (by rw [List.take_add_one, hk0]; exact (uniqK_snoc _ _).symm)
    refine wpAny_pure ⟨plainId_quiet PyProof.Rows.F.plain_set_update_loop _, ih (i + 1) _ (by omega) hlt (W.frame _ s' _ _ hst' (Nat.le_succ _) fun b hb o e => ?_) hSi fun s'' hm'' hS'' => ?_⟩
    · rw [hsb.2 b (fun h : b = S => hSf (by rw [← h]; exact hb))]; exact e
    · refine hR s'' (Moved.trans W.gtrans ((hm.mono hsub).then_heap (Nat.le_succ _) fun b o hb e => ?_) hm'') hS''
      rw [hsb.2 b (fun h : b = S => hb (by rw [h]; exact List.mem_cons_self))]; exact e
end
section
variable {prog : Program} {w : World} {A : Around} {E : Value → Shared → Prop} {s : Shared}
set_option maxHeartbeats 3200000 in
theorem setK_call {l : Addr} {items : Array Value} {ks : List Key} {Q : Value → Shared → Prop}
    (hh : A.handled = none) (hl : s.heap.IsList l items) (hi : Vals (ks.map kV) items.toList) (hb : items.size + 1 < scanBound)
    (h : ∀ (h' : Heap) (tk : Nat), h'.SetOf (mixKind prog w) s.heap.objs.size (fun k' => memK (ks.take items.size) k') (uniqK (ks.take items.size)).length →
      (∀ b o, b < s.heap.objs.size → s.heap.get? b = some o → h'.get? b = some o) → Q (.ref s.heap.objs.size) { s with heap := h', toks := tk }) :
    wpAny (model prog w) A (call (.type "set") [.ref l]) Q E s := by
  obtain ⟨c, tl, hmro⟩ := PySem.F.called_set.mro
  have hmade := PySem.F.called_set.made
  have hsub := PySem.F.called_set.sub
  refine wpAny_call (codeAny_of_tree ?_)
  show wpAny _ _ (callAny (.type "set") _) _ _ _
  refine wpAny_pure ⟨Code.quiet_builtin _ (by decide +kernel), codeAny_builtin PySem.F.entry_type_call ?_⟩
  rw [Around.under_plain (weight_type_call_type "set" [.ref l] []) rfl]
  have h1 := PySem.F.called_set.notType
  have h2 := PySem.F.called_set.canCreate
  have hct := PySem.F.typeCall_set_1 (.ref l)
  repeat (any_goals (first | assumption | wp_step))

  refine codeAny_mono (code_set_new_1 (.ref l) (E := E) (Q₁ := fun obj s₁ => ∃ led : Bool, obj = .ref s.heap.objs.size ∧ s₁ = { s with heap := s.heap.push { cls := .type "set", dict := none, data := .set #[] 0 (.fresh 0 0 led) } }) fun led => ⟨led, rfl, rfl⟩) fun r s₁ hr => ?_
  cases r with
  | error e => exact hr
  | ok fl =>
    cases fl with
    | ret obj =>
      obtain ⟨led, rfl, rfl⟩ := hr
      have hS : (s.heap.push { cls := .type "set", dict := none, data := .set #[] 0 (.fresh 0 0 led) }).get? s.heap.objs.size = some { cls := .type "set", dict := none, data := .set #[] 0 (.fresh 0 0 led) } := Heap.get?_push_size _ rfl
      have hT : Shared.TypeIs { s with heap := s.heap.push { cls := .type "set", dict := none, data := .set #[] 0 (.fresh 0 0 led) } } (.ref s.heap.objs.size) "set" := ⟨_, hS, rfl⟩
      have hli := PySem.F.called_set.init.lookup
      have hbi := PySem.F.called_set.init.bind (.ref s.heap.objs.size)
      repeat (any_goals (first | assumption | wp_step))

      refine codeAny_mono (codeAny_call_builtin (R := wants (fun r s₂ => r = .none ∧ ∃ h' tk, s₂ = { s with heap := h', toks := tk } ∧
          h'.SetOf (mixKind prog w) s.heap.objs.size (fun k' => memK (ks.take items.size) k') (uniqK (ks.take items.size)).length ∧
          (∀ b o, b < s.heap.objs.size → s.heap.get? b = some o → h'.get? b = some o)) E) PySem.F.called_set.init.plain PySem.F.entry_set_init (check_set_init_1 hT ?_)) fun r₂ s₂ hr₂ => ?_
      · obtain ⟨ol, hol, hcl, nl, hdl⟩ := hl
        obtain ⟨ocls, odict, odata, oslots⟩ := ol
        simp only at hcl hdl
        subst hcl; subst hdl
        have hol' : (s.heap.push { cls := .type "set", dict := none, data := .set #[] 0 (.fresh 0 0 led) }).get? l = some { cls := .type "list", dict := odict, data := .seq items nl, slots := oslots } := Heap.get?_push_of_some _ hol
        have hsls := PySem.F.sub_list_set
        have hslf := PySem.F.sub_list_frozenset
        have hne : (Value.type "list" == Value.type "dict") = false := by decide
        have hl1 : (s.heap.push { cls := .type "set", dict := none, data := .set #[] 0 (.fresh 0 0 led) }).IsList l items := ⟨_, hol', rfl, nl, rfl⟩
        unfold Builtin.«set.__init__» noKeywords Builtin.Frozenset.updateFrom
        generalize hPI : pyIter = PI
        wp_walk
        subst hPI

        refine wpAny_pyIter_list hl1 ?_
        refine wpAny_bind (wpAny_runValue ?_)
        have hlS : l < s.heap.objs.size := Heap.lt_size hol
        have hh3 : A.in1.in1.in1.handled = none := by simp [hh]
        have hneI : l ≠ (s.heap.push { cls := .type "set", dict := none, data := .set #[] 0 (.fresh 0 0 led) }).objs.size := by
          rw [Heap.size_push]; exact Nat.ne_of_lt (Nat.lt_succ_of_lt hlS)
        have hSf : s.heap.objs.size ∉ [(s.heap.push { cls := .type "set", dict := none, data := .set #[] 0 (.fresh 0 0 led) }).objs.size, l] := by
          rw [Heap.size_push]; simp only [List.mem_cons, List.mem_singleton, List.not_mem_nil, or_false, not_or]
          exact ⟨Nat.ne_of_lt (Nat.lt_succ_self _), Nat.ne_of_gt hlS⟩
        have hval : ∀ (i : Nat) (v : Value), items[i]? = some v → ∃ k, ks[i]? = some k ∧ RelV (kV k) v := fun i v hv => by
          obtain ⟨x, hx, rx⟩ := vals_getR hi (by rw [Array.getElem?_toList]; exact hv)
          rw [List.getElem?_map] at hx
          obtain ⟨k, hk, rfl⟩ := Option.map_eq_some_iff.mp hx
          exact ⟨k, hk, rx⟩
        refine setK_loop ((Walks.list hh3 _ l hneI items).toS) s.heap.objs.size
          hSf ks hval hb (items.size - 0) 0 _ (by omega) (Nat.zero_le _)
          ⟨⟨_, Heap.get?_push_size _ rfl, rfl, rfl⟩, (hl1.push _)⟩ ?hS0 ?hR
        case hS0 =>
          have hget : ((s.heap.push { cls := .type "set", dict := none, data := .set #[] 0 (.fresh 0 0 led) }).push { cls := .type "list_iterator", data := .fields #[.ref l, .int 0 0] }).get? s.heap.objs.size
              = some { cls := .type "set", dict := none, data := .set #[] 0 (.fresh 0 0 led) } := Heap.get?_push_of_some _ hS
          exact ⟨_, #[], 0, _, hget, ⟨rfl, rfl, rfl⟩, rfl, (fun e he => by simp at he), (fun k => by rw [List.take_zero]; simp [memK]), (by decide), (by rfl), by rw [List.take_zero]; rfl⟩
        case hR =>
          intro s' hm hS'
          obtain ⟨h', g', d', tk', os'⟩ := s'
          have eg : g' = s.gens := hm.gens
          have ed : d' = s.drawn := hm.drawn
          have eo : os' = s.os := hm.os
          subst eg; subst ed; subst eo
          show wpAny _ _ _ _ _ _
          refine wpAny_pure ?_
          show wpAny _ _ (ret Value.none) _ _ _
          refine wpAny_pure ⟨rfl, h', tk', rfl, hS', fun b o hb e => ?_⟩
          have hb1 : b ≠ s.heap.objs.size := Nat.ne_of_lt hb
          have hb2 : b ≠ (s.heap.push { cls := .type "set", dict := none, data := .set #[] 0 (.fresh 0 0 led) }).objs.size := by
            rw [Heap.size_push]; exact Nat.ne_of_lt (Nat.lt_succ_of_lt hb)
          exact hm.heap b o (by simp only [List.mem_cons, List.mem_singleton, List.not_mem_nil, or_false, not_or]; exact ⟨hb1, hb2⟩) (Heap.get?_push_of_some _ (Heap.get?_push_of_some _ e))

      · cases r₂ with
        | error e => exact hr₂
        | ok fl₂ =>
          cases fl₂ with
          | ret r =>
            obtain ⟨rfl, h', tk, rfl, hS', hk'⟩ := hr₂
            repeat (any_goals (first | assumption | wp_step))
            exact h _ _ hS' hk'
          | _ => exact hr₂.elim
    | _ => exact hr.elim
end
section
variable {X : Cx}
def rSetK (X : Cx) : List V → Hp → VK → Prop := fun xs H Q => ∃ (a : Addr) (ks : List Key), xs = [.ref a] ∧ SqL X.K H a (ks.map kV) ∧ ks.length + 1 < scanBound ∧ ∀ p, H p = none → Q (.ref p) (upd H p (SetK X.prog X.w p (fun k => memK (ks) k) (uniqK ks).length))
theorem cr_setK (hcalm : X.calm = true) : CallR X (.type "set") (rSetK X) := by
  intro pins s σ H xs us Q I r q
  obtain ⟨a, ks, rfl, hq, hb, q⟩ := q
  cases r with
  | cons r1 r2 =>
    cases r2
    cases r1
    obtain ⟨its, rv, pl, hz⟩ := I.list hq
    have hl := rv.length
    rw [List.length_map] at hl
    refine setK_call (ks := ks) (I.ok.hd hcalm) pl.isList (by simpa using rv) (by rw [List.size_toArray]; omega) fun h' tk hS hk => ?_
    rw [show its.toArray.size = ks.length from by rw [List.size_toArray, hl], List.take_length] at hS
    exact ⟨.ref s.heap.objs.size, upd H s.heap.objs.size (SetK X.prog X.w s.heap.objs.size (fun k => memK (ks) k) (uniqK ks).length), I.laid (t' := tk) (fun b u e => hk b u (Heap.lt_size e) e) (Nat.le_refl _) (setK_new hS), rfl, q _ (I.hok.fresh (Nat.le_refl _))⟩
def rLenK (X : Cx) : List V → Hp → VK → Prop := fun xs H Q => ∃ (a : Addr) (S : Key → Bool) (n : Nat), xs = [.ref a] ∧ H a = some (SetK X.prog X.w a S n) ∧ Q (.int n) H
theorem cr_lenK : CallR X (.builtin "len") (rLenK X) := by
  intro pins s σ H xs us Q I r q
  obtain ⟨a, S, n, rfl, ha, q⟩ := q
  cases r with
  | cons r1 r2 =>
    cases r2
    cases r1
    obtain ⟨o, es, ep, t, ho, hex, hd, hel, hm, hb, hf, rfl⟩ := setK_get I ha
    exact call_len_set ho hex hd hf (by have : scanBound = 4096 := rfl; omega) ⟨.int es.size, H, I.tok _, ⟨_, rfl⟩, q⟩
end
section
variable {X : Cx} {cl : Cl} {W : WX} {e : Expr} {fa : DA} {pos p p2 pos2 : Pos} {k : Nat}
def keysOf : List D → Option (List Key)
  | [] => some []
  | d :: ds => match keyOf d, keysOf ds with
    | some k, some ks => some (k :: ks)
    | _, _ => none
theorem keys_at_ {n : Nat} {mu : Mu} {H : Hp} : ∀ {vs : List V} {ds : List D} {ks : List Key}, VRels X.K cl n mu H vs ds → keysOf ds = some ks → vs = ks.map kV
  | _, _, _, .nil, e => by cases e; rfl
  | _, _, ks, .cons (d := d) (ds := ds) h r, e => by
    unfold keysOf at e
    split at e
    · rename_i k ks' h1 h2
      cases e
      rw [List.map_cons, key_at h h1, keys_at_ r h2]
    · cases e
/-- len(set(xs)) -/
def bLenSet : GD := fun ds S => match ds with
  | [.lst xs] => match keysOf xs with
    | some ks => if ks.length < 4000 then .ok (.int (uniqK ks).length) S else .stuck
    | none => .stuck
  | _ => .stuck
theorem fe_lenSet (G : Good X W k) (hl : X.mg "len" = none) (hs : X.mg "set" = none) (ha : FA X cl W [e] fa) (g1 : Gl X "len" := by rfl) (g2 : Gl X "set" := by rfl) (h1 : starEach [e] X.env = (false, eval e X.env) :: starEach [] X.env := by rfl)
    (h2 : starEach [.Call (.Name "set" p2) [e] [] pos2] X.env = (false, eval (.Call (.Name "set" p2) [e] [] pos2) X.env) :: starEach [] X.env := by rfl) :
    FE X cl W (.Call (.Name "len" p) [.Call (.Name "set" p2) [e] [] pos2] [] pos) (eB bLenSet fa) :=
  fe_of (pe_callB cr_lenK g1 hl PySem.boot_len (pa_cons (pe_callTy (cr_setK G.calm) g2 hs (by decide +kernel) ha.pa (by decide) (by decide) h1 rfl) pa_nil) (by decide) (by decide) h2 rfl) fun mu δ S σ H Q s r q =>
  ⟨mu, δ, S, s, r, (Af.bind q).mono fun v H1 ⟨mu1, d, S1, s1, e1, r1, q1⟩ => by
    unfold bLenSet at q1
    split at q1
    · rename_i xs
      split at q1
      · rename_i ks hk
        split at q1
        · rename_i hz
          cases r1 with
          | cons h1 r2 =>
            cases r2
            cases h1 with
            | @lst a vs _ f1 rs1 =>
              refine ⟨a, ks, rfl, by rw [← keys_at_ rs1 hk]; exact f1.sq, by have : scanBound = 4096 := rfl; omega, fun p0 hp0 => ?_⟩
              refine ⟨p0, _, _, rfl, upd_same, ?_⟩
              exact q1 _ _ mu1 (ext_new s1 hp0) (sr_new s1 hp0) (.int _)
        · exact q1.elim
      · exact q1.elim
    · exact q1.elim⟩
end
end Mi
namespace Mi
open PySem PySem.Spec PyProof.Rows L2

/-! dict(xs) of pairs, dict(d) -/
def keyD : Key → D
  | .inl i => .int i
  | .inr x => .str x
theorem keyD_rel {K : PySem.W.Frag} {cl : Cl} {n : Nat} {mu : Mu} {H : Hp} (k : Key) : VRel K cl n mu H (kV k) (keyD k) := by
  cases k with
  | inl i => exact .int i
  | inr x => exact .str x
def pairOf : D → Option (Key × D)
  | .tup [a, b] => (keyOf a).map fun k => (k, b)
  | _ => none
def pairsOf' : List D → Option (List (Key × D))
  | [] => some []
  | d :: ds => match pairOf d, pairsOf' ds with
    | some p, some r => some (p :: r)
    | _, _ => none
def newDic (live : Bool) (kds : List (Key × D)) (S : Store) : Out D := if live then .ok (.ref S.length) (S ++ [some (.dic kds)]) else .ok (.dic kds) S
def bDict (live : Bool) : GD := fun ds S => match ds with
  | [.lst xs] => match pairsOf' xs with
    | some kds => newDic live (mergeD [] kds) S
    | none => .stuck
  | [x] => match dicOf S x with
    | some kds => newDic live kds S
    | none => .stuck
  | _ => .stuck
section
variable {X : Cx} {cl : Cl} {W : WX} {mu : Mu} {H : Hp} {S : Store} {σ : L2.St} {n : Nat}
theorem pair_at {K : PySem.W.Frag} {v : V} {d : D} {kd : Key × D} (r : VRel K cl n mu H v d) (e : pairOf d = some kd) : ∃ p u, v = .ref p ∧ SqT K H p [kV kd.1, u] ∧ VRel K cl n mu H u kd.2 := by
  unfold pairOf at e
  split at e
  · rename_i a b
    obtain ⟨k, hk, rfl⟩ := Option.map_eq_some_iff.mp e
    cases r with
    | tup f rs =>
      cases rs with
      | cons q1 rs =>
        cases rs with
        | cons q2 rs =>
          cases rs
          exact ⟨_, _, rfl, by rw [← key_at q1 hk]; exact f.sq, q2⟩
  · cases e
theorem pairs_at {K : PySem.W.Frag} : ∀ (ds : List D) {vs : List V} {kds : List (Key × D)}, VRels K cl n mu H vs ds → pairsOf' ds = some kds → ∃ (ps : List Addr) (kvs : List (Key × V)), vs = ps.map V.ref ∧ Paired (fun p kv => SqT K H p [kV kv.1, kv.2]) ps kvs ∧ KRel K cl n mu H kvs kds
  | [], _, _, r, e => by
    cases r
    cases e
    exact ⟨[], [], rfl, .nil, .nil⟩
  | d :: ds, vs, kds, r, e => by
    cases r with
    | cons h rr =>
      unfold pairsOf' at e
      split at e
      · rename_i kd r' h1 h2
        cases e
        obtain ⟨ps, kvs, rfl, hp, hk⟩ := pairs_at ds rr h2
        obtain ⟨p, u, rfl, q1, q2⟩ := pair_at h h1
        exact ⟨p :: ps, (kd.1, u) :: kvs, rfl, .cons q1 hp, hk.cons q2⟩
      · cases e
/-- a dict that is made -/
def QL (Q : VK) : VK := fun v H1 => Q v H1 ∨ ∃ d u, v = .ref d ∧ H1 d = some u ∧ Mut (some u) ∧ ∀ od, Q v (upd H1 d (.frz od u))
theorem new_dic {live : Bool} {kds : List (Key × D)} {kvs : List (Key × V)} {Q : VK} (s : SR X.K cl mu H S) (kr : KRel X.K cl S.length mu H kvs kds) (q : Af X.K cl (VRel X.K cl) S.length mu H σ W (newDic live kds S) Q) : ∀ p, H p = none → QL Q (.ref p) (upd H p (.dK kvs)) := fun p hp => by
  cases live with
  | true => exact .inl (Af.live q s hp (.dic' upd_same (kr.pr (ext_add s hp).pr)))
  | false => exact .inr ⟨p, _, rfl, upd_same, True.intro, fun od => by rw [upd_upd]; exact q _ _ mu (ext_new s hp) (sr_new s hp) (.dic' (fl_new s hp) (kr.pr (ext_new s hp).pr))⟩
def rDictX (X : Cx) : List V → Hp → VK → Prop := fun xs H Q =>
  (∃ (a : Addr) (ps : List Addr) (kvs : List (Key × V)), xs = [.ref a] ∧ SqL X.K H a (ps.map V.ref) ∧ Paired (fun p kv => SqT X.K H p [kV kv.1, kv.2]) ps kvs ∧ ∀ p, H p = none → Q (.ref p) (upd H p (.dK (mergeK [] kvs)))) ∨
  (∃ (a : Addr) (kvs : List (Key × V)), xs = [.ref a] ∧ Rd H a (.dK kvs) ∧ ∀ p, H p = none → Q (.ref p) (upd H p (.dK kvs)))
theorem bok_dict {live : Bool} {vs : List V} {ds : List D} {Q : VK} (s : SR X.K cl mu H S) (r : VRels X.K cl S.length mu H vs ds) (q : Af X.K cl (VRel X.K cl) S.length mu H σ W (bDict live ds S) Q) : rDictX X vs H (QL Q) := by
  unfold bDict at q
  split at q
  · rename_i xs
    split at q
    · rename_i kds hk
      cases r with
      | cons h r =>
        cases r
        cases h with
        | @lst a us _ f rs =>
          obtain ⟨ps, kvs, rfl, hp, kr⟩ := pairs_at _ rs hk
          exact .inl ⟨a, ps, kvs, rfl, f.sq, hp, new_dic s (KRel.merge kr .nil) q⟩
    · exact q.elim
  · rename_i x _
    split at q
    · rename_i kds hk
      cases r with
      | cons h r =>
        cases r
        obtain ⟨a, kvs, rfl, hr, kr⟩ := dic_k s h hk
        exact .inr ⟨a, kvs, rfl, hr, new_dic s kr q⟩
    · exact q.elim
  · exact q.elim
end
section
variable {X : Cx} {cl : Cl} {W : WX} {a e o : Expr} {fa : DA} {fe fo : DE} {pos p apos cpos : Pos} {k : Nat}
theorem fe_dict {live : Bool} (G : Good X W k) (hm : X.mg "dict" = none) (ha : FA X cl W [e] fa) (hg : Gl X "dict" := by rfl) (he : starEach [e] X.env = (false, eval e X.env) :: starEach [] X.env := by rfl) : FE X cl W (.Call (.Name "dict" p) [e] [] pos) (eB (bDict live) fa) :=
  fe_of (pe_lk (pe_callTy (CallR.or (call_dictP G.calm) call_dictD) hg hm (by decide +kernel) ha.pa (by decide) (by decide) he rfl)) fun mu δ S σ H Q s r q => ⟨mu, δ, S, s, r, (Af.bind q).mono fun v H1 ⟨mu1, d, S1, s1, e1, r1, q1⟩ => bok_dict s1 r1 q1⟩

/-! list(d): the keys; list(d.values()) -/
def newLst (live : Bool) (xs : List D) (S : Store) : Out D := if live then .ok (.ref S.length) (S ++ [some (.lst xs)]) else .ok (.lst xs) S
theorem new_lst {live : Bool} {ds : List D} {vs : List V} {Q : VK} {mu : Mu} {H : Hp} {S : Store} {σ : L2.St} (s : SR X.K cl mu H S) (r : VRels X.K cl S.length mu H vs ds) (q : Af X.K cl (VRel X.K cl) S.length mu H σ W (newLst live ds S) Q) : ∀ p, H p = none → Q (.ref p) (upd H p (.lst vs)) := by
  cases live with
  | true => exact Af.lstL q s r
  | false => exact Af.lst q s r
def bListK (live : Bool) : GD := fun ds S => match ds with
  | [x] => match dicOf S x with
    | some kds => newLst live (kds.map fun kd => keyD kd.1) S
    | none => .stuck
  | _ => .stuck
theorem keys_rel {n : Nat} {mu : Mu} {H : Hp} : ∀ {kvs : List (Key × V)} {kds : List (Key × D)}, KRel X.K cl n mu H kvs kds → VRels X.K cl n mu H (kvs.map fun kv => kV kv.1) (kds.map fun kd => keyD kd.1) :=
  KRel.induct (P := fun (kvs : List (Key × V)) (kds : List (Key × D)) => VRels X.K cl n mu H (kvs.map fun kv : Key × V => kV kv.1) (kds.map fun kd : Key × D => keyD kd.1)) .nil fun k v d kvs kds _ _ ih => VRels.cons (keyD_rel k) ih
theorem fe_listK {live : Bool} (G : Good X W k) (hm : X.mg "list" = none) (ha : FA X cl W [e] fa) (hg : Gl X "list" := by rfl) (he : starEach [e] X.env = (false, eval e X.env) :: starEach [] X.env := by rfl) : FE X cl W (.Call (.Name "list" p) [e] [] pos) (eB (bListK live) fa) :=
  fe_bty (call_listD G.calm) (fun mu S σ H vs ds Q s r q => by
    unfold bListK at q
    split at q
    · split at q
      · rename_i kds hk
        cases r with
        | cons h r =>
          cases r
          obtain ⟨a, kvs, rfl, hr, kr⟩ := dic_k s h hk
          exact ⟨a, kvs, rfl, hr, new_lst s (keys_rel kr) q⟩
      · exact q.elim
    · exact q.elim) hm ha (by decide +kernel) hg (by decide) (by decide) he rfl
theorem vals_vals : ∀ {kvs : List (Key × V)} {vs : List (Key × Value)} {us : List Value}, KV kvs vs → us.length = vs.length → (∀ (j : Nat) (v : Value), us[j]? = some v → ∃ k, vs[j]? = some (k, v)) → Vals (kvs.map (·.2)) us := by
  intro kvs vs us r
  unfold KV at r
  induction r generalizing us with
  | nil =>
    intro hl _
    cases us with
    | nil => exact .nil
    | cons u us => simp at hl
  | cons h t ih =>
    intro hl hh
    cases us with
    | nil => simp at hl
    | cons u us =>
      obtain ⟨k, e⟩ := hh 0 u rfl
      have e := Option.some.inj (show some _ = some (k, u) from e)
      have h2 := h.2
      rw [e] at h2
      exact .cons h2 (ih (by simpa using hl) fun j v q => hh (j + 1) v q)
/-- list(o.values()) -/
def tListVals (td : TE) : TE := fun σ H Q => td σ H fun x H1 => ∃ a kvs, x = V.ref a ∧ Rd H1 a (.dK kvs) ∧ ∀ p H', (∀ b o, H1 b = some o → H' b = some o) → H1 p = none → (∀ b, b ≠ p → H' b = H1 b) → H' p = some (.lst (kvs.map (·.2))) → Q (.ref p) H'
theorem pe_listVals {td : TE} {mpos : Pos} (hc : X.calm = true) (hg : Gl X "list") (hm : X.mg "list" = none) (hd : PE X o td) (hbase : attributeBase o "values" X.env (eval o X.env) = eval o X.env := by rfl) (hline : (apos.endLine == mpos.line) = true := by rfl)
    (hs : starEach [.Call (.Attribute o "values" apos) [] [] mpos] X.env = (false, eval (.Call (.Attribute o "values" apos) [] [] mpos) X.env) :: starEach [] X.env := by rfl) :
    PE X (.Call (.Name "list" p) [.Call (.Attribute o "values" apos) [] [] mpos] [] pos) (tListVals td) := by
  refine ⟨fun pins s σ H Q I h => ?_⟩
  refine wpAny_Call_Name_kw (ld_blt I hg hm (u := .type "list") (by decide +kernel) ?_ (by first | decide +kernel | decide) (by first | decide +kernel | decide))
  refine PyProof.Rows.callWith_type1 ?_ hs rfl
  rw [hs]
  show wpAny _ _ (spliced ((false, eval (.Call (.Attribute o "values" apos) [] [] mpos) X.env) :: backTo pos (starEach [] X.env))) _ _ s
  refine Calls.spliced_cons ?_
  refine wpAny_Call_method (T := "dict") (id := "dict.values") hbase rfl hline PySem.F.plainAttrs_dict PySem.F.slot_dict_values PySem.F.type_dict_values (thn (hd.run pins s σ H _ I h) fun u s1 ⟨x, H1, I1, rx, a, kvs, ex, ha, q⟩ => ?_)
  subst ex
  obtain rfl : u = Value.ref a := rx
  obtain ⟨hz, hsys, vs, rel, dof⟩ := dk_rd I1.hok ha
  obtain ⟨ep, dat⟩ := dof.dictAt
  have lk : kvs.length = vs.length := Paired.length rel
  refine ⟨dof.typeIs, dof.mapOf.noDict, ?_⟩
  show wpAny _ _ (callWith mpos (.builtin "dict.values") [.ref a] [] []) _ X.xe s1
  refine method_meetsIn PySem.F.slot_dict_values PySem.F.entry_dict_values rfl (PySem.evalArgs_none ⟨rfl, dof.typeIs, PySem.F.args_dict_values_1 _, _, meets_dict_values (mixKind X.prog X.w) a hsys, ⟨vs, dof⟩, ?_⟩)
  refine Calls.spliced_nil ?_
  have I2 : Inv X pins σ H1 { s1 with heap := s1.heap.push { cls := .type "dict_values", data := .fields #[.ref a] } } := I1.kept (t' := s1.toks) fun b ob q => Heap.get?_push_of_some _ q
  refine PySem.W.kdl_call (PySem.W.kdl_values (knd := mixKind X.prog X.w) (r := s1.heap.objs.size) (d := a) (kvs := vs) (ep := ep)) (I1.ok.hd hc) ⟨⟨_, Heap.get?_push_size _ rfl, rfl, rfl⟩, dat.push _⟩ (by omega) fun h' tk acc c' hk hD hacc => ?_
  have hv : Vals (kvs.map (·.2)) acc.toList := vals_vals rel (by rw [Array.length_toList]; exact hacc.1) fun j v e => hacc.2 j v (by rw [← Array.getElem?_toList]; exact e)
  have hfr : H1 (s1.heap.objs.size + 1) = none := I1.hok.fresh (Nat.le_succ _)
  have hsz : (s1.heap.push { cls := .type "dict_values", data := .fields #[.ref a] }).objs.size = s1.heap.objs.size + 1 := Heap.size_push _ _
  refine ⟨.ref _, upd H1 (s1.heap.objs.size + 1) (.lst (kvs.map (·.2))), ?_, by rw [hsz]; rfl, ?_⟩
  · have hD' := hD
    rw [hsz] at hD'
    exact I1.laid (t' := tk) (fun b u e => hk b u (Heap.get?_push_of_some _ e)) (Nat.le_succ _) (show ObjOk X.prog X.w _ _ _ (.lst (kvs.map (·.2))) from ⟨by rw [List.length_map]; exact hz, acc.toList, c', hv, by rw [Array.toArray_toList]; exact hD'⟩)
  · exact q _ _ (fun b o e => by rw [upd_ne (ne_of_none e hfr)]; exact e) hfr (fun b hb => upd_ne hb) upd_same
def eListVals (live : Bool) (fo : DE) : DE := fun δ S => (fo δ S).bind fun x S1 => match dicOf S1 x with
  | some kds => newLst live (kds.map (·.2)) S1
  | none => .stuck
theorem krel_val {K : PySem.W.Frag} {n : Nat} {mu : Mu} {H : Hp} {k : Key} {d : D} : ∀ {kvs : List (Key × V)} {kds : List (Key × D)}, KRel K cl n mu H kvs kds → getK kds k = some d → ∃ v, valV kvs k = some v ∧ VRel K cl n mu H v d :=
  fun {kvs kds} r => KRel.induct (P := fun (kvs : List (Key × V)) (kds : List (Key × D)) => getK kds k = some d → ∃ v, valV kvs k = some v ∧ VRel K cl n mu H v d) (fun e => by cases e) (fun k1 v1 d1 kvs kds q _ ih e => by
    unfold getK at e ih
    unfold valV at ih ⊢
    by_cases h : k1 = k
    · rw [List.find?_cons_of_pos (by simpa using h)] at e ⊢
      cases e
      exact ⟨v1, rfl, q⟩
    · rw [List.find?_cons_of_neg (by simpa using h)] at e ⊢
      exact ih e) r
theorem fe_listVals {live : Bool} {mpos : Pos} (G : Good X W k) (hm : X.mg "list" = none) (ho : FE X cl W o fo) (hg : Gl X "list" := by rfl) (hbase : attributeBase o "values" X.env (eval o X.env) = eval o X.env := by rfl) (hline : (apos.endLine == mpos.line) = true := by rfl)
    (hs : starEach [.Call (.Attribute o "values" apos) [] [] mpos] X.env = (false, eval (.Call (.Attribute o "values" apos) [] [] mpos) X.env) :: starEach [] X.env := by rfl) :
    FE X cl W (.Call (.Name "list" p) [.Call (.Attribute o "values" apos) [] [] mpos] [] pos) (eListVals live fo) :=
  fe_of (pe_listVals G.calm hg hm ho.pe hbase hline hs) fun mu δ S σ H Q s r q => ⟨mu, δ, S, s, r, (Af.bind q).mono fun v H1 ⟨mu1, d, S1, s1, e1, r1, q1⟩ => by
    split at q1
    · rename_i kds hk
      obtain ⟨a, kvs, rfl, hr, kr⟩ := dic_k s1 r1 hk
      refine ⟨a, kvs, rfl, hr, fun p0 H' hkeep hp0 hoth hat => ?_⟩
      have e : H' = upd H1 p0 (.lst (kvs.map (·.2))) := by
        funext b
        by_cases hb : b = p0
        · rw [hb, hat, upd_same]
        · rw [hoth b hb, upd_ne hb]
      rw [e]
      exact new_lst s1 kr.2 q1 p0 hp0
    · exact q1.elim⟩

/-! d.pop(k) -/
def eDPop (fo fe : DE) : DE := fun δ S => (fo δ S).bind fun x S1 => match x with
  | .ref l => match S1[l]? with
    | some (some (.dic _)) => (fe δ S1).bind fun y S2 => match keyOf y, S2[l]? with
      | some k, some (some (.dic kds)) => match getK kds k with
        | some v => .ok v (S2.set l (some (.dic (dropD kds k))))
        | none => .stuck
      | _, _ => .stuck
    | _ => .stuck
  | _ => .stuck
theorem fe_dpop (ho : FE X cl W o fo) (he : FE X cl W e fe) (m : M1 X o "pop" apos e cpos := by exact ⟨rfl, rfl, rfl, rfl⟩) : FE X cl W (.Call (.Attribute o "pop" apos) [e] [] cpos) (eDPop fo fe) :=
  fe_of (pe_dpop1 ho.pe he.pe m) fun mu δ S σ H Q s r q => ⟨mu, δ, S, s, r, (Af.bind q).mono fun v H1 ⟨mu1, d, S1, s1, e1, r1, q1⟩ => by
    split at q1
    · rename_i l
      split at q1
      · rename_i kds0 hx
        obtain ⟨a, kvs0, rfl, hm, hH, kr0⟩ := dic_live s1 r1 hx
        refine ⟨a, rfl, .inl ⟨_, .inl hH⟩, mu1, δ, S1, s1, r.mono e1, (Af.bind q1).mono fun u H2 ⟨mu2, y, S2, s2, e2, r2, q2⟩ => ?_⟩
        split at q2
        · rename_i k kds hk hx2
          split at q2
          · rename_i v hv
            obtain ⟨a', kvs, ea, hm2, hH2, kr⟩ := dic_live s2 (r1.mono e2) hx2
            cases ea
            obtain ⟨w, hw, rw'⟩ := krel_val kr hv
            have ex := ext_put (o := .dK (dropK kvs k)) (x := some (.dic (dropD kds k))) s2 hm2
            exact ⟨kvs, k, w, hH2, key_at r2 hk, hw, q2 _ _ mu2 ex (sr_put s2 hm2 (ORel.dic' upd_same ((kr.drop (k := k)).pr ex.pr))) (rw'.mono ex)⟩
          · exact q2.elim
        · exact q2.elim
      · exact q1.elim
    · exact q1.elim⟩

/-! over a dict that is never written again: its keys, its pairs -/
def iKeysD (f : DE) : DI := fun δ S => (f δ S).bind fun x S1 => match x with
  | .dic kds => .ok (kds.map fun kd => keyD kd.1, none) S1
  | _ => .stuck
def iItemsD (f : DE) : DI := fun δ S => (f δ S).bind fun x S1 => match x with
  | .dic kds => .ok (kds.map fun kd => .tup [keyD kd.1, kd.2], none) S1
  | _ => .stuck
theorem dic_lock {K : PySem.W.Frag} {n : Nat} {mu : Mu} {H : Hp} {v : V} {kds : List (Key × D)} (r : VRel K cl n mu H v (.dic kds)) : ∃ a kvs o, v = .ref a ∧ H a = some (.frz o (.dK kvs)) ∧ Ot mu a ∧ KRel K cl n mu H kvs kds := by
  cases r with
  | dic f hl rs =>
    obtain ⟨⟨q, h⟩, ot⟩ := f
    exact ⟨_, _, q, rfl, h, ot, .of hl rs⟩
theorem krel_get {K : PySem.W.Frag} {n : Nat} {mu : Mu} {H : Hp} {kvs : List (Key × V)} {kds : List (Key × D)} (r : KRel K cl n mu H kvs kds) {i : Nat} {kd : Key × D} (h : kds[i]? = some kd) : ∃ v, kvs[i]? = some (kd.1, v) ∧ VRel K cl n mu H v kd.2 := by
  have h2 : (kds.map (·.2))[i]? = some kd.2 := by rw [List.getElem?_map, h]; rfl
  obtain ⟨v, hv, rv⟩ := r.2.get (i := i) h2
  rw [List.getElem?_map] at hv
  obtain ⟨kv, hkv, rfl⟩ := Option.map_eq_some_iff.mp hv
  have h1 : (kvs.map (·.1))[i]? = some kd.1 := by rw [r.1, List.getElem?_map, h]; rfl
  rw [List.getElem?_map, hkv] at h1
  exact ⟨kv.2, by rw [hkv, ← Option.some.inj h1], rv⟩
theorem fi_keysD {tg : Expr} (h : FE X cl W e fe) : FI X cl W tg e (iKeysD fe) := fi_of (pi_keys h.pe) fun mu δ S σ H R s r q => by
  refine ⟨mu, δ, S, s, r, (Af.bind q).mono fun v H1 ⟨mu1, d, S1, s1, e1, r1, q1⟩ => ?_⟩
  split at q1
  · rename_i kds
    obtain ⟨a, kvs, o, rfl, hH, ot, kr⟩ := dic_lock r1
    have hl : kvs.length = kds.length := by have := congrArg List.length kr.1; simpa using this
    refine ⟨a, o, rfl, .inl ⟨kvs, hH, Af.now q1 s1 ⟨fun mu' H' S' e s _ i => ?_⟩⟩⟩
    have hH' := (e.keep _ _ hH ot).1
    refine ⟨fun hi => ⟨hH', by simp at hi; omega⟩, fun d hd => ?_⟩
    have hd : (kds.map fun kd => keyD kd.1)[i]? = some d := hd
    rw [List.getElem?_map] at hd
    obtain ⟨kd, hkd, rfl⟩ := Option.map_eq_some_iff.mp hd
    obtain ⟨u, hu, ru⟩ := krel_get kr hkd
    refine ⟨⟨hH', (List.getElem?_eq_some_iff.mp hu).1⟩, fun x H2 y => ?_⟩
    obtain ⟨rfl, k, w, hk, rfl⟩ := y
    rw [hu] at hk
    cases hk
    exact ⟨s.rfl', s, keyD_rel _⟩
  · exact q1.elim
theorem fi_itemsD {elts : List Expr} {kk : Nat} {tpos : Pos} (h : FE X cl W e fe) (hbase : attributeBase e "items" X.env (eval e X.env) = eval e X.env := by rfl) (hline : (apos.endLine == cpos.line) = true := by rfl) :
    FI X cl W (.Tuple elts kk tpos) (.Call (.Attribute e "items" apos) [] [] cpos) (iItemsD fe) := fi_of (pi_items h.pe hbase hline) fun mu δ S σ H R s r q => by
  refine ⟨mu, δ, S, s, r, (Af.bind q).mono fun v H1 ⟨mu1, d, S1, s1, e1, r1, q1⟩ => ?_⟩
  split at q1
  · rename_i kds
    obtain ⟨a, kvs, o, rfl, hH, ot, kr⟩ := dic_lock r1
    have hl : kvs.length = kds.length := by have := congrArg List.length kr.1; simpa using this
    refine ⟨a, o, kvs, rfl, hH, Af.now q1 s1 ⟨fun mu' H' S' e s _ i => ?_⟩⟩
    have hH' := (e.keep _ _ hH ot).1
    refine ⟨fun hi => ⟨hH', by simp at hi; omega⟩, fun d hd => ?_⟩
    have hd : (kds.map fun kd => D.tup [keyD kd.1, kd.2])[i]? = some d := hd
    rw [List.getElem?_map] at hd
    obtain ⟨kd, hkd, rfl⟩ := Option.map_eq_some_iff.mp hd
    obtain ⟨u, hu, ru⟩ := krel_get kr hkd
    refine ⟨⟨hH', (List.getElem?_eq_some_iff.mp hu).1⟩, fun x H2 y => ?_⟩
    obtain ⟨T, k, w, hk, rfl, hT, rfl⟩ := y
    rw [hu] at hk
    cases hk
    have en := ext_new (o := HO.tup [kV kd.1, u]) s hT
    exact ⟨en, sr_new s hT, .tup (.inl (fz_new s hT)) (.cons (keyD_rel _) (.cons ((ru.pr e).mono en) .nil))⟩
  · exact q1.elim
end
end Mi
namespace Mi
open PySem PySem.Spec PyProof.Rows L2

/-! sorted texts -/
theorem ltC_le : ∀ {a b c : List Nat}, ltCps b a = false → ltCps c b = false → ltCps c a = false
  | [], b, c, _, _ => by cases c <;> simp_all [ltCps] <;> cases b <;> simp_all [ltCps]
  | x :: a, [], c, h, _ => by simp [ltCps] at h
  | x :: a, y :: b, [], _, h => by simp [ltCps] at h
  | x :: a, y :: b, z :: c, h1, h2 => by
    simp only [ltCps, Bool.or_eq_false_iff, decide_eq_false_iff_not, Bool.and_eq_false_iff, beq_eq_false_iff_ne, ne_eq] at h1 h2 ⊢
    obtain ⟨p1, p2⟩ := h1
    obtain ⟨q1, q2⟩ := h2
    refine ⟨by omega, ?_⟩
    by_cases e : z = x
    · have e1 : y = x := by omega
      have e2 : z = y := by omega
      exact .inr (ltC_le (p2.resolve_left (fun q => q e1)) (q2.resolve_left (fun q => q e2)))
    · exact .inl e
theorem ltC_total : ∀ (a b : List Nat), ltCps a b = false ∨ ltCps b a = false
  | [], [] => .inl rfl
  | [], _ :: _ => .inr rfl
  | _ :: _, [] => .inl rfl
  | x :: a, y :: b => by
    simp only [ltCps, Bool.or_eq_false_iff, decide_eq_false_iff_not, Bool.and_eq_false_iff, beq_eq_false_iff_ne, ne_eq]
    by_cases e : x = y
    · rcases ltC_total a b with h | h
      · exact .inl ⟨by omega, .inr h⟩
      · exact .inr ⟨by omega, .inr h⟩
    · by_cases l : x < y
      · exact .inr ⟨by omega, .inl (Ne.symm e)⟩
      · exact .inl ⟨l, .inl e⟩
theorem ltC_anti : ∀ {a b : List Nat}, ltCps a b = false → ltCps b a = false → a = b
  | [], [], _, _ => rfl
  | [], _ :: _, h, _ => by simp [ltCps] at h
  | _ :: _, [], _, h => by simp [ltCps] at h
  | x :: a, y :: b, h1, h2 => by
    simp only [ltCps, Bool.or_eq_false_iff, decide_eq_false_iff_not, Bool.and_eq_false_iff, beq_eq_false_iff_ne, ne_eq] at h1 h2
    have e : x = y := by omega
    rw [e, ltC_anti (h1.2.resolve_left (fun q => q e)) (h2.2.resolve_left (fun q => q e.symm))]
def leS (a b : Str) : Bool := !ltCps b.cps.toList a.cps.toList
theorem leS_anti {a b : Str} (h1 : leS a b = true) (h2 : leS b a = true) : a = b := by
  unfold leS at h1 h2
  have := ltC_anti (by simpa using h1) (by simpa using h2)
  cases a; cases b
  simp only [Str.mk.injEq]
  exact (Array.toList_inj.mp this).symm
theorem leS_trans {a b c : Str} (h1 : leS a b = true) (h2 : leS b c = true) : leS a c = true := by
  unfold leS at *
  simp only [Bool.not_eq_true'] at *
  exact ltC_le (a := a.cps.toList) (b := b.cps.toList) (c := c.cps.toList) h1 h2
theorem rising_pw : ∀ (p : Str) (l : List Str), risingS p l = true → (p :: l).Pairwise fun a b => leS a b = true
  | p, [], _ => List.pairwise_singleton _ _
  | p, x :: r, h => by
    have h : (!ltCps x.cps.toList p.cps.toList && risingS x r) = true := h
    simp only [Bool.and_eq_true] at h
    have ih := rising_pw x r h.2
    refine List.pairwise_cons.mpr ⟨fun y hy => ?_, ih⟩
    rcases List.mem_cons.mp hy with e | hy
    · rw [e]; exact h.1
    · exact leS_trans (b := x) h.1 ((List.pairwise_cons.mp ih).1 y hy)
theorem sorted_pw : ∀ {l : List Str}, sortedS l = true → l.Pairwise fun a b => leS a b = true
  | [], _ => .nil
  | x :: r, h => rising_pw x r h
theorem perm_uniq : ∀ {xs ys : List Str}, xs.Perm ys → (xs.Pairwise fun a b => leS a b = true) → (ys.Pairwise fun a b => leS a b = true) → xs = ys
  | [], ys, h, _, _ => (List.nil_perm.mp h).symm
  | x :: xs, [], h, _, _ => by have := h.length_eq; simp at this
  | x :: xs, y :: ys, h, p, q => by
    have hx : x ∈ y :: ys := h.subset List.mem_cons_self
    have hy : y ∈ x :: xs := h.symm.subset List.mem_cons_self
    have e : x = y := by
      rcases List.mem_cons.mp hx with e | hx
      · exact e
      · rcases List.mem_cons.mp hy with e | hy
        · exact e.symm
        · exact leS_anti ((List.pairwise_cons.mp p).1 y hy) ((List.pairwise_cons.mp q).1 x hx)
    subst e
    rw [perm_uniq ((List.perm_cons x).mp h) (List.pairwise_cons.mp p).2 (List.pairwise_cons.mp q).2]
def sortStr (xs : List Str) : List Str := xs.mergeSort leS
theorem sortStr_perm (xs : List Str) : (sortStr xs).Perm xs := List.mergeSort_perm xs leS
theorem sortStr_pw (xs : List Str) : (sortStr xs).Pairwise fun a b => leS a b = true :=
  List.pairwise_mergeSort (le := leS) (fun a b c h1 h2 => leS_trans h1 h2) (fun a b => by
    unfold leS
    rcases ltC_total b.cps.toList a.cps.toList with h | h <;> rw [h] <;> simp) xs
theorem sortStr_uniq {xs ys : List Str} (h : ys.Perm xs) (s : sortedS ys = true) : ys = sortStr xs := perm_uniq (h.trans (sortStr_perm xs).symm) (sorted_pw s) (sortStr_pw xs)
theorem sortStr_of_perm {xs ys : List Str} (h : xs.Perm ys) : sortStr xs = sortStr ys := perm_uniq ((sortStr_perm xs).trans (h.trans (sortStr_perm ys).symm)) (sortStr_pw xs) (sortStr_pw ys)
section
variable {X : Cx} {cl : Cl} {W : WX} {a e o : Expr} {fa : DA} {pos p : Pos} {k : Nat}
def bSortedS (live : Bool) : GD := fun ds S => match ds with
  | [x] => match seqOf S x with
    | some xs => match strsOf xs with
      | some l => if l.length < 64 then newLst live ((sortStr l).map .str) S else .stuck
      | none => .stuck
    | none => .stuck
  | _ => .stuck
theorem strs_rel {K : PySem.W.Frag} {n : Nat} {mu : Mu} {H : Hp} : ∀ (l : List Str), VRels K cl n mu H (l.map V.str) (l.map D.str)
  | [] => .nil
  | x :: l => .cons (.str x) (strs_rel l)
theorem fe_sortedS {live : Bool} (hm : X.mg "sorted" = none) (ha : FA X cl W [e] fa) (hg : Gl X "sorted" := by rfl) (he : starEach [e] X.env = (false, eval e X.env) :: starEach [] X.env := by rfl) : FE X cl W (.Call (.Name "sorted" p) [e] [] pos) (eB (bSortedS live) fa) :=
  fe_blt cr_sortedS (fun mu S σ H vs ds Q s r q => by
    unfold bSortedS at q
    split at q
    · split at q
      · rename_i xs hx
        split at q
        · rename_i l hl
          split at q
          · rename_i hz
            cases r with
            | cons h r =>
              cases r
              obtain ⟨a, us, rfl, hu, ru⟩ := seq_at s h hx
              refine ⟨a, l, rfl, by rw [← strs_at ru hl]; exact hu, hz, fun ys p hp hs hn => ?_⟩
              rw [sortStr_uniq hp hs]
              exact new_lst s (strs_rel _) q p hn
          · exact q.elim
        · exact q.elim
      · exact q.elim
    · exact q.elim) hm ha (by decide +kernel) hg (by decide) (by decide) he rfl
/-! a text so many times -/
def dMulS : G2 := fun x y S => match x, y with
  | .str z, .int i => if z.length ≤ 16 ∧ 0 ≤ i ∧ i ≤ 1048576 then .ok (.str (Txt.mul z i)) S else .stuck
  | _, _ => .stuck
theorem op_mulS : OpR X (binaryOp .Mult) (fun x y H Q => ∃ z i, x = .str z ∧ y = .int i ∧ z.length ≤ 16 ∧ 0 ≤ i ∧ i ≤ 1048576 ∧ Q (.str (Txt.mul z i)) H) := by
  intro pins s σ H x y v u Q I rx ry h
  obtain ⟨z, i, rfl, rfl, hz, h0, h1, q⟩ := h
  obtain ⟨t, rfl⟩ := rx
  obtain ⟨t', rfl⟩ := ry
  exact PySem.W.KXi.mul (x := z) (n := z.length) rfl hz (by omega) (by omega) fun t2 k _ _ => ⟨.str _, H, I.tok _, ⟨t2, rfl⟩, q⟩
theorem fe_mulS {b : Expr} {f g : DE} (ha : FE X cl W a f) (hb : FE X cl W b g) : FE X cl W (.BinOp a .Mult b pos) (e2 dMulS f g) := fe_op op_mulS (fun mu S σ H v u x y Q s rx ry q => by
  unfold dMulS at q
  split at q
  · split at q
    · rename_i hc
      cases rx
      cases ry
      exact ⟨_, _, rfl, rfl, hc.1, hc.2.1, hc.2.2, Af.now q s (.str _)⟩
    · exact q.elim
  · exact q.elim) ha hb
end
end Mi
namespace Mi
open PySem PySem.Spec PyProof.Rows L2

/-! texts by their signs -/
def sL (l : List Nat) : Str := ⟨l.toArray⟩
def chr (c : Nat) : D := .str ⟨#[c]⟩
theorem sL_one (c : Nat) : sL [c] = ⟨#[c]⟩ := rfl
theorem sL_list (l : List Nat) : (sL l).cps.toList = l := List.toList_toArray
theorem sL_len (l : List Nat) : (sL l).length = l.length := by unfold sL Str.length; simp
theorem sL_inj {a b : List Nat} : sL a = sL b ↔ a = b := ⟨fun h => by rw [← sL_list a, h, sL_list], fun h => by rw [h]⟩
theorem sL_eta (s : Str) : sL s.cps.toList = s := by cases s; rfl
theorem sL_app (a b : List Nat) : sL a ++ sL b = sL (a ++ b) := by
  have h : (sL a ++ sL b).cps.toList = a ++ b := by show ((sL a).cps ++ (sL b).cps).toList = _; rw [Array.toList_append, sL_list, sL_list]
  rw [← sL_eta (sL a ++ sL b), h]
theorem sz_16 {n : Nat} (h : n ≤ 1000) : n ≤ sizeLine := Nat.le_trans h (by decide)
theorem add_sL {a b : List Nat} {S : Store} (h : a.length + b.length ≤ 1000) : dAdd (.str (sL a)) (.str (sL b)) S = .ok (.str (sL (a ++ b))) S := by
  rw [dAdd_str, sL_len, sL_len, if_pos (sz_16 h), sL_app]
theorem cutS_sL (l : List Nat) (lo hi : Option Int) : cutS (sL l) lo hi = sL (cutD l lo hi) := by
  unfold cutS cutD
  rw [sL_len, sL_list]
  rfl
theorem sl_sL {l : List Nat} {lo hi : Option Int} {S : Store} (h : l.length ≤ 1000) : dSl (.str (sL l)) lo hi S = .ok (.str (sL (cutD l lo hi))) S := by
  have e : dSl (.str (sL l)) lo hi S = if (sL l).length ≤ sizeLine then .ok (.str (cutS (sL l) lo hi)) S else .stuck := rfl
  rw [e, sL_len, if_pos (sz_16 h), cutS_sL]
def abc : List Nat := [97,98,99,100,101,102,103,104,105,106,107,108,109,110,111,112,113,114,115,116,117,118,119,120,121,122]
theorem abc_eq : (Str.ofString "abcdefghijklmnopqrstuvwxyz").cps.toList = abc := by decide +kernel
theorem abc_get : ∀ i : Fin 26, abc[i.val]? = some (97 + i.val) := by decide
theorem letter_at {i : Int} {S : Store} (h0 : 0 ≤ i) (h1 : i < 26) : dIx (.str "abcdefghijklmnopqrstuvwxyz") (.int i) S = .ok (chr (97 + i.toNat)) S := by
  rw [dIx_str, show (("abcdefghijklmnopqrstuvwxyz" : Str)).cps.toList = abc from abc_eq]
  have e : atD abc i = some (97 + i.toNat) := by
    have h := abc_get ⟨i.toNat, by omega⟩
    obtain ⟨k, rfl⟩ : ∃ k : Nat, i = k := ⟨i.toNat, by omega⟩
    exact atD_nat (by simpa using h)
  rw [e]
  exact if_pos (by decide +kernel)
theorem at_sL {l : List Nat} {i : Int} {S : Store} (h0 : 0 ≤ i) (h1 : i < l.length) (hl : l.length ≤ 1000) : dIx (.str (sL l)) (.int i) S = .ok (chr (l.getD i.toNat 0)) S := by
  obtain ⟨k, rfl⟩ : ∃ k : Nat, i = k := ⟨i.toNat, by omega⟩
  have hk : k < l.length := by omega
  rw [dIx_str, sL_list, atD_nat (k := k) (e := l[k]) (List.getElem?_eq_getElem hk)]
  have e : l.getD (k : Int).toNat 0 = l[k] := by rw [Int.toNat_natCast, List.getD_eq_getElem?_getD, List.getElem?_eq_getElem hk]; rfl
  rw [e, sL_len]
  exact if_pos (sz_16 hl)
theorem strs_chr : ∀ l : List Nat, strsOf (l.map chr) = some (l.map fun c => sL [c])
  | [] => rfl
  | c :: l => by
    rw [List.map_cons, List.map_cons]
    show (strsOf (l.map chr)).map _ = _
    rw [strs_chr l]; rfl
theorem join_sL : ∀ l : List Nat, Str.join Str.empty (l.map fun c => sL [c]) = sL l
  | [] => rfl
  | [c] => rfl
  | c :: d :: r => by
    have ih := join_sL (d :: r)
    have e : Str.join Str.empty ((c :: d :: r).map fun c => sL [c]) = sL [c] ++ Str.empty ++ Str.join Str.empty ((d :: r).map fun c => sL [c]) := rfl
    rw [e, ih, show Str.empty = sL [] from rfl, sL_app, sL_app]
    rfl
theorem join_chr {l : List Nat} {S : Store} (hl : l.length ≤ 1000) : mJoin (.str "") [.lst (l.map chr)] S = .ok (.str (sL l)) S := by
  have he : Str.ofString "" = Str.empty := by decide +kernel
  have hs : ((l.map fun c => sL [c]).map (·.length)).sum = l.length := by
    rw [List.map_map]
    clear hl
    induction l with
    | nil => rfl
    | cons c l ih => rw [List.map_cons, List.sum_cons, ih, List.length_cons, Nat.add_comm]; rfl
  unfold mJoin
  simp only [anyOf, seqOf, lstOf, strs_chr]
  rw [if_pos, TL.join_eq, he, join_sL]
  rw [hs, he, List.length_map, show Str.empty.length = 0 from rfl]; omega
theorem mulS_sL {l : List Nat} {i : Int} {S : Store} (hl : l.length ≤ 16) (h : i = 0 ∨ i = 1) : dMulS (.str (sL l)) (.int i) S = .ok (.str (sL (if i = 1 then l else []))) S := by
  unfold dMulS
  simp only [sL_len]
  rw [if_pos ⟨hl, by omega, by omega⟩]
  rcases h with rfl | rfl <;> rfl
theorem mulS_one {c : Nat} {i : Int} {S : Store} (h0 : 0 ≤ i) (h1 : i ≤ 1000) : dMulS (.str (sL [c])) (.int i) S = .ok (.str (sL (List.replicate i.toNat c))) S := by
  unfold dMulS
  simp only [sL_len]
  rw [if_pos ⟨by simp, by omega, by omega⟩, ← sL_eta (Txt.mul (sL [c]) i), sL_one, PyProof.Rows.mul_one_list]
theorem sL_ok {l : List Nat} (h : ∀ c ∈ l, c < 1114112) : TX l.length (sL l) := ⟨by rw [sL_len]; exact Nat.le_refl _, by rw [sL_list]; exact h⟩

/-! repr of what lives -/
theorem rpG {k : Nat} {r : Nat → Option PyData} : True := trivial
mutual
theorem pyR_mono {r : Nat → Option PyData} : ∀ {d : D} {p : PyData}, pyR noR d = some p → pyR r d = some p
  | .non, _, h => h
  | .bl _, _, h => h
  | .int _, _, h => h
  | .str _, _, h => h
  | .ref _, _, h => by cases h
  | .tup xs, _, h => by
    obtain ⟨ps, h1, h2⟩ := Option.map_eq_some_iff.mp (show (pyRs noR xs).map PyData.tuple = _ from h)
    show (pyRs r xs).map PyData.tuple = _
    rw [pyRs_mono h1, ← h2]; rfl
  | .lst xs, _, h => by
    obtain ⟨ps, h1, h2⟩ := Option.map_eq_some_iff.mp (show (pyRs noR xs).map PyData.list = _ from h)
    show (pyRs r xs).map PyData.list = _
    rw [pyRs_mono h1, ← h2]; rfl
  | .scr xs, _, h => by
    obtain ⟨ps, h1, h2⟩ := Option.map_eq_some_iff.mp (show (pyRs noR xs).map PyData.list = _ from h)
    show (pyRs r xs).map PyData.list = _
    rw [pyRs_mono h1, ← h2]; rfl
  | .dic xs, _, h => by
    obtain ⟨ps, h1, h2⟩ := Option.map_eq_some_iff.mp (show (pyRk noR xs).map PyData.dict = _ from h)
    show (pyRk r xs).map PyData.dict = _
    rw [pyRk_mono h1, ← h2]; rfl
  | .ty _, _, h => by cases h
  | .cls _, _, h => by cases h
  | .ins _ _, _, h => by cases h
  | .exc _ _, _, h => by cases h
theorem pyRs_mono {r : Nat → Option PyData} : ∀ {ds : List D} {ps : List PyData}, pyRs noR ds = some ps → pyRs r ds = some ps
  | [], _, h => h
  | d :: ds, ps, h => by
    unfold pyRs at h ⊢
    split at h
    · rename_i p1 p2 h1 h2
      rw [pyR_mono h1, pyRs_mono h2]; exact h
    · cases h
theorem pyRk_mono {r : Nat → Option PyData} : ∀ {ds : List (Key × D)} {ps : List (PyData × PyData)}, pyRk noR ds = some ps → pyRk r ds = some ps
  | [], _, h => h
  | (k, d) :: ds, ps, h => by
    unfold pyRk at h ⊢
    split at h
    · rename_i p1 p2 h1 h2
      rw [pyR_mono h1, pyRk_mono h2]; exact h
    · cases h
end
theorem mapM_pyR {S : Store} : ∀ {ds : List D} {ps : List PyData}, pyRs noR ds = some ps → ds.mapM (pyX S 0) = some ps
  | [], _, h => by cases h; rfl
  | d :: ds, ps, h => by
    unfold pyRs at h
    split at h
    · rename_i p1 p2 h1 h2
      cases h
      rw [List.mapM_cons, show pyX S 0 d = some p1 from h1, mapM_pyR h2]; rfl
    · cases h
/-- repr of a list of the store is that of the same list that is read -/
theorem Rp.ref {n m : Nat} {l : Nat} {xs : List D} {S : Store} (h : Rp n m (.lst xs)) (hS : S[l]? = some (some (.lst xs))) (hn : n ≤ sizeLine) (hm : m ≤ 60) : bRepX 1 [.ref l] S = .ok (.str (shD (.lst xs))) S := by
  obtain ⟨p, h1, h2, h3, h4⟩ := h
  obtain ⟨ps, q1, q2⟩ := Option.map_eq_some_iff.mp (show (pyRs noR xs).map PyData.list = _ from h1)
  have e : pyX S 1 (.ref l) = some p := by
    show (match S[l]? with | some (some (.lst xs)) => (xs.mapM (pyX S 0)).map PyData.list | _ => none) = _
    rw [hS]
    show (xs.mapM (pyX S 0)).map PyData.list = _
    rw [mapM_pyR q1, ← q2]; rfl
  unfold bRepX
  simp only [e]
  rw [if_pos ⟨h2, Nat.le_trans h3 hm, Nat.le_trans h4 hn⟩]
  unfold shD
  rw [h1]
  rfl
theorem Rp.rep1 {n m : Nat} {d : D} (h : Rp n m d) (hn : n ≤ sizeLine) (hm : m ≤ 60) (S : Store) : bRepX 1 [d] S = .ok (.str (shD d)) S := by
  obtain ⟨p, h1, h2, h3, h4⟩ := h
  have e : pyX S 1 d = some p := pyR_mono h1
  unfold bRepX
  simp only [e]
  rw [if_pos ⟨h2, Nat.le_trans h3 hm, Nat.le_trans h4 hn⟩]
  unfold shD
  rw [h1]
  rfl

/-! dicts -/
theorem getK_nil {k : Key} : getK [] k = none := rfl
theorem getK_cons {k j : Key} {d : D} {r : List (Key × D)} : getK ((j, d) :: r) k = if j = k then some d else getK r k := by
  unfold getK
  by_cases h : j = k
  · rw [if_pos h, List.find?_cons_of_pos (by simpa using h)]; rfl
  · rw [if_neg h, List.find?_cons_of_neg (by simpa using h)]
theorem getK_app {k : Key} {d : D} {j : Key} : ∀ {r : List (Key × D)}, getK (r ++ [(j, d)]) k = match getK r k with | some x => some x | none => if j = k then some d else none
  | [] => by rw [List.nil_append, getK_cons]; rfl
  | (i, e) :: r => by
    rw [List.cons_append, getK_cons, getK_cons, getK_app]
    by_cases h : i = k
    · rw [if_pos h, if_pos h]
    · rw [if_neg h, if_neg h]
theorem getK_any {k : Key} : ∀ {r : List (Key × D)}, (r.any fun kv => decide (kv.1 = k)) = (getK r k).isSome
  | [] => rfl
  | (i, e) :: r => by
    rw [List.any_cons, getK_cons, getK_any]
    by_cases h : i = k
    · simp [h]
    · simp [h]
theorem getK_upd {k j : Key} {d : D} : ∀ {r : List (Key × D)}, getK (r.map fun kv => if kv.1 = j then (kv.1, d) else kv) k = if j = k then (getK r k).map fun _ => d else getK r k
  | [] => by simp [getK_nil]
  | (i, e) :: r => by
    rw [List.map_cons]
    by_cases h : i = j
    · simp only [h, if_true]
      rw [getK_cons, getK_cons, getK_upd]
      by_cases h2 : j = k
      · simp [h2]
      · simp [h2]
    · simp only [h, if_false]
      rw [getK_cons, getK_cons, getK_upd]
      by_cases h2 : i = k
      · have : ¬ j = k := fun z => h (h2.trans z.symm)
        simp [h2, this]
      · simp [h2]
theorem getK_put {k j : Key} {d : D} {r : List (Key × D)} : getK (putD r j d) k = if j = k then some d else getK r k := by
  unfold putD
  rw [getK_any]
  split
  · rename_i h
    rw [getK_upd]
    by_cases h2 : j = k
    · subst h2
      rw [if_pos rfl, if_pos rfl]
      cases z : getK r j with
      | none => rw [z] at h; cases h
      | some x => rfl
    · rw [if_neg h2, if_neg h2]
  · rename_i h
    rw [getK_app]
    by_cases h2 : j = k
    · subst h2
      cases z : getK r j with
      | none => rfl
      | some x => rw [z] at h; exact absurd rfl h
    · rw [if_neg h2, if_neg h2]
      cases getK r k <;> rfl
theorem getK_drop {k j : Key} : ∀ {r : List (Key × D)}, getK (dropD r j) k = if j = k then none else getK r k
  | [] => by unfold dropD; simp [getK_nil]
  | (i, e) :: r => by
    have ih := getK_drop (k := k) (j := j) (r := r)
    unfold dropD at ih ⊢
    rw [List.filter_cons]
    by_cases h : i = j
    · simp only [h, ne_eq, not_true, decide_false, Bool.false_eq_true, if_false]
      rw [ih, getK_cons]
      by_cases h2 : j = k
      · simp [h2]
      · simp [h2]
    · simp only [h, ne_eq, not_false_iff, decide_true, if_true]
      rw [getK_cons, getK_cons, ih]
      by_cases h2 : i = k
      · have : ¬ j = k := fun z => h (h2.trans z.symm)
        simp [h2, this]
      · simp [h2]
theorem putD_len {r : List (Key × D)} {j : Key} {d : D} : (putD r j d).length ≤ r.length + 1 := by
  unfold putD
  split <;> simp
theorem dropD_len {r : List (Key × D)} {j : Key} : (dropD r j).length ≤ r.length := List.length_filter_le ..
/-- dict() of pairs with unlike keys is these pairs -/
theorem mergeD_nodup : ∀ {more acc : List (Key × D)}, ((acc ++ more).map (·.1)).Nodup → mergeD acc more = acc ++ more
  | [], acc, _ => by unfold mergeD; simp
  | (k, d) :: more, acc, h => by
    have e : putD acc k d = acc ++ [(k, d)] := by
      unfold putD
      rw [if_neg]
      intro z
      rw [List.any_eq_true] at z
      obtain ⟨x, hx, he⟩ := z
      rw [List.map_append, List.map_cons, List.nodup_append] at h
      exact h.2.2 x.1 (List.mem_map_of_mem hx) k (List.mem_cons_self ..) (of_decide_eq_true he)
    have h2 : mergeD acc ((k, d) :: more) = mergeD (putD acc k d) more := rfl
    rw [h2, e, mergeD_nodup (by rw [List.append_assoc]; exact h), List.append_assoc]
    rfl
theorem mergeD_nil {more : List (Key × D)} (h : (more.map (·.1)).Nodup) : mergeD [] more = more := by
  have := mergeD_nodup (acc := []) (more := more) h
  simpa using this
end Mi
namespace Mi
open PySem PySem.Spec PyProof.Rows L2


/-! while -/
def whlD (c : DT) (f : DS) : Nat → DS
  | 0, _, _ => .stuck
  | n + 1, δ, S => toS δ (c δ S) fun b S1 => if b then match f δ S1 with
    | .nx δ' S' => whlD c f n δ' S'
    | .ct δ' S' => whlD c f n δ' S'
    | .bk δ' S' => .nx δ' S'
    | o => o
    else .nx δ S1
open Classical in
noncomputable def sWhile (c : DT) (f : DS) : DS := fun δ S => if h : ∃ n, whlD c f n δ S ≠ .stuck then whlD c f h.choose δ S else .stuck
theorem whl_up {c : DT} {f : DS} : ∀ {n : Nat} {δ : Env} {S : Store}, whlD c f n δ S ≠ .stuck → whlD c f (n + 1) δ S = whlD c f n δ S
  | 0, _, _, h => absurd rfl h
  | n + 1, δ, S, h => by
    unfold whlD at h
    conv => lhs; unfold whlD
    conv => rhs; unfold whlD
    cases z : c δ S with
    | ok b S1 =>
      rw [z] at h
      simp only [toS] at h ⊢
      cases b with
      | true =>
        simp only [if_true] at h ⊢
        cases y : f δ S1 with
        | nx δ' S' => rw [y] at h; exact whl_up h
        | ct δ' S' => rw [y] at h; exact whl_up h
        | bk δ' S' => rfl
        | rt d S' => rfl
        | exc C fs δ' S' => rfl
        | stuck => rfl
      | false => rfl
    | exc C fs S1 => rfl
    | stuck => rfl
theorem whl_le {c : DT} {f : DS} {δ : Env} {S : Store} {n m : Nat} (h : whlD c f n δ S ≠ .stuck) (hm : n ≤ m) : whlD c f m δ S = whlD c f n δ S := by
  obtain ⟨k, rfl⟩ := Nat.le.dest hm
  induction k with
  | zero => rfl
  | succ k ih =>
    have ih := ih (Nat.le_add_right _ _)
    have h' : whlD c f (n + k) δ S ≠ .stuck := by rw [ih]; exact h
    exact (whl_up h').trans ih
theorem sWhile_of {c : DT} {f : DS} {δ : Env} {S : Store} {o : OS} (n : Nat) (h : whlD c f n δ S = o) (ho : o ≠ .stuck) : sWhile c f δ S = o := by
  have ex : ∃ n, whlD c f n δ S ≠ .stuck := ⟨n, by rw [h]; exact ho⟩
  unfold sWhile
  rw [dif_pos ex, ← h]
  have h1 := ex.choose_spec
  have h2 : whlD c f n δ S ≠ .stuck := by rw [h]; exact ho
  rcases Nat.le_total ex.choose n with l | l
  · exact (whl_le h1 l).symm
  · exact whl_le h2 l
theorem whl_end {c : DT} {f : DS} {δ : Env} {S S1 : Store} {n : Nat} (h : c δ S = .ok false S1) : whlD c f (n + 1) δ S = .nx δ S1 := by
  unfold whlD; rw [h]; rfl
theorem whl_go {c : DT} {f : DS} {δ δ' : Env} {S S1 S' : Store} {n : Nat} (h : c δ S = .ok true S1) (hf : f δ S1 = .nx δ' S') : whlD c f (n + 1) δ S = whlD c f n δ' S' := by
  conv => lhs; unfold whlD
  rw [h]
  simp only [toS, if_true, hf]
section
variable {X : Cx} {cl : Cl} {W : WX} {k : Nat} {pos : Pos} {ga : DT} {f : DS}
theorem fs_while {c : Expr} {body : List Stmt} (G : Good X W k) (hc : FT X cl W c ga) (hb : FSs X cl W body f) : FS X cl W (.While c body [] pos) (sWhile ga f) := fs_of (ps_while G.own hc.pt hb.pss) fun mu δ S σ H D s r q => by
  unfold sWhile at q
  split at q
  rotate_left
  · exact q.elim
  rename_i h
  refine ⟨fun m σ' H' => ∃ mu' δ' S', SR X.K cl mu' H' S' ∧ ERel X.K cl S'.length mu' H' σ' δ' ∧ AfS X.K cl S'.length mu' H' W (whlD ga f m δ' S') D, ⟨_, mu, δ, S, s, r, q⟩, ?_⟩
  rintro m σ' H' ⟨mu', δ', S', s', r', q'⟩
  cases m with
  | zero => exact q'.elim
  | succ m =>
    unfold whlD at q'
    refine ⟨mu', δ', S', s', r', (AfS.toS (R := RB) r' q').mono fun v H1 ⟨mu1, d, S1, s1, e1, r1, q1⟩ => ?_⟩
    cases (show v = d from r1)
    cases v with
    | true =>
      rw [if_pos rfl] at q1
      refine (if_pos rfl).mpr ⟨fun σ3 H3 => ∃ mu3 δ3 S3, SR X.K cl mu3 H3 S3 ∧ ERel X.K cl S3.length mu3 H3 σ3 δ3 ∧ AfS X.K cl S3.length mu3 H3 W (whlD ga f m δ3 S3) D, fun σ3 H3 h3 => ⟨m, Nat.lt_succ_self m, h3⟩, mu1, δ', S1, s1, r'.mono e1, ?_⟩
      cases z : f δ' S1 with
      | nx δ3 S3 => rw [z] at q1; exact fun σ3 H3 mu3 e3 s3 r3 => ⟨mu3, δ3, S3, s3, r3, AfS.ext e3 q1⟩
      | ct δ3 S3 => rw [z] at q1; exact fun σ3 H3 mu3 e3 s3 r3 => ⟨mu3, δ3, S3, s3, r3, AfS.ext e3 q1⟩
      | bk δ3 S3 => rw [z] at q1; exact q1
      | rt d S3 => rw [z] at q1; exact q1
      | exc C fs δ3 S3 => rw [z] at q1; exact q1
      | stuck => rw [z] at q1; exact q1
    | false => exact AfS.now q1 s1 (r'.mono e1)
end
end Mi
namespace Q
open PySem L2 Mi

def top (i : Nat) : Stmt := PySem.Challenge.pw_craneyard_k09_whole_stacks_plain.main.body.getD i (.Pass ⟨0, 0, 0, 0⟩)
def exT : List Str := ["CraneError", "BadName", "BadNumber", "BadRail", "BadStack", "BadPlaces", "BadText", "Twice", "NoCrane", "NoStack", "NoBox", "NoJob", "Same", "Buried", "TooHigh", "TooHeavy", "Empty", "NoReach", "BadJournal"]
def plT : List Str := ["CraneError", "BadName", "BadNumber", "BadRail", "BadStack", "BadPlaces", "Twice", "NoCrane", "NoStack", "NoBox", "NoJob", "Same", "Buried", "TooHigh", "TooHeavy", "Empty", "NoReach"]
def flT : Flds := [("Stacks", ["known", "piles", "spots"])]
/-- what the walk asks of the module's names -/
structure Tx (K : PySem.W.Frag) (mg : Str → Option Value) (cl : Cl) : Prop where
  n_ValueError : mg "ValueError" = none
  n_all : mg "all" = none
  n_bool : mg "bool" = none
  n_dict : mg "dict" = none
  n_int : mg "int" = none
  n_isinstance : mg "isinstance" = none
  n_len : mg "len" = none
  n_list : mg "list" = none
  n_min : mg "min" = none
  n_range : mg "range" = none
  n_repr : mg "repr" = none
  n_set : mg "set" = none
  n_sorted : mg "sorted" = none
  n_str : mg "str" = none
  n_sum : mg "sum" = none
  n_tuple : mg "tuple" = none
  c_LETTERS : ∃ t, mg "LETTERS" = some (.str "abcdefghijklmnopqrstuvwxyz" t)
  c_MOST_HIGH : ∃ t, mg "MOST_HIGH" = some (.int 20 t)
  c_MOST_LETTERS : ∃ t, mg "MOST_LETTERS" = some (.int 8 t)
  c_MOST_NUMBER : ∃ t, mg "MOST_NUMBER" = some (.int 1000000000000 t)
  c_MOST_STACKS : ∃ t, mg "MOST_STACKS" = some (.int 20 t)
  E : ETab K mg cl exT plT
  F : CTab K cl flT
section
variable {P : Program} {w : World} {K : PySem.W.Frag} {mg : Str → Option Value} {base : Heap} {cl : Cl}
/-! _law_mixed -/
abbrev s__law_mixed : Stmt := top 34
noncomputable def z__law_mixed : DS := (sSeq (sSet 2 (e2 dMod (e2 dMul (e2 dAdd (e2 dAdd (e2 dAdd (e2 dMod (eVar 0) (eC (.int 1000000007))) (e2 dMul (e2 dMul (eC (.int 7919)) (eVar 1)) (eVar 1))) (e2 dMul (eC (.int 31)) (eVar 1))) (eC (.int 17))) (eC (.int 48271))) (eC (.int 2147483647))))
    (sRet (e2 dDiv (e2 dMod (e2 dMul (eVar 2) (e2 dAdd (e2 dMod (eVar 2) (eC (.int 65521))) (eC (.int 16807)))) (eC (.int 2147483629))) (eC (.int 4)))))
noncomputable def m__law_mixed : GD := runD 3 z__law_mixed
theorem sc__law_mixed : FnScope ["_law_cell", "_law_k", "_law_number_here"] ["_law_cell", "_law_k"] (defScope s__law_mixed) := ⟨rfl, rfl, rfl, by decide +kernel, rfl, by decide +kernel, by decide +kernel⟩
theorem ok__law_mixed {f : Addr} {fd : FuncData} (F : Fun K "_law_mixed" "_law_mixed" s__law_mixed f fd) (T : Tx K mg cl)  : FnG P w K mg base 1 f fd ["_law_cell", "_law_k"] (spOf K cl 2 m__law_mixed) :=
  def_ok (k := 0) F sc__law_mixed rfl z__law_mixed fun cdv A outer s H E W G =>
    (fss_cons (fs_set (i := 2) G (fe_mod (fe_mul (fe_add (fe_add (fe_add (fe_mod (fe_var (pv 0)) fe_int) (fe_mul (fe_mul fe_int (fe_var (pv 1))) (fe_var (pv 1)))) (fe_mul fe_int (fe_var (pv 1)))) fe_int) fe_int) fe_int))
    (fss_one (fs_ret (fe_div (fe_mod (fe_mul (fe_var (pv 2)) (fe_add (fe_mod (fe_var (pv 2)) fe_int) fe_int)) fe_int) fe_int))))
/-! _law_number -/
abbrev s__law_number : Stmt := top 35
noncomputable def b__law_number_1 : DS := (sSet 2 (e2 dDiv (eVar 2) (e2 dPow (eC (.int 10)) (eC (.int 9)))))
noncomputable def z__law_number : DS := (sSeq (sSet 2 (eC (.int 0)))
    (sSeq (sIf (tV (e2 dGt (eB bLen (aCons (eVar 0) aNil)) (eC (.int 0)))) (sSeq (sSet 2 (e2 dIx (eVar 0) (e2 dMod (eVar 1) (eB bLen (aCons (eVar 0) aNil)))))
    (sIf (tV (e2 (dEqX 0) (e2 dMod (e2 dIx (eVar 0) (eC (.int 0))) (eC (.int 2))) (eC (.int 1)))) (sSeq (sFor (iRange1 (aCons (eB bMin2 (aCons (eC (.int 60)) (aCons (e2 dDiv (eVar 1) (eB bLen (aCons (eVar 0) aNil))) aNil))) aNil)) (gName 3) b__law_number_1)
    (sRet (e2 dMod (eVar 2) (e2 dPow (eC (.int 10)) (eC (.int 9)))))) sNext)) sNext)
    (sRet (eCall 2 (pureD m__law_mixed) [] (aCons (eVar 2) (aCons (eVar 1) aNil))))))
noncomputable def m__law_number : GD := runD 4 z__law_number
theorem sc__law_number : FnScope ["_law_script", "_law_k", "_law_cell", "_law_time"] ["_law_script", "_law_k"] (defScope s__law_number) := ⟨rfl, rfl, rfl, by decide +kernel, rfl, by decide +kernel, by decide +kernel⟩
theorem ok__law_number {f : Addr} {fd : FuncData} (F : Fun K "_law_number" "_law_number" s__law_number f fd) (T : Tx K mg cl) (C__law_mixed : Cal P w K mg base cl 1 2 "_law_mixed" m__law_mixed) : FnG P w K mg base 2 f fd ["_law_script", "_law_k"] (spOf K cl 2 m__law_number) :=
  def_ok (k := 1) F sc__law_number rfl z__law_number fun cdv A outer s H E W G =>
    (fss_cons (fs_set (i := 2) G fe_int)
    (fss_cons (fs_if (ft_gt (fe_len T.n_len (fa_cons (fe_var (pv 0)) fa_nil)) fe_int) (fss_cons (fs_set (i := 2) G (fe_ix G (fe_var (pv 0)) (fe_mod (fe_var (pv 1)) (fe_len T.n_len (fa_cons (fe_var (pv 0)) fa_nil)))))
    (fss_one (fs_if (ft_eqX G (n := 0) (fe_mod (fe_ix G (fe_var (pv 0)) fe_int) fe_int) fe_int) (fss_cons (fs_for G (fi_range1 T.n_range (fa_cons (fe_min2 G T.n_min (fa_cons fe_int (fa_cons (fe_div (fe_var (pv 1)) (fe_len T.n_len (fa_cons (fe_var (pv 0)) fa_nil))) fa_nil))) fa_nil)) (fg_name 3 G.nd) (fss_one (fs_set (i := 2) G (fe_div (fe_var (pv 2)) (fe_pow fe_int fe_int)))))
    (fss_one (fs_ret (fe_mod (fe_var (pv 2)) (fe_pow fe_int fe_int))))) fss_nil))) fss_nil)
    (fss_one (fs_ret (fe_callC G C__law_mixed.pure (by decide) (fa_cons (fe_var (pv 2)) (fa_cons (fe_var (pv 1)) fa_nil)))))))
/-! _law_names -/
abbrev s__law_names : Stmt := top 37
noncomputable def k__law_names_1 : DE := (e2 dIx (eVar 2) (e2 dMod (e2 dAdd (e2 dAdd (eVar 0) (e2 dMul (eC (.int 5)) (eVar 7))) (e2 dMul (eVar 7) (eVar 7))) (eC (.int 26))))
noncomputable def k__law_names_2 : DE := (e2 dIx (eVar 2) (e2 dMod (e2 dAdd (e2 dDiv (eVar 0) (eC (.int 2000))) (e2 dMul (eC (.int 3)) (eVar 8))) (eC (.int 26))))
noncomputable def k__law_names_3 : DE := (e2 dAdd (e2 dAdd (eSl (eVar 3) oNone (oSome (eVar 5))) (eVar 9)) (eSl (eVar 3) (oSome (eVar 5)) (oSome (eVar 4))))
noncomputable def z__law_names : DS := (sSeq (sSet 2 (eC (.str "abcdefghijklmnopqrstuvwxyz")))
    (sSeq (sSet 3 (eM "str" mJoin (eC (.str "")) (aCons (eLc false [7] (iRange1 (aCons (eC (.int 8)) aNil)) (gName 7) tYesD k__law_names_1) aNil)))
    (sSeq (sSet 4 (e2 dMod (e2 dDiv (eVar 0) (eC (.int 30))) (eC (.int 8))))
    (sSeq (sSet 5 (e2 dMod (e2 dDiv (eVar 0) (eC (.int 240))) (e2 dAdd (eVar 4) (eC (.int 1)))))
    (sSeq (sSet 6 (eLc false [8] (iRange1 (aCons (eVar 1) aNil)) (gName 8) tYesD k__law_names_2))
    (sRet (eLc false [9] (iLst (eVar 6)) (gName 9) tYesD k__law_names_3)))))))
noncomputable def m__law_names : GD := runD 10 z__law_names
theorem sc__law_names : FnScope ["_law_number_here", "_law_size", "_law_letters", "_law_base", "_law_long", "_law_at", "_law_signs", "_law_j", "_law_k", "_law_sign"] ["_law_number_here", "_law_size"] (defScope s__law_names) := ⟨rfl, rfl, rfl, by decide +kernel, rfl, by decide +kernel, by decide +kernel⟩
theorem ok__law_names {f : Addr} {fd : FuncData} (F : Fun K "_law_names" "_law_names" s__law_names f fd) (T : Tx K mg cl)  : FnG P w K mg base 1 f fd ["_law_number_here", "_law_size"] (spOf K cl 2 m__law_names) :=
  def_ok (k := 0) F sc__law_names rfl z__law_names fun cdv A outer s H E W G =>
    (fss_cons (fs_set (i := 2) G fe_str)
    (fss_cons (fs_set (i := 3) G (fe_join fe_str (fa_cons (fe_lc (live := false) (own := [("_law_j", 7)]) G (fi_range1 T.n_range (fa_cons fe_int fa_nil)) (blkB (N' := ["_law_number_here", "_law_size", "_law_letters", "_law_base", "_law_long", "_law_at", "_law_signs", "_law_j", "_law_k", "_law_sign"]) (sc' := defScope s__law_names) rfl rfl (by decide +kernel)) gix_name (fun s1 H1 D1 e1 p1 => (fg_name 7 (G.blk s1 H1 D1 e1 p1).nd)) (fun s1 H1 D1 e1 p1 => fts_nil) (fun s1 H1 D1 e1 p1 => (fe_ix (G.blk s1 H1 D1 e1 p1) (fe_var (pv 2)) (fe_mod (fe_add (fe_add (fe_var (pv 0)) (fe_mul fe_int (fe_var (pv 7)))) (fe_mul (fe_var (pv 7)) (fe_var (pv 7)))) fe_int)))) fa_nil)))
    (fss_cons (fs_set (i := 4) G (fe_mod (fe_div (fe_var (pv 0)) fe_int) fe_int))
    (fss_cons (fs_set (i := 5) G (fe_mod (fe_div (fe_var (pv 0)) fe_int) (fe_add (fe_var (pv 4)) fe_int)))
    (fss_cons (fs_setLc (j := 6) (live := false) (own := [("_law_k", 8)]) G (fi_range1 T.n_range (fa_cons (fe_var (pv 1)) fa_nil)) (blkB (N' := ["_law_number_here", "_law_size", "_law_letters", "_law_base", "_law_long", "_law_at", "_law_signs", "_law_j", "_law_k", "_law_sign"]) (sc' := defScope s__law_names) rfl rfl (by decide +kernel)) gix_name (fun s2 H2 D2 e2 p2 => (fg_name 8 (G.blk s2 H2 D2 e2 p2).nd)) (fun s2 H2 D2 e2 p2 => fts_nil) (fun s2 H2 D2 e2 p2 => (fe_ix (G.blk s2 H2 D2 e2 p2) (fe_var (pv 2)) (fe_mod (fe_add (fe_div (fe_var (pv 0)) fe_int) (fe_mul fe_int (fe_var (pv 8)))) fe_int))) (sw_true rfl rfl rfl (by decide +kernel)))
    (fss_one (fs_ret (fe_lc (live := false) (own := [("_law_sign", 9)]) G (fi_lst (fe_var (pv 6))) (blkB (N' := ["_law_number_here", "_law_size", "_law_letters", "_law_base", "_law_long", "_law_at", "_law_signs", "_law_j", "_law_k", "_law_sign"]) (sc' := defScope s__law_names) rfl rfl (by decide +kernel)) gix_name (fun s3 H3 D3 e3 p3 => (fg_name 9 (G.blk s3 H3 D3 e3 p3).nd)) (fun s3 H3 D3 e3 p3 => fts_nil) (fun s3 H3 D3 e3 p3 => (fe_add (fe_add (fe_sl (fe_var (pv 3)) fo_none (fo_some (fe_var (pv 5)))) (fe_var (pv 9))) (fe_sl (fe_var (pv 3)) (fo_some (fe_var (pv 5))) (fo_some (fe_var (pv 4))))))))))))))
/-! _law_stacks -/
abbrev s__law_stacks : Stmt := top 38
noncomputable def b__law_stacks_1 : DS := (sSeq (sSet 8 (eCall 2 (pureD m__law_number) [] (aCons (eVar 0) (aCons (e2 dAdd (e2 dAdd (eVar 1) (eC (.int 2))) (eVar 7)) aNil))))
    (sSeq (sSet 9 (e2 dIx (eLst (aCons (eC (.int 1)) (aCons (eC (.int 2)) (aCons (eC (.int 3)) (aCons (eC (.int 20)) (aCons (e2 dAdd (eC (.int 1)) (e2 dMod (e2 dDiv (eVar 8) (eC (.int 5))) (eC (.int 20)))) aNil)))))) (e2 dMod (eVar 8) (eC (.int 5)))))
    (sSeq (sSet 10 (e2 dIx (eLst (aCons (e2 dAdd (eC (.int 1)) (e2 dMod (e2 dDiv (eVar 8) (eC (.int 100))) (eC (.int 9)))) (aCons (e2 dAdd (eC (.int 10)) (e2 dMod (e2 dDiv (eVar 8) (eC (.int 100))) (eC (.int 30)))) (aCons (e2 dPow (eC (.int 10)) (eC (.int 12))) (aCons (e2 dMul (eC (.int 5)) (e2 dPow (eC (.int 10)) (eC (.int 11)))) (aCons (eC (.int 20)) aNil)))))) (e2 dMod (e2 dDiv (eVar 8) (eC (.int 20))) (eC (.int 5)))))
    (sSeq (sExpr (eM "list" mAppend (eVar 6) (aCons (eTup (aCons (e2 dIx (eVar 4) (eVar 7)) (aCons (eVar 5) (aCons (eVar 9) (aCons (eVar 10) aNil))))) aNil)))
    (sSet 5 (e2 dAdd (e2 dAdd (eVar 5) (eC (.int 1))) (e2 dMul (e2 dMod (e2 dDiv (eVar 8) (eC (.int 700))) (eC (.int 9))) (e2 dIx (eLst (aCons (eC (.int 1)) (aCons (eC (.int 1)) (aCons (e2 dPow (eC (.int 10)) (eC (.int 9))) aNil)))) (e2 dMod (e2 dDiv (eVar 8) (eC (.int 9))) (eC (.int 3)))))))))))
noncomputable def z__law_stacks : DS := (sSeq (sSet 2 (eCall 2 (pureD m__law_number) [] (aCons (eVar 0) (aCons (eVar 1) aNil))))
    (sSeq (sSet 3 (e2 dIx (eLst (aCons (eC (.int 1)) (aCons (eC (.int 2)) (aCons (eC (.int 3)) (aCons (eC (.int 5)) (aCons (eC (.int 20)) (aCons (e2 dAdd (eC (.int 2)) (e2 dMod (e2 dDiv (eVar 2) (eC (.int 6))) (eC (.int 4)))) aNil))))))) (e2 dMod (eVar 2) (eC (.int 6)))))
    (sSeq (sSet 4 (eCall 2 (pureD m__law_names) [] (aCons (eCall 2 (pureD m__law_number) [] (aCons (eVar 0) (aCons (e2 dAdd (eVar 1) (eC (.int 1))) aNil))) (aCons (eVar 3) aNil))))
    (sSeq (sSet 5 (e2 dMod (e2 dDiv (eVar 2) (eC (.int 30))) (eC (.int 40))))
    (sSeq (sSet 6 (eLstL aNil))
    (sSeq (sFor (iRange1 (aCons (eVar 3) aNil)) (gName 7) b__law_stacks_1)
    (sSeq (sSet 11 (e2 dMod (e2 dDiv (eVar 2) (eC (.int 1200))) (eVar 3)))
    (sRet (e2 dAdd (eSl (eVar 6) (oSome (eVar 11)) oNone) (eSl (eVar 6) oNone (oSome (eVar 11))))))))))))
noncomputable def m__law_stacks : GD := runD 12 z__law_stacks
theorem sc__law_stacks : FnScope ["_law_script", "_law_at", "_law_number_here", "_law_size", "_law_names_here", "_law_place", "_law_found", "_law_k", "_law_cell", "_law_high", "_law_weight_here", "_law_first"] ["_law_script", "_law_at"] (defScope s__law_stacks) := ⟨rfl, rfl, rfl, by decide +kernel, rfl, by decide +kernel, by decide +kernel⟩
theorem ok__law_stacks {f : Addr} {fd : FuncData} (F : Fun K "_law_stacks" "_law_stacks" s__law_stacks f fd) (T : Tx K mg cl) (C__law_names : Cal P w K mg base cl 1 2 "_law_names" m__law_names) (C__law_number : Cal P w K mg base cl 2 2 "_law_number" m__law_number) : FnG P w K mg base 3 f fd ["_law_script", "_law_at"] (spOf K cl 2 m__law_stacks) :=
  def_ok (k := 2) F sc__law_stacks rfl z__law_stacks fun cdv A outer s H E W G =>
    (fss_cons (fs_set (i := 2) G (fe_callC G C__law_number.pure (by decide) (fa_cons (fe_var (pv 0)) (fa_cons (fe_var (pv 1)) fa_nil))))
    (fss_cons (fs_set (i := 3) G (fe_ix G (fe_lst (fa_cons fe_int (fa_cons fe_int (fa_cons fe_int (fa_cons fe_int (fa_cons fe_int (fa_cons (fe_add fe_int (fe_mod (fe_div (fe_var (pv 2)) fe_int) fe_int)) fa_nil))))))) (fe_mod (fe_var (pv 2)) fe_int)))
    (fss_cons (fs_set (i := 4) G (fe_callC G C__law_names.pure (by decide) (fa_cons (fe_callC G C__law_number.pure (by decide) (fa_cons (fe_var (pv 0)) (fa_cons (fe_add (fe_var (pv 1)) fe_int) fa_nil))) (fa_cons (fe_var (pv 3)) fa_nil))))
    (fss_cons (fs_set (i := 5) G (fe_mod (fe_div (fe_var (pv 2)) fe_int) fe_int))
    (fss_cons (fs_set (i := 6) G (fe_lstL fa_nil))
    (fss_cons (fs_for G (fi_range1 T.n_range (fa_cons (fe_var (pv 3)) fa_nil)) (fg_name 7 G.nd) (fss_cons (fs_set (i := 8) G (fe_callC G C__law_number.pure (by decide) (fa_cons (fe_var (pv 0)) (fa_cons (fe_add (fe_add (fe_var (pv 1)) fe_int) (fe_var (pv 7))) fa_nil))))
    (fss_cons (fs_set (i := 9) G (fe_ix G (fe_lst (fa_cons fe_int (fa_cons fe_int (fa_cons fe_int (fa_cons fe_int (fa_cons (fe_add fe_int (fe_mod (fe_div (fe_var (pv 8)) fe_int) fe_int)) fa_nil)))))) (fe_mod (fe_var (pv 8)) fe_int)))
    (fss_cons (fs_set (i := 10) G (fe_ix G (fe_lst (fa_cons (fe_add fe_int (fe_mod (fe_div (fe_var (pv 8)) fe_int) fe_int)) (fa_cons (fe_add fe_int (fe_mod (fe_div (fe_var (pv 8)) fe_int) fe_int)) (fa_cons (fe_pow fe_int fe_int) (fa_cons (fe_mul fe_int (fe_pow fe_int fe_int)) (fa_cons fe_int fa_nil)))))) (fe_mod (fe_div (fe_var (pv 8)) fe_int) fe_int)))
    (fss_cons (fs_expr (fe_append (fe_var (pv 6)) (fa_cons (fe_tup (fa_cons (fe_ix G (fe_var (pv 4)) (fe_var (pv 7))) (fa_cons (fe_var (pv 5)) (fa_cons (fe_var (pv 9)) (fa_cons (fe_var (pv 10)) fa_nil))))) fa_nil)))
    (fss_one (fs_set (i := 5) G (fe_add (fe_add (fe_var (pv 5)) fe_int) (fe_mul (fe_mod (fe_div (fe_var (pv 8)) fe_int) fe_int) (fe_ix G (fe_lst (fa_cons fe_int (fa_cons fe_int (fa_cons (fe_pow fe_int fe_int) fa_nil)))) (fe_mod (fe_div (fe_var (pv 8)) fe_int) fe_int)))))))))))
    (fss_cons (fs_set (i := 11) G (fe_mod (fe_div (fe_var (pv 2)) fe_int) (fe_var (pv 3))))
    (fss_one (fs_ret (fe_add (fe_sl (fe_var (pv 6)) (fo_some (fe_var (pv 11))) fo_none) (fe_sl (fe_var (pv 6)) fo_none (fo_some (fe_var (pv 11))))))))))))))
/-! is_name -/
abbrev s_is_name : Stmt := top 25
noncomputable def k_is_name_1 : DE := (e2 dIn (eVar 1) (eC (.str "abcdefghijklmnopqrstuvwxyz")))
noncomputable def z_is_name : DS := (sSeq (sIf (tOrD (tNotD (tV (eIsi "str" (eVar 0)))) (tNotD (tV (e3 dLe dLe (eC (.int 1)) (eB bLen (aCons (eVar 0) aNil)) (eC (.int 8)))))) (sRet (eC (.bl false))) sNext)
    (sRet (eB bAll (aCons (eLc false [1] (iStr (eVar 0)) (gName 1) tYesD k_is_name_1) aNil))))
noncomputable def m_is_name : GD := runD 2 z_is_name
theorem sc_is_name : FnScope ["thing", "sign"] ["thing"] (defScope s_is_name) := ⟨rfl, rfl, rfl, by decide +kernel, rfl, by decide +kernel, by decide +kernel⟩
theorem ok_is_name {f : Addr} {fd : FuncData} (F : Fun K "is_name" "is_name" s_is_name f fd) (T : Tx K mg cl)  : FnG P w K mg base 1 f fd ["thing"] (spOf K cl 1 m_is_name) :=
  def_ok (k := 0) F sc_is_name rfl z_is_name fun cdv A outer s H E W G =>
    (fss_cons (fs_if (ft_w (fw_or (ft_not (ft_val (fe_isi T.n_isinstance T.n_str (by decide +kernel) (fe_var (pv 0))))) (fw_or1 (ft_not (ft_lele fe_int (fe_len T.n_len (fa_cons (fe_var (pv 0)) fa_nil)) (fe_globI T.c_MOST_LETTERS)))))) (fss_one (fs_ret fe_bl)) fss_nil)
    (fss_one (fs_ret (fe_all G T.n_all (fa_cons (fe_lc (live := false) (own := [("sign", 1)]) G (fi_str (fe_var (pv 0))) (blkB (N' := ["thing", "sign"]) (sc' := defScope s_is_name) rfl rfl (by decide +kernel)) gix_name (fun s1 H1 D1 e1 p1 => (fg_name 1 (G.blk s1 H1 D1 e1 p1).nd)) (fun s1 H1 D1 e1 p1 => fts_nil) (fun s1 H1 D1 e1 p1 => (fe_in (G.blk s1 H1 D1 e1 p1) (fe_var (pv 1)) (fe_globS T.c_LETTERS)))) fa_nil)))))
/-! is_among -/
abbrev s_is_among : Stmt := top 26
noncomputable def z_is_among : DS := (sRet (eAndD (eIsi "int" (eVar 0)) (eAndD (eNotD (eIsi "bool" (eVar 0))) (e3 dLe dLe (eVar 1) (eVar 0) (eVar 2)))))
noncomputable def m_is_among : GD := runD 3 z_is_among
theorem sc_is_among : FnScope ["thing", "least", "most"] ["thing", "least", "most"] (defScope s_is_among) := ⟨rfl, rfl, rfl, by decide +kernel, rfl, by decide +kernel, by decide +kernel⟩
theorem ok_is_among {f : Addr} {fd : FuncData} (F : Fun K "is_among" "is_among" s_is_among f fd) (T : Tx K mg cl)  : FnG P w K mg base 1 f fd ["thing", "least", "most"] (spOf K cl 3 m_is_among) :=
  def_ok (k := 0) F sc_is_among rfl z_is_among fun cdv A outer s H E W G =>
    (fss_one (fs_ret (fe_and (fe_isi T.n_isinstance T.n_int (by decide +kernel) (fe_var (pv 0))) (fe_and (fe_not (fe_isi T.n_isinstance T.n_bool (by decide +kernel) (fe_var (pv 0)))) (fe_one (fe_lele (fe_var (pv 1)) (fe_var (pv 0)) (fe_var (pv 2))))))))
/-! is_stack -/
abbrev s_is_stack : Stmt := top 30
noncomputable def z_is_stack : DS := (sSeq (sIf (tOrD (tNotD (tV (eIsi "tuple" (eVar 0)))) (tOrD (tV (e2 (dNeX 0) (eB bLen (aCons (eVar 0) aNil)) (eC (.int 4)))) (tNotD (tV (eCall 1 (pureD m_is_name) [] (aCons (e2 dIx (eVar 0) (eC (.int 0))) aNil)))))) (sRet (eC (.bl false))) sNext)
    (sSeq (sIf (tOrD (tNotD (tV (eCall 3 (pureD m_is_among) [] (aCons (e2 dIx (eVar 0) (eC (.int 1))) (aCons (eC (.int 0)) (aCons (eC (.int 1000000000000)) aNil)))))) (tNotD (tV (eCall 3 (pureD m_is_among) [] (aCons (e2 dIx (eVar 0) (eC (.int 2))) (aCons (eC (.int 1)) (aCons (eC (.int 20)) aNil))))))) (sRet (eC (.bl false))) sNext)
    (sRet (eCall 3 (pureD m_is_among) [] (aCons (e2 dIx (eVar 0) (eC (.int 3))) (aCons (eC (.int 1)) (aCons (eC (.int 1000000000000)) aNil)))))))
noncomputable def m_is_stack : GD := runD 1 z_is_stack
theorem sc_is_stack : FnScope ["thing"] ["thing"] (defScope s_is_stack) := ⟨rfl, rfl, rfl, by decide +kernel, rfl, by decide +kernel, by decide +kernel⟩
theorem ok_is_stack {f : Addr} {fd : FuncData} (F : Fun K "is_stack" "is_stack" s_is_stack f fd) (T : Tx K mg cl) (C_is_among : Cal P w K mg base cl 1 3 "is_among" m_is_among) (C_is_name : Cal P w K mg base cl 1 1 "is_name" m_is_name) : FnG P w K mg base 2 f fd ["thing"] (spOf K cl 1 m_is_stack) :=
  def_ok (k := 1) F sc_is_stack rfl z_is_stack fun cdv A outer s H E W G =>
    (fss_cons (fs_if (ft_w (fw_or (ft_not (ft_val (fe_isi T.n_isinstance T.n_tuple (by decide +kernel) (fe_var (pv 0))))) (fw_or (ft_neX G (n := 0) (fe_len T.n_len (fa_cons (fe_var (pv 0)) fa_nil)) fe_int) (fw_or1 (ft_not (ft_val (fe_callC G C_is_name.pure (by decide) (fa_cons (fe_ix G (fe_var (pv 0)) fe_int) fa_nil)))))))) (fss_one (fs_ret fe_bl)) fss_nil)
    (fss_cons (fs_if (ft_w (fw_or (ft_not (ft_val (fe_callC G C_is_among.pure (by decide) (fa_cons (fe_ix G (fe_var (pv 0)) fe_int) (fa_cons fe_int (fa_cons (fe_globI T.c_MOST_NUMBER) fa_nil)))))) (fw_or1 (ft_not (ft_val (fe_callC G C_is_among.pure (by decide) (fa_cons (fe_ix G (fe_var (pv 0)) fe_int) (fa_cons fe_int (fa_cons (fe_globI T.c_MOST_HIGH) fa_nil))))))))) (fss_one (fs_ret fe_bl)) fss_nil)
    (fss_one (fs_ret (fe_callC G C_is_among.pure (by decide) (fa_cons (fe_ix G (fe_var (pv 0)) fe_int) (fa_cons fe_int (fa_cons (fe_globI T.c_MOST_NUMBER) fa_nil))))))))
/-! are_stacks -/
abbrev s_are_stacks : Stmt := top 31
noncomputable def k_are_stacks_1 : DE := (eCall 1 (pureD m_is_stack) [] (aCons (eVar 1) aNil))
noncomputable def k_are_stacks_2 : DE := (e2 dIx (eVar 1) (eC (.int 0)))
noncomputable def k_are_stacks_3 : DE := (e2 dIx (eVar 1) (eC (.int 1)))
noncomputable def z_are_stacks : DS := (sSeq (sIf (tOrD (tNotD (tV (eIsi "list" (eVar 0)))) (tOrD (tNotD (tV (e3 dLe dLe (eC (.int 1)) (eB bLen (aCons (eVar 0) aNil)) (eC (.int 20))))) (tNotD (tV (eB bAll (aCons (eLc false [1] (iLst (eVar 0)) (gName 1) tYesD k_are_stacks_1) aNil)))))) (sRet (eC (.bl false))) sNext)
    (sRet (e3 (dEq 0) (dEq 0) (eB bLenSet (aCons (eLc false [1] (iLst (eVar 0)) (gName 1) tYesD k_are_stacks_2) aNil)) (eB bLen (aCons (eVar 0) aNil)) (eB bLenSet (aCons (eLc false [1] (iLst (eVar 0)) (gName 1) tYesD k_are_stacks_3) aNil)))))
noncomputable def m_are_stacks : GD := runD 2 z_are_stacks
theorem sc_are_stacks : FnScope ["thing", "one"] ["thing"] (defScope s_are_stacks) := ⟨rfl, rfl, rfl, by decide +kernel, rfl, by decide +kernel, by decide +kernel⟩
theorem ok_are_stacks {f : Addr} {fd : FuncData} (F : Fun K "are_stacks" "are_stacks" s_are_stacks f fd) (T : Tx K mg cl) (C_is_stack : Cal P w K mg base cl 2 1 "is_stack" m_is_stack) : FnG P w K mg base 3 f fd ["thing"] (spOf K cl 1 m_are_stacks) :=
  def_ok (k := 2) F sc_are_stacks rfl z_are_stacks fun cdv A outer s H E W G =>
    (fss_cons (fs_if (ft_w (fw_or (ft_not (ft_val (fe_isi T.n_isinstance T.n_list (by decide +kernel) (fe_var (pv 0))))) (fw_or (ft_not (ft_lele fe_int (fe_len T.n_len (fa_cons (fe_var (pv 0)) fa_nil)) (fe_globI T.c_MOST_STACKS))) (fw_or1 (ft_not (ft_val (fe_all G T.n_all (fa_cons (fe_lc (live := false) (own := [("one", 1)]) G (fi_lst (fe_var (pv 0))) (blkB (N' := ["thing", "one"]) (sc' := defScope s_are_stacks) rfl rfl (by decide +kernel)) gix_name (fun s1 H1 D1 e1 p1 => (fg_name 1 (G.blk s1 H1 D1 e1 p1).nd)) (fun s1 H1 D1 e1 p1 => fts_nil) (fun s1 H1 D1 e1 p1 => (fe_callC (G.blk s1 H1 D1 e1 p1) C_is_stack.pure (by decide) (fa_cons (fe_var (pv 1)) fa_nil)))) fa_nil)))))))) (fss_one (fs_ret fe_bl)) fss_nil)
    (fss_one (fs_ret (fe_eqeq G (fe_lenSet G T.n_len T.n_set (fa_cons (fe_lc (live := false) (own := [("one", 1)]) G (fi_lst (fe_var (pv 0))) (blkB (N' := ["thing", "one"]) (sc' := defScope s_are_stacks) rfl rfl (by decide +kernel)) gix_name (fun s2 H2 D2 e2 p2 => (fg_name 1 (G.blk s2 H2 D2 e2 p2).nd)) (fun s2 H2 D2 e2 p2 => fts_nil) (fun s2 H2 D2 e2 p2 => (fe_ix (G.blk s2 H2 D2 e2 p2) (fe_var (pv 1)) fe_int))) fa_nil)) (fe_len T.n_len (fa_cons (fe_var (pv 0)) fa_nil)) (fe_lenSet G T.n_len T.n_set (fa_cons (fe_lc (live := false) (own := [("one", 1)]) G (fi_lst (fe_var (pv 0))) (blkB (N' := ["thing", "one"]) (sc' := defScope s_are_stacks) rfl rfl (by decide +kernel)) gix_name (fun s3 H3 D3 e3 p3 => (fg_name 1 (G.blk s3 H3 D3 e3 p3).nd)) (fun s3 H3 D3 e3 p3 => fts_nil) (fun s3 H3 D3 e3 p3 => (fe_ix (G.blk s3 H3 D3 e3 p3) (fe_var (pv 1)) fe_int))) fa_nil))))))
/-! Stacks.__init__ -/
abbrev s_Stacks____init__ : Stmt := inClass (top 32) 0
noncomputable def k_Stacks____init___1 : DE := (eTup (aCons (e2 dIx (eVar 2) (eC (.int 0))) (aCons (eVar 2) aNil)))
noncomputable def k_Stacks____init___2 : DE := (eTup (aCons (e2 dIx (eVar 2) (eC (.int 0))) (aCons (eLstL aNil) aNil)))
noncomputable def z_Stacks____init__ : DS := (sSeq (sIf (tNotD (tV (eCall 1 m_are_stacks [] (aCons (eVar 1) aNil)))) (sRaise "BadStack") sNext)
    (sSeq (sFldD flT "known" (eVar 0) (eB (bDict false) (aCons (eLc false [2] (iLst (eVar 1)) (gName 2) tYesD k_Stacks____init___1) aNil)))
    (sSeq (sFldD flT "piles" (eVar 0) (eB (bDict false) (aCons (eLc false [2] (iLst (eVar 1)) (gName 2) tYesD k_Stacks____init___2) aNil)))
    (sFldD flT "spots" (eVar 0) (eDic0 true)))))
noncomputable def m_Stacks____init__ : GD := runD 3 z_Stacks____init__
theorem sc_Stacks____init__ : FnScope ["self", "stacks", "one"] ["self", "stacks"] (defScope s_Stacks____init__) := ⟨rfl, rfl, rfl, by decide +kernel, rfl, by decide +kernel, by decide +kernel⟩
theorem ok_Stacks____init__ {f : Addr} {fd : FuncData} (F : Fun K "__init__" "Stacks.__init__" s_Stacks____init__ f fd) (T : Tx K mg cl) (C_are_stacks : Cal P w K mg base cl 3 1 "are_stacks" m_are_stacks) : FnG P w K mg base 4 f fd ["self", "stacks"] (spOf K cl 2 m_Stacks____init__) :=
  def_ok (k := 3) F sc_Stacks____init__ rfl z_Stacks____init__ fun cdv A outer s H E W G =>
    (fss_cons (fs_if (ft_not (ft_val (fe_callC G C_are_stacks (by decide) (fa_cons (fe_var (pv 1)) fa_nil)))) (fss_one (fs_raise (C := "BadStack") G T.E (by decide) (by decide))) fss_nil)
    (fss_cons (fs_fld T.F (fe_var (pv 0)) (fe_dict (live := false) G T.n_dict (fa_cons (fe_lc (live := false) (own := [("one", 2)]) G (fi_lst (fe_var (pv 1))) (blkB (N' := ["self", "stacks", "one"]) (sc' := defScope s_Stacks____init__) rfl rfl (by decide +kernel)) gix_name (fun s1 H1 D1 e1 p1 => (fg_name 2 (G.blk s1 H1 D1 e1 p1).nd)) (fun s1 H1 D1 e1 p1 => fts_nil) (fun s1 H1 D1 e1 p1 => (fe_tup (fa_cons (fe_ix (G.blk s1 H1 D1 e1 p1) (fe_var (pv 2)) fe_int) (fa_cons (fe_var (pv 2)) fa_nil))))) fa_nil)))
    (fss_cons (fs_fld T.F (fe_var (pv 0)) (fe_dict (live := false) G T.n_dict (fa_cons (fe_lc (live := false) (own := [("one", 2)]) G (fi_lst (fe_var (pv 1))) (blkB (N' := ["self", "stacks", "one"]) (sc' := defScope s_Stacks____init__) rfl rfl (by decide +kernel)) gix_name (fun s2 H2 D2 e2 p2 => (fg_name 2 (G.blk s2 H2 D2 e2 p2).nd)) (fun s2 H2 D2 e2 p2 => fts_nil) (fun s2 H2 D2 e2 p2 => (fe_tup (fa_cons (fe_ix (G.blk s2 H2 D2 e2 p2) (fe_var (pv 2)) fe_int) (fa_cons (fe_lstL fa_nil) fa_nil))))) fa_nil)))
    (fss_one (fs_fld T.F (fe_var (pv 0)) (fe_dic0 (live := true)))))))
/-! _law_new -/
abbrev s__law_new : Stmt := top 40
noncomputable def k__law_new_1 : DE := (eTup (aCons (e2 dIx (eVar 1) (eC (.int 0))) (aCons (eLstL aNil) aNil)))
noncomputable def z__law_new : DS := (sRet (eDic false ((.inr "told", (eVar 0)) :: ((.inr "piles", (eB (bDict false) (aCons (eLc false [1] (iLst (eVar 0)) (gName 1) tYesD k__law_new_1) aNil))) :: []))))
noncomputable def m__law_new : GD := runD 2 z__law_new
theorem sc__law_new : FnScope ["_law_told", "_law_one"] ["_law_told"] (defScope s__law_new) := ⟨rfl, rfl, rfl, by decide +kernel, rfl, by decide +kernel, by decide +kernel⟩
theorem ok__law_new {f : Addr} {fd : FuncData} (F : Fun K "_law_new" "_law_new" s__law_new f fd) (T : Tx K mg cl)  : FnG P w K mg base 1 f fd ["_law_told"] (spOf K cl 1 m__law_new) :=
  def_ok (k := 0) F sc__law_new rfl z__law_new fun cdv A outer s H E W G =>
    (fss_one (fs_ret (fe_dic (live := false) (fps_str (fe_var (pv 0)) (fps_str (fe_dict (live := false) G T.n_dict (fa_cons (fe_lc (live := false) (own := [("_law_one", 1)]) G (fi_lst (fe_var (pv 0))) (blkB (N' := ["_law_told", "_law_one"]) (sc' := defScope s__law_new) rfl rfl (by decide +kernel)) gix_name (fun s1 H1 D1 e1 p1 => (fg_name 1 (G.blk s1 H1 D1 e1 p1).nd)) (fun s1 H1 D1 e1 p1 => fts_nil) (fun s1 H1 D1 e1 p1 => (fe_tup (fa_cons (fe_ix (G.blk s1 H1 D1 e1 p1) (fe_var (pv 1)) fe_int) (fa_cons (fe_lstL fa_nil) fa_nil))))) fa_nil)) fps_nil)))))
/-! _law_weight -/
abbrev s__law_weight : Stmt := top 39
noncomputable def z__law_weight : DS := (sRet (e2 dIx (eLst (aCons (e2 dAdd (eC (.int 1)) (e2 dMod (e2 dDiv (eVar 0) (eC (.int 4))) (eC (.int 9)))) (aCons (e2 dAdd (eC (.int 1)) (e2 dMod (e2 dDiv (eVar 0) (eC (.int 4))) (eC (.int 9)))) (aCons (eC (.int 1)) (aCons (e2 dSub (e2 dAdd (e2 dMul (eC (.int 5)) (e2 dPow (eC (.int 10)) (eC (.int 11)))) (e2 dMod (e2 dDiv (eVar 0) (eC (.int 4))) (eC (.int 3)))) (eC (.int 1))) aNil))))) (e2 dMod (eVar 0) (eC (.int 4)))))
noncomputable def m__law_weight : GD := runD 1 z__law_weight
theorem sc__law_weight : FnScope ["_law_cell"] ["_law_cell"] (defScope s__law_weight) := ⟨rfl, rfl, rfl, by decide +kernel, rfl, by decide +kernel, by decide +kernel⟩
theorem ok__law_weight {f : Addr} {fd : FuncData} (F : Fun K "_law_weight" "_law_weight" s__law_weight f fd) (T : Tx K mg cl)  : FnG P w K mg base 1 f fd ["_law_cell"] (spOf K cl 1 m__law_weight) :=
  def_ok (k := 0) F sc__law_weight rfl z__law_weight fun cdv A outer s H E W G =>
    (fss_one (fs_ret (fe_ix G (fe_lst (fa_cons (fe_add fe_int (fe_mod (fe_div (fe_var (pv 0)) fe_int) fe_int)) (fa_cons (fe_add fe_int (fe_mod (fe_div (fe_var (pv 0)) fe_int) fe_int)) (fa_cons fe_int (fa_cons (fe_sub (fe_add (fe_mul fe_int (fe_pow fe_int fe_int)) (fe_mod (fe_div (fe_var (pv 0)) fe_int) fe_int)) fe_int) fa_nil))))) (fe_mod (fe_var (pv 0)) fe_int))))
/-! _law_of -/
abbrev s__law_of : Stmt := top 42
noncomputable def k__law_of_1 : DE := (eVar 2)
noncomputable def t__law_of_1 : DT := (tV (e2 (dEqX 0) (e2 dIx (eVar 2) (eC (.int 0))) (eVar 1)))
noncomputable def z__law_of : DS := (sRet (e2 dIx (eLc false [2] (iLst (e2 dIx (eVar 0) (eC (.str "told")))) (gName 2) t__law_of_1 k__law_of_1) (eC (.int 0))))
noncomputable def m__law_of : GD := runD 3 z__law_of
theorem sc__law_of : FnScope ["_law_own", "_law_stack", "_law_one"] ["_law_own", "_law_stack"] (defScope s__law_of) := ⟨rfl, rfl, rfl, by decide +kernel, rfl, by decide +kernel, by decide +kernel⟩
theorem ok__law_of {f : Addr} {fd : FuncData} (F : Fun K "_law_of" "_law_of" s__law_of f fd) (T : Tx K mg cl)  : FnG P w K mg base 1 f fd ["_law_own", "_law_stack"] (spOf K cl 2 m__law_of) :=
  def_ok (k := 0) F sc__law_of rfl z__law_of fun cdv A outer s H E W G =>
    (fss_one (fs_ret (fe_ix G (fe_lc (live := false) (own := [("_law_one", 2)]) G (fi_lst (fe_ix G (fe_var (pv 0)) fe_str)) (blkB (N' := ["_law_own", "_law_stack", "_law_one"]) (sc' := defScope s__law_of) rfl rfl (by decide +kernel)) gix_name (fun s1 H1 D1 e1 p1 => (fg_name 2 (G.blk s1 H1 D1 e1 p1).nd)) (fun s1 H1 D1 e1 p1 => fts_one (ft_eqX (G.blk s1 H1 D1 e1 p1) (n := 0) (fe_ix (G.blk s1 H1 D1 e1 p1) (fe_var (pv 2)) fe_int) (fe_var (pv 1)))) (fun s1 H1 D1 e1 p1 => (fe_var (pv 2)))) fe_int)))
/-! _law_where -/
abbrev s__law_where : Stmt := top 43
noncomputable def k__law_where_1 : DE := (e2 dIx (eVar 4) (eC (.int 0)))
noncomputable def b__law_where_1 : DS := (sIf (tV (e2 dIn (eVar 1) (eLc false [4] (iLst (eVar 3)) (gName 4) tYesD k__law_where_1))) (sRet (eVar 2)) sNext)
noncomputable def z__law_where : DS := (sSeq (sFor (iItemsD (e2 dIx (eVar 0) (eC (.str "piles")))) (gTup 2 (gCons (gName 2) (gCons (gName 3) gNil))) b__law_where_1)
    (sRet (eC .non)))
noncomputable def m__law_where : GD := runD 5 z__law_where
theorem sc__law_where : FnScope ["_law_own", "_law_box", "_law_name", "_law_pile", "_law_one"] ["_law_own", "_law_box"] (defScope s__law_where) := ⟨rfl, rfl, rfl, by decide +kernel, rfl, by decide +kernel, by decide +kernel⟩
theorem ok__law_where {f : Addr} {fd : FuncData} (F : Fun K "_law_where" "_law_where" s__law_where f fd) (T : Tx K mg cl)  : FnG P w K mg base 1 f fd ["_law_own", "_law_box"] (spOf K cl 2 m__law_where) :=
  def_ok (k := 0) F sc__law_where rfl z__law_where fun cdv A outer s H E W G =>
    (fss_cons (fs_for G (fi_itemsD (fe_ix G (fe_var (pv 0)) fe_str)) (fg_tup G (fgs_cons (fg_name 2 G.nd) (fgs_cons (fg_name 3 G.nd) fgs_nil))) (fss_one (fs_if (ft_in G (fe_var (pv 1)) (fe_lc (live := false) (own := [("_law_one", 4)]) G (fi_lst (fe_var (pv 3))) (blkB (N' := ["_law_own", "_law_box", "_law_name", "_law_pile", "_law_one"]) (sc' := defScope s__law_where) rfl rfl (by decide +kernel)) gix_name (fun s1 H1 D1 e1 p1 => (fg_name 4 (G.blk s1 H1 D1 e1 p1).nd)) (fun s1 H1 D1 e1 p1 => fts_nil) (fun s1 H1 D1 e1 p1 => (fe_ix (G.blk s1 H1 D1 e1 p1) (fe_var (pv 4)) fe_int)))) (fss_one (fs_ret (fe_var (pv 2)))) fss_nil)))
    (fss_one (fs_ret fe_non)))
/-! _law_due -/
abbrev s__law_due : Stmt := top 44
noncomputable def k__law_due_1 : DE := (e2 dIx (eVar 9) (eC (.int 1)))
noncomputable def z__law_due : DS := (sSeq (sAsg (gTup 4 (gCons (gName 4) (gCons (gName 5) (gCons (gName 6) (gCons (gName 7) gNil))))) (eCall 2 m__law_of [] (aCons (eVar 0) (aCons (eVar 3) aNil))))
    (sSeq (sSet 8 (e2 dIx (e2 dIx (eVar 0) (eC (.str "piles"))) (eVar 3)))
    (sSeq (sIf (tV (eNotN (eCall 2 m__law_where [] (aCons (eVar 0) (aCons (eVar 1) aNil))))) (sRet (eC (.str "twice"))) sNext)
    (sSeq (sIf (tV (e2 dGe (eB bLen (aCons (eVar 8) aNil)) (eVar 6))) (sRet (eC (.str "high"))) sNext)
    (sRet (eIf (tV (e2 dGt (e2 dAdd (eB bSum (aCons (eLc false [9] (iLst (eVar 8)) (gName 9) tYesD k__law_due_1) aNil)) (eVar 2)) (eVar 7))) (eC (.str "heavy")) (eC (.str ""))))))))
noncomputable def m__law_due : GD := runD 10 z__law_due
theorem sc__law_due : FnScope ["_law_own", "_law_box", "_law_weight_here", "_law_stack", "_law_name", "_law_place", "_law_high", "_law_most", "_law_pile", "_law_one"] ["_law_own", "_law_box", "_law_weight_here", "_law_stack"] (defScope s__law_due) := ⟨rfl, rfl, rfl, by decide +kernel, rfl, by decide +kernel, by decide +kernel⟩
theorem ok__law_due {f : Addr} {fd : FuncData} (F : Fun K "_law_due" "_law_due" s__law_due f fd) (T : Tx K mg cl) (C__law_of : Cal P w K mg base cl 1 2 "_law_of" m__law_of) (C__law_where : Cal P w K mg base cl 1 2 "_law_where" m__law_where) : FnG P w K mg base 2 f fd ["_law_own", "_law_box", "_law_weight_here", "_law_stack"] (spOf K cl 4 m__law_due) :=
  def_ok (k := 1) F sc__law_due rfl z__law_due fun cdv A outer s H E W G =>
    (fss_cons (fs_asg (fe_callC G C__law_of (by decide) (fa_cons (fe_var (pv 0)) (fa_cons (fe_var (pv 3)) fa_nil))) (fg_tup G (fgs_cons (fg_name 4 G.nd) (fgs_cons (fg_name 5 G.nd) (fgs_cons (fg_name 6 G.nd) (fgs_cons (fg_name 7 G.nd) fgs_nil))))))
    (fss_cons (fs_set (i := 8) G (fe_ix G (fe_ix G (fe_var (pv 0)) fe_str) (fe_var (pv 3))))
    (fss_cons (fs_if (ft_notN (fe_callC G C__law_where (by decide) (fa_cons (fe_var (pv 0)) (fa_cons (fe_var (pv 1)) fa_nil)))) (fss_one (fs_ret fe_str)) fss_nil)
    (fss_cons (fs_if (ft_ge (fe_len T.n_len (fa_cons (fe_var (pv 8)) fa_nil)) (fe_var (pv 6))) (fss_one (fs_ret fe_str)) fss_nil)
    (fss_one (fs_ret (fe_if (ft_gt (fe_add (fe_sum G T.n_sum (fa_cons (fe_lc (live := false) (own := [("_law_one", 9)]) G (fi_lst (fe_var (pv 8))) (blkB (N' := ["_law_own", "_law_box", "_law_weight_here", "_law_stack", "_law_name", "_law_place", "_law_high", "_law_most", "_law_pile", "_law_one"]) (sc' := defScope s__law_due) rfl rfl (by decide +kernel)) gix_name (fun s1 H1 D1 e1 p1 => (fg_name 9 (G.blk s1 H1 D1 e1 p1).nd)) (fun s1 H1 D1 e1 p1 => fts_nil) (fun s1 H1 D1 e1 p1 => (fe_ix (G.blk s1 H1 D1 e1 p1) (fe_var (pv 9)) fe_int))) fa_nil)) (fe_var (pv 2))) (fe_var (pv 7))) fe_str fe_str)))))))
/-! Stacks.need_stack -/
abbrev s_Stacks__need_stack : Stmt := inClass (top 32) 1
noncomputable def z_Stacks__need_stack : DS := (sIf (tOrD (tNotD (tV (eIsi "str" (eVar 1)))) (tV (e2 dNotIn (eVar 1) (eFld flT "known" (eVar 0))))) (sRaise "NoStack") sNext)
noncomputable def m_Stacks__need_stack : GD := runD 2 z_Stacks__need_stack
theorem sc_Stacks__need_stack : FnScope ["self", "stack"] ["self", "stack"] (defScope s_Stacks__need_stack) := ⟨rfl, rfl, rfl, by decide +kernel, rfl, by decide +kernel, by decide +kernel⟩
theorem ok_Stacks__need_stack {f : Addr} {fd : FuncData} (F : Fun K "need_stack" "Stacks.need_stack" s_Stacks__need_stack f fd) (T : Tx K mg cl)  : FnG P w K mg base 1 f fd ["self", "stack"] (spOf K cl 2 m_Stacks__need_stack) :=
  def_ok (k := 0) F sc_Stacks__need_stack rfl z_Stacks__need_stack fun cdv A outer s H E W G =>
    (fss_one (fs_if (ft_w (fw_or (ft_not (ft_val (fe_isi T.n_isinstance T.n_str (by decide +kernel) (fe_var (pv 1))))) (fw_or1 (ft_notIn G (fe_var (pv 1)) (fe_fld T.F (fe_var (pv 0))))))) (fss_one (fs_raise (C := "NoStack") G T.E (by decide) (by decide))) fss_nil))
/-! Stacks.high -/
abbrev s_Stacks__high : Stmt := inClass (top 32) 6
noncomputable def z_Stacks__high : DS := (sSeq (sExpr (eMeth "Stacks" "need_stack" 2 m_Stacks__need_stack [] (eVar 0) (aCons (eVar 1) aNil)))
    (sRet (e2 dIx (e2 dIx (eFld flT "known" (eVar 0)) (eVar 1)) (eC (.int 2)))))
noncomputable def m_Stacks__high : GD := runD 2 z_Stacks__high
theorem sc_Stacks__high : FnScope ["self", "stack"] ["self", "stack"] (defScope s_Stacks__high) := ⟨rfl, rfl, rfl, by decide +kernel, rfl, by decide +kernel, by decide +kernel⟩
theorem ok_Stacks__high {f : Addr} {fd : FuncData} (F : Fun K "high" "Stacks.high" s_Stacks__high f fd) (T : Tx K mg cl) (M_Stacks__need_stack : CalM P w K mg base cl 1 2 "Stacks" "need_stack" [] m_Stacks__need_stack) : FnG P w K mg base 2 f fd ["self", "stack"] (spOf K cl 2 m_Stacks__high) :=
  def_ok (k := 1) F sc_Stacks__high rfl z_Stacks__high fun cdv A outer s H E W G =>
    (fss_cons (fs_expr (fe_meth G M_Stacks__need_stack (by decide) (fe_var (pv 0)) (fa_cons (fe_var (pv 1)) fa_nil)))
    (fss_one (fs_ret (fe_ix G (fe_ix G (fe_fld T.F (fe_var (pv 0))) (fe_var (pv 1))) fe_int))))
/-! Stacks.weight -/
abbrev s_Stacks__weight : Stmt := inClass (top 32) 7
noncomputable def z_Stacks__weight : DS := (sSeq (sExpr (eMeth "Stacks" "need_stack" 2 m_Stacks__need_stack [] (eVar 0) (aCons (eVar 1) aNil)))
    (sRet (e2 dIx (e2 dIx (eFld flT "known" (eVar 0)) (eVar 1)) (eC (.int 3)))))
noncomputable def m_Stacks__weight : GD := runD 2 z_Stacks__weight
theorem sc_Stacks__weight : FnScope ["self", "stack"] ["self", "stack"] (defScope s_Stacks__weight) := ⟨rfl, rfl, rfl, by decide +kernel, rfl, by decide +kernel, by decide +kernel⟩
theorem ok_Stacks__weight {f : Addr} {fd : FuncData} (F : Fun K "weight" "Stacks.weight" s_Stacks__weight f fd) (T : Tx K mg cl) (M_Stacks__need_stack : CalM P w K mg base cl 1 2 "Stacks" "need_stack" [] m_Stacks__need_stack) : FnG P w K mg base 2 f fd ["self", "stack"] (spOf K cl 2 m_Stacks__weight) :=
  def_ok (k := 1) F sc_Stacks__weight rfl z_Stacks__weight fun cdv A outer s H E W G =>
    (fss_cons (fs_expr (fe_meth G M_Stacks__need_stack (by decide) (fe_var (pv 0)) (fa_cons (fe_var (pv 1)) fa_nil)))
    (fss_one (fs_ret (fe_ix G (fe_ix G (fe_fld T.F (fe_var (pv 0))) (fe_var (pv 1))) fe_int))))
/-! Stacks.put -/
abbrev s_Stacks__put : Stmt := inClass (top 32) 11
noncomputable def k_Stacks__put_1 : DE := (e2 dIx (eVar 5) (eC (.int 1)))
noncomputable def z_Stacks__put : DS := (sSeq (sIf (tNotD (tV (eCall 1 (pureD m_is_name) [] (aCons (eVar 1) aNil)))) (sRaise "BadName") sNext)
    (sSeq (sIf (tNotD (tV (eCall 3 (pureD m_is_among) [] (aCons (eVar 2) (aCons (eC (.int 1)) (aCons (eC (.int 1000000000000)) aNil)))))) (sRaise "BadNumber") sNext)
    (sSeq (sExpr (eMeth "Stacks" "need_stack" 2 m_Stacks__need_stack [] (eVar 0) (aCons (eVar 3) aNil)))
    (sSeq (sIf (tV (e2 dIn (eVar 1) (eFld flT "spots" (eVar 0)))) (sRaise "Twice") sNext)
    (sSeq (sSet 4 (e2 dIx (eFld flT "piles" (eVar 0)) (eVar 3)))
    (sSeq (sIf (tV (e2 (dEqX 0) (eB bLen (aCons (eVar 4) aNil)) (eMeth "Stacks" "high" 2 m_Stacks__high [] (eVar 0) (aCons (eVar 3) aNil)))) (sRaise "TooHigh") sNext)
    (sSeq (sIf (tV (e2 dGt (e2 dAdd (eB bSum (aCons (eLc false [5] (iLst (eVar 4)) (gName 5) tYesD k_Stacks__put_1) aNil)) (eVar 2)) (eMeth "Stacks" "weight" 2 m_Stacks__weight [] (eVar 0) (aCons (eVar 3) aNil)))) (sRaise "TooHeavy") sNext)
    (sSeq (sExpr (eM "list" mAppend (eVar 4) (aCons (eTup (aCons (eVar 1) (aCons (eVar 2) aNil))) aNil)))
    (sSetAt (eFld flT "spots" (eVar 0)) (eVar 1) (eVar 3))))))))))
noncomputable def m_Stacks__put : GD := runD 6 z_Stacks__put
theorem sc_Stacks__put : FnScope ["self", "box", "weight", "stack", "pile", "one"] ["self", "box", "weight", "stack"] (defScope s_Stacks__put) := ⟨rfl, rfl, rfl, by decide +kernel, rfl, by decide +kernel, by decide +kernel⟩
theorem ok_Stacks__put {f : Addr} {fd : FuncData} (F : Fun K "put" "Stacks.put" s_Stacks__put f fd) (T : Tx K mg cl) (C_is_among : Cal P w K mg base cl 1 3 "is_among" m_is_among) (C_is_name : Cal P w K mg base cl 1 1 "is_name" m_is_name) (M_Stacks__high : CalM P w K mg base cl 2 2 "Stacks" "high" [] m_Stacks__high) (M_Stacks__need_stack : CalM P w K mg base cl 1 2 "Stacks" "need_stack" [] m_Stacks__need_stack) (M_Stacks__weight : CalM P w K mg base cl 2 2 "Stacks" "weight" [] m_Stacks__weight) : FnG P w K mg base 3 f fd ["self", "box", "weight", "stack"] (spOf K cl 4 m_Stacks__put) :=
  def_ok (k := 2) F sc_Stacks__put rfl z_Stacks__put fun cdv A outer s H E W G =>
    (fss_cons (fs_if (ft_not (ft_val (fe_callC G C_is_name.pure (by decide) (fa_cons (fe_var (pv 1)) fa_nil)))) (fss_one (fs_raise (C := "BadName") G T.E (by decide) (by decide))) fss_nil)
    (fss_cons (fs_if (ft_not (ft_val (fe_callC G C_is_among.pure (by decide) (fa_cons (fe_var (pv 2)) (fa_cons fe_int (fa_cons (fe_globI T.c_MOST_NUMBER) fa_nil)))))) (fss_one (fs_raise (C := "BadNumber") G T.E (by decide) (by decide))) fss_nil)
    (fss_cons (fs_expr (fe_meth G M_Stacks__need_stack (by decide) (fe_var (pv 0)) (fa_cons (fe_var (pv 3)) fa_nil)))
    (fss_cons (fs_if (ft_in G (fe_var (pv 1)) (fe_fld T.F (fe_var (pv 0)))) (fss_one (fs_raise (C := "Twice") G T.E (by decide) (by decide))) fss_nil)
    (fss_cons (fs_set (i := 4) G (fe_ix G (fe_fld T.F (fe_var (pv 0))) (fe_var (pv 3))))
    (fss_cons (fs_if (ft_eqX G (n := 0) (fe_len T.n_len (fa_cons (fe_var (pv 4)) fa_nil)) (fe_meth G M_Stacks__high (by decide) (fe_var (pv 0)) (fa_cons (fe_var (pv 3)) fa_nil))) (fss_one (fs_raise (C := "TooHigh") G T.E (by decide) (by decide))) fss_nil)
    (fss_cons (fs_if (ft_gt (fe_add (fe_sum G T.n_sum (fa_cons (fe_lc (live := false) (own := [("one", 5)]) G (fi_lst (fe_var (pv 4))) (blkB (N' := ["self", "box", "weight", "stack", "pile", "one"]) (sc' := defScope s_Stacks__put) rfl rfl (by decide +kernel)) gix_name (fun s1 H1 D1 e1 p1 => (fg_name 5 (G.blk s1 H1 D1 e1 p1).nd)) (fun s1 H1 D1 e1 p1 => fts_nil) (fun s1 H1 D1 e1 p1 => (fe_ix (G.blk s1 H1 D1 e1 p1) (fe_var (pv 5)) fe_int))) fa_nil)) (fe_var (pv 2))) (fe_meth G M_Stacks__weight (by decide) (fe_var (pv 0)) (fa_cons (fe_var (pv 3)) fa_nil))) (fss_one (fs_raise (C := "TooHeavy") G T.E (by decide) (by decide))) fss_nil)
    (fss_cons (fs_expr (fe_append (fe_var (pv 4)) (fa_cons (fe_tup (fa_cons (fe_var (pv 1)) (fa_cons (fe_var (pv 2)) fa_nil))) fa_nil)))
    (fss_one (fs_setAt G (fe_fld T.F (fe_var (pv 0))) (fe_var (pv 1)) (fe_var (pv 3))))))))))))
/-! Stacks.take -/
abbrev s_Stacks__take : Stmt := inClass (top 32) 12
noncomputable def z_Stacks__take : DS := (sSeq (sExpr (eMeth "Stacks" "need_stack" 2 m_Stacks__need_stack [] (eVar 0) (aCons (eVar 1) aNil)))
    (sSeq (sIf (tV (e2 (dEqX 1) (e2 dIx (eFld flT "piles" (eVar 0)) (eVar 1)) (eLst aNil))) (sRaise "Empty") sNext)
    (sSeq (sSet 2 (eM0 "list" mPop (e2 dIx (eFld flT "piles" (eVar 0)) (eVar 1))))
    (sSeq (sExpr (eDPop (eFld flT "spots" (eVar 0)) (e2 dIx (eVar 2) (eC (.int 0)))))
    (sRet (eVar 2))))))
noncomputable def m_Stacks__take : GD := runD 3 z_Stacks__take
theorem sc_Stacks__take : FnScope ["self", "stack", "found"] ["self", "stack"] (defScope s_Stacks__take) := ⟨rfl, rfl, rfl, by decide +kernel, rfl, by decide +kernel, by decide +kernel⟩
theorem ok_Stacks__take {f : Addr} {fd : FuncData} (F : Fun K "take" "Stacks.take" s_Stacks__take f fd) (T : Tx K mg cl) (M_Stacks__need_stack : CalM P w K mg base cl 1 2 "Stacks" "need_stack" [] m_Stacks__need_stack) : FnG P w K mg base 2 f fd ["self", "stack"] (spOf K cl 2 m_Stacks__take) :=
  def_ok (k := 1) F sc_Stacks__take rfl z_Stacks__take fun cdv A outer s H E W G =>
    (fss_cons (fs_expr (fe_meth G M_Stacks__need_stack (by decide) (fe_var (pv 0)) (fa_cons (fe_var (pv 1)) fa_nil)))
    (fss_cons (fs_if (ft_eqX G (n := 1) (fe_ix G (fe_fld T.F (fe_var (pv 0))) (fe_var (pv 1))) (fe_lst fa_nil)) (fss_one (fs_raise (C := "Empty") G T.E (by decide) (by decide))) fss_nil)
    (fss_cons (fs_set (i := 2) G (fe_pop (fe_ix G (fe_fld T.F (fe_var (pv 0))) (fe_var (pv 1)))))
    (fss_cons (fs_expr (fe_dpop (fe_fld T.F (fe_var (pv 0))) (fe_ix G (fe_var (pv 2)) fe_int)))
    (fss_one (fs_ret (fe_var (pv 2))))))))
/-! _law_kind -/
abbrev s__law_kind : Stmt := top 36
noncomputable def z__law_kind : DS := (sSeq (sSet 1 (e2 dAdd (e2 dMul (eLst (aCons (eC (.str "name")) aNil)) (eB bInt (aCons (eB (bIsX exT) (aCons (eVar 0) (aCons (eC (.cls "BadName")) aNil))) aNil))) (e2 dMul (eLst (aCons (eC (.str "number")) aNil)) (eB bInt (aCons (eB (bIsX exT) (aCons (eVar 0) (aCons (eC (.cls "BadNumber")) aNil))) aNil)))))
    (sSeq (sSet 1 (e2 dAdd (e2 dAdd (eVar 1) (e2 dMul (eLst (aCons (eC (.str "rail")) aNil)) (eB bInt (aCons (eB (bIsX exT) (aCons (eVar 0) (aCons (eC (.cls "BadRail")) aNil))) aNil)))) (e2 dMul (eLst (aCons (eC (.str "stack")) aNil)) (eB bInt (aCons (eB (bIsX exT) (aCons (eVar 0) (aCons (eC (.cls "BadStack")) aNil))) aNil)))))
    (sSeq (sSet 1 (e2 dAdd (e2 dAdd (eVar 1) (e2 dMul (eLst (aCons (eC (.str "places")) aNil)) (eB bInt (aCons (eB (bIsX exT) (aCons (eVar 0) (aCons (eC (.cls "BadPlaces")) aNil))) aNil)))) (e2 dMul (eLst (aCons (eC (.str "text")) aNil)) (eB bInt (aCons (eB (bIsX exT) (aCons (eVar 0) (aCons (eC (.cls "BadText")) aNil))) aNil)))))
    (sSeq (sSet 1 (e2 dAdd (e2 dAdd (eVar 1) (e2 dMul (eLst (aCons (eC (.str "twice")) aNil)) (eB bInt (aCons (eB (bIsX exT) (aCons (eVar 0) (aCons (eC (.cls "Twice")) aNil))) aNil)))) (e2 dMul (eLst (aCons (eC (.str "no crane")) aNil)) (eB bInt (aCons (eB (bIsX exT) (aCons (eVar 0) (aCons (eC (.cls "NoCrane")) aNil))) aNil)))))
    (sSeq (sSet 1 (e2 dAdd (e2 dAdd (eVar 1) (e2 dMul (eLst (aCons (eC (.str "no stack")) aNil)) (eB bInt (aCons (eB (bIsX exT) (aCons (eVar 0) (aCons (eC (.cls "NoStack")) aNil))) aNil)))) (e2 dMul (eLst (aCons (eC (.str "no box")) aNil)) (eB bInt (aCons (eB (bIsX exT) (aCons (eVar 0) (aCons (eC (.cls "NoBox")) aNil))) aNil)))))
    (sSeq (sSet 1 (e2 dAdd (e2 dAdd (eVar 1) (e2 dMul (eLst (aCons (eC (.str "no job")) aNil)) (eB bInt (aCons (eB (bIsX exT) (aCons (eVar 0) (aCons (eC (.cls "NoJob")) aNil))) aNil)))) (e2 dMul (eLst (aCons (eC (.str "same")) aNil)) (eB bInt (aCons (eB (bIsX exT) (aCons (eVar 0) (aCons (eC (.cls "Same")) aNil))) aNil)))))
    (sSeq (sSet 1 (e2 dAdd (e2 dAdd (eVar 1) (e2 dMul (eLst (aCons (eC (.str "buried")) aNil)) (eB bInt (aCons (eB (bIsX exT) (aCons (eVar 0) (aCons (eC (.cls "Buried")) aNil))) aNil)))) (e2 dMul (eLst (aCons (eC (.str "high")) aNil)) (eB bInt (aCons (eB (bIsX exT) (aCons (eVar 0) (aCons (eC (.cls "TooHigh")) aNil))) aNil)))))
    (sSeq (sSet 1 (e2 dAdd (e2 dAdd (eVar 1) (e2 dMul (eLst (aCons (eC (.str "heavy")) aNil)) (eB bInt (aCons (eB (bIsX exT) (aCons (eVar 0) (aCons (eC (.cls "TooHeavy")) aNil))) aNil)))) (e2 dMul (eLst (aCons (eC (.str "empty")) aNil)) (eB bInt (aCons (eB (bIsX exT) (aCons (eVar 0) (aCons (eC (.cls "Empty")) aNil))) aNil)))))
    (sSeq (sSet 1 (e2 dAdd (e2 dAdd (eVar 1) (e2 dMul (eLst (aCons (eC (.str "reach")) aNil)) (eB bInt (aCons (eB (bIsX exT) (aCons (eVar 0) (aCons (eC (.cls "NoReach")) aNil))) aNil)))) (e2 dMul (eLst (aCons (eC (.str "journal")) aNil)) (eB bInt (aCons (eB (bIsX exT) (aCons (eVar 0) (aCons (eC (.cls "BadJournal")) aNil))) aNil)))))
    (sRet (eM "str" mJoin (eC (.str "/")) (aCons (e2 dAdd (eVar 1) (e2 dMul (eLst (aCons (eC (.str "base")) aNil)) (eB bInt (aCons (eNotD (eB (bIsX exT) (aCons (eVar 0) (aCons (eC (.ty "ValueError")) aNil)))) aNil)))) aNil))))))))))))
noncomputable def m__law_kind : GD := runD 2 z__law_kind
theorem sc__law_kind : FnScope ["_law_e", "_law_found"] ["_law_e"] (defScope s__law_kind) := ⟨rfl, rfl, rfl, by decide +kernel, rfl, by decide +kernel, by decide +kernel⟩
theorem ok__law_kind {f : Addr} {fd : FuncData} (F : Fun K "_law_kind" "_law_kind" s__law_kind f fd) (T : Tx K mg cl)  : FnG P w K mg base 1 f fd ["_law_e"] (spOf K cl 1 m__law_kind) :=
  def_ok (k := 0) F sc__law_kind rfl z__law_kind fun cdv A outer s H E W G =>
    (fss_cons (fs_set (i := 1) G (fe_add (fe_mul (fe_lst (fa_cons fe_str fa_nil)) (fe_intc T.n_int (fa_cons (fe_isx T.E T.n_isinstance (fa_cons (fe_var (pv 0)) (fa_cons (fe_clsE T.E (C := "BadName") (by decide)) fa_nil))) fa_nil))) (fe_mul (fe_lst (fa_cons fe_str fa_nil)) (fe_intc T.n_int (fa_cons (fe_isx T.E T.n_isinstance (fa_cons (fe_var (pv 0)) (fa_cons (fe_clsE T.E (C := "BadNumber") (by decide)) fa_nil))) fa_nil)))))
    (fss_cons (fs_set (i := 1) G (fe_add (fe_add (fe_var (pv 1)) (fe_mul (fe_lst (fa_cons fe_str fa_nil)) (fe_intc T.n_int (fa_cons (fe_isx T.E T.n_isinstance (fa_cons (fe_var (pv 0)) (fa_cons (fe_clsE T.E (C := "BadRail") (by decide)) fa_nil))) fa_nil)))) (fe_mul (fe_lst (fa_cons fe_str fa_nil)) (fe_intc T.n_int (fa_cons (fe_isx T.E T.n_isinstance (fa_cons (fe_var (pv 0)) (fa_cons (fe_clsE T.E (C := "BadStack") (by decide)) fa_nil))) fa_nil)))))
    (fss_cons (fs_set (i := 1) G (fe_add (fe_add (fe_var (pv 1)) (fe_mul (fe_lst (fa_cons fe_str fa_nil)) (fe_intc T.n_int (fa_cons (fe_isx T.E T.n_isinstance (fa_cons (fe_var (pv 0)) (fa_cons (fe_clsE T.E (C := "BadPlaces") (by decide)) fa_nil))) fa_nil)))) (fe_mul (fe_lst (fa_cons fe_str fa_nil)) (fe_intc T.n_int (fa_cons (fe_isx T.E T.n_isinstance (fa_cons (fe_var (pv 0)) (fa_cons (fe_clsE T.E (C := "BadText") (by decide)) fa_nil))) fa_nil)))))
    (fss_cons (fs_set (i := 1) G (fe_add (fe_add (fe_var (pv 1)) (fe_mul (fe_lst (fa_cons fe_str fa_nil)) (fe_intc T.n_int (fa_cons (fe_isx T.E T.n_isinstance (fa_cons (fe_var (pv 0)) (fa_cons (fe_clsE T.E (C := "Twice") (by decide)) fa_nil))) fa_nil)))) (fe_mul (fe_lst (fa_cons fe_str fa_nil)) (fe_intc T.n_int (fa_cons (fe_isx T.E T.n_isinstance (fa_cons (fe_var (pv 0)) (fa_cons (fe_clsE T.E (C := "NoCrane") (by decide)) fa_nil))) fa_nil)))))
    (fss_cons (fs_set (i := 1) G (fe_add (fe_add (fe_var (pv 1)) (fe_mul (fe_lst (fa_cons fe_str fa_nil)) (fe_intc T.n_int (fa_cons (fe_isx T.E T.n_isinstance (fa_cons (fe_var (pv 0)) (fa_cons (fe_clsE T.E (C := "NoStack") (by decide)) fa_nil))) fa_nil)))) (fe_mul (fe_lst (fa_cons fe_str fa_nil)) (fe_intc T.n_int (fa_cons (fe_isx T.E T.n_isinstance (fa_cons (fe_var (pv 0)) (fa_cons (fe_clsE T.E (C := "NoBox") (by decide)) fa_nil))) fa_nil)))))
    (fss_cons (fs_set (i := 1) G (fe_add (fe_add (fe_var (pv 1)) (fe_mul (fe_lst (fa_cons fe_str fa_nil)) (fe_intc T.n_int (fa_cons (fe_isx T.E T.n_isinstance (fa_cons (fe_var (pv 0)) (fa_cons (fe_clsE T.E (C := "NoJob") (by decide)) fa_nil))) fa_nil)))) (fe_mul (fe_lst (fa_cons fe_str fa_nil)) (fe_intc T.n_int (fa_cons (fe_isx T.E T.n_isinstance (fa_cons (fe_var (pv 0)) (fa_cons (fe_clsE T.E (C := "Same") (by decide)) fa_nil))) fa_nil)))))
    (fss_cons (fs_set (i := 1) G (fe_add (fe_add (fe_var (pv 1)) (fe_mul (fe_lst (fa_cons fe_str fa_nil)) (fe_intc T.n_int (fa_cons (fe_isx T.E T.n_isinstance (fa_cons (fe_var (pv 0)) (fa_cons (fe_clsE T.E (C := "Buried") (by decide)) fa_nil))) fa_nil)))) (fe_mul (fe_lst (fa_cons fe_str fa_nil)) (fe_intc T.n_int (fa_cons (fe_isx T.E T.n_isinstance (fa_cons (fe_var (pv 0)) (fa_cons (fe_clsE T.E (C := "TooHigh") (by decide)) fa_nil))) fa_nil)))))
    (fss_cons (fs_set (i := 1) G (fe_add (fe_add (fe_var (pv 1)) (fe_mul (fe_lst (fa_cons fe_str fa_nil)) (fe_intc T.n_int (fa_cons (fe_isx T.E T.n_isinstance (fa_cons (fe_var (pv 0)) (fa_cons (fe_clsE T.E (C := "TooHeavy") (by decide)) fa_nil))) fa_nil)))) (fe_mul (fe_lst (fa_cons fe_str fa_nil)) (fe_intc T.n_int (fa_cons (fe_isx T.E T.n_isinstance (fa_cons (fe_var (pv 0)) (fa_cons (fe_clsE T.E (C := "Empty") (by decide)) fa_nil))) fa_nil)))))
    (fss_cons (fs_set (i := 1) G (fe_add (fe_add (fe_var (pv 1)) (fe_mul (fe_lst (fa_cons fe_str fa_nil)) (fe_intc T.n_int (fa_cons (fe_isx T.E T.n_isinstance (fa_cons (fe_var (pv 0)) (fa_cons (fe_clsE T.E (C := "NoReach") (by decide)) fa_nil))) fa_nil)))) (fe_mul (fe_lst (fa_cons fe_str fa_nil)) (fe_intc T.n_int (fa_cons (fe_isx T.E T.n_isinstance (fa_cons (fe_var (pv 0)) (fa_cons (fe_clsE T.E (C := "BadJournal") (by decide)) fa_nil))) fa_nil)))))
    (fss_one (fs_ret (fe_join fe_str (fa_cons (fe_add (fe_var (pv 1)) (fe_mul (fe_lst (fa_cons fe_str fa_nil)) (fe_intc T.n_int (fa_cons (fe_not (fe_isx T.E T.n_isinstance (fa_cons (fe_var (pv 0)) (fa_cons (fe_valErr T.n_ValueError) fa_nil)))) fa_nil)))) fa_nil)))))))))))))
/-! _law_done -/
abbrev s__law_done : Stmt := top 45
noncomputable def z__law_done : DS := (sSeq (sSet 5 (eC .non))
    (sSeq (sSet 6 (eC .non))
    (sSeq (sTry exT "CraneError" 7 5 (sSet 6 (eIf (tV (eVar 1)) (eMeth "Stacks" "put" 4 m_Stacks__put [] (eVar 0) (aCons (eVar 2) (aCons (eVar 3) (aCons (eVar 4) aNil)))) (eMeth "Stacks" "take" 2 m_Stacks__take [] (eVar 0) (aCons (eVar 4) aNil)))))
    (sRet (eIf (tV (eIsN (eVar 5))) (eVar 6) (eCall 1 (pureD m__law_kind) [] (aCons (eVar 5) aNil)))))))
noncomputable def m__law_done : GD := runD 8 z__law_done
theorem sc__law_done : FnScope ["_law_stacks_here", "_law_is_put", "_law_box", "_law_weight_here", "_law_stack", "_law_error", "_law_found", "_law_e"] ["_law_stacks_here", "_law_is_put", "_law_box", "_law_weight_here", "_law_stack"] (defScope s__law_done) := ⟨rfl, rfl, rfl, by decide +kernel, rfl, by decide +kernel, by decide +kernel⟩
theorem ok__law_done {f : Addr} {fd : FuncData} (F : Fun K "_law_done" "_law_done" s__law_done f fd) (T : Tx K mg cl) (C__law_kind : Cal P w K mg base cl 1 1 "_law_kind" m__law_kind) (M_Stacks__put : CalM P w K mg base cl 3 4 "Stacks" "put" [] m_Stacks__put) (M_Stacks__take : CalM P w K mg base cl 2 2 "Stacks" "take" [] m_Stacks__take) : FnG P w K mg base 4 f fd ["_law_stacks_here", "_law_is_put", "_law_box", "_law_weight_here", "_law_stack"] (spOf K cl 5 m__law_done) :=
  def_ok (k := 3) F sc__law_done rfl z__law_done fun cdv A outer s H E W G =>
    (fss_cons (fs_set (i := 5) G fe_non)
    (fss_cons (fs_set (i := 6) G fe_non)
    (fss_cons (fs_try (i := 7) (j := 5) G T.E (by decide) (fun W1 n1 x1 G1 => (fss_one (fs_set (i := 6) G1 (fe_if (ft_val (fe_var (pv 1))) (fe_meth G1 M_Stacks__put (by decide) (fe_var (pv 0)) (fa_cons (fe_var (pv 2)) (fa_cons (fe_var (pv 3)) (fa_cons (fe_var (pv 4)) fa_nil)))) (fe_meth G1 M_Stacks__take (by decide) (fe_var (pv 0)) (fa_cons (fe_var (pv 4)) fa_nil)))))))
    (fss_one (fs_ret (fe_if (ft_isN (fe_var (pv 5))) (fe_var (pv 6)) (fe_callC G C__law_kind.pure (by decide) (fa_cons (fe_var (pv 5)) fa_nil))))))))
/-! _law_deed -/
abbrev s__law_deed : Stmt := top 46
noncomputable def z__law_deed : DS := (sSeq (sSet 4 (e2 dIx (e2 dIx (e2 dIx (eVar 1) (eC (.str "told"))) (e2 dMod (e2 dDiv (eVar 3) (eC (.int 4))) (eB bLen (aCons (e2 dIx (eVar 1) (eC (.str "told"))) aNil)))) (eC (.int 0))))
    (sSeq (sSet 5 (e2 dIx (eVar 2) (e2 dMod (e2 dDiv (eVar 3) (eC (.int 100))) (eC (.int 12)))))
    (sSeq (sSet 6 (eCall 1 (pureD m__law_weight) [] (aCons (e2 dDiv (eVar 3) (eC (.int 2000))) aNil)))
    (sSeq (sSet 7 (e2 dIx (e2 dIx (eVar 1) (eC (.str "piles"))) (eVar 4)))
    (sSeq (sIf (tV (e2 dGt (e2 dMod (eVar 3) (eC (.int 4))) (eC (.int 0)))) (sSeq (sSet 8 (eCall 4 m__law_due [] (aCons (eVar 1) (aCons (eVar 5) (aCons (eVar 6) (aCons (eVar 4) aNil))))))
    (sSeq (sIf (tV (e2 (dEqX 0) (eVar 8) (eC (.str "")))) (sExpr (eM "list" mAppend (eVar 7) (aCons (eTup (aCons (eVar 5) (aCons (eVar 6) aNil))) aNil))) sNext)
    (sRet (e2 (dEqX 0) (eB (bRepX 0) (aCons (eCall 5 m__law_done [] (aCons (eVar 0) (aCons (eC (.bl true)) (aCons (eVar 5) (aCons (eVar 6) (aCons (eVar 4) aNil)))))) aNil)) (eB (bRepX 0) (aCons (eIf (tV (e2 (dEqX 0) (eVar 8) (eC (.str "")))) (eC .non) (eVar 8)) aNil)))))) sNext)
    (sSeq (sSet 8 (eIf (tV (e2 (dNeX 1) (eVar 7) (eLst aNil))) (eM0 "list" mPop (eVar 7)) (eC (.str "empty"))))
    (sRet (e2 (dEqX 0) (eB (bRepX 0) (aCons (eCall 5 m__law_done [] (aCons (eVar 0) (aCons (eC (.bl false)) (aCons (eVar 5) (aCons (eVar 6) (aCons (eVar 4) aNil)))))) aNil)) (eB (bRepX 0) (aCons (eVar 8) aNil))))))))))
noncomputable def m__law_deed : GD := runD 9 z__law_deed
theorem sc__law_deed : FnScope ["_law_stacks_here", "_law_own", "_law_boxes", "_law_cell", "_law_stack", "_law_box", "_law_weight_here", "_law_pile", "_law_due_here"] ["_law_stacks_here", "_law_own", "_law_boxes", "_law_cell"] (defScope s__law_deed) := ⟨rfl, rfl, rfl, by decide +kernel, rfl, by decide +kernel, by decide +kernel⟩
theorem ok__law_deed {f : Addr} {fd : FuncData} (F : Fun K "_law_deed" "_law_deed" s__law_deed f fd) (T : Tx K mg cl) (C__law_done : Cal P w K mg base cl 4 5 "_law_done" m__law_done) (C__law_due : Cal P w K mg base cl 2 4 "_law_due" m__law_due) (C__law_weight : Cal P w K mg base cl 1 1 "_law_weight" m__law_weight) : FnG P w K mg base 5 f fd ["_law_stacks_here", "_law_own", "_law_boxes", "_law_cell"] (spOf K cl 4 m__law_deed) :=
  def_ok (k := 4) F sc__law_deed rfl z__law_deed fun cdv A outer s H E W G =>
    (fss_cons (fs_set (i := 4) G (fe_ix G (fe_ix G (fe_ix G (fe_var (pv 1)) fe_str) (fe_mod (fe_div (fe_var (pv 3)) fe_int) (fe_len T.n_len (fa_cons (fe_ix G (fe_var (pv 1)) fe_str) fa_nil)))) fe_int))
    (fss_cons (fs_set (i := 5) G (fe_ix G (fe_var (pv 2)) (fe_mod (fe_div (fe_var (pv 3)) fe_int) fe_int)))
    (fss_cons (fs_set (i := 6) G (fe_callC G C__law_weight.pure (by decide) (fa_cons (fe_div (fe_var (pv 3)) fe_int) fa_nil)))
    (fss_cons (fs_set (i := 7) G (fe_ix G (fe_ix G (fe_var (pv 1)) fe_str) (fe_var (pv 4))))
    (fss_cons (fs_if (ft_gt (fe_mod (fe_var (pv 3)) fe_int) fe_int) (fss_cons (fs_set (i := 8) G (fe_callC G C__law_due (by decide) (fa_cons (fe_var (pv 1)) (fa_cons (fe_var (pv 5)) (fa_cons (fe_var (pv 6)) (fa_cons (fe_var (pv 4)) fa_nil))))))
    (fss_cons (fs_if (ft_eqX G (n := 0) (fe_var (pv 8)) fe_str) (fss_one (fs_expr (fe_append (fe_var (pv 7)) (fa_cons (fe_tup (fa_cons (fe_var (pv 5)) (fa_cons (fe_var (pv 6)) fa_nil))) fa_nil)))) fss_nil)
    (fss_one (fs_ret (fe_eqX G (n := 0) (fe_repX (n := 0) G T.n_repr (fa_cons (fe_callC G C__law_done (by decide) (fa_cons (fe_var (pv 0)) (fa_cons fe_bl (fa_cons (fe_var (pv 5)) (fa_cons (fe_var (pv 6)) (fa_cons (fe_var (pv 4)) fa_nil)))))) fa_nil)) (fe_repX (n := 0) G T.n_repr (fa_cons (fe_if (ft_eqX G (n := 0) (fe_var (pv 8)) fe_str) fe_non (fe_var (pv 8))) fa_nil))))))) fss_nil)
    (fss_cons (fs_set (i := 8) G (fe_if (ft_neX G (n := 1) (fe_var (pv 7)) (fe_lst fa_nil)) (fe_pop (fe_var (pv 7))) fe_str))
    (fss_one (fs_ret (fe_eqX G (n := 0) (fe_repX (n := 0) G T.n_repr (fa_cons (fe_callC G C__law_done (by decide) (fa_cons (fe_var (pv 0)) (fa_cons fe_bl (fa_cons (fe_var (pv 5)) (fa_cons (fe_var (pv 6)) (fa_cons (fe_var (pv 4)) fa_nil)))))) fa_nil)) (fe_repX (n := 0) G T.n_repr (fa_cons (fe_var (pv 8)) fa_nil)))))))))))
/-! Stacks.boxes -/
abbrev s_Stacks__boxes : Stmt := inClass (top 32) 8
noncomputable def z_Stacks__boxes : DS := (sSeq (sExpr (eMeth "Stacks" "need_stack" 2 m_Stacks__need_stack [] (eVar 0) (aCons (eVar 1) aNil)))
    (sRet (eB (bList true) (aCons (e2 dIx (eFld flT "piles" (eVar 0)) (eVar 1)) aNil))))
noncomputable def m_Stacks__boxes : GD := runD 2 z_Stacks__boxes
theorem sc_Stacks__boxes : FnScope ["self", "stack"] ["self", "stack"] (defScope s_Stacks__boxes) := ⟨rfl, rfl, rfl, by decide +kernel, rfl, by decide +kernel, by decide +kernel⟩
theorem ok_Stacks__boxes {f : Addr} {fd : FuncData} (F : Fun K "boxes" "Stacks.boxes" s_Stacks__boxes f fd) (T : Tx K mg cl) (M_Stacks__need_stack : CalM P w K mg base cl 1 2 "Stacks" "need_stack" [] m_Stacks__need_stack) : FnG P w K mg base 2 f fd ["self", "stack"] (spOf K cl 2 m_Stacks__boxes) :=
  def_ok (k := 1) F sc_Stacks__boxes rfl z_Stacks__boxes fun cdv A outer s H E W G =>
    (fss_cons (fs_expr (fe_meth G M_Stacks__need_stack (by decide) (fe_var (pv 0)) (fa_cons (fe_var (pv 1)) fa_nil)))
    (fss_one (fs_ret (fe_listc (live := true) T.n_list (fa_cons (fe_ix G (fe_fld T.F (fe_var (pv 0))) (fe_var (pv 1))) fa_nil)))))
/-! Stacks.need_box -/
abbrev s_Stacks__need_box : Stmt := inClass (top 32) 2
noncomputable def z_Stacks__need_box : DS := (sIf (tOrD (tNotD (tV (eIsi "str" (eVar 1)))) (tV (e2 dNotIn (eVar 1) (eFld flT "spots" (eVar 0))))) (sRaise "NoBox") sNext)
noncomputable def m_Stacks__need_box : GD := runD 2 z_Stacks__need_box
theorem sc_Stacks__need_box : FnScope ["self", "box"] ["self", "box"] (defScope s_Stacks__need_box) := ⟨rfl, rfl, rfl, by decide +kernel, rfl, by decide +kernel, by decide +kernel⟩
theorem ok_Stacks__need_box {f : Addr} {fd : FuncData} (F : Fun K "need_box" "Stacks.need_box" s_Stacks__need_box f fd) (T : Tx K mg cl)  : FnG P w K mg base 1 f fd ["self", "box"] (spOf K cl 2 m_Stacks__need_box) :=
  def_ok (k := 0) F sc_Stacks__need_box rfl z_Stacks__need_box fun cdv A outer s H E W G =>
    (fss_one (fs_if (ft_w (fw_or (ft_not (ft_val (fe_isi T.n_isinstance T.n_str (by decide +kernel) (fe_var (pv 1))))) (fw_or1 (ft_notIn G (fe_var (pv 1)) (fe_fld T.F (fe_var (pv 0))))))) (fss_one (fs_raise (C := "NoBox") G T.E (by decide) (by decide))) fss_nil))
/-! Stacks.is_top -/
abbrev s_Stacks__is_top : Stmt := inClass (top 32) 10
noncomputable def z_Stacks__is_top : DS := (sSeq (sExpr (eMeth "Stacks" "need_box" 2 m_Stacks__need_box [] (eVar 0) (aCons (eVar 1) aNil)))
    (sRet (e2 (dEqX 0) (e2 dIx (e2 dIx (e2 dIx (eFld flT "piles" (eVar 0)) (e2 dIx (eFld flT "spots" (eVar 0)) (eVar 1))) (eNeg (eC (.int 1)))) (eC (.int 0))) (eVar 1))))
noncomputable def m_Stacks__is_top : GD := runD 2 z_Stacks__is_top
theorem sc_Stacks__is_top : FnScope ["self", "box"] ["self", "box"] (defScope s_Stacks__is_top) := ⟨rfl, rfl, rfl, by decide +kernel, rfl, by decide +kernel, by decide +kernel⟩
theorem ok_Stacks__is_top {f : Addr} {fd : FuncData} (F : Fun K "is_top" "Stacks.is_top" s_Stacks__is_top f fd) (T : Tx K mg cl) (M_Stacks__need_box : CalM P w K mg base cl 1 2 "Stacks" "need_box" [] m_Stacks__need_box) : FnG P w K mg base 2 f fd ["self", "box"] (spOf K cl 2 m_Stacks__is_top) :=
  def_ok (k := 1) F sc_Stacks__is_top rfl z_Stacks__is_top fun cdv A outer s H E W G =>
    (fss_cons (fs_expr (fe_meth G M_Stacks__need_box (by decide) (fe_var (pv 0)) (fa_cons (fe_var (pv 1)) fa_nil)))
    (fss_one (fs_ret (fe_eqX G (n := 0) (fe_ix G (fe_ix G (fe_ix G (fe_fld T.F (fe_var (pv 0))) (fe_ix G (fe_fld T.F (fe_var (pv 0))) (fe_var (pv 1)))) (fe_neg fe_int)) fe_int) (fe_var (pv 1))))))
/-! Stacks.where -/
abbrev s_Stacks__where : Stmt := inClass (top 32) 9
noncomputable def z_Stacks__where : DS := (sSeq (sExpr (eMeth "Stacks" "need_box" 2 m_Stacks__need_box [] (eVar 0) (aCons (eVar 1) aNil)))
    (sRet (e2 dIx (eFld flT "spots" (eVar 0)) (eVar 1))))
noncomputable def m_Stacks__where : GD := runD 2 z_Stacks__where
theorem sc_Stacks__where : FnScope ["self", "box"] ["self", "box"] (defScope s_Stacks__where) := ⟨rfl, rfl, rfl, by decide +kernel, rfl, by decide +kernel, by decide +kernel⟩
theorem ok_Stacks__where {f : Addr} {fd : FuncData} (F : Fun K "where" "Stacks.where" s_Stacks__where f fd) (T : Tx K mg cl) (M_Stacks__need_box : CalM P w K mg base cl 1 2 "Stacks" "need_box" [] m_Stacks__need_box) : FnG P w K mg base 2 f fd ["self", "box"] (spOf K cl 2 m_Stacks__where) :=
  def_ok (k := 1) F sc_Stacks__where rfl z_Stacks__where fun cdv A outer s H E W G =>
    (fss_cons (fs_expr (fe_meth G M_Stacks__need_box (by decide) (fe_var (pv 0)) (fa_cons (fe_var (pv 1)) fa_nil)))
    (fss_one (fs_ret (fe_ix G (fe_fld T.F (fe_var (pv 0))) (fe_var (pv 1))))))
/-! _law_box_right -/
abbrev s__law_box_right : Stmt := top 47
noncomputable def z__law_box_right : DS := (sSeq (sSet 3 (eCall 2 m__law_where [] (aCons (eVar 1) (aCons (eVar 2) aNil))))
    (sSeq (sSet 4 (eC .non))
    (sSeq (sSet 5 (eC .non))
    (sSeq (sTry exT "CraneError" 6 4 (sSet 5 (eLst (aCons (eMeth "Stacks" "where" 2 m_Stacks__where [] (eVar 0) (aCons (eVar 2) aNil)) (aCons (eMeth "Stacks" "is_top" 2 m_Stacks__is_top [] (eVar 0) (aCons (eVar 2) aNil)) aNil)))))
    (sSeq (sIf (tV (eIsN (eVar 3))) (sRet (eAndD (eNotN (eVar 4)) (e2 (dEqX 0) (eCall 1 (pureD m__law_kind) [] (aCons (eVar 4) aNil)) (eC (.str "no box"))))) sNext)
    (sRet (e2 (dEqX 0) (eB (bRepX 0) (aCons (eVar 5) aNil)) (eB (bRepX 0) (aCons (eLst (aCons (eVar 3) (aCons (e2 (dEqX 0) (e2 dIx (e2 dIx (e2 dIx (e2 dIx (eVar 1) (eC (.str "piles"))) (eVar 3)) (eNeg (eC (.int 1)))) (eC (.int 0))) (eVar 2)) aNil))) aNil)))))))))
noncomputable def m__law_box_right : GD := runD 7 z__law_box_right
theorem sc__law_box_right : FnScope ["_law_stacks_here", "_law_own", "_law_box", "_law_where_here", "_law_error", "_law_found", "_law_e"] ["_law_stacks_here", "_law_own", "_law_box"] (defScope s__law_box_right) := ⟨rfl, rfl, rfl, by decide +kernel, rfl, by decide +kernel, by decide +kernel⟩
theorem ok__law_box_right {f : Addr} {fd : FuncData} (F : Fun K "_law_box_right" "_law_box_right" s__law_box_right f fd) (T : Tx K mg cl) (C__law_kind : Cal P w K mg base cl 1 1 "_law_kind" m__law_kind) (C__law_where : Cal P w K mg base cl 1 2 "_law_where" m__law_where) (M_Stacks__is_top : CalM P w K mg base cl 2 2 "Stacks" "is_top" [] m_Stacks__is_top) (M_Stacks__where : CalM P w K mg base cl 2 2 "Stacks" "where" [] m_Stacks__where) : FnG P w K mg base 3 f fd ["_law_stacks_here", "_law_own", "_law_box"] (spOf K cl 3 m__law_box_right) :=
  def_ok (k := 2) F sc__law_box_right rfl z__law_box_right fun cdv A outer s H E W G =>
    (fss_cons (fs_set (i := 3) G (fe_callC G C__law_where (by decide) (fa_cons (fe_var (pv 1)) (fa_cons (fe_var (pv 2)) fa_nil))))
    (fss_cons (fs_set (i := 4) G fe_non)
    (fss_cons (fs_set (i := 5) G fe_non)
    (fss_cons (fs_try (i := 6) (j := 4) G T.E (by decide) (fun W1 n1 x1 G1 => (fss_one (fs_set (i := 5) G1 (fe_lst (fa_cons (fe_meth G1 M_Stacks__where (by decide) (fe_var (pv 0)) (fa_cons (fe_var (pv 2)) fa_nil)) (fa_cons (fe_meth G1 M_Stacks__is_top (by decide) (fe_var (pv 0)) (fa_cons (fe_var (pv 2)) fa_nil)) fa_nil)))))))
    (fss_cons (fs_if (ft_isN (fe_var (pv 3))) (fss_one (fs_ret (fe_and (fe_notN (fe_var (pv 4))) (fe_one (fe_eqX G (n := 0) (fe_callC G C__law_kind.pure (by decide) (fa_cons (fe_var (pv 4)) fa_nil)) fe_str))))) fss_nil)
    (fss_one (fs_ret (fe_eqX G (n := 0) (fe_repX (n := 0) G T.n_repr (fa_cons (fe_var (pv 5)) fa_nil)) (fe_repX (n := 0) G T.n_repr (fa_cons (fe_lst (fa_cons (fe_var (pv 3)) (fa_cons (fe_eqX G (n := 0) (fe_ix G (fe_ix G (fe_ix G (fe_ix G (fe_var (pv 1)) fe_str) (fe_var (pv 3))) (fe_neg fe_int)) fe_int) (fe_var (pv 2))) fa_nil))) fa_nil))))))))))
/-! _law_all_right -/
abbrev s__law_all_right : Stmt := top 48
noncomputable def k__law_all_right_1 : DE := (e2 dIx (eVar 9) (eC (.int 1)))
noncomputable def k__law_all_right_2 : DE := (e2 dIx (eVar 9) (eC (.int 0)))
noncomputable def b__law_all_right_1 : DS := (sSeq (sSet 8 (eMeth "Stacks" "boxes" 2 m_Stacks__boxes [] (eVar 0) (aCons (eVar 4) aNil)))
    (sSeq (sIf (tOrD (tV (e2 (dNeX 0) (eB (bRepX 1) (aCons (eVar 8) aNil)) (eB (bRepX 1) (aCons (e2 dIx (e2 dIx (eVar 1) (eC (.str "piles"))) (eVar 4)) aNil)))) (tOrD (tV (e2 dGt (eB bLen (aCons (eVar 8) aNil)) (eVar 6))) (tV (e2 dGt (eB bSum (aCons (eLc false [9] (iLst (eVar 8)) (gName 9) tYesD k__law_all_right_1) aNil)) (eVar 7))))) (sRet (eC (.bl false))) sNext)
    (sSet 3 (e2 dAdd (eVar 3) (eLc false [9] (iLst (eVar 8)) (gName 9) tYesD k__law_all_right_2)))))
noncomputable def k__law_all_right_3 : DE := (eCall 3 m__law_box_right [] (aCons (eVar 0) (aCons (eVar 1) (aCons (eVar 10) aNil))))
noncomputable def z__law_all_right : DS := (sSeq (sSet 3 (eLst aNil))
    (sSeq (sFor (iLst (e2 dIx (eVar 1) (eC (.str "told")))) (gTup 4 (gCons (gName 4) (gCons (gName 5) (gCons (gName 6) (gCons (gName 7) gNil))))) b__law_all_right_1)
    (sRet (eAndD (e2 (dEqX 0) (eB bLenSet (aCons (eVar 3) aNil)) (eB bLen (aCons (eVar 3) aNil))) (eB bAll (aCons (eLc false [10] (iLst (eVar 2)) (gName 10) tYesD k__law_all_right_3) aNil))))))
noncomputable def m__law_all_right : GD := runD 11 z__law_all_right
theorem sc__law_all_right : FnScope ["_law_stacks_here", "_law_own", "_law_boxes", "_law_there", "_law_name", "_law_place", "_law_high", "_law_most", "_law_pile", "_law_one", "_law_box"] ["_law_stacks_here", "_law_own", "_law_boxes"] (defScope s__law_all_right) := ⟨rfl, rfl, rfl, by decide +kernel, rfl, by decide +kernel, by decide +kernel⟩
theorem ok__law_all_right {f : Addr} {fd : FuncData} (F : Fun K "_law_all_right" "_law_all_right" s__law_all_right f fd) (T : Tx K mg cl) (C__law_box_right : Cal P w K mg base cl 3 3 "_law_box_right" m__law_box_right) (M_Stacks__boxes : CalM P w K mg base cl 2 2 "Stacks" "boxes" [] m_Stacks__boxes) : FnG P w K mg base 4 f fd ["_law_stacks_here", "_law_own", "_law_boxes"] (spOf K cl 3 m__law_all_right) :=
  def_ok (k := 3) F sc__law_all_right rfl z__law_all_right fun cdv A outer s H E W G =>
    (fss_cons (fs_set (i := 3) G (fe_lst fa_nil))
    (fss_cons (fs_for G (fi_lst (fe_ix G (fe_var (pv 1)) fe_str)) (fg_tup G (fgs_cons (fg_name 4 G.nd) (fgs_cons (fg_name 5 G.nd) (fgs_cons (fg_name 6 G.nd) (fgs_cons (fg_name 7 G.nd) fgs_nil))))) (fss_cons (fs_set (i := 8) G (fe_meth G M_Stacks__boxes (by decide) (fe_var (pv 0)) (fa_cons (fe_var (pv 4)) fa_nil)))
    (fss_cons (fs_if (ft_w (fw_or (ft_neX G (n := 0) (fe_repX (n := 1) G T.n_repr (fa_cons (fe_var (pv 8)) fa_nil)) (fe_repX (n := 1) G T.n_repr (fa_cons (fe_ix G (fe_ix G (fe_var (pv 1)) fe_str) (fe_var (pv 4))) fa_nil))) (fw_or (ft_gt (fe_len T.n_len (fa_cons (fe_var (pv 8)) fa_nil)) (fe_var (pv 6))) (fw_or1 (ft_gt (fe_sum G T.n_sum (fa_cons (fe_lc (live := false) (own := [("_law_one", 9)]) G (fi_lst (fe_var (pv 8))) (blkB (N' := ["_law_stacks_here", "_law_own", "_law_boxes", "_law_there", "_law_name", "_law_place", "_law_high", "_law_most", "_law_pile", "_law_one", "_law_box"]) (sc' := defScope s__law_all_right) rfl rfl (by decide +kernel)) gix_name (fun s1 H1 D1 e1 p1 => (fg_name 9 (G.blk s1 H1 D1 e1 p1).nd)) (fun s1 H1 D1 e1 p1 => fts_nil) (fun s1 H1 D1 e1 p1 => (fe_ix (G.blk s1 H1 D1 e1 p1) (fe_var (pv 9)) fe_int))) fa_nil)) (fe_var (pv 7))))))) (fss_one (fs_ret fe_bl)) fss_nil)
    (fss_one (fs_set (i := 3) G (fe_add (fe_var (pv 3)) (fe_lc (live := false) (own := [("_law_one", 9)]) G (fi_lst (fe_var (pv 8))) (blkB (N' := ["_law_stacks_here", "_law_own", "_law_boxes", "_law_there", "_law_name", "_law_place", "_law_high", "_law_most", "_law_pile", "_law_one", "_law_box"]) (sc' := defScope s__law_all_right) rfl rfl (by decide +kernel)) gix_name (fun s2 H2 D2 e2 p2 => (fg_name 9 (G.blk s2 H2 D2 e2 p2).nd)) (fun s2 H2 D2 e2 p2 => fts_nil) (fun s2 H2 D2 e2 p2 => (fe_ix (G.blk s2 H2 D2 e2 p2) (fe_var (pv 9)) fe_int)))))))))
    (fss_one (fs_ret (fe_and (fe_eqX G (n := 0) (fe_lenSet G T.n_len T.n_set (fa_cons (fe_var (pv 3)) fa_nil)) (fe_len T.n_len (fa_cons (fe_var (pv 3)) fa_nil))) (fe_one (fe_all G T.n_all (fa_cons (fe_lc (live := false) (own := [("_law_box", 10)]) G (fi_lst (fe_var (pv 2))) (blkB (N' := ["_law_stacks_here", "_law_own", "_law_boxes", "_law_there", "_law_name", "_law_place", "_law_high", "_law_most", "_law_pile", "_law_one", "_law_box"]) (sc' := defScope s__law_all_right) rfl rfl (by decide +kernel)) gix_name (fun s3 H3 D3 e3 p3 => (fg_name 10 (G.blk s3 H3 D3 e3 p3).nd)) (fun s3 H3 D3 e3 p3 => fts_nil) (fun s3 H3 D3 e3 p3 => (fe_callC (G.blk s3 H3 D3 e3 p3) C__law_box_right (by decide) (fa_cons (fe_var (pv 0)) (fa_cons (fe_var (pv 1)) (fa_cons (fe_var (pv 10)) fa_nil)))))) fa_nil))))))))
/-! Stacks.told -/
abbrev s_Stacks__told : Stmt := inClass (top 32) 3
noncomputable def z_Stacks__told : DS := (sRet (eListVals false (eFld flT "known" (eVar 0))))
noncomputable def m_Stacks__told : GD := runD 1 z_Stacks__told
theorem sc_Stacks__told : FnScope ["self"] ["self"] (defScope s_Stacks__told) := ⟨rfl, rfl, rfl, by decide +kernel, rfl, by decide +kernel, by decide +kernel⟩
theorem ok_Stacks__told {f : Addr} {fd : FuncData} (F : Fun K "told" "Stacks.told" s_Stacks__told f fd) (T : Tx K mg cl)  : FnG P w K mg base 1 f fd ["self"] (spOf K cl 1 m_Stacks__told) :=
  def_ok (k := 0) F sc_Stacks__told rfl z_Stacks__told fun cdv A outer s H E W G =>
    (fss_one (fs_ret (fe_listVals (live := false) G T.n_list (fe_fld T.F (fe_var (pv 0))))))
/-! Stacks.copied -/
abbrev s_Stacks__copied : Stmt := inClass (top 32) 13
noncomputable def k_Stacks__copied_1 : DE := (eTup (aCons (eVar 2) (aCons (eB (bList true) (aCons (eVar 3) aNil)) aNil)))
noncomputable def z_Stacks__copied : DS := (sSeq (sSet 1 (eMake "Stacks" 2 m_Stacks____init__ (aCons (eMeth "Stacks" "told" 1 m_Stacks__told [] (eVar 0) aNil) aNil)))
    (sSeq (sFldD flT "piles" (eVar 1) (eB (bDict false) (aCons (eLc false [2, 3] (iItemsD (eFld flT "piles" (eVar 0))) (gTup 2 (gCons (gName 2) (gCons (gName 3) gNil))) tYesD k_Stacks__copied_1) aNil)))
    (sSeq (sFldD flT "spots" (eVar 1) (eB (bDict true) (aCons (eFld flT "spots" (eVar 0)) aNil)))
    (sRet (eFrz (eVar 1))))))
noncomputable def m_Stacks__copied : GD := runD 4 z_Stacks__copied
theorem sc_Stacks__copied : FnScope ["self", "found", "name", "pile"] ["self"] (defScope s_Stacks__copied) := ⟨rfl, rfl, rfl, by decide +kernel, rfl, by decide +kernel, by decide +kernel⟩
theorem ok_Stacks__copied {f : Addr} {fd : FuncData} (F : Fun K "copied" "Stacks.copied" s_Stacks__copied f fd) (T : Tx K mg cl) (M_Stacks__told : CalM P w K mg base cl 1 1 "Stacks" "told" [] m_Stacks__told) (N_Stacks : CalN P w K mg base cl 4 2 "Stacks" m_Stacks____init__) : FnG P w K mg base 6 f fd ["self"] (spOf K cl 1 m_Stacks__copied) :=
  def_ok (k := 5) F sc_Stacks__copied rfl z_Stacks__copied fun cdv A outer s H E W G =>
    (fss_cons (fs_set (i := 1) G (fe_make G N_Stacks (by decide) (fa_cons (fe_meth0 G M_Stacks__told (by decide) (fe_var (pv 0))) fa_nil)))
    (fss_cons (fs_fld T.F (fe_var (pv 1)) (fe_dict (live := false) G T.n_dict (fa_cons (fe_lc (live := false) (own := [("name", 2), ("pile", 3)]) G (fi_itemsD (fe_fld T.F (fe_var (pv 0)))) (blkB (N' := ["self", "found", "name", "pile"]) (sc' := defScope s_Stacks__copied) rfl rfl (by decide +kernel)) (gix_tup (gix_cons gix_name (gix_cons gix_name gix_nil))) (fun s1 H1 D1 e1 p1 => (fg_tup (G.blk s1 H1 D1 e1 p1) (fgs_cons (fg_name 2 (G.blk s1 H1 D1 e1 p1).nd) (fgs_cons (fg_name 3 (G.blk s1 H1 D1 e1 p1).nd) fgs_nil)))) (fun s1 H1 D1 e1 p1 => fts_nil) (fun s1 H1 D1 e1 p1 => (fe_tup (fa_cons (fe_var (pv 2)) (fa_cons (fe_listc (live := true) T.n_list (fa_cons (fe_var (pv 3)) fa_nil)) fa_nil))))) fa_nil)))
    (fss_cons (fs_fld T.F (fe_var (pv 1)) (fe_dict (live := true) G T.n_dict (fa_cons (fe_fld T.F (fe_var (pv 0))) fa_nil)))
    (fss_one (fs_ret (fe_frz (fe_var (pv 1))))))))
/-! Stacks.names -/
abbrev s_Stacks__names : Stmt := inClass (top 32) 4
noncomputable def z_Stacks__names : DS := (sRet (eB (bSortedS true) (aCons (eB (bListK false) (aCons (eFld flT "known" (eVar 0)) aNil)) aNil)))
noncomputable def m_Stacks__names : GD := runD 1 z_Stacks__names
theorem sc_Stacks__names : FnScope ["self"] ["self"] (defScope s_Stacks__names) := ⟨rfl, rfl, rfl, by decide +kernel, rfl, by decide +kernel, by decide +kernel⟩
theorem ok_Stacks__names {f : Addr} {fd : FuncData} (F : Fun K "names" "Stacks.names" s_Stacks__names f fd) (T : Tx K mg cl)  : FnG P w K mg base 1 f fd ["self"] (spOf K cl 1 m_Stacks__names) :=
  def_ok (k := 0) F sc_Stacks__names rfl z_Stacks__names fun cdv A outer s H E W G =>
    (fss_one (fs_ret (fe_sortedS (live := true) T.n_sorted (fa_cons (fe_listK (live := false) G T.n_list (fa_cons (fe_fld T.F (fe_var (pv 0))) fa_nil)) fa_nil))))
/-! _law_off_right -/
abbrev s__law_off_right : Stmt := top 49
noncomputable def b__law_off_right_1 : DS := (sExpr (eM "list" mAppend (eVar 4) (aCons (eMeth "Stacks" "take" 2 m_Stacks__take [] (eVar 2) (aCons (eVar 3) aNil)) aNil)))
noncomputable def w__law_off_right_1 : DT := (tV (e2 (dNeX 1) (eMeth "Stacks" "boxes" 2 m_Stacks__boxes [] (eVar 2) (aCons (eVar 3) aNil)) (eLst aNil)))
noncomputable def b__law_off_right_2 : DS := (sSeq (sSet 4 (eLstL aNil))
    (sSeq (sWhile w__law_off_right_1 b__law_off_right_1)
    (sIf (tV (e2 (dNeX 0) (eB (bRepX 0) (aCons (eRev (eVar 4)) aNil)) (eB (bRepX 1) (aCons (e2 dIx (e2 dIx (eVar 1) (eC (.str "piles"))) (eVar 3)) aNil)))) (sRet (eC (.bl false))) sNext)))
noncomputable def z__law_off_right : DS := (sSeq (sSet 2 (eMeth "Stacks" "copied" 1 m_Stacks__copied [] (eVar 0) aNil))
    (sSeq (sFor (iLst (eMeth "Stacks" "names" 1 m_Stacks__names [] (eVar 2) aNil)) (gName 3) b__law_off_right_2)
    (sRet (eC (.bl true)))))
noncomputable def m__law_off_right : GD := runD 5 z__law_off_right
theorem sc__law_off_right : FnScope ["_law_stacks_here", "_law_own", "_law_other", "_law_name", "_law_found"] ["_law_stacks_here", "_law_own"] (defScope s__law_off_right) := ⟨rfl, rfl, rfl, by decide +kernel, rfl, by decide +kernel, by decide +kernel⟩
theorem ok__law_off_right {f : Addr} {fd : FuncData} (F : Fun K "_law_off_right" "_law_off_right" s__law_off_right f fd) (T : Tx K mg cl) (M_Stacks__boxes : CalM P w K mg base cl 2 2 "Stacks" "boxes" [] m_Stacks__boxes) (M_Stacks__copied : CalM P w K mg base cl 6 1 "Stacks" "copied" [] m_Stacks__copied) (M_Stacks__names : CalM P w K mg base cl 1 1 "Stacks" "names" [] m_Stacks__names) (M_Stacks__take : CalM P w K mg base cl 2 2 "Stacks" "take" [] m_Stacks__take) : FnG P w K mg base 7 f fd ["_law_stacks_here", "_law_own"] (spOf K cl 2 m__law_off_right) :=
  def_ok (k := 6) F sc__law_off_right rfl z__law_off_right fun cdv A outer s H E W G =>
    (fss_cons (fs_set (i := 2) G (fe_meth0 G M_Stacks__copied (by decide) (fe_var (pv 0))))
    (fss_cons (fs_for G (fi_lst (fe_meth0 G M_Stacks__names (by decide) (fe_var (pv 2)))) (fg_name 3 G.nd) (fss_cons (fs_set (i := 4) G (fe_lstL fa_nil))
    (fss_cons (fs_while G (ft_neX G (n := 1) (fe_meth G M_Stacks__boxes (by decide) (fe_var (pv 2)) (fa_cons (fe_var (pv 3)) fa_nil)) (fe_lst fa_nil)) (fss_one (fs_expr (fe_append (fe_var (pv 4)) (fa_cons (fe_meth G M_Stacks__take (by decide) (fe_var (pv 2)) (fa_cons (fe_var (pv 3)) fa_nil)) fa_nil)))))
    (fss_one (fs_if (ft_neX G (n := 0) (fe_repX (n := 0) G T.n_repr (fa_cons (fe_rev (fe_var (pv 4))) fa_nil)) (fe_repX (n := 1) G T.n_repr (fa_cons (fe_ix G (fe_ix G (fe_var (pv 1)) fe_str) (fe_var (pv 3))) fa_nil))) (fss_one (fs_ret fe_bl)) fss_nil)))))
    (fss_one (fs_ret fe_bl))))
/-! law -/
abbrev s_law : Stmt := top 50
noncomputable def b_law_1 : DS := (sSeq (sSet 6 (eCall 2 (pureD m__law_number) [] (aCons (eVar 0) (aCons (eVar 5) aNil))))
    (sSeq (sIf (tOrD (tNotD (tV (eCall 4 m__law_deed [] (aCons (eVar 3) (aCons (eVar 4) (aCons (eVar 2) (aCons (eVar 6) aNil))))))) (tNotD (tV (eCall 3 (gcD m__law_all_right) [] (aCons (eVar 3) (aCons (eVar 4) (aCons (eVar 2) aNil))))))) (sRet (eC (.bl false))) sNext)
    (sIf (tAndD (tV (e2 (dEqX 0) (e2 dMod (e2 dDiv (eVar 6) (eC (.int 9))) (eC (.int 8))) (eC (.int 1)))) (tNotD (tV (eCall 2 (gcD m__law_off_right) [] (aCons (eVar 3) (aCons (eVar 4) aNil)))))) (sRet (eC (.bl false))) sNext)))
noncomputable def z_law : DS := (sSeq (sSet 1 (eCall 2 (pureD m__law_stacks) [] (aCons (eVar 0) (aCons (eC (.int 100)) aNil))))
    (sSeq (sSet 2 (eCall 2 (pureD m__law_names) [] (aCons (eCall 2 (pureD m__law_number) [] (aCons (eVar 0) (aCons (eC (.int 90)) aNil))) (aCons (eC (.int 12)) aNil))))
    (sSeq (sSet 3 (eFrz (eMake "Stacks" 2 m_Stacks____init__ (aCons (eB (bList false) (aCons (eVar 1) aNil)) aNil))))
    (sSeq (sSet 4 (eCall 1 m__law_new [] (aCons (eVar 1) aNil)))
    (sSeq (sFor (iRange1 (aCons (e2 dAdd (eC (.int 1)) (eB bMin2 (aCons (eC (.int 63)) (aCons (eB bLen (aCons (eVar 0) aNil)) aNil)))) aNil)) (gName 5) b_law_1)
    (sRet (eAndD (eCall 2 (gcD m__law_off_right) [] (aCons (eVar 3) (aCons (eVar 4) aNil))) (eCall 3 (gcD m__law_all_right) [] (aCons (eVar 3) (aCons (eVar 4) (aCons (eVar 2) aNil)))))))))))
noncomputable def m_law : GD := runD 7 z_law
theorem sc_law : FnScope ["_law_script", "_law_told", "_law_boxes", "_law_stacks_here", "_law_own", "_law_k", "_law_cell"] ["_law_script"] (defScope s_law) := ⟨rfl, rfl, rfl, by decide +kernel, rfl, by decide +kernel, by decide +kernel⟩
theorem ok_law {f : Addr} {fd : FuncData} (F : Fun K "law" "law" s_law f fd) (T : Tx K mg cl) (C__law_all_right : Cal P w K mg base cl 4 3 "_law_all_right" m__law_all_right) (C__law_deed : Cal P w K mg base cl 5 4 "_law_deed" m__law_deed) (C__law_names : Cal P w K mg base cl 1 2 "_law_names" m__law_names) (C__law_new : Cal P w K mg base cl 1 1 "_law_new" m__law_new) (C__law_number : Cal P w K mg base cl 2 2 "_law_number" m__law_number) (C__law_off_right : Cal P w K mg base cl 7 2 "_law_off_right" m__law_off_right) (C__law_stacks : Cal P w K mg base cl 3 2 "_law_stacks" m__law_stacks) (N_Stacks : CalN P w K mg base cl 4 2 "Stacks" m_Stacks____init__) : FnG P w K mg base 8 f fd ["_law_script"] (spOf K cl 1 m_law) :=
  def_ok (k := 7) F sc_law rfl z_law fun cdv A outer s H E W G =>
    (fss_cons (fs_set (i := 1) G (fe_callC G C__law_stacks.pure (by decide) (fa_cons (fe_var (pv 0)) (fa_cons fe_int fa_nil))))
    (fss_cons (fs_set (i := 2) G (fe_callC G C__law_names.pure (by decide) (fa_cons (fe_callC G C__law_number.pure (by decide) (fa_cons (fe_var (pv 0)) (fa_cons fe_int fa_nil))) (fa_cons fe_int fa_nil))))
    (fss_cons (fs_set (i := 3) G (fe_frz (fe_make G N_Stacks (by decide) (fa_cons (fe_listc (live := false) T.n_list (fa_cons (fe_var (pv 1)) fa_nil)) fa_nil))))
    (fss_cons (fs_set (i := 4) G (fe_callC G C__law_new (by decide) (fa_cons (fe_var (pv 1)) fa_nil)))
    (fss_cons (fs_for G (fi_range1 T.n_range (fa_cons (fe_add fe_int (fe_min2 G T.n_min (fa_cons fe_int (fa_cons (fe_len T.n_len (fa_cons (fe_var (pv 0)) fa_nil)) fa_nil)))) fa_nil)) (fg_name 5 G.nd) (fss_cons (fs_set (i := 6) G (fe_callC G C__law_number.pure (by decide) (fa_cons (fe_var (pv 0)) (fa_cons (fe_var (pv 5)) fa_nil))))
    (fss_cons (fs_if (ft_w (fw_or (ft_not (ft_val (fe_callC G C__law_deed (by decide) (fa_cons (fe_var (pv 3)) (fa_cons (fe_var (pv 4)) (fa_cons (fe_var (pv 2)) (fa_cons (fe_var (pv 6)) fa_nil))))))) (fw_or1 (ft_not (ft_val (fe_callC G C__law_all_right.gc (by decide) (fa_cons (fe_var (pv 3)) (fa_cons (fe_var (pv 4)) (fa_cons (fe_var (pv 2)) fa_nil))))))))) (fss_one (fs_ret fe_bl)) fss_nil)
    (fss_one (fs_if (ft_w (fw_and (ft_eqX G (n := 0) (fe_mod (fe_div (fe_var (pv 6)) fe_int) fe_int) fe_int) (fw_and1 (ft_not (ft_val (fe_callC G C__law_off_right.gc (by decide) (fa_cons (fe_var (pv 3)) (fa_cons (fe_var (pv 4)) fa_nil)))))))) (fss_one (fs_ret fe_bl)) fss_nil)))))
    (fss_one (fs_ret (fe_and (fe_callC G C__law_off_right.gc (by decide) (fa_cons (fe_var (pv 3)) (fa_cons (fe_var (pv 4)) fa_nil))) (fe_one (fe_callC G C__law_all_right.gc (by decide) (fa_cons (fe_var (pv 3)) (fa_cons (fe_var (pv 4)) (fa_cons (fe_var (pv 2)) fa_nil)))))))))))))
end
set_option maxHeartbeats 0 in
theorem all_mk {l : PySem.W.OpenLaw} {w : World} {K : PySem.W.Frag} {h : Heap} {mg : Str → Option Value} {fa f0 f1 f2 f3 f4 f5 f6 f7 f8 f9 f10 f11 f12 f13 f14 f15 f16 f17 f18 f19 f20 f21 f22 f23 f24 f25 f26 f27 f28 f29 f30 f31 f32 A_Stacks A_CraneError A_BadName A_BadNumber A_BadRail A_BadStack A_BadPlaces A_BadText A_Twice A_NoCrane A_NoStack A_NoBox A_NoJob A_Same A_Buried A_TooHigh A_TooHeavy A_Empty A_NoReach A_BadJournal : Addr} (X : K.In h) (G : h.Ns mainGlobals mg) (hfa : mg "law" = some (.ref fa))
    {od0 an0 od1 an1 od2 an2 od3 an3 od4 an4 od5 an5 od6 an6 od7 an7 od8 an8 od9 an9 od10 an10 od11 an11 od12 an12 od13 an13 od14 an14 od15 an15 od16 an16 od17 an17 od18 an18 od19 an19 od20 an20 od21 an21 od22 an22 od23 an23 od24 an24 od25 an25 od26 an26 od27 an27 od28 an28 od29 an29 od30 an30 od31 an31 od32 an32 : Option Addr} {sl0 sl1 sl2 sl3 sl4 sl5 sl6 sl7 sl8 sl9 sl10 sl11 sl12 sl13 sl14 sl15 sl16 sl17 sl18 sl19 sl20 sl21 sl22 sl23 sl24 sl25 sl26 sl27 sl28 sl29 sl30 sl31 sl32 : Array (Option Value)} {oc0 kV0 dc0 pm0 cd0 ct0 oc1 kV1 dc1 pm1 cd1 ct1 oc2 kV2 dc2 pm2 cd2 ct2 oc3 kV3 dc3 pm3 cd3 ct3 oc4 kV4 dc4 pm4 cd4 ct4 oc5 kV5 dc5 pm5 cd5 ct5 oc6 kV6 dc6 pm6 cd6 ct6 oc7 kV7 dc7 pm7 cd7 ct7 oc8 kV8 dc8 pm8 cd8 ct8 oc9 kV9 dc9 pm9 cd9 ct9 oc10 kV10 dc10 pm10 cd10 ct10 oc11 kV11 dc11 pm11 cd11 ct11 oc12 kV12 dc12 pm12 cd12 ct12 oc13 kV13 dc13 pm13 cd13 ct13 oc14 kV14 dc14 pm14 cd14 ct14 oc15 kV15 dc15 pm15 cd15 ct15 oc16 kV16 dc16 pm16 cd16 ct16 oc17 kV17 dc17 pm17 cd17 ct17 oc18 kV18 dc18 pm18 cd18 ct18 oc19 kV19 dc19 pm19 cd19 ct19 oc20 kV20 dc20 pm20 cd20 ct20 oc21 kV21 dc21 pm21 cd21 ct21 oc22 kV22 dc22 pm22 cd22 ct22 oc23 kV23 dc23 pm23 cd23 ct23 oc24 kV24 dc24 pm24 cd24 ct24 oc25 kV25 dc25 pm25 cd25 ct25 oc26 kV26 dc26 pm26 cd26 ct26 oc27 kV27 dc27 pm27 cd27 ct27 oc28 kV28 dc28 pm28 cd28 ct28 oc29 kV29 dc29 pm29 cd29 ct29 oc30 kV30 dc30 pm30 cd30 ct30 oc31 kV31 dc31 pm31 cd31 ct31 oc32 kV32 dc32 pm32 cd32 ct32 : Value}
    {t_LETTERS t_MOST_HIGH t_MOST_LETTERS t_MOST_STACKS : Tok}
    (x_Stacks : PySem.W.nsIn K mainGlobals "Stacks" = some (some (.ref A_Stacks)))
    (x_CraneError : PySem.W.nsIn K mainGlobals "CraneError" = some (some (.ref A_CraneError)))
    (x_BadName : PySem.W.nsIn K mainGlobals "BadName" = some (some (.ref A_BadName)))
    (x_BadNumber : PySem.W.nsIn K mainGlobals "BadNumber" = some (some (.ref A_BadNumber)))
    (x_BadRail : PySem.W.nsIn K mainGlobals "BadRail" = some (some (.ref A_BadRail)))
    (x_BadStack : PySem.W.nsIn K mainGlobals "BadStack" = some (some (.ref A_BadStack)))
    (x_BadPlaces : PySem.W.nsIn K mainGlobals "BadPlaces" = some (some (.ref A_BadPlaces)))
    (x_BadText : PySem.W.nsIn K mainGlobals "BadText" = some (some (.ref A_BadText)))
    (x_Twice : PySem.W.nsIn K mainGlobals "Twice" = some (some (.ref A_Twice)))
    (x_NoCrane : PySem.W.nsIn K mainGlobals "NoCrane" = some (some (.ref A_NoCrane)))
    (x_NoStack : PySem.W.nsIn K mainGlobals "NoStack" = some (some (.ref A_NoStack)))
    (x_NoBox : PySem.W.nsIn K mainGlobals "NoBox" = some (some (.ref A_NoBox)))
    (x_NoJob : PySem.W.nsIn K mainGlobals "NoJob" = some (some (.ref A_NoJob)))
    (x_Same : PySem.W.nsIn K mainGlobals "Same" = some (some (.ref A_Same)))
    (x_Buried : PySem.W.nsIn K mainGlobals "Buried" = some (some (.ref A_Buried)))
    (x_TooHigh : PySem.W.nsIn K mainGlobals "TooHigh" = some (some (.ref A_TooHigh)))
    (x_TooHeavy : PySem.W.nsIn K mainGlobals "TooHeavy" = some (some (.ref A_TooHeavy)))
    (x_Empty : PySem.W.nsIn K mainGlobals "Empty" = some (some (.ref A_Empty)))
    (x_NoReach : PySem.W.nsIn K mainGlobals "NoReach" = some (some (.ref A_NoReach)))
    (x_BadJournal : PySem.W.nsIn K mainGlobals "BadJournal" = some (some (.ref A_BadJournal)))
    (a0 : PySem.W.nsIn K mainGlobals "_law_mixed" = some (some (.ref f0)))
    (l0 : K.lookup f0 = some ⟨oc0, od0, .func (PySem.W.fnOf "_law_mixed" "_law_mixed" (defArgs s__law_mixed) (defBody s__law_mixed) (defScope s__law_mixed) .none kV0 dc0 pm0 an0 cd0 ct0), sl0⟩) (c0 : PySem.W.codeIn K cd0 "_law_mixed" = true) (k0 : PySem.W.keepIn K (.ref f0) = true)
    (a1 : PySem.W.nsIn K mainGlobals "_law_number" = some (some (.ref f1)))
    (l1 : K.lookup f1 = some ⟨oc1, od1, .func (PySem.W.fnOf "_law_number" "_law_number" (defArgs s__law_number) (defBody s__law_number) (defScope s__law_number) .none kV1 dc1 pm1 an1 cd1 ct1), sl1⟩) (c1 : PySem.W.codeIn K cd1 "_law_number" = true) (k1 : PySem.W.keepIn K (.ref f1) = true)
    (a2 : PySem.W.nsIn K mainGlobals "_law_names" = some (some (.ref f2)))
    (l2 : K.lookup f2 = some ⟨oc2, od2, .func (PySem.W.fnOf "_law_names" "_law_names" (defArgs s__law_names) (defBody s__law_names) (defScope s__law_names) .none kV2 dc2 pm2 an2 cd2 ct2), sl2⟩) (c2 : PySem.W.codeIn K cd2 "_law_names" = true) (k2 : PySem.W.keepIn K (.ref f2) = true)
    (a3 : PySem.W.nsIn K mainGlobals "_law_stacks" = some (some (.ref f3)))
    (l3 : K.lookup f3 = some ⟨oc3, od3, .func (PySem.W.fnOf "_law_stacks" "_law_stacks" (defArgs s__law_stacks) (defBody s__law_stacks) (defScope s__law_stacks) .none kV3 dc3 pm3 an3 cd3 ct3), sl3⟩) (c3 : PySem.W.codeIn K cd3 "_law_stacks" = true) (k3 : PySem.W.keepIn K (.ref f3) = true)
    (a4 : PySem.W.nsIn K mainGlobals "is_name" = some (some (.ref f4)))
    (l4 : K.lookup f4 = some ⟨oc4, od4, .func (PySem.W.fnOf "is_name" "is_name" (defArgs s_is_name) (defBody s_is_name) (defScope s_is_name) .none kV4 dc4 pm4 an4 cd4 ct4), sl4⟩) (c4 : PySem.W.codeIn K cd4 "is_name" = true) (k4 : PySem.W.keepIn K (.ref f4) = true)
    (a5 : PySem.W.nsIn K mainGlobals "is_among" = some (some (.ref f5)))
    (l5 : K.lookup f5 = some ⟨oc5, od5, .func (PySem.W.fnOf "is_among" "is_among" (defArgs s_is_among) (defBody s_is_among) (defScope s_is_among) .none kV5 dc5 pm5 an5 cd5 ct5), sl5⟩) (c5 : PySem.W.codeIn K cd5 "is_among" = true) (k5 : PySem.W.keepIn K (.ref f5) = true)
    (a6 : PySem.W.nsIn K mainGlobals "is_stack" = some (some (.ref f6)))
    (l6 : K.lookup f6 = some ⟨oc6, od6, .func (PySem.W.fnOf "is_stack" "is_stack" (defArgs s_is_stack) (defBody s_is_stack) (defScope s_is_stack) .none kV6 dc6 pm6 an6 cd6 ct6), sl6⟩) (c6 : PySem.W.codeIn K cd6 "is_stack" = true) (k6 : PySem.W.keepIn K (.ref f6) = true)
    (a7 : PySem.W.nsIn K mainGlobals "are_stacks" = some (some (.ref f7)))
    (l7 : K.lookup f7 = some ⟨oc7, od7, .func (PySem.W.fnOf "are_stacks" "are_stacks" (defArgs s_are_stacks) (defBody s_are_stacks) (defScope s_are_stacks) .none kV7 dc7 pm7 an7 cd7 ct7), sl7⟩) (c7 : PySem.W.codeIn K cd7 "are_stacks" = true) (k7 : PySem.W.keepIn K (.ref f7) = true)
    (a8 : PySem.W.findIn K (.ref A_Stacks) "__init__" = some (some (.ref f8))) (i8 : PySem.W.isFn K (.ref f8) = true)
    (l8 : K.lookup f8 = some ⟨oc8, od8, .func (PySem.W.fnOf "__init__" "Stacks.__init__" (defArgs s_Stacks____init__) (defBody s_Stacks____init__) (defScope s_Stacks____init__) .none kV8 dc8 pm8 an8 cd8 ct8), sl8⟩) (c8 : PySem.W.codeIn K cd8 "Stacks.__init__" = true) (k8 : PySem.W.keepIn K (.ref f8) = true)
    (a9 : PySem.W.nsIn K mainGlobals "_law_new" = some (some (.ref f9)))
    (l9 : K.lookup f9 = some ⟨oc9, od9, .func (PySem.W.fnOf "_law_new" "_law_new" (defArgs s__law_new) (defBody s__law_new) (defScope s__law_new) .none kV9 dc9 pm9 an9 cd9 ct9), sl9⟩) (c9 : PySem.W.codeIn K cd9 "_law_new" = true) (k9 : PySem.W.keepIn K (.ref f9) = true)
    (a10 : PySem.W.nsIn K mainGlobals "_law_weight" = some (some (.ref f10)))
    (l10 : K.lookup f10 = some ⟨oc10, od10, .func (PySem.W.fnOf "_law_weight" "_law_weight" (defArgs s__law_weight) (defBody s__law_weight) (defScope s__law_weight) .none kV10 dc10 pm10 an10 cd10 ct10), sl10⟩) (c10 : PySem.W.codeIn K cd10 "_law_weight" = true) (k10 : PySem.W.keepIn K (.ref f10) = true)
    (a11 : PySem.W.nsIn K mainGlobals "_law_of" = some (some (.ref f11)))
    (l11 : K.lookup f11 = some ⟨oc11, od11, .func (PySem.W.fnOf "_law_of" "_law_of" (defArgs s__law_of) (defBody s__law_of) (defScope s__law_of) .none kV11 dc11 pm11 an11 cd11 ct11), sl11⟩) (c11 : PySem.W.codeIn K cd11 "_law_of" = true) (k11 : PySem.W.keepIn K (.ref f11) = true)
    (a12 : PySem.W.nsIn K mainGlobals "_law_where" = some (some (.ref f12)))
    (l12 : K.lookup f12 = some ⟨oc12, od12, .func (PySem.W.fnOf "_law_where" "_law_where" (defArgs s__law_where) (defBody s__law_where) (defScope s__law_where) .none kV12 dc12 pm12 an12 cd12 ct12), sl12⟩) (c12 : PySem.W.codeIn K cd12 "_law_where" = true) (k12 : PySem.W.keepIn K (.ref f12) = true)
    (a13 : PySem.W.nsIn K mainGlobals "_law_due" = some (some (.ref f13)))
    (l13 : K.lookup f13 = some ⟨oc13, od13, .func (PySem.W.fnOf "_law_due" "_law_due" (defArgs s__law_due) (defBody s__law_due) (defScope s__law_due) .none kV13 dc13 pm13 an13 cd13 ct13), sl13⟩) (c13 : PySem.W.codeIn K cd13 "_law_due" = true) (k13 : PySem.W.keepIn K (.ref f13) = true)
    (a14 : PySem.W.findIn K (.ref A_Stacks) "need_stack" = some (some (.ref f14))) (i14 : PySem.W.isFn K (.ref f14) = true)
    (l14 : K.lookup f14 = some ⟨oc14, od14, .func (PySem.W.fnOf "need_stack" "Stacks.need_stack" (defArgs s_Stacks__need_stack) (defBody s_Stacks__need_stack) (defScope s_Stacks__need_stack) .none kV14 dc14 pm14 an14 cd14 ct14), sl14⟩) (c14 : PySem.W.codeIn K cd14 "Stacks.need_stack" = true) (k14 : PySem.W.keepIn K (.ref f14) = true)
    (a15 : PySem.W.findIn K (.ref A_Stacks) "high" = some (some (.ref f15))) (i15 : PySem.W.isFn K (.ref f15) = true)
    (l15 : K.lookup f15 = some ⟨oc15, od15, .func (PySem.W.fnOf "high" "Stacks.high" (defArgs s_Stacks__high) (defBody s_Stacks__high) (defScope s_Stacks__high) .none kV15 dc15 pm15 an15 cd15 ct15), sl15⟩) (c15 : PySem.W.codeIn K cd15 "Stacks.high" = true) (k15 : PySem.W.keepIn K (.ref f15) = true)
    (a16 : PySem.W.findIn K (.ref A_Stacks) "weight" = some (some (.ref f16))) (i16 : PySem.W.isFn K (.ref f16) = true)
    (l16 : K.lookup f16 = some ⟨oc16, od16, .func (PySem.W.fnOf "weight" "Stacks.weight" (defArgs s_Stacks__weight) (defBody s_Stacks__weight) (defScope s_Stacks__weight) .none kV16 dc16 pm16 an16 cd16 ct16), sl16⟩) (c16 : PySem.W.codeIn K cd16 "Stacks.weight" = true) (k16 : PySem.W.keepIn K (.ref f16) = true)
    (a17 : PySem.W.findIn K (.ref A_Stacks) "put" = some (some (.ref f17))) (i17 : PySem.W.isFn K (.ref f17) = true)
    (l17 : K.lookup f17 = some ⟨oc17, od17, .func (PySem.W.fnOf "put" "Stacks.put" (defArgs s_Stacks__put) (defBody s_Stacks__put) (defScope s_Stacks__put) .none kV17 dc17 pm17 an17 cd17 ct17), sl17⟩) (c17 : PySem.W.codeIn K cd17 "Stacks.put" = true) (k17 : PySem.W.keepIn K (.ref f17) = true)
    (a18 : PySem.W.findIn K (.ref A_Stacks) "take" = some (some (.ref f18))) (i18 : PySem.W.isFn K (.ref f18) = true)
    (l18 : K.lookup f18 = some ⟨oc18, od18, .func (PySem.W.fnOf "take" "Stacks.take" (defArgs s_Stacks__take) (defBody s_Stacks__take) (defScope s_Stacks__take) .none kV18 dc18 pm18 an18 cd18 ct18), sl18⟩) (c18 : PySem.W.codeIn K cd18 "Stacks.take" = true) (k18 : PySem.W.keepIn K (.ref f18) = true)
    (a19 : PySem.W.nsIn K mainGlobals "_law_kind" = some (some (.ref f19)))
    (l19 : K.lookup f19 = some ⟨oc19, od19, .func (PySem.W.fnOf "_law_kind" "_law_kind" (defArgs s__law_kind) (defBody s__law_kind) (defScope s__law_kind) .none kV19 dc19 pm19 an19 cd19 ct19), sl19⟩) (c19 : PySem.W.codeIn K cd19 "_law_kind" = true) (k19 : PySem.W.keepIn K (.ref f19) = true)
    (a20 : PySem.W.nsIn K mainGlobals "_law_done" = some (some (.ref f20)))
    (l20 : K.lookup f20 = some ⟨oc20, od20, .func (PySem.W.fnOf "_law_done" "_law_done" (defArgs s__law_done) (defBody s__law_done) (defScope s__law_done) .none kV20 dc20 pm20 an20 cd20 ct20), sl20⟩) (c20 : PySem.W.codeIn K cd20 "_law_done" = true) (k20 : PySem.W.keepIn K (.ref f20) = true)
    (a21 : PySem.W.nsIn K mainGlobals "_law_deed" = some (some (.ref f21)))
    (l21 : K.lookup f21 = some ⟨oc21, od21, .func (PySem.W.fnOf "_law_deed" "_law_deed" (defArgs s__law_deed) (defBody s__law_deed) (defScope s__law_deed) .none kV21 dc21 pm21 an21 cd21 ct21), sl21⟩) (c21 : PySem.W.codeIn K cd21 "_law_deed" = true) (k21 : PySem.W.keepIn K (.ref f21) = true)
    (a22 : PySem.W.findIn K (.ref A_Stacks) "boxes" = some (some (.ref f22))) (i22 : PySem.W.isFn K (.ref f22) = true)
    (l22 : K.lookup f22 = some ⟨oc22, od22, .func (PySem.W.fnOf "boxes" "Stacks.boxes" (defArgs s_Stacks__boxes) (defBody s_Stacks__boxes) (defScope s_Stacks__boxes) .none kV22 dc22 pm22 an22 cd22 ct22), sl22⟩) (c22 : PySem.W.codeIn K cd22 "Stacks.boxes" = true) (k22 : PySem.W.keepIn K (.ref f22) = true)
    (a23 : PySem.W.findIn K (.ref A_Stacks) "need_box" = some (some (.ref f23))) (i23 : PySem.W.isFn K (.ref f23) = true)
    (l23 : K.lookup f23 = some ⟨oc23, od23, .func (PySem.W.fnOf "need_box" "Stacks.need_box" (defArgs s_Stacks__need_box) (defBody s_Stacks__need_box) (defScope s_Stacks__need_box) .none kV23 dc23 pm23 an23 cd23 ct23), sl23⟩) (c23 : PySem.W.codeIn K cd23 "Stacks.need_box" = true) (k23 : PySem.W.keepIn K (.ref f23) = true)
    (a24 : PySem.W.findIn K (.ref A_Stacks) "is_top" = some (some (.ref f24))) (i24 : PySem.W.isFn K (.ref f24) = true)
    (l24 : K.lookup f24 = some ⟨oc24, od24, .func (PySem.W.fnOf "is_top" "Stacks.is_top" (defArgs s_Stacks__is_top) (defBody s_Stacks__is_top) (defScope s_Stacks__is_top) .none kV24 dc24 pm24 an24 cd24 ct24), sl24⟩) (c24 : PySem.W.codeIn K cd24 "Stacks.is_top" = true) (k24 : PySem.W.keepIn K (.ref f24) = true)
    (a25 : PySem.W.findIn K (.ref A_Stacks) "where" = some (some (.ref f25))) (i25 : PySem.W.isFn K (.ref f25) = true)
    (l25 : K.lookup f25 = some ⟨oc25, od25, .func (PySem.W.fnOf "where" "Stacks.where" (defArgs s_Stacks__where) (defBody s_Stacks__where) (defScope s_Stacks__where) .none kV25 dc25 pm25 an25 cd25 ct25), sl25⟩) (c25 : PySem.W.codeIn K cd25 "Stacks.where" = true) (k25 : PySem.W.keepIn K (.ref f25) = true)
    (a26 : PySem.W.nsIn K mainGlobals "_law_box_right" = some (some (.ref f26)))
    (l26 : K.lookup f26 = some ⟨oc26, od26, .func (PySem.W.fnOf "_law_box_right" "_law_box_right" (defArgs s__law_box_right) (defBody s__law_box_right) (defScope s__law_box_right) .none kV26 dc26 pm26 an26 cd26 ct26), sl26⟩) (c26 : PySem.W.codeIn K cd26 "_law_box_right" = true) (k26 : PySem.W.keepIn K (.ref f26) = true)
    (a27 : PySem.W.nsIn K mainGlobals "_law_all_right" = some (some (.ref f27)))
    (l27 : K.lookup f27 = some ⟨oc27, od27, .func (PySem.W.fnOf "_law_all_right" "_law_all_right" (defArgs s__law_all_right) (defBody s__law_all_right) (defScope s__law_all_right) .none kV27 dc27 pm27 an27 cd27 ct27), sl27⟩) (c27 : PySem.W.codeIn K cd27 "_law_all_right" = true) (k27 : PySem.W.keepIn K (.ref f27) = true)
    (a28 : PySem.W.findIn K (.ref A_Stacks) "told" = some (some (.ref f28))) (i28 : PySem.W.isFn K (.ref f28) = true)
    (l28 : K.lookup f28 = some ⟨oc28, od28, .func (PySem.W.fnOf "told" "Stacks.told" (defArgs s_Stacks__told) (defBody s_Stacks__told) (defScope s_Stacks__told) .none kV28 dc28 pm28 an28 cd28 ct28), sl28⟩) (c28 : PySem.W.codeIn K cd28 "Stacks.told" = true) (k28 : PySem.W.keepIn K (.ref f28) = true)
    (a29 : PySem.W.findIn K (.ref A_Stacks) "copied" = some (some (.ref f29))) (i29 : PySem.W.isFn K (.ref f29) = true)
    (l29 : K.lookup f29 = some ⟨oc29, od29, .func (PySem.W.fnOf "copied" "Stacks.copied" (defArgs s_Stacks__copied) (defBody s_Stacks__copied) (defScope s_Stacks__copied) .none kV29 dc29 pm29 an29 cd29 ct29), sl29⟩) (c29 : PySem.W.codeIn K cd29 "Stacks.copied" = true) (k29 : PySem.W.keepIn K (.ref f29) = true)
    (a30 : PySem.W.findIn K (.ref A_Stacks) "names" = some (some (.ref f30))) (i30 : PySem.W.isFn K (.ref f30) = true)
    (l30 : K.lookup f30 = some ⟨oc30, od30, .func (PySem.W.fnOf "names" "Stacks.names" (defArgs s_Stacks__names) (defBody s_Stacks__names) (defScope s_Stacks__names) .none kV30 dc30 pm30 an30 cd30 ct30), sl30⟩) (c30 : PySem.W.codeIn K cd30 "Stacks.names" = true) (k30 : PySem.W.keepIn K (.ref f30) = true)
    (a31 : PySem.W.nsIn K mainGlobals "_law_off_right" = some (some (.ref f31)))
    (l31 : K.lookup f31 = some ⟨oc31, od31, .func (PySem.W.fnOf "_law_off_right" "_law_off_right" (defArgs s__law_off_right) (defBody s__law_off_right) (defScope s__law_off_right) .none kV31 dc31 pm31 an31 cd31 ct31), sl31⟩) (c31 : PySem.W.codeIn K cd31 "_law_off_right" = true) (k31 : PySem.W.keepIn K (.ref f31) = true)
    (a32 : PySem.W.nsIn K mainGlobals "law" = some (some (.ref f32)))
    (l32 : K.lookup f32 = some ⟨oc32, od32, .func (PySem.W.fnOf "law" "law" (defArgs s_law) (defBody s_law) (defScope s_law) .none kV32 dc32 pm32 an32 cd32 ct32), sl32⟩) (c32 : PySem.W.codeIn K cd32 "law" = true) (k32 : PySem.W.keepIn K (.ref f32) = true)
    (n_ValueError : PySem.W.nsIn K mainGlobals "ValueError" = some none)
    (n_all : PySem.W.nsIn K mainGlobals "all" = some none)
    (n_bool : PySem.W.nsIn K mainGlobals "bool" = some none)
    (n_dict : PySem.W.nsIn K mainGlobals "dict" = some none)
    (n_int : PySem.W.nsIn K mainGlobals "int" = some none)
    (n_isinstance : PySem.W.nsIn K mainGlobals "isinstance" = some none)
    (n_len : PySem.W.nsIn K mainGlobals "len" = some none)
    (n_list : PySem.W.nsIn K mainGlobals "list" = some none)
    (n_min : PySem.W.nsIn K mainGlobals "min" = some none)
    (n_range : PySem.W.nsIn K mainGlobals "range" = some none)
    (n_repr : PySem.W.nsIn K mainGlobals "repr" = some none)
    (n_set : PySem.W.nsIn K mainGlobals "set" = some none)
    (n_sorted : PySem.W.nsIn K mainGlobals "sorted" = some none)
    (n_str : PySem.W.nsIn K mainGlobals "str" = some none)
    (n_sum : PySem.W.nsIn K mainGlobals "sum" = some none)
    (n_tuple : PySem.W.nsIn K mainGlobals "tuple" = some none)
    (c_LETTERS : PySem.W.nsIn K mainGlobals "LETTERS" = some (some (.str "abcdefghijklmnopqrstuvwxyz" t_LETTERS)))
    (c_MOST_HIGH : PySem.W.nsIn K mainGlobals "MOST_HIGH" = some (some (.int 20 t_MOST_HIGH)))
    (c_MOST_LETTERS : PySem.W.nsIn K mainGlobals "MOST_LETTERS" = some (some (.int 8 t_MOST_LETTERS)))
    (c_MOST_NUMBER : ∃ t, mg "MOST_NUMBER" = some (.int 1000000000000 t))
    (c_MOST_STACKS : PySem.W.nsIn K mainGlobals "MOST_STACKS" = some (some (.int 20 t_MOST_STACKS)))
    (mk_Stacks : PySem.W.makesIn K A_Stacks = true) (kp_Stacks : PySem.W.keepIn K (.ref A_Stacks) = true) (pg_Stacks : PySem.W.plainGet K A_Stacks Str.empty = true) (hd_Stacks : PySem.W.hasDictIn K A_Stacks = true) (po_Stacks : PySem.W.plainOver K A_Stacks = true) (sa_Stacks : PySem.W.findIn K (.ref A_Stacks) "__setattr__" = some (some (.builtin "object.__setattr__")))
    (f_Stacks_known : PySem.W.findIn K (.ref A_Stacks) "known" = some none)
    (f_Stacks_piles : PySem.W.findIn K (.ref A_Stacks) "piles" = some none)
    (f_Stacks_spots : PySem.W.findIn K (.ref A_Stacks) "spots" = some none)
    (xk : excAll K [("CraneError", A_CraneError), ("BadName", A_BadName), ("BadNumber", A_BadNumber), ("BadRail", A_BadRail), ("BadStack", A_BadStack), ("BadPlaces", A_BadPlaces), ("BadText", A_BadText), ("Twice", A_Twice), ("NoCrane", A_NoCrane), ("NoStack", A_NoStack), ("NoBox", A_NoBox), ("NoJob", A_NoJob), ("Same", A_Same), ("Buried", A_Buried), ("TooHigh", A_TooHigh), ("TooHeavy", A_TooHeavy), ("Empty", A_Empty), ("NoReach", A_NoReach), ("BadJournal", A_BadJournal)] [("CraneError", A_CraneError), ("BadName", A_BadName), ("BadNumber", A_BadNumber), ("BadRail", A_BadRail), ("BadStack", A_BadStack), ("BadPlaces", A_BadPlaces), ("Twice", A_Twice), ("NoCrane", A_NoCrane), ("NoStack", A_NoStack), ("NoBox", A_NoBox), ("NoJob", A_NoJob), ("Same", A_Same), ("Buried", A_Buried), ("TooHigh", A_TooHigh), ("TooHeavy", A_TooHeavy), ("Empty", A_Empty), ("NoReach", A_NoReach)] = true)
    : ∃ (fd : FuncData) (cl : Cl), (∀ (s : Shared) (u : Value), BindsTo s fd ⟨[u], []⟩ [("_law_script", u)]) ∧ ∀ base : Heap, K.In base → base.Ns mainGlobals mg → FnG l.prog w K mg base 8 fa fd ["_law_script"] (spOf K cl 1 m_law) := by
  have e := hfa.symm.trans (PySem.W.mg_of X G a32)
  cases e
  let cl : Cl := fun x => ([("Stacks", A_Stacks), ("CraneError", A_CraneError), ("BadName", A_BadName), ("BadNumber", A_BadNumber), ("BadRail", A_BadRail), ("BadStack", A_BadStack), ("BadPlaces", A_BadPlaces), ("BadText", A_BadText), ("Twice", A_Twice), ("NoCrane", A_NoCrane), ("NoStack", A_NoStack), ("NoBox", A_NoBox), ("NoJob", A_NoJob), ("Same", A_Same), ("Buried", A_Buried), ("TooHigh", A_TooHigh), ("TooHeavy", A_TooHeavy), ("Empty", A_Empty), ("NoReach", A_NoReach), ("BadJournal", A_BadJournal)] : List (Str × Addr)).lookup x
  have xt : ETab K mg cl exT plT := excs_of (l := [("CraneError", A_CraneError), ("BadName", A_BadName), ("BadNumber", A_BadNumber), ("BadRail", A_BadRail), ("BadStack", A_BadStack), ("BadPlaces", A_BadPlaces), ("BadText", A_BadText), ("Twice", A_Twice), ("NoCrane", A_NoCrane), ("NoStack", A_NoStack), ("NoBox", A_NoBox), ("NoJob", A_NoJob), ("Same", A_Same), ("Buried", A_Buried), ("TooHigh", A_TooHigh), ("TooHeavy", A_TooHeavy), ("Empty", A_Empty), ("NoReach", A_NoReach), ("BadJournal", A_BadJournal)]) (p := [("CraneError", A_CraneError), ("BadName", A_BadName), ("BadNumber", A_BadNumber), ("BadRail", A_BadRail), ("BadStack", A_BadStack), ("BadPlaces", A_BadPlaces), ("Twice", A_Twice), ("NoCrane", A_NoCrane), ("NoStack", A_NoStack), ("NoBox", A_NoBox), ("NoJob", A_NoJob), ("Same", A_Same), ("Buried", A_Buried), ("TooHigh", A_TooHigh), ("TooHeavy", A_TooHeavy), ("Empty", A_Empty), ("NoReach", A_NoReach)]) xk rfl rfl (fun x hx => by
    simp only [List.mem_cons, List.not_mem_nil, or_false] at hx ⊢
    rcases hx with h | h | h | h | h | h | h | h | h | h | h | h | h | h | h | h | h <;> simp [h]) (fun C a hm => by
    simp only [List.mem_cons, List.not_mem_nil, or_false, Prod.mk.injEq] at hm
    rcases hm with ⟨rfl, rfl⟩ | ⟨rfl, rfl⟩ | ⟨rfl, rfl⟩ | ⟨rfl, rfl⟩ | ⟨rfl, rfl⟩ | ⟨rfl, rfl⟩ | ⟨rfl, rfl⟩ | ⟨rfl, rfl⟩ | ⟨rfl, rfl⟩ | ⟨rfl, rfl⟩ | ⟨rfl, rfl⟩ | ⟨rfl, rfl⟩ | ⟨rfl, rfl⟩ | ⟨rfl, rfl⟩ | ⟨rfl, rfl⟩ | ⟨rfl, rfl⟩ | ⟨rfl, rfl⟩ | ⟨rfl, rfl⟩ | ⟨rfl, rfl⟩
    · exact ⟨rfl, PySem.W.mg_of X G x_CraneError⟩
    · exact ⟨rfl, PySem.W.mg_of X G x_BadName⟩
    · exact ⟨rfl, PySem.W.mg_of X G x_BadNumber⟩
    · exact ⟨rfl, PySem.W.mg_of X G x_BadRail⟩
    · exact ⟨rfl, PySem.W.mg_of X G x_BadStack⟩
    · exact ⟨rfl, PySem.W.mg_of X G x_BadPlaces⟩
    · exact ⟨rfl, PySem.W.mg_of X G x_BadText⟩
    · exact ⟨rfl, PySem.W.mg_of X G x_Twice⟩
    · exact ⟨rfl, PySem.W.mg_of X G x_NoCrane⟩
    · exact ⟨rfl, PySem.W.mg_of X G x_NoStack⟩
    · exact ⟨rfl, PySem.W.mg_of X G x_NoBox⟩
    · exact ⟨rfl, PySem.W.mg_of X G x_NoJob⟩
    · exact ⟨rfl, PySem.W.mg_of X G x_Same⟩
    · exact ⟨rfl, PySem.W.mg_of X G x_Buried⟩
    · exact ⟨rfl, PySem.W.mg_of X G x_TooHigh⟩
    · exact ⟨rfl, PySem.W.mg_of X G x_TooHeavy⟩
    · exact ⟨rfl, PySem.W.mg_of X G x_Empty⟩
    · exact ⟨rfl, PySem.W.mg_of X G x_NoReach⟩
    · exact ⟨rfl, PySem.W.mg_of X G x_BadJournal⟩
    )
  have ft : CTab K cl flT := ctab_of (fun x hx => by
    simp only [flT, List.mem_cons, List.not_mem_nil, or_false] at hx
    rcases hx with rfl
    · refine ⟨A_Stacks, rfl, ⟨pg_Stacks, hd_Stacks, po_Stacks, sa_Stacks⟩, fun f hf => ?_⟩
      simp only [List.mem_cons, List.not_mem_nil, or_false] at hf
      rcases hf with rfl | rfl | rfl
      · exact f_Stacks_known
      · exact f_Stacks_piles
      · exact f_Stacks_spots
    )
  have T : Tx K mg cl := ⟨PySem.W.mg_none_of X G n_ValueError, PySem.W.mg_none_of X G n_all, PySem.W.mg_none_of X G n_bool, PySem.W.mg_none_of X G n_dict, PySem.W.mg_none_of X G n_int, PySem.W.mg_none_of X G n_isinstance, PySem.W.mg_none_of X G n_len, PySem.W.mg_none_of X G n_list, PySem.W.mg_none_of X G n_min, PySem.W.mg_none_of X G n_range, PySem.W.mg_none_of X G n_repr, PySem.W.mg_none_of X G n_set, PySem.W.mg_none_of X G n_sorted, PySem.W.mg_none_of X G n_str, PySem.W.mg_none_of X G n_sum, PySem.W.mg_none_of X G n_tuple, ⟨_, PySem.W.mg_of X G c_LETTERS⟩, ⟨_, PySem.W.mg_of X G c_MOST_HIGH⟩, ⟨_, PySem.W.mg_of X G c_MOST_LETTERS⟩, c_MOST_NUMBER, ⟨_, PySem.W.mg_of X G c_MOST_STACKS⟩, xt, ft⟩
  have F0 := fun_mk (st := s__law_mixed) l0 c0 k0
  have F1 := fun_mk (st := s__law_number) l1 c1 k1
  have F2 := fun_mk (st := s__law_names) l2 c2 k2
  have F3 := fun_mk (st := s__law_stacks) l3 c3 k3
  have F4 := fun_mk (st := s_is_name) l4 c4 k4
  have F5 := fun_mk (st := s_is_among) l5 c5 k5
  have F6 := fun_mk (st := s_is_stack) l6 c6 k6
  have F7 := fun_mk (st := s_are_stacks) l7 c7 k7
  have F8 := fun_mk (st := s_Stacks____init__) l8 c8 k8
  have F9 := fun_mk (st := s__law_new) l9 c9 k9
  have F10 := fun_mk (st := s__law_weight) l10 c10 k10
  have F11 := fun_mk (st := s__law_of) l11 c11 k11
  have F12 := fun_mk (st := s__law_where) l12 c12 k12
  have F13 := fun_mk (st := s__law_due) l13 c13 k13
  have F14 := fun_mk (st := s_Stacks__need_stack) l14 c14 k14
  have F15 := fun_mk (st := s_Stacks__high) l15 c15 k15
  have F16 := fun_mk (st := s_Stacks__weight) l16 c16 k16
  have F17 := fun_mk (st := s_Stacks__put) l17 c17 k17
  have F18 := fun_mk (st := s_Stacks__take) l18 c18 k18
  have F19 := fun_mk (st := s__law_kind) l19 c19 k19
  have F20 := fun_mk (st := s__law_done) l20 c20 k20
  have F21 := fun_mk (st := s__law_deed) l21 c21 k21
  have F22 := fun_mk (st := s_Stacks__boxes) l22 c22 k22
  have F23 := fun_mk (st := s_Stacks__need_box) l23 c23 k23
  have F24 := fun_mk (st := s_Stacks__is_top) l24 c24 k24
  have F25 := fun_mk (st := s_Stacks__where) l25 c25 k25
  have F26 := fun_mk (st := s__law_box_right) l26 c26 k26
  have F27 := fun_mk (st := s__law_all_right) l27 c27 k27
  have F28 := fun_mk (st := s_Stacks__told) l28 c28 k28
  have F29 := fun_mk (st := s_Stacks__copied) l29 c29 k29
  have F30 := fun_mk (st := s_Stacks__names) l30 c30 k30
  have F31 := fun_mk (st := s__law_off_right) l31 c31 k31
  have F32 := fun_mk (st := s_law) l32 c32 k32
  have b0 := F0.binds (ps := ["_law_cell", "_law_k"]) fun _ _ _ _ _ _ us hl => match us, hl with | [_, _], _ => rfl
  have b1 := F1.binds (ps := ["_law_script", "_law_k"]) fun _ _ _ _ _ _ us hl => match us, hl with | [_, _], _ => rfl
  have b2 := F2.binds (ps := ["_law_number_here", "_law_size"]) fun _ _ _ _ _ _ us hl => match us, hl with | [_, _], _ => rfl
  have b3 := F3.binds (ps := ["_law_script", "_law_at"]) fun _ _ _ _ _ _ us hl => match us, hl with | [_, _], _ => rfl
  have b4 := F4.binds (ps := ["thing"]) fun _ _ _ _ _ _ us hl => match us, hl with | [_], _ => rfl
  have b5 := F5.binds (ps := ["thing", "least", "most"]) fun _ _ _ _ _ _ us hl => match us, hl with | [_, _, _], _ => rfl
  have b6 := F6.binds (ps := ["thing"]) fun _ _ _ _ _ _ us hl => match us, hl with | [_], _ => rfl
  have b7 := F7.binds (ps := ["thing"]) fun _ _ _ _ _ _ us hl => match us, hl with | [_], _ => rfl
  have b8 := F8.binds (ps := ["self", "stacks"]) fun _ _ _ _ _ _ us hl => match us, hl with | [_, _], _ => rfl
  have b9 := F9.binds (ps := ["_law_told"]) fun _ _ _ _ _ _ us hl => match us, hl with | [_], _ => rfl
  have b10 := F10.binds (ps := ["_law_cell"]) fun _ _ _ _ _ _ us hl => match us, hl with | [_], _ => rfl
  have b11 := F11.binds (ps := ["_law_own", "_law_stack"]) fun _ _ _ _ _ _ us hl => match us, hl with | [_, _], _ => rfl
  have b12 := F12.binds (ps := ["_law_own", "_law_box"]) fun _ _ _ _ _ _ us hl => match us, hl with | [_, _], _ => rfl
  have b13 := F13.binds (ps := ["_law_own", "_law_box", "_law_weight_here", "_law_stack"]) fun _ _ _ _ _ _ us hl => match us, hl with | [_, _, _, _], _ => rfl
  have b14 := F14.binds (ps := ["self", "stack"]) fun _ _ _ _ _ _ us hl => match us, hl with | [_, _], _ => rfl
  have b15 := F15.binds (ps := ["self", "stack"]) fun _ _ _ _ _ _ us hl => match us, hl with | [_, _], _ => rfl
  have b16 := F16.binds (ps := ["self", "stack"]) fun _ _ _ _ _ _ us hl => match us, hl with | [_, _], _ => rfl
  have b17 := F17.binds (ps := ["self", "box", "weight", "stack"]) fun _ _ _ _ _ _ us hl => match us, hl with | [_, _, _, _], _ => rfl
  have b18 := F18.binds (ps := ["self", "stack"]) fun _ _ _ _ _ _ us hl => match us, hl with | [_, _], _ => rfl
  have b19 := F19.binds (ps := ["_law_e"]) fun _ _ _ _ _ _ us hl => match us, hl with | [_], _ => rfl
  have b20 := F20.binds (ps := ["_law_stacks_here", "_law_is_put", "_law_box", "_law_weight_here", "_law_stack"]) fun _ _ _ _ _ _ us hl => match us, hl with | [_, _, _, _, _], _ => rfl
  have b21 := F21.binds (ps := ["_law_stacks_here", "_law_own", "_law_boxes", "_law_cell"]) fun _ _ _ _ _ _ us hl => match us, hl with | [_, _, _, _], _ => rfl
  have b22 := F22.binds (ps := ["self", "stack"]) fun _ _ _ _ _ _ us hl => match us, hl with | [_, _], _ => rfl
  have b23 := F23.binds (ps := ["self", "box"]) fun _ _ _ _ _ _ us hl => match us, hl with | [_, _], _ => rfl
  have b24 := F24.binds (ps := ["self", "box"]) fun _ _ _ _ _ _ us hl => match us, hl with | [_, _], _ => rfl
  have b25 := F25.binds (ps := ["self", "box"]) fun _ _ _ _ _ _ us hl => match us, hl with | [_, _], _ => rfl
  have b26 := F26.binds (ps := ["_law_stacks_here", "_law_own", "_law_box"]) fun _ _ _ _ _ _ us hl => match us, hl with | [_, _, _], _ => rfl
  have b27 := F27.binds (ps := ["_law_stacks_here", "_law_own", "_law_boxes"]) fun _ _ _ _ _ _ us hl => match us, hl with | [_, _, _], _ => rfl
  have b28 := F28.binds (ps := ["self"]) fun _ _ _ _ _ _ us hl => match us, hl with | [_], _ => rfl
  have b29 := F29.binds (ps := ["self"]) fun _ _ _ _ _ _ us hl => match us, hl with | [_], _ => rfl
  have b30 := F30.binds (ps := ["self"]) fun _ _ _ _ _ _ us hl => match us, hl with | [_], _ => rfl
  have b31 := F31.binds (ps := ["_law_stacks_here", "_law_own"]) fun _ _ _ _ _ _ us hl => match us, hl with | [_, _], _ => rfl
  refine ⟨PySem.W.fnOf "law" "law" (defArgs s_law) (defBody s_law) (defScope s_law) .none kV32 dc32 pm32 an32 cd32 ct32, cl, fun s v => .of_eq rfl, fun base _ _ => ?_⟩
  have C__law_mixed : Cal l.prog w K mg base cl 1 2 "_law_mixed" m__law_mixed := ⟨f0, _, _, PySem.W.mg_of X G a0, k0, b0, ok__law_mixed F0 T ⟩
  have C__law_number : Cal l.prog w K mg base cl 2 2 "_law_number" m__law_number := ⟨f1, _, _, PySem.W.mg_of X G a1, k1, b1, ok__law_number F1 T C__law_mixed⟩
  have C__law_names : Cal l.prog w K mg base cl 1 2 "_law_names" m__law_names := ⟨f2, _, _, PySem.W.mg_of X G a2, k2, b2, ok__law_names F2 T ⟩
  have C__law_stacks : Cal l.prog w K mg base cl 3 2 "_law_stacks" m__law_stacks := ⟨f3, _, _, PySem.W.mg_of X G a3, k3, b3, ok__law_stacks F3 T C__law_names C__law_number⟩
  have C_is_name : Cal l.prog w K mg base cl 1 1 "is_name" m_is_name := ⟨f4, _, _, PySem.W.mg_of X G a4, k4, b4, ok_is_name F4 T ⟩
  have C_is_among : Cal l.prog w K mg base cl 1 3 "is_among" m_is_among := ⟨f5, _, _, PySem.W.mg_of X G a5, k5, b5, ok_is_among F5 T ⟩
  have C_is_stack : Cal l.prog w K mg base cl 2 1 "is_stack" m_is_stack := ⟨f6, _, _, PySem.W.mg_of X G a6, k6, b6, ok_is_stack F6 T C_is_among C_is_name⟩
  have C_are_stacks : Cal l.prog w K mg base cl 3 1 "are_stacks" m_are_stacks := ⟨f7, _, _, PySem.W.mg_of X G a7, k7, b7, ok_are_stacks F7 T C_is_stack⟩
  have N_Stacks : CalN l.prog w K mg base cl 4 2 "Stacks" m_Stacks____init__ := ⟨A_Stacks, f8, _, _, rfl, PySem.W.mg_of X G x_Stacks, ⟨mk_Stacks, a8, i8, kp_Stacks⟩, b8, ok_Stacks____init__ F8 T C_are_stacks⟩
  have C__law_new : Cal l.prog w K mg base cl 1 1 "_law_new" m__law_new := ⟨f9, _, _, PySem.W.mg_of X G a9, k9, b9, ok__law_new F9 T ⟩
  have C__law_weight : Cal l.prog w K mg base cl 1 1 "_law_weight" m__law_weight := ⟨f10, _, _, PySem.W.mg_of X G a10, k10, b10, ok__law_weight F10 T ⟩
  have C__law_of : Cal l.prog w K mg base cl 1 2 "_law_of" m__law_of := ⟨f11, _, _, PySem.W.mg_of X G a11, k11, b11, ok__law_of F11 T ⟩
  have C__law_where : Cal l.prog w K mg base cl 1 2 "_law_where" m__law_where := ⟨f12, _, _, PySem.W.mg_of X G a12, k12, b12, ok__law_where F12 T ⟩
  have C__law_due : Cal l.prog w K mg base cl 2 4 "_law_due" m__law_due := ⟨f13, _, _, PySem.W.mg_of X G a13, k13, b13, ok__law_due F13 T C__law_of C__law_where⟩
  have M_Stacks__need_stack : CalM l.prog w K mg base cl 1 2 "Stacks" "need_stack" [] m_Stacks__need_stack := ⟨A_Stacks, f14, _, _, [], [], rfl, ⟨pg_Stacks, hd_Stacks, po_Stacks, sa_Stacks⟩, ⟨a14, i14, k14⟩, b14, .nil, fun _ _ _ => .nil, ok_Stacks__need_stack F14 T ⟩
  have M_Stacks__high : CalM l.prog w K mg base cl 2 2 "Stacks" "high" [] m_Stacks__high := ⟨A_Stacks, f15, _, _, [], [], rfl, ⟨pg_Stacks, hd_Stacks, po_Stacks, sa_Stacks⟩, ⟨a15, i15, k15⟩, b15, .nil, fun _ _ _ => .nil, ok_Stacks__high F15 T M_Stacks__need_stack⟩
  have M_Stacks__weight : CalM l.prog w K mg base cl 2 2 "Stacks" "weight" [] m_Stacks__weight := ⟨A_Stacks, f16, _, _, [], [], rfl, ⟨pg_Stacks, hd_Stacks, po_Stacks, sa_Stacks⟩, ⟨a16, i16, k16⟩, b16, .nil, fun _ _ _ => .nil, ok_Stacks__weight F16 T M_Stacks__need_stack⟩
  have M_Stacks__put : CalM l.prog w K mg base cl 3 4 "Stacks" "put" [] m_Stacks__put := ⟨A_Stacks, f17, _, _, [], [], rfl, ⟨pg_Stacks, hd_Stacks, po_Stacks, sa_Stacks⟩, ⟨a17, i17, k17⟩, b17, .nil, fun _ _ _ => .nil, ok_Stacks__put F17 T C_is_among C_is_name M_Stacks__high M_Stacks__need_stack M_Stacks__weight⟩
  have M_Stacks__take : CalM l.prog w K mg base cl 2 2 "Stacks" "take" [] m_Stacks__take := ⟨A_Stacks, f18, _, _, [], [], rfl, ⟨pg_Stacks, hd_Stacks, po_Stacks, sa_Stacks⟩, ⟨a18, i18, k18⟩, b18, .nil, fun _ _ _ => .nil, ok_Stacks__take F18 T M_Stacks__need_stack⟩
  have C__law_kind : Cal l.prog w K mg base cl 1 1 "_law_kind" m__law_kind := ⟨f19, _, _, PySem.W.mg_of X G a19, k19, b19, ok__law_kind F19 T ⟩
  have C__law_done : Cal l.prog w K mg base cl 4 5 "_law_done" m__law_done := ⟨f20, _, _, PySem.W.mg_of X G a20, k20, b20, ok__law_done F20 T C__law_kind M_Stacks__put M_Stacks__take⟩
  have C__law_deed : Cal l.prog w K mg base cl 5 4 "_law_deed" m__law_deed := ⟨f21, _, _, PySem.W.mg_of X G a21, k21, b21, ok__law_deed F21 T C__law_done C__law_due C__law_weight⟩
  have M_Stacks__boxes : CalM l.prog w K mg base cl 2 2 "Stacks" "boxes" [] m_Stacks__boxes := ⟨A_Stacks, f22, _, _, [], [], rfl, ⟨pg_Stacks, hd_Stacks, po_Stacks, sa_Stacks⟩, ⟨a22, i22, k22⟩, b22, .nil, fun _ _ _ => .nil, ok_Stacks__boxes F22 T M_Stacks__need_stack⟩
  have M_Stacks__need_box : CalM l.prog w K mg base cl 1 2 "Stacks" "need_box" [] m_Stacks__need_box := ⟨A_Stacks, f23, _, _, [], [], rfl, ⟨pg_Stacks, hd_Stacks, po_Stacks, sa_Stacks⟩, ⟨a23, i23, k23⟩, b23, .nil, fun _ _ _ => .nil, ok_Stacks__need_box F23 T ⟩
  have M_Stacks__is_top : CalM l.prog w K mg base cl 2 2 "Stacks" "is_top" [] m_Stacks__is_top := ⟨A_Stacks, f24, _, _, [], [], rfl, ⟨pg_Stacks, hd_Stacks, po_Stacks, sa_Stacks⟩, ⟨a24, i24, k24⟩, b24, .nil, fun _ _ _ => .nil, ok_Stacks__is_top F24 T M_Stacks__need_box⟩
  have M_Stacks__where : CalM l.prog w K mg base cl 2 2 "Stacks" "where" [] m_Stacks__where := ⟨A_Stacks, f25, _, _, [], [], rfl, ⟨pg_Stacks, hd_Stacks, po_Stacks, sa_Stacks⟩, ⟨a25, i25, k25⟩, b25, .nil, fun _ _ _ => .nil, ok_Stacks__where F25 T M_Stacks__need_box⟩
  have C__law_box_right : Cal l.prog w K mg base cl 3 3 "_law_box_right" m__law_box_right := ⟨f26, _, _, PySem.W.mg_of X G a26, k26, b26, ok__law_box_right F26 T C__law_kind C__law_where M_Stacks__is_top M_Stacks__where⟩
  have C__law_all_right : Cal l.prog w K mg base cl 4 3 "_law_all_right" m__law_all_right := ⟨f27, _, _, PySem.W.mg_of X G a27, k27, b27, ok__law_all_right F27 T C__law_box_right M_Stacks__boxes⟩
  have M_Stacks__told : CalM l.prog w K mg base cl 1 1 "Stacks" "told" [] m_Stacks__told := ⟨A_Stacks, f28, _, _, [], [], rfl, ⟨pg_Stacks, hd_Stacks, po_Stacks, sa_Stacks⟩, ⟨a28, i28, k28⟩, b28, .nil, fun _ _ _ => .nil, ok_Stacks__told F28 T ⟩
  have M_Stacks__copied : CalM l.prog w K mg base cl 6 1 "Stacks" "copied" [] m_Stacks__copied := ⟨A_Stacks, f29, _, _, [], [], rfl, ⟨pg_Stacks, hd_Stacks, po_Stacks, sa_Stacks⟩, ⟨a29, i29, k29⟩, b29, .nil, fun _ _ _ => .nil, ok_Stacks__copied F29 T M_Stacks__told N_Stacks⟩
  have M_Stacks__names : CalM l.prog w K mg base cl 1 1 "Stacks" "names" [] m_Stacks__names := ⟨A_Stacks, f30, _, _, [], [], rfl, ⟨pg_Stacks, hd_Stacks, po_Stacks, sa_Stacks⟩, ⟨a30, i30, k30⟩, b30, .nil, fun _ _ _ => .nil, ok_Stacks__names F30 T ⟩
  have C__law_off_right : Cal l.prog w K mg base cl 7 2 "_law_off_right" m__law_off_right := ⟨f31, _, _, PySem.W.mg_of X G a31, k31, b31, ok__law_off_right F31 T M_Stacks__boxes M_Stacks__copied M_Stacks__names M_Stacks__take⟩
  exact ok_law F32 T C__law_all_right C__law_deed C__law_names C__law_new C__law_number C__law_off_right C__law_stacks N_Stacks
end Q
namespace Q
open PySem L2 Mi
theorem imR {x y : Int} (h : -(2 ^ 62) ≤ y) (h' : y ≤ 2 ^ 62) : IntMulOk x y := (show CMul x y from .inr ⟨by omega, by omega⟩).ok
theorem imL {x y : Int} (h : -(2 ^ 62) ≤ x) (h' : x ≤ 2 ^ 62) : IntMulOk x y := (show CMul x y from .inl ⟨by omega, by omega⟩).ok
def nh (c k : Int) : Int := (c % 1000000007 + 7919 * k * k + 31 * k + 17) * 48271 % 2147483647
def mixed (c k : Int) : Int := nh c k * (nh c k % 65521 + 16807) % 2147483629 / 4
theorem mixed_ge (c k : Int) : 0 ≤ mixed c k := by unfold mixed; omega
theorem mixed_lt (c k : Int) : mixed c k < 2 ^ 29 := by unfold mixed; omega
theorem v_mixed (c k : Int) (h0 : 0 ≤ k) (h1 : k < 2 ^ 40) (S : Store) : m__law_mixed [.int c, .int k] S = .ok (.int (mixed c k)) S := by
  have n0 : 0 ≤ nh c k := by unfold nh; omega
  have n1 : nh c k < 2147483647 := by unfold nh; omega
  have i1 : IntMulOk 7919 k := imL (by decide) (by decide)
  have i2 : IntMulOk (7919 * k) k := imR (by omega) (by omega)
  have i3 : IntMulOk 31 k := imL (by decide) (by decide)
  have i4 : ∀ x, IntMulOk x 48271 := fun x => imR (by decide) (by decide)
  have i5 : ∀ x, IntMulOk (nh c k) x := fun x => imL (by omega) (by omega)
  have n : (c % 1000000007 + 7919 * k * k + 31 * k + 17) * 48271 % 2147483647 = nh c k := rfl
  rw [m__law_mixed, runD_ap, z__law_mixed]
  simp [dMod_int, dMul_int, i1, i2, i3, i4, i5, n]
  simp [dDiv_int, show Nat.log2 4 < 9000 by decide +kernel, mixed]
theorem v_number (cs : List Int) (hl : cs.length ≤ 63) (k : Int) (h0 : 0 ≤ k) (h1 : k < 2 ^ 40) (S : Store) : ∃ r : Int, 0 ≤ r ∧ r < 2 ^ 30 ∧ m__law_number [.scr (cs.map .int), .int k] S = .ok (.int r) S := by
  have d9 : dPow (.int 10) (.int 9) S = .ok (.int 1000000000) S := by rw [dPow_int (by decide)]; rfl
  rw [m__law_number]
  cases cs with
  | nil =>
    refine ⟨_, mixed_ge 0 k, Int.lt_trans (mixed_lt 0 k) (by decide), ?_⟩
    rw [runD_ap, z__law_number]
    simp [call_pure (n := 2) rfl rfl ⟨_, v_mixed 0 k h0 h1 []⟩ rfl]
  | cons c cs => 
    have hp : (0 : Int) < cs.length + 1 := by omega
    have hb : ((cs.length : Int) + 1).natAbs.log2 < 9000 := by
      have : ((cs.length : Int) + 1).natAbs < 2 ^ 10 := by simp at hl; omega
      exact Nat.lt_of_lt_of_le (PySem.Flt.log2_lt_of (by decide) this) (by decide)
    obtain ⟨e, he, ha⟩ := atD_int (l := (c :: cs).map D.int) (x := k % (cs.length + 1)) (Int.emod_nonneg _ (by omega)) (by simpa using Int.emod_lt_of_pos _ hp)
    have hz : atD ((c :: cs).map D.int) 0 = some (.int c) := by rw [show (0 : Int) = ((0 : Nat) : Int) from rfl]; exact atD_nat rfl
    obtain ⟨x, rfl⟩ : ∃ x, e = .int x := by
      rw [List.getElem?_map] at he
      cases z : (c :: cs)[(k % (cs.length + 1)).toNat]? with
      | none => rw [z] at he; cases he
      | some x => rw [z] at he; cases he; exact ⟨x, rfl⟩
    simp only [List.map_cons] at ha hz
    by_cases hc : c % 2 = 1
    · have q0 : 0 ≤ k / (cs.length + 1 : Int) := Int.ediv_nonneg h0 (by omega)
      have q1 : k / (cs.length + 1 : Int) ≤ k := Int.ediv_le_self _ h0
      obtain ⟨δ', S', hf, rfl, y, o, rfl⟩ := for_inv (fun δ S' => S' = S ∧ ∃ x o, δ = [some (.scr (D.int c :: cs.map D.int)), some (.int k), some (.int x), o]) (g := gName 3) (f := b__law_number_1)
        (items := rngD 0 (if k / (cs.length + 1 : Int) < 60 then k / (cs.length + 1 : Int) else 60).toNat) (δ := [some (.scr (D.int c :: cs.map D.int)), some (.int k), some (.int x), none]) (S := S) ⟨rfl, x, none, rfl⟩ (by
          rintro d hd δ S' ⟨rfl, y, o, rfl⟩
          refine ⟨_, rfl, _, _, .inl (by simp [b__law_number_1, d9, dDiv_int, show Nat.log2 1000000000 < 9000 by decide +kernel]; exact ⟨rfl, rfl⟩), rfl, _, _, rfl⟩)
      refine ⟨y % 1000000000, Int.emod_nonneg _ (by decide), by omega, ?_⟩
      rw [runD_ap, z__law_number]
      simp [dMod_int, hp, ha, hz, hc, dDiv_int, hb]
      rw [if_pos (by split <;> omega)]
      simp [hf, d9, dMod_int]
    · refine ⟨_, mixed_ge x k, Int.lt_trans (mixed_lt x k) (by decide), ?_⟩
      rw [runD_ap, z__law_number]
      simp [dMod_int, hp, ha, hz, hc, call_pure (n := 2) rfl rfl ⟨_, v_mixed x k h0 h1 []⟩ rfl]

theorem pick {xs : List D} {x : Int} (P : D → Prop) (h0 : 0 ≤ x) (h1 : x < xs.length) (h : ∀ d ∈ xs, P d) (S : Store) : ∃ d, P d ∧ dIx (.lst xs) (.int x) S = .ok d S := by
  obtain ⟨c, hc, he⟩ := atD_int (l := xs) (x := x) h0 h1
  refine ⟨c, h c (List.mem_of_getElem? hc), ?_⟩
  rw [dIx_lst, he]
def scrD (cs : List Int) : D := .scr (cs.map .int)
theorem nr_ints (l : List Int) : norefs (l.map .int) = true := by
  induction l with
  | nil => rfl
  | cons x l ih => simp [norefs, noref, ih]
theorem nr_scr (cs : List Int) (i : Int) : norefs [scrD cs, .int i] = true := by simp [norefs, noref, scrD, nr_ints]
theorem nx_of {I : Mi.Env → Store → Prop} {o : OS} {δ' : Mi.Env} {S' : Store} (hI : I δ' S') (h : o = .nx δ' S') : ∃ δ' S', (o = .nx δ' S' ∨ o = .ct δ' S') ∧ I δ' S' := ⟨δ', S', .inl h, hI⟩
end Q
namespace Q
open PySem L2 Mi
theorem enumD_rng {F : Nat → D} {m : Nat} : enumD 0 ((List.range m).map F) = (List.range m).map fun (k : Nat) => D.tup [.int k, F k] := by
  apply List.ext_getElem?
  intro i
  rw [enumD_get, List.getElem?_map, List.getElem?_map, Nat.zero_add]
  by_cases h : i < m
  · rw [List.getElem?_range h]; rfl
  · rw [List.getElem?_eq_none (by simpa using h)]; rfl
/-! names -/
def bsL (n : Int) : List Nat := (List.range 8).map fun (j : Nat) => 97 + ((n + 5 * (j : Int) + (j : Int) * j) % 26).toNat
def sgn (n : Int) (k : Nat) : Nat := 97 + ((n / 2000 + 3 * (k : Int)) % 26).toNat
def lgI (n : Int) : Int := n / 30 % 8
def atI' (n : Int) : Int := n / 240 % (lgI n + 1)
def nm0 (n : Int) (k : Nat) : List Nat := (bsL n).take (atI' n).toNat ++ [sgn n k] ++ ((bsL n).drop (atI' n).toNat).take ((lgI n).toNat - (atI' n).toNat)
def nmL (n : Int) (k : Nat) : List Nat := nm0 n k
theorem bsL_len (n : Int) : (bsL n).length = 8 := by unfold bsL; simp
theorem bsL_let (n : Int) : ∀ c ∈ bsL n, 97 ≤ c ∧ c ≤ 122 := fun c hc => by
  unfold bsL at hc
  obtain ⟨j, _, rfl⟩ := List.mem_map.mp hc
  omega
theorem lg_b (n : Int) : 0 ≤ lgI n ∧ lgI n ≤ 7 := by unfold lgI; omega
theorem at_b (n : Int) : 0 ≤ atI' n ∧ atI' n ≤ lgI n := by
  have := lg_b n
  unfold atI'
  have h1 := Int.emod_nonneg (n / 240) (b := lgI n + 1) (by omega)
  have h2 := Int.emod_lt_of_pos (n / 240) (b := lgI n + 1) (by omega)
  omega
theorem nm0_len (n : Int) (k : Nat) : (nm0 n k).length = (lgI n).toNat + 1 := by
  have := lg_b n
  have := at_b n
  unfold nm0
  rw [List.length_append, List.length_append, List.length_take, List.length_take, List.length_drop, bsL_len, List.length_singleton]
  omega
theorem nm0_let (n : Int) (k : Nat) : ∀ c ∈ nm0 n k, 97 ≤ c ∧ c ≤ 122 := fun c hc => by
  unfold nm0 at hc
  rcases List.mem_append.mp hc with hc | hc
  · rcases List.mem_append.mp hc with hc | hc
    · exact bsL_let n c (List.mem_of_mem_take hc)
    · rw [List.mem_singleton.mp hc]; unfold sgn; omega
  · exact bsL_let n c (List.mem_of_mem_drop (List.mem_of_mem_take hc))
theorem nmL_let (n : Int) (k : Nat) : ∀ c ∈ nmL n k, 97 ≤ c ∧ c ≤ 122 := nm0_let n k
theorem nmL_len (n : Int) (k : Nat) : 1 ≤ (nmL n k).length ∧ (nmL n k).length ≤ 8 := by
  have h := nm0_len n k
  have := lg_b n
  unfold nmL
  omega
theorem nm0_at (n : Int) (k : Nat) : (nm0 n k)[(atI' n).toNat]? = some (sgn n k) := by
  have h1 := lg_b n
  have h2 := at_b n
  have e : ((bsL n).take (atI' n).toNat).length = (atI' n).toNat := by rw [List.length_take, bsL_len]; omega
  unfold nm0
  rw [List.append_assoc, List.getElem?_append_right (by omega), e, Nat.sub_self]
  rfl
theorem nmL_at (n : Int) (k : Nat) : (nmL n k)[(atI' n).toNat]? = some (sgn n k) := nm0_at n k
theorem sgn_inj {n : Int} {j k : Nat} (hj : j < 26) (hk : k < 26) (h : sgn n j = sgn n k) : j = k := by
  unfold sgn at h
  omega
theorem nmL_inj {n : Int} {j k : Nat} (hj : j < 26) (hk : k < 26) (h : nmL n j = nmL n k) : j = k := by
  have a := nmL_at n j
  rw [h, nmL_at n k] at a
  exact sgn_inj hj hk (Option.some.inj a).symm
theorem v_names (n : Int) (h0 : 0 ≤ n) (h1 : n < 2 ^ 40) (m : Nat) (hm : m ≤ 26) (S : Store) : m__law_names [.int n, .int m] S = .ok (.lst ((List.range m).map fun k => .str (sL (nmL n k)))) S := by
  have lg := lg_b n
  have ab := at_b n
  have c1 : compD (gName 7) tYesD k__law_names_1 none [some (.int n), some (.int m), some (.str "abcdefghijklmnopqrstuvwxyz"), none, none, none, none, none, none, none] (rngD 0 8) S = .ok ((bsL n).map chr) S := by
    rw [comp_rng (fun j => chr (97 + ((n + 5 * (j : Int) + (j : Int) * j) % 26).toNat)) fun i hi => ?_]
    · unfold bsL; rw [List.map_map]; rfl
    · refine ⟨_, rfl, rfl, ?_⟩
      have m1 := Int.emod_nonneg (n + 5 * (i : Int) + (i : Int) * i) (b := 26) (by decide)
      have m2 := Int.emod_lt_of_pos (n + 5 * (i : Int) + (i : Int) * i) (b := 26) (by decide)
      unfold k__law_names_1
      simp (disch := first | omega | (simp only [List.length_map, List.length_cons, List.length_nil, List.length_append]; omega)) only [List.map_cons, List.map_nil, List.length_cons, List.length_nil, List.length_map, List.replicate, List.cons_append, List.nil_append, List.append_eq, sSeq_ap, sSet_ap, sIf_ap, sRet_ap, sRetN_ap, sExpr_ap, sNext_ap, sBreak_ap, sCont_ap, sPar_ap, sAsg_ap, sFor_ap, gName_ap, eVar_0, eVar_s, eC_ap, aNil_ap, aCons_ap, e2_ap, e3_ap, toB_bl, toB_stuck, tV_ap, tAnd_ap, tOr_ap, tNot_ap, eAnd_ap, eOr_ap, eNot_ap, eIf_ap, eNeg_ap, eTup_ap, eLst_ap, eLstL_ap, eB_ap, eIsi_ap, eCall_ap, eM_ap, eM0_ap, eIsN_ap, eNotN_ap, oNone_ap, oSome_ap, eSl_ap, iTup_ap, iStr_ap, iRange1_ap, iRange2_ap, iLst_ap, iZipD_ap, setAll_nil, setAll_cons, wipeD_nil, wipeD_cons, dAdd_int, dSub_int, dLt_int, dLe_int, dGt_int, dGe_int, dEqX_int, dEqX_str, dNeX_int, dNeX_str, dEqX_nil, dNeX_nil, dIs_bl, dMod_int, div_lit, bind_ok, bind_exc, toS_ok, toS_exc, then_nx, then_rt, then_exc, endD_nx, endD_rt, endD_exc, List.set_cons_succ, List.set_cons_zero, if_true, if_false, Bool.false_eq_true, Bool.not_true, Bool.not_false, decide_true, decide_false, Nat.zero_add, Nat.reduceAdd, lcEnd_f, eLc_ap, eRev_ap, eFld_ap, sFldD_ap, eMeth_ap, sRaise_ap, eFrz_ap, insOf_ins, bTuple_lst, bTuple_tup, bMin2_int, bMax2_int, bAbs_int, bLen_lst, bLen_tup, bLen_scr, bAll_lst, bAny_lst, bSum_lst, dIx_lst, dIx_tup, dIx_scr, bRepr_bl, sz_lit, Int.reduceLT, Int.reduceLE, Int.reducePow, Nat.reduceLT, Nat.reduceLeDiff, Nat.reducePow, gTup_tup, gCons_c, gNil_n, cast_lit, eq_self, Int.reduceEq, Int.reduceNeg, eDic0_f, sTry_ap, eMake_f, ofS_inj, ofS_beq, String.reduceEq, String.reduceBEq, rg1_ap, rg2_ap, eListRg_ap, iRevRg_ap, iZip3D_ap, iEnum_ap, sSetAt_ap, rg_ok, rg_ok2, rgl_ok, mul_r, mul_l, mod_d, at_int', at_bl', p6, p9, p10, p11, p12, p60, dAdd_lst, Int.toNat_natCast, Int.zero_add, Int.sub_zero, bInt_bl, bInt_int, bList_f, dSl_lst, dSl_tup, dSl_scr, List.getElem?_cons_zero, List.getElem?_cons_succ, beq_self_eq_true, Bool.true_or, Bool.or_false, Bool.or_true, Bool.false_or, Nat.reduceSub, ne_scr_nil, at_zero, Int.reduceAdd, Int.reduceSub, Int.reduceMul, sz_lt, dIx_r, bLen_r, isTy_r, app_r, pop_r, clear_r, frz_r, frz_lst, isNone_non, isNone_int, List.lookup_cons, List.lookup_nil, and_self, and_true, true_and, setAt_r, ixN_ok, Option.map_some, List.map_set, List.length_set, snoc_get, snoc_set, setF_r, putFD_nil, putFD_cons, setAll_cons, letter_at m1 m2]
  have j1 : mJoin (.str "") [.lst ((bsL n).map chr)] S = .ok (.str (sL (bsL n))) S := join_chr (by rw [bsL_len]; decide)
  have e1 : n / 30 % 8 = lgI n := rfl
  have e2 : n / 240 % (lgI n + 1) = atI' n := rfl
  have md : dMod (.int (n / 240)) (.int (lgI n + 1)) S = .ok (.int (atI' n)) S := by rw [dMod_int (by omega)]; rfl
  have c2 : ∀ o : Option D, compD (gName 8) tYesD k__law_names_2 none [some (.int n), some (.int m), some (.str "abcdefghijklmnopqrstuvwxyz"), some (.str (sL (bsL n))), some (.int (lgI n)), some (.int (atI' n)), none, o, none, none] (rngD 0 m) S = .ok ((List.range m).map fun k => chr (sgn n k)) S := fun o => by
    refine comp_rng (fun k => chr (sgn n k)) fun i hi => ⟨_, rfl, rfl, ?_⟩
    have m1 := Int.emod_nonneg (n / 2000 + 3 * (i : Int)) (b := 26) (by decide)
    have m2 := Int.emod_lt_of_pos (n / 2000 + 3 * (i : Int)) (b := 26) (by decide)
    unfold k__law_names_2
    simp (disch := first | omega | (simp only [List.length_map, List.length_cons, List.length_nil, List.length_append]; omega)) only [List.map_cons, List.map_nil, List.length_cons, List.length_nil, List.length_map, List.replicate, List.cons_append, List.nil_append, List.append_eq, sSeq_ap, sSet_ap, sIf_ap, sRet_ap, sRetN_ap, sExpr_ap, sNext_ap, sBreak_ap, sCont_ap, sPar_ap, sAsg_ap, sFor_ap, gName_ap, eVar_0, eVar_s, eC_ap, aNil_ap, aCons_ap, e2_ap, e3_ap, toB_bl, toB_stuck, tV_ap, tAnd_ap, tOr_ap, tNot_ap, eAnd_ap, eOr_ap, eNot_ap, eIf_ap, eNeg_ap, eTup_ap, eLst_ap, eLstL_ap, eB_ap, eIsi_ap, eCall_ap, eM_ap, eM0_ap, eIsN_ap, eNotN_ap, oNone_ap, oSome_ap, eSl_ap, iTup_ap, iStr_ap, iRange1_ap, iRange2_ap, iLst_ap, iZipD_ap, setAll_nil, setAll_cons, wipeD_nil, wipeD_cons, dAdd_int, dSub_int, dLt_int, dLe_int, dGt_int, dGe_int, dEqX_int, dEqX_str, dNeX_int, dNeX_str, dEqX_nil, dNeX_nil, dIs_bl, dMod_int, div_lit, bind_ok, bind_exc, toS_ok, toS_exc, then_nx, then_rt, then_exc, endD_nx, endD_rt, endD_exc, List.set_cons_succ, List.set_cons_zero, if_true, if_false, Bool.false_eq_true, Bool.not_true, Bool.not_false, decide_true, decide_false, Nat.zero_add, Nat.reduceAdd, lcEnd_f, eLc_ap, eRev_ap, eFld_ap, sFldD_ap, eMeth_ap, sRaise_ap, eFrz_ap, insOf_ins, bTuple_lst, bTuple_tup, bMin2_int, bMax2_int, bAbs_int, bLen_lst, bLen_tup, bLen_scr, bAll_lst, bAny_lst, bSum_lst, dIx_lst, dIx_tup, dIx_scr, bRepr_bl, sz_lit, Int.reduceLT, Int.reduceLE, Int.reducePow, Nat.reduceLT, Nat.reduceLeDiff, Nat.reducePow, gTup_tup, gCons_c, gNil_n, cast_lit, eq_self, Int.reduceEq, Int.reduceNeg, eDic0_f, sTry_ap, eMake_f, ofS_inj, ofS_beq, String.reduceEq, String.reduceBEq, rg1_ap, rg2_ap, eListRg_ap, iRevRg_ap, iZip3D_ap, iEnum_ap, sSetAt_ap, rg_ok, rg_ok2, rgl_ok, mul_r, mul_l, mod_d, at_int', at_bl', p6, p9, p10, p11, p12, p60, dAdd_lst, Int.toNat_natCast, Int.zero_add, Int.sub_zero, bInt_bl, bInt_int, bList_f, dSl_lst, dSl_tup, dSl_scr, List.getElem?_cons_zero, List.getElem?_cons_succ, beq_self_eq_true, Bool.true_or, Bool.or_false, Bool.or_true, Bool.false_or, Nat.reduceSub, ne_scr_nil, at_zero, Int.reduceAdd, Int.reduceSub, Int.reduceMul, sz_lt, dIx_r, bLen_r, isTy_r, app_r, pop_r, clear_r, frz_r, frz_lst, isNone_non, isNone_int, List.lookup_cons, List.lookup_nil, and_self, and_true, true_and, setAt_r, ixN_ok, Option.map_some, List.map_set, List.length_set, snoc_get, snoc_set, setF_r, putFD_nil, putFD_cons, setAll_cons, letter_at m1 m2]
    rfl
  have bl := bsL_len n
  have c3 : ∀ o1 o2 : Option D, compD (gName 9) tYesD k__law_names_3 none [some (.int n), some (.int m), some (.str "abcdefghijklmnopqrstuvwxyz"), some (.str (sL (bsL n))), some (.int (lgI n)), some (.int (atI' n)), some (.lst ((List.range m).map fun k => chr (sgn n k))), o1, o2, none] ((List.range m).map fun k => chr (sgn n k)) S = .ok ((List.range m).map fun k => .str (sL (nmL n k))) S := fun o1 o2 => by
    refine comp_mm (l := List.range m) (enc := fun k => chr (sgn n k)) (ck := none) trivial (fun k => .str (sL (nmL n k))) fun k hk => ⟨_, rfl, rfl, ?_⟩
    unfold k__law_names_3
    have a1 : ((bsL n).take (atI' n).toNat).length + [sgn n k].length ≤ 1000 := by rw [List.length_take, bl, List.length_singleton]; omega
    have a2 : ((bsL n).take (atI' n).toNat ++ [sgn n k]).length + (((bsL n).drop (atI' n).toNat).take ((lgI n).toNat - (atI' n).toNat)).length ≤ 1000 := by rw [List.length_append, List.length_take, List.length_take, List.length_drop, bl, List.length_singleton]; omega
    have s1 : dSl (.str (sL (bsL n))) none (some (atI' n)) S = .ok (.str (sL ((bsL n).take (atI' n).toNat))) S := by rw [sl_sL (by rw [bl]; decide), cut_to ab.1]
    have s2 : dSl (.str (sL (bsL n))) (some (atI' n)) (some (lgI n)) S = .ok (.str (sL (((bsL n).drop (atI' n).toNat).take ((lgI n).toNat - (atI' n).toNat)))) S := by rw [sl_sL (by rw [bl]; decide), cut_between ab.1 lg.1]
    have d1 : dAdd (.str (sL ((bsL n).take (atI' n).toNat))) (chr (sgn n k)) S = .ok (.str (sL ((bsL n).take (atI' n).toNat ++ [sgn n k]))) S := add_sL a1
    have d2 := add_sL (S := S) a2
    simp (disch := first | omega | (simp only [List.length_map, List.length_cons, List.length_nil, List.length_append]; omega)) only [List.map_cons, List.map_nil, List.length_cons, List.length_nil, List.length_map, List.replicate, List.cons_append, List.nil_append, List.append_eq, sSeq_ap, sSet_ap, sIf_ap, sRet_ap, sRetN_ap, sExpr_ap, sNext_ap, sBreak_ap, sCont_ap, sPar_ap, sAsg_ap, sFor_ap, gName_ap, eVar_0, eVar_s, eC_ap, aNil_ap, aCons_ap, e2_ap, e3_ap, toB_bl, toB_stuck, tV_ap, tAnd_ap, tOr_ap, tNot_ap, eAnd_ap, eOr_ap, eNot_ap, eIf_ap, eNeg_ap, eTup_ap, eLst_ap, eLstL_ap, eB_ap, eIsi_ap, eCall_ap, eM_ap, eM0_ap, eIsN_ap, eNotN_ap, oNone_ap, oSome_ap, eSl_ap, iTup_ap, iStr_ap, iRange1_ap, iRange2_ap, iLst_ap, iZipD_ap, setAll_nil, setAll_cons, wipeD_nil, wipeD_cons, dAdd_int, dSub_int, dLt_int, dLe_int, dGt_int, dGe_int, dEqX_int, dEqX_str, dNeX_int, dNeX_str, dEqX_nil, dNeX_nil, dIs_bl, dMod_int, div_lit, bind_ok, bind_exc, toS_ok, toS_exc, then_nx, then_rt, then_exc, endD_nx, endD_rt, endD_exc, List.set_cons_succ, List.set_cons_zero, if_true, if_false, Bool.false_eq_true, Bool.not_true, Bool.not_false, decide_true, decide_false, Nat.zero_add, Nat.reduceAdd, lcEnd_f, eLc_ap, eRev_ap, eFld_ap, sFldD_ap, eMeth_ap, sRaise_ap, eFrz_ap, insOf_ins, bTuple_lst, bTuple_tup, bMin2_int, bMax2_int, bAbs_int, bLen_lst, bLen_tup, bLen_scr, bAll_lst, bAny_lst, bSum_lst, dIx_lst, dIx_tup, dIx_scr, bRepr_bl, sz_lit, Int.reduceLT, Int.reduceLE, Int.reducePow, Nat.reduceLT, Nat.reduceLeDiff, Nat.reducePow, gTup_tup, gCons_c, gNil_n, cast_lit, eq_self, Int.reduceEq, Int.reduceNeg, eDic0_f, sTry_ap, eMake_f, ofS_inj, ofS_beq, String.reduceEq, String.reduceBEq, rg1_ap, rg2_ap, eListRg_ap, iRevRg_ap, iZip3D_ap, iEnum_ap, sSetAt_ap, rg_ok, rg_ok2, rgl_ok, mul_r, mul_l, mod_d, at_int', at_bl', p6, p9, p10, p11, p12, p60, dAdd_lst, Int.toNat_natCast, Int.zero_add, Int.sub_zero, bInt_bl, bInt_int, bList_f, dSl_lst, dSl_tup, dSl_scr, List.getElem?_cons_zero, List.getElem?_cons_succ, beq_self_eq_true, Bool.true_or, Bool.or_false, Bool.or_true, Bool.false_or, Nat.reduceSub, ne_scr_nil, at_zero, Int.reduceAdd, Int.reduceSub, Int.reduceMul, sz_lt, dIx_r, bLen_r, isTy_r, app_r, pop_r, clear_r, frz_r, frz_lst, isNone_non, isNone_int, List.lookup_cons, List.lookup_nil, and_self, and_true, true_and, setAt_r, ixN_ok, Option.map_some, List.map_set, List.length_set, snoc_get, snoc_set, setF_r, putFD_nil, putFD_cons, setAll_cons, s1, s2, d1, d2]
    rfl
  rw [m__law_names, runD_ap, z__law_names]
  have t8 : Int.toNat 8 = 8 := rfl
  have ty : isTy "str" S (.str "") = true := rfl
  have r8 : ((rngD 0 8).length ≤ sizeLine) = True := eq_true (by rw [rngD_len]; exact sz_16 (by decide))
  have rm : ((rngD 0 m).length ≤ sizeLine) = True := eq_true (by rw [rngD_len]; exact sz_16 (by omega))
  have rm2 : ((List.range m).length ≤ sizeLine) = True := eq_true (by rw [List.length_range]; exact sz_16 (by omega))
  simp (disch := first | omega | (simp only [List.length_map, List.length_cons, List.length_nil, List.length_append]; omega)) only [List.map_cons, List.map_nil, List.length_cons, List.length_nil, List.length_map, List.replicate, List.cons_append, List.nil_append, List.append_eq, sSeq_ap, sSet_ap, sIf_ap, sRet_ap, sRetN_ap, sExpr_ap, sNext_ap, sBreak_ap, sCont_ap, sPar_ap, sAsg_ap, sFor_ap, gName_ap, eVar_0, eVar_s, eC_ap, aNil_ap, aCons_ap, e2_ap, e3_ap, toB_bl, toB_stuck, tV_ap, tAnd_ap, tOr_ap, tNot_ap, eAnd_ap, eOr_ap, eNot_ap, eIf_ap, eNeg_ap, eTup_ap, eLst_ap, eLstL_ap, eB_ap, eIsi_ap, eCall_ap, eM_ap, eM0_ap, eIsN_ap, eNotN_ap, oNone_ap, oSome_ap, eSl_ap, iTup_ap, iStr_ap, iRange1_ap, iRange2_ap, iLst_ap, iZipD_ap, setAll_nil, setAll_cons, wipeD_nil, wipeD_cons, dAdd_int, dSub_int, dLt_int, dLe_int, dGt_int, dGe_int, dEqX_int, dEqX_str, dNeX_int, dNeX_str, dEqX_nil, dNeX_nil, dIs_bl, dMod_int, div_lit, bind_ok, bind_exc, toS_ok, toS_exc, then_nx, then_rt, then_exc, endD_nx, endD_rt, endD_exc, List.set_cons_succ, List.set_cons_zero, if_true, if_false, Bool.false_eq_true, Bool.not_true, Bool.not_false, decide_true, decide_false, Nat.zero_add, Nat.reduceAdd, lcEnd_f, eLc_ap, eRev_ap, eFld_ap, sFldD_ap, eMeth_ap, sRaise_ap, eFrz_ap, insOf_ins, bTuple_lst, bTuple_tup, bMin2_int, bMax2_int, bAbs_int, bLen_lst, bLen_tup, bLen_scr, bAll_lst, bAny_lst, bSum_lst, dIx_lst, dIx_tup, dIx_scr, bRepr_bl, sz_lit, Int.reduceLT, Int.reduceLE, Int.reducePow, Nat.reduceLT, Nat.reduceLeDiff, Nat.reducePow, gTup_tup, gCons_c, gNil_n, cast_lit, eq_self, Int.reduceEq, Int.reduceNeg, eDic0_f, sTry_ap, eMake_f, ofS_inj, ofS_beq, String.reduceEq, String.reduceBEq, rg1_ap, rg2_ap, eListRg_ap, iRevRg_ap, iZip3D_ap, iEnum_ap, sSetAt_ap, rg_ok, rg_ok2, rgl_ok, mul_r, mul_l, mod_d, at_int', at_bl', p6, p9, p10, p11, p12, p60, dAdd_lst, Int.toNat_natCast, Int.zero_add, Int.sub_zero, bInt_bl, bInt_int, bList_f, dSl_lst, dSl_tup, dSl_scr, List.getElem?_cons_zero, List.getElem?_cons_succ, beq_self_eq_true, Bool.true_or, Bool.or_false, Bool.or_true, Bool.false_or, Nat.reduceSub, ne_scr_nil, at_zero, Int.reduceAdd, Int.reduceSub, Int.reduceMul, sz_lt, dIx_r, bLen_r, isTy_r, app_r, pop_r, clear_r, frz_r, frz_lst, isNone_non, isNone_int, List.lookup_cons, List.lookup_nil, and_self, and_true, true_and, setAt_r, ixN_ok, Option.map_some, List.map_set, List.length_set, snoc_get, snoc_set, setF_r, putFD_nil, putFD_cons, t8, ty, r8, rm, rm2, c1, j1, md, c2, c3, e1, lcEnd_f]
end Q
namespace Q
open PySem L2 Mi
theorem c_number (cs : List Int) (hl : cs.length ≤ 63) {k : Int} (h0 : 0 ≤ k) (h1 : k < 2 ^ 40) : ∃ r : Int, 0 ≤ r ∧ r < 2 ^ 30 ∧ ∀ S, callD 2 (pureD m__law_number) [] [scrD cs, .int k] S = .ok (.int r) S := by
  obtain ⟨r, h2, h3, h4⟩ := v_number cs hl k h0 h1 []
  exact ⟨r, h2, h3, pureS ⟨[], h4⟩ rfl (nr_scr cs k) rfl⟩
theorem nr_names (n : Int) (m : Nat) : noref (.lst ((List.range m).map fun k => .str (sL (nmL n k)))) = true := by
  show norefs _ = true
  exact nr_map fun _ _ => rfl
theorem c_names (n : Int) (h0 : 0 ≤ n) (h1 : n < 2 ^ 40) (m : Nat) (hm : m ≤ 26) : ∀ S, callD 2 (pureD m__law_names) [] [.int n, .int m] S = .ok (.lst ((List.range m).map fun k => .str (sL (nmL n k)))) S :=
  pureS ⟨[], v_names n h0 h1 m hm []⟩ rfl rfl (nr_names n m)
theorem p5e (S : Store) : dPow (.int 10) (.int 11) S = .ok (.int 100000000000) S := by rw [dPow_int (by decide)]; rfl
theorem c_weight {c : Int} (h0 : 0 ≤ c) : ∃ r : Int, 1 ≤ r ∧ r ≤ 1000000000000 ∧ ∀ S, callD 1 (pureD m__law_weight) [] [.int c] S = .ok (.int r) S := by
  have go : ∃ r : Int, 1 ≤ r ∧ r ≤ 1000000000000 ∧ m__law_weight [.int c] [] = .ok (.int r) [] := by
    rw [m__law_weight, runD_ap, z__law_weight]
    obtain ⟨r, r1, r2, r3⟩ := pickI (l := [1 + c / 4 % 9, 1 + c / 4 % 9, 1, 500000000000 + c / 4 % 3 - 1]) (x := c % 4) (lo := 1) (hi := 1000000000000) (Int.emod_nonneg _ (by decide)) (by simp; omega) (by
      intro i hi
      simp only [List.mem_cons, List.not_mem_nil, or_false] at hi
      rcases hi with rfl | rfl | rfl | rfl <;> omega)
    simp only [List.map_cons, List.map_nil] at r3
    refine ⟨r, r1, r2, ?_⟩
    simp (disch := first | omega | (simp only [List.length_map, List.length_cons, List.length_nil, List.length_append]; omega)) only [List.map_cons, List.map_nil, List.length_cons, List.length_nil, List.length_map, List.replicate, List.cons_append, List.nil_append, List.append_eq, sSeq_ap, sSet_ap, sIf_ap, sRet_ap, sRetN_ap, sExpr_ap, sNext_ap, sBreak_ap, sCont_ap, sPar_ap, sAsg_ap, sFor_ap, gName_ap, eVar_0, eVar_s, eC_ap, aNil_ap, aCons_ap, e2_ap, e3_ap, toB_bl, toB_stuck, tV_ap, tAnd_ap, tOr_ap, tNot_ap, eAnd_ap, eOr_ap, eNot_ap, eIf_ap, eNeg_ap, eTup_ap, eLst_ap, eLstL_ap, eB_ap, eIsi_ap, eCall_ap, eM_ap, eM0_ap, eIsN_ap, eNotN_ap, oNone_ap, oSome_ap, eSl_ap, iTup_ap, iStr_ap, iRange1_ap, iRange2_ap, iLst_ap, iZipD_ap, setAll_nil, setAll_cons, wipeD_nil, wipeD_cons, dAdd_int, dSub_int, dLt_int, dLe_int, dGt_int, dGe_int, dEqX_int, dEqX_str, dNeX_int, dNeX_str, dEqX_nil, dNeX_nil, dIs_bl, dMod_int, div_lit, bind_ok, bind_exc, toS_ok, toS_exc, then_nx, then_rt, then_exc, endD_nx, endD_rt, endD_exc, List.set_cons_succ, List.set_cons_zero, if_true, if_false, Bool.false_eq_true, Bool.not_true, Bool.not_false, decide_true, decide_false, Nat.zero_add, Nat.reduceAdd, lcEnd_f, eLc_ap, eRev_ap, eFld_ap, sFldD_ap, eMeth_ap, sRaise_ap, eFrz_ap, insOf_ins, bTuple_lst, bTuple_tup, bMin2_int, bMax2_int, bAbs_int, bLen_lst, bLen_tup, bLen_scr, bAll_lst, bAny_lst, bSum_lst, dIx_lst, dIx_tup, dIx_scr, bRepr_bl, sz_lit, Int.reduceLT, Int.reduceLE, Int.reducePow, Nat.reduceLT, Nat.reduceLeDiff, Nat.reducePow, gTup_tup, gCons_c, gNil_n, cast_lit, eq_self, Int.reduceEq, Int.reduceNeg, eDic0_f, sTry_ap, eMake_f, ofS_inj, ofS_beq, String.reduceEq, String.reduceBEq, rg1_ap, rg2_ap, eListRg_ap, iRevRg_ap, iZip3D_ap, iEnum_ap, sSetAt_ap, rg_ok, rg_ok2, rgl_ok, mul_r, mul_l, mod_d, at_int', at_bl', p6, p9, p10, p11, p12, p60, dAdd_lst, Int.toNat_natCast, Int.zero_add, Int.sub_zero, bInt_bl, bInt_int, bList_f, dSl_lst, dSl_tup, dSl_scr, List.getElem?_cons_zero, List.getElem?_cons_succ, beq_self_eq_true, Bool.true_or, Bool.or_false, Bool.or_true, Bool.false_or, Nat.reduceSub, ne_scr_nil, at_zero, Int.reduceAdd, Int.reduceSub, Int.reduceMul, sz_lt, dIx_r, bLen_r, isTy_r, app_r, pop_r, clear_r, frz_r, frz_lst, isNone_non, isNone_int, List.lookup_cons, List.lookup_nil, and_self, and_true, true_and, setAt_r, ixN_ok, Option.map_some, List.map_set, List.length_set, snoc_get, snoc_set, setF_r, putFD_nil, putFD_cons, r3]
  obtain ⟨r, r1, r2, r3⟩ := go
  exact ⟨r, r1, r2, pureS ⟨[], r3⟩ rfl rfl rfl⟩

/-! what is told of a stack -/
structure TR where
  nm : List Nat
  pl : Int
  hi : Int
  wt : Int
def trD (t : TR) : D := .tup [.str (sL t.nm), .int t.pl, .int t.hi, .int t.wt]
def NmOk (l : List Nat) : Prop := 1 ≤ l.length ∧ l.length ≤ 8 ∧ ∀ c ∈ l, 97 ≤ c ∧ c ≤ 122
structure TR.Ok (t : TR) : Prop where
  nm : NmOk t.nm
  pl0 : 0 ≤ t.pl
  pl1 : t.pl ≤ 1000000000000
  hi0 : 1 ≤ t.hi
  hi1 : t.hi ≤ 20
  wt0 : 1 ≤ t.wt
  wt1 : t.wt ≤ 1000000000000
structure Told (ts : List TR) : Prop where
  lo : 1 ≤ ts.length
  hi : ts.length ≤ 20
  ok : ∀ t ∈ ts, t.Ok
  nms : (ts.map (·.nm)).Nodup
  pls : (ts.map (·.pl)).Nodup
theorem nm_ok (n : Int) (k : Nat) : NmOk (nmL n k) := ⟨(nmL_len n k).1, (nmL_len n k).2, nmL_let n k⟩
theorem Told.perm {ts us : List TR} (h : Told ts) (p : us.Perm ts) : Told us where
  lo := by rw [p.length_eq]; exact h.lo
  hi := by rw [p.length_eq]; exact h.hi
  ok := fun t ht => h.ok t (p.subset ht)
  nms := (p.map _).nodup_iff.mpr h.nms
  pls := (p.map _).nodup_iff.mpr h.pls
theorem tr_nr (ts : List TR) : norefs (ts.map trD) = true := nr_map fun _ _ => rfl
theorem rngD_cons {lo : Int} {n : Nat} : rngD lo (n + 1) = .int lo :: rngD (lo + 1) n := by
  unfold rngD
  rw [List.range_succ_eq_map, List.map_cons, List.map_map]
  congr 1
  · simp
  · apply List.map_congr_left
    intro i _
    show D.int (lo + ((i + 1 : Nat) : Int)) = D.int (lo + 1 + i)
    congr 1
    omega
theorem dSl_r {l : Nat} {xs : List D} {lo hi : Option Int} {S : Store} (h : S[l]? = some (some (.lst xs))) : dSl (.ref l) lo hi S = .ok (.lst (cutD xs lo hi)) S := by
  unfold dSl seqOf lstOf
  simp only [h]
/-- the rows so far -/
structure Row (nn : Int) (ts : List TR) (p : Int) : Prop where
  ok : ∀ t ∈ ts, t.Ok
  nm : ts.map (·.nm) = (List.range ts.length).map (nmL nn)
  le : ∀ t ∈ ts, t.pl < p
  pls : (ts.map (·.pl)).Nodup
theorem loop_told (cs : List Int) (hl : cs.length ≤ 63) (at' nh nn size : Int) (a0 : 0 ≤ at') (a1 : at' ≤ 1000) (m : Nat) (hm : m ≤ 20) (S : Store) : ∀ (d : Nat) (j : Nat), j + d = m → ∀ (ts : List TR) (p : Int) (o7 o8 o9 o10 o11 : Option D), ts.length = j → Row nn ts p → 0 ≤ p → p ≤ 40 + j * 8000000001 →
    ∃ ts' p' b7 b8 b9 b10 b11, ts'.length = m ∧ Row nn ts' p' ∧
    forD none (gName 7) b__law_stacks_1 (rngD j d) [some (scrD cs), some (.int at'), some (.int nh), some (.int size), some (.lst ((List.range m).map fun k => .str (sL (nmL nn k)))), some (.int p), some (.ref S.length), o7, o8, o9, o10, o11] (S ++ [some (.lst (ts.map trD))]) =
    .nx [some (scrD cs), some (.int at'), some (.int nh), some (.int size), some (.lst ((List.range m).map fun k => .str (sL (nmL nn k)))), some (.int p'), some (.ref S.length), b7, b8, b9, b10, b11] (S ++ [some (.lst (ts'.map trD))]) := by
  intro d
  induction d with
  | zero =>
    intro j hj ts p o7 o8 o9 o10 o11 hlen hr _ _
    exact ⟨ts, p, o7, o8, o9, o10, o11, by omega, hr, forD_nil⟩
  | succ d ih =>
    intro j hj ts p o7 o8 o9 o10 o11 hlen hr p0 p1
    obtain ⟨c, c0, c1, hc⟩ := c_number cs hl (k := at' + 2 + j) (by omega) (by omega)
    obtain ⟨hi, hi0, hi1, ehi⟩ := pickI (l := [1, 2, 3, 20, 1 + c / 5 % 20]) (x := c % 5) (lo := 1) (hi := 20) (Int.emod_nonneg _ (by decide)) (by simp; omega) (by
      intro i hi
      simp only [List.mem_cons, List.not_mem_nil, or_false] at hi
      rcases hi with rfl | rfl | rfl | rfl | rfl <;> omega)
    obtain ⟨wt, wt0, wt1, ewt⟩ := pickI (l := [1 + c / 100 % 9, 10 + c / 100 % 30, 1000000000000, 500000000000, 20]) (x := c / 20 % 5) (lo := 1) (hi := 1000000000000) (Int.emod_nonneg _ (by decide)) (by simp; omega) (by
      intro i hi
      simp only [List.mem_cons, List.not_mem_nil, or_false] at hi
      rcases hi with rfl | rfl | rfl | rfl | rfl <;> omega)
    obtain ⟨mu, mu0, mu1, emu⟩ := pickI (l := [1, 1, 1000000000]) (x := c / 9 % 3) (lo := 1) (hi := 1000000000) (Int.emod_nonneg _ (by decide)) (by simp; omega) (by
      intro i hi
      simp only [List.mem_cons, List.not_mem_nil, or_false] at hi
      rcases hi with rfl | rfl | rfl <;> omega)
    simp only [List.map_cons, List.map_nil] at ehi ewt emu
    have hnm : atD ((List.range m).map fun k => D.str (sL (nmL nn k))) (j : Int) = some (.str (sL (nmL nn j))) := atD_nat (by rw [List.getElem?_map, List.getElem?_range (by omega)]; rfl)
    have hstep : b__law_stacks_1 (setAll [some (scrD cs), some (.int at'), some (.int nh), some (.int size), some (.lst ((List.range m).map fun k => .str (sL (nmL nn k)))), some (.int p), some (.ref S.length), o7, o8, o9, o10, o11] [(7, .int j)]) (S ++ [some (.lst (ts.map trD))]) =
        .nx [some (scrD cs), some (.int at'), some (.int nh), some (.int size), some (.lst ((List.range m).map fun k => .str (sL (nmL nn k)))), some (.int (p + 1 + c / 700 % 9 * mu)), some (.ref S.length), some (.int j), some (.int c), some (.int hi), some (.int wt), o11] (S ++ [some (.lst ((ts ++ [TR.mk (nmL nn j) p hi wt]).map trD))]) := by
      unfold b__law_stacks_1
      have hm' : IntMulOk (c / 700 % 9) mu = True := cmul_l (by omega) (by omega)
      have hm2 : ∀ S, dMul (.int (c / 700 % 9)) (.int mu) S = .ok (.int (c / 700 % 9 * mu)) S := fun S => dMul_int (of_eq_true hm')
      have sz : (ts.map trD).length < sizeLine := Nat.lt_of_lt_of_le (m := 1000) (by rw [List.length_map]; omega) (by decide)
      simp (disch := first | omega | (simp only [List.length_map, List.length_cons, List.length_nil, List.length_append]; omega)) only [List.map_cons, List.map_nil, List.length_cons, List.length_nil, List.length_map, List.replicate, List.cons_append, List.nil_append, List.append_eq, sSeq_ap, sSet_ap, sIf_ap, sRet_ap, sRetN_ap, sExpr_ap, sNext_ap, sBreak_ap, sCont_ap, sPar_ap, sAsg_ap, sFor_ap, gName_ap, eVar_0, eVar_s, eC_ap, aNil_ap, aCons_ap, e2_ap, e3_ap, toB_bl, toB_stuck, tV_ap, tAnd_ap, tOr_ap, tNot_ap, eAnd_ap, eOr_ap, eNot_ap, eIf_ap, eNeg_ap, eTup_ap, eLst_ap, eLstL_ap, eB_ap, eIsi_ap, eCall_ap, eM_ap, eM0_ap, eIsN_ap, eNotN_ap, oNone_ap, oSome_ap, eSl_ap, iTup_ap, iStr_ap, iRange1_ap, iRange2_ap, iLst_ap, iZipD_ap, setAll_nil, setAll_cons, wipeD_nil, wipeD_cons, dAdd_int, dSub_int, dLt_int, dLe_int, dGt_int, dGe_int, dEqX_int, dEqX_str, dNeX_int, dNeX_str, dEqX_nil, dNeX_nil, dIs_bl, dMod_int, div_lit, bind_ok, bind_exc, toS_ok, toS_exc, then_nx, then_rt, then_exc, endD_nx, endD_rt, endD_exc, List.set_cons_succ, List.set_cons_zero, if_true, if_false, Bool.false_eq_true, Bool.not_true, Bool.not_false, decide_true, decide_false, Nat.zero_add, Nat.reduceAdd, lcEnd_f, eLc_ap, eRev_ap, eFld_ap, sFldD_ap, eMeth_ap, sRaise_ap, eFrz_ap, insOf_ins, bTuple_lst, bTuple_tup, bMin2_int, bMax2_int, bAbs_int, bLen_lst, bLen_tup, bLen_scr, bAll_lst, bAny_lst, bSum_lst, dIx_lst, dIx_tup, dIx_scr, bRepr_bl, sz_lit, Int.reduceLT, Int.reduceLE, Int.reducePow, Nat.reduceLT, Nat.reduceLeDiff, Nat.reducePow, gTup_tup, gCons_c, gNil_n, cast_lit, eq_self, Int.reduceEq, Int.reduceNeg, eDic0_f, sTry_ap, eMake_f, ofS_inj, ofS_beq, String.reduceEq, String.reduceBEq, rg1_ap, rg2_ap, eListRg_ap, iRevRg_ap, iZip3D_ap, iEnum_ap, sSetAt_ap, rg_ok, rg_ok2, rgl_ok, mul_r, mul_l, mod_d, at_int', at_bl', p6, p9, p10, p11, p12, p60, dAdd_lst, Int.toNat_natCast, Int.zero_add, Int.sub_zero, bInt_bl, bInt_int, bList_f, dSl_lst, dSl_tup, dSl_scr, List.getElem?_cons_zero, List.getElem?_cons_succ, beq_self_eq_true, Bool.true_or, Bool.or_false, Bool.or_true, Bool.false_or, Nat.reduceSub, ne_scr_nil, at_zero, Int.reduceAdd, Int.reduceSub, Int.reduceMul, sz_lt, dIx_r, bLen_r, isTy_r, app_r, pop_r, clear_r, frz_r, frz_lst, isNone_non, isNone_int, List.lookup_cons, List.lookup_nil, and_self, and_true, true_and, setAt_r, ixN_ok, Option.map_some, List.map_set, List.length_set, snoc_get, snoc_set, setF_r, putFD_nil, putFD_cons, hc, ehi, ewt, emu, hnm, p5e, hm2, List.map_append, trD]
    have mu9 : 0 ≤ c / 700 % 9 * mu := Int.mul_nonneg (by omega) (by omega)
    have h8 : c / 700 % 9 * mu ≤ 8 * 1000000000 := Int.mul_le_mul (by omega) mu1 (by omega) (by decide)
    have hrow : Row nn (ts ++ [TR.mk (nmL nn j) p hi wt]) (p + 1 + c / 700 % 9 * mu) := by
      refine ⟨fun t ht => ?_, ?_, fun t ht => ?_, ?_⟩
      · rcases List.mem_append.mp ht with ht | ht
        · exact hr.ok t ht
        · rw [List.mem_singleton.mp ht]
          exact ⟨nm_ok nn j, p0, by show p ≤ _; omega, hi0, hi1, wt0, wt1⟩
      · rw [List.map_append, List.length_append, List.length_singleton, List.range_succ, List.map_append, hr.nm, hlen]; rfl
      · rcases List.mem_append.mp ht with ht | ht
        · have := hr.le t ht; omega
        · rw [List.mem_singleton.mp ht]
          show p < _; omega
      · rw [List.map_append, List.nodup_append]
        refine ⟨hr.pls, by simp, fun x hx y hy e => ?_⟩
        obtain ⟨t, ht, rfl⟩ := List.mem_map.mp hx
        have hy : y = p := by simpa using hy
        have := hr.le t ht
        omega
    obtain ⟨ts', p', b7, b8, b9, b10, b11, q1, q2, q3⟩ := ih (j + 1) (by omega) (ts ++ [TR.mk (nmL nn j) p hi wt]) (p + 1 + c / 700 % 9 * mu) (some (.int j)) (some (.int c)) (some (.int hi)) (some (.int wt)) o11 (by simp [hlen]) hrow (by omega) (by push_cast; omega)
    refine ⟨ts', p', b7, b8, b9, b10, b11, q1, q2, ?_⟩
    rw [rngD_cons, forD_cons rfl hstep]
    exact q3
theorem c_stacks (cs : List Int) (hl : cs.length ≤ 63) : ∃ ts, Told ts ∧ ∀ S, callD 2 (pureD m__law_stacks) [] [scrD cs, .int 100] S = .ok (.lst (ts.map trD)) S := by
  obtain ⟨n, n0, n1, hn⟩ := c_number cs hl (k := 100) (by decide) (by decide)
  obtain ⟨nn, nn0, nn1, hnn⟩ := c_number cs hl (k := 101) (by decide) (by decide)
  obtain ⟨size, z0, z1, ez⟩ := pickI (l := [1, 2, 3, 5, 20, 2 + n / 6 % 4]) (x := n % 6) (lo := 1) (hi := 20) (Int.emod_nonneg _ (by decide)) (by simp; omega) (by
    intro i hi
    simp only [List.mem_cons, List.not_mem_nil, or_false] at hi
    rcases hi with rfl | rfl | rfl | rfl | rfl | rfl <;> omega)
  simp only [List.map_cons, List.map_nil] at ez
  obtain ⟨m, rfl⟩ : ∃ m : Nat, size = m := ⟨size.toNat, by omega⟩
  have hnm := c_names nn nn0 (by omega) m (by omega)
  obtain ⟨ts, p', b7, b8, b9, b10, b11, q1, q2, q3⟩ := loop_told cs hl 100 n nn m (by decide) (by decide) m (by omega) [] m 0 (by omega) [] (n / 30 % 40) none none none none none rfl ⟨by simp, rfl, by simp, by simp⟩ (by omega) (by omega)
  have tm : Int.toNat (m : Int) = m := Int.toNat_natCast m
  have f0 : 0 ≤ n / 1200 % m := Int.emod_nonneg _ (by omega)
  have f1 : n / 1200 % m < m := Int.emod_lt_of_pos _ (by omega)
  have md : ∀ S, dMod (.int (n / 1200)) (.int m) S = .ok (.int (n / 1200 % m)) S := fun S => dMod_int (by omega)
  have told : Told ts := by
    refine ⟨by omega, by omega, q2.ok, ?_, q2.pls⟩
    rw [q2.nm]
    exact List.pairwise_map.mpr (List.Pairwise.imp_of_mem (fun ha hb hne e => hne (nmL_inj (by have := List.mem_range.mp ha; omega) (by have := List.mem_range.mp hb; omega) e)) List.nodup_range)
  refine ⟨ts.drop (n / 1200 % m).toNat ++ ts.take (n / 1200 % m).toNat, told.perm (List.perm_append_comm.trans (by rw [List.take_append_drop])), pureS ⟨[some (O.lst (ts.map trD))], ?_⟩ rfl (nr_scr cs 100) (tr_nr _)⟩
  · rw [m__law_stacks, runD_ap, z__law_stacks]
    have q3' := q3
    simp only [List.nil_append, List.length_nil, List.map_nil, Int.ofNat_zero] at q3'
    have s1 : ∀ lo hi, dSl (.ref 0) lo hi [some (O.lst (ts.map trD))] = .ok (.lst (cutD (ts.map trD) lo hi)) [some (O.lst (ts.map trD))] := fun lo hi => dSl_r rfl
    have a1 : dAdd (.lst ((ts.map trD).drop (n / 1200 % m).toNat)) (.lst ((ts.map trD).take (n / 1200 % m).toNat)) [some (O.lst (ts.map trD))] = .ok (.lst ((ts.map trD).drop (n / 1200 % m).toNat ++ (ts.map trD).take (n / 1200 % m).toNat)) [some (O.lst (ts.map trD))] := dAdd_lst (by rw [List.length_drop, List.length_take, List.length_map]; omega)
    rw [List.map_append, List.map_drop, List.map_take]
    simp (disch := first | omega | (simp only [List.length_map, List.length_cons, List.length_nil, List.length_append]; omega)) only [List.map_cons, List.map_nil, List.length_cons, List.length_nil, List.length_map, List.replicate, List.cons_append, List.nil_append, List.append_eq, sSeq_ap, sSet_ap, sIf_ap, sRet_ap, sRetN_ap, sExpr_ap, sNext_ap, sBreak_ap, sCont_ap, sPar_ap, sAsg_ap, sFor_ap, gName_ap, eVar_0, eVar_s, eC_ap, aNil_ap, aCons_ap, e2_ap, e3_ap, toB_bl, toB_stuck, tV_ap, tAnd_ap, tOr_ap, tNot_ap, eAnd_ap, eOr_ap, eNot_ap, eIf_ap, eNeg_ap, eTup_ap, eLst_ap, eLstL_ap, eB_ap, eIsi_ap, eCall_ap, eM_ap, eM0_ap, eIsN_ap, eNotN_ap, oNone_ap, oSome_ap, eSl_ap, iTup_ap, iStr_ap, iRange1_ap, iRange2_ap, iLst_ap, iZipD_ap, setAll_nil, setAll_cons, wipeD_nil, wipeD_cons, dAdd_int, dSub_int, dLt_int, dLe_int, dGt_int, dGe_int, dEqX_int, dEqX_str, dNeX_int, dNeX_str, dEqX_nil, dNeX_nil, dIs_bl, dMod_int, div_lit, bind_ok, bind_exc, toS_ok, toS_exc, then_nx, then_rt, then_exc, endD_nx, endD_rt, endD_exc, List.set_cons_succ, List.set_cons_zero, if_true, if_false, Bool.false_eq_true, Bool.not_true, Bool.not_false, decide_true, decide_false, Nat.zero_add, Nat.reduceAdd, lcEnd_f, eLc_ap, eRev_ap, eFld_ap, sFldD_ap, eMeth_ap, sRaise_ap, eFrz_ap, insOf_ins, bTuple_lst, bTuple_tup, bMin2_int, bMax2_int, bAbs_int, bLen_lst, bLen_tup, bLen_scr, bAll_lst, bAny_lst, bSum_lst, dIx_lst, dIx_tup, dIx_scr, bRepr_bl, sz_lit, Int.reduceLT, Int.reduceLE, Int.reducePow, Nat.reduceLT, Nat.reduceLeDiff, Nat.reducePow, gTup_tup, gCons_c, gNil_n, cast_lit, eq_self, Int.reduceEq, Int.reduceNeg, eDic0_f, sTry_ap, eMake_f, ofS_inj, ofS_beq, String.reduceEq, String.reduceBEq, rg1_ap, rg2_ap, eListRg_ap, iRevRg_ap, iZip3D_ap, iEnum_ap, sSetAt_ap, rg_ok, rg_ok2, rgl_ok, mul_r, mul_l, mod_d, at_int', at_bl', p6, p9, p10, p11, p12, p60, dAdd_lst, Int.toNat_natCast, Int.zero_add, Int.sub_zero, bInt_bl, bInt_int, bList_f, dSl_lst, dSl_tup, dSl_scr, List.getElem?_cons_zero, List.getElem?_cons_succ, beq_self_eq_true, Bool.true_or, Bool.or_false, Bool.or_true, Bool.false_or, Nat.reduceSub, ne_scr_nil, at_zero, Int.reduceAdd, Int.reduceSub, Int.reduceMul, sz_lt, dIx_r, bLen_r, isTy_r, app_r, pop_r, clear_r, frz_r, frz_lst, isNone_non, isNone_int, List.lookup_cons, List.lookup_nil, and_self, and_true, true_and, setAt_r, ixN_ok, Option.map_some, List.map_set, List.length_set, snoc_get, snoc_set, setF_r, putFD_nil, putFD_cons, hn, hnn, ez, hnm, tm, q3', md, s1, cut_from f0, cut_to f0, a1]
theorem at_one {α : Type} {a b : α} {l : List α} : atD (a :: b :: l) 1 = some b := atD_nat (k := 1) rfl
theorem at_two {α : Type} {a b c : α} {l : List α} : atD (a :: b :: c :: l) 2 = some c := atD_nat (k := 2) rfl
theorem at_three {α : Type} {a b c d : α} {l : List α} : atD (a :: b :: c :: d :: l) 3 = some d := atD_nat (k := 3) rfl
end Q
namespace Q
open PySem L2 Mi
theorem nr_call {n : Nat} {k : GD} {ds : List D} {r : D} (h : k ds [] = .ok r []) (hl : ds.length = n) (h1 : norefs ds = true) (h3 : noref r = true) : ∀ S, callD n (pureD k) [] ds S = .ok r S := pureS ⟨[], h⟩ hl h1 h3
def nameB (s : Str) : Bool := decide (1 ≤ s.length) && decide (s.length ≤ 8) && s.cps.toList.all fun c => decide (97 ≤ c ∧ c ≤ 122)
theorem letter_in (c : Nat) (S : Store) : dIn (chr c) (.str "abcdefghijklmnopqrstuvwxyz") S = .ok (.bl (decide (97 ≤ c ∧ c ≤ 122))) S := by
  have h : decide (c ∈ (Str.ofString "abcdefghijklmnopqrstuvwxyz").cps.toList) = decide (97 ≤ c ∧ c ≤ 122) := by
    rw [abc_eq]
    unfold abc
    simp only [List.mem_cons, List.not_mem_nil, or_false, decide_eq_decide]
    omega
  show (match inB S (chr c) (.str "abcdefghijklmnopqrstuvwxyz") with | some b => Out.ok (D.bl b) S | none => .stuck) = _
  have h2 : inB S (chr c) (.str "abcdefghijklmnopqrstuvwxyz") = some (decide (c ∈ (Str.ofString "abcdefghijklmnopqrstuvwxyz").cps.toList)) := rfl
  rw [h2, h]
theorem v_is_name (s : Str) (hl : s.length ≤ 1000) (S : Store) : m_is_name [.str s] S = .ok (.bl (nameB s)) S := by
  have hs : s.length ≤ sizeLine := Nat.le_trans hl (by decide)
  rw [m_is_name, runD_ap, z_is_name]
  by_cases h1 : 1 ≤ s.length
  · by_cases h8 : s.length ≤ 8
    · have h1' : (1 : Int) ≤ s.length := by omega
      have h8' : (s.length : Int) ≤ 8 := by omega
      have hm : compD (gName 1) tYesD k_is_name_1 none [some (.str s), none] (s.cps.toList.map fun c => .str ⟨#[c]⟩) S = .ok (s.cps.toList.map fun c => .bl (decide (97 ≤ c ∧ c ≤ 122))) S := by
        refine (comp_map (fun d => match d with | .str z => .bl (decide (97 ≤ z.cps.getD 0 0 ∧ z.cps.getD 0 0 ≤ 122)) | d => d) ?_).trans ?_
        · intro d hd
          obtain ⟨c, _, rfl⟩ := List.mem_map.mp hd
          exact ⟨_, rfl, rfl, letter_in c S⟩
        · rw [List.map_map]; rfl
      have hz : s.cps.size ≤ sizeLine := hs
      simp only [sSeq_ap, sIf_ap, tOr_ap, tNot_ap, tV_ap, eIsi_ap, eVar_0, tyName, isT, List.map, bind_ok, toB_bl, beq_self_eq_true, Bool.true_or, Bool.not_true, if_false, Bool.false_eq_true, e3_ap, eC_ap, eB_ap, aCons_ap, aNil_ap, bLen_str, hs, if_true, dLe_int, h1', h8', decide_true, toS_ok, sNext_ap, then_nx,
        List.length_cons, List.length_nil, List.replicate, List.append_eq, List.cons_append, List.nil_append, sRet_ap, eLc_ap, iStr_ap, iLst_ap, List.length_map, Array.length_toList, hz, wipeD_cons, wipeD_nil, List.set_cons_succ, List.set_cons_zero, hm, lcEnd_f, bAll_lst, blsOf_map]
      simp [nameB, h1, h8]
    · have h8' : ¬ (s.length : Int) ≤ 8 := by omega
      simp [tyName, isT, hs, h8', nameB, h8]
  · have h1' : ¬ (1 : Int) ≤ s.length := by omega
    simp [tyName, isT, hs, h1', nameB, h1]
theorem nameB_ok {l : List Nat} (h : NmOk l) : nameB (sL l) = true := by
  obtain ⟨h1, h2, h3⟩ := h
  unfold nameB
  rw [sL_len, sL_list, decide_eq_true h1, decide_eq_true h2, List.all_eq_true.mpr fun c hc => decide_eq_true (h3 c hc)]
  rfl
theorem c_is_name {l : List Nat} (h : NmOk l) : ∀ S, callD 1 (pureD m_is_name) [] [.str (sL l)] S = .ok (.bl true) S :=
  nr_call (by rw [v_is_name _ (by rw [sL_len]; have := h.2.1; omega), nameB_ok h]) rfl rfl rfl
theorem c_among (i lo hi : Int) : ∀ S, callD 3 (pureD m_is_among) [] [.int i, .int lo, .int hi] S = .ok (.bl (decide (lo ≤ i) && decide (i ≤ hi))) S :=
  nr_call (by
    rw [m_is_among, runD_ap, z_is_among]
    by_cases h : lo ≤ i <;> simp [tyName, isT, h]) rfl rfl rfl
theorem c_in {i lo hi : Int} (h0 : lo ≤ i) (h1 : i ≤ hi) (S : Store) : callD 3 (pureD m_is_among) [] [.int i, .int lo, .int hi] S = .ok (.bl true) S := by
  rw [c_among, decide_eq_true h0, decide_eq_true h1]; rfl
theorem c_is_stack {t : TR} (h : t.Ok) : ∀ S, callD 1 (pureD m_is_stack) [] [trD t] S = .ok (.bl true) S :=
  nr_call (by
    have n := c_is_name h.nm
    have a1 := c_in h.pl0 h.pl1
    have a2 := c_in h.hi0 h.hi1
    have a3 := c_in h.wt0 h.wt1
    rw [m_is_stack, runD_ap, z_is_stack]
    unfold trD
    simp (disch := first | omega | (simp only [List.length_map, List.length_cons, List.length_nil, List.length_append]; omega)) only [List.map_cons, List.map_nil, List.length_cons, List.length_nil, List.length_map, List.replicate, List.cons_append, List.nil_append, List.append_eq, sSeq_ap, sSet_ap, sIf_ap, sRet_ap, sRetN_ap, sExpr_ap, sNext_ap, sBreak_ap, sCont_ap, sPar_ap, sAsg_ap, sFor_ap, gName_ap, eVar_0, eVar_s, eC_ap, aNil_ap, aCons_ap, e2_ap, e3_ap, toB_bl, toB_stuck, tV_ap, tAnd_ap, tOr_ap, tNot_ap, eAnd_ap, eOr_ap, eNot_ap, eIf_ap, eNeg_ap, eTup_ap, eLst_ap, eLstL_ap, eB_ap, eIsi_ap, eCall_ap, eM_ap, eM0_ap, eIsN_ap, eNotN_ap, oNone_ap, oSome_ap, eSl_ap, iTup_ap, iStr_ap, iRange1_ap, iRange2_ap, iLst_ap, iZipD_ap, setAll_nil, setAll_cons, wipeD_nil, wipeD_cons, dAdd_int, dSub_int, dLt_int, dLe_int, dGt_int, dGe_int, dEqX_int, dEqX_str, dNeX_int, dNeX_str, dEqX_nil, dNeX_nil, dIs_bl, dMod_int, div_lit, bind_ok, bind_exc, toS_ok, toS_exc, then_nx, then_rt, then_exc, endD_nx, endD_rt, endD_exc, List.set_cons_succ, List.set_cons_zero, if_true, if_false, Bool.false_eq_true, Bool.not_true, Bool.not_false, decide_true, decide_false, Nat.zero_add, Nat.reduceAdd, lcEnd_f, eLc_ap, eRev_ap, eFld_ap, sFldD_ap, eMeth_ap, sRaise_ap, eFrz_ap, insOf_ins, bTuple_lst, bTuple_tup, bMin2_int, bMax2_int, bAbs_int, bLen_lst, bLen_tup, bLen_scr, bAll_lst, bAny_lst, bSum_lst, dIx_lst, dIx_tup, dIx_scr, bRepr_bl, sz_lit, Int.reduceLT, Int.reduceLE, Int.reducePow, Nat.reduceLT, Nat.reduceLeDiff, Nat.reducePow, gTup_tup, gCons_c, gNil_n, cast_lit, eq_self, Int.reduceEq, Int.reduceNeg, eDic0_f, sTry_ap, eMake_f, ofS_inj, ofS_beq, String.reduceEq, String.reduceBEq, rg1_ap, rg2_ap, eListRg_ap, iRevRg_ap, iZip3D_ap, iEnum_ap, sSetAt_ap, rg_ok, rg_ok2, rgl_ok, mul_r, mul_l, mod_d, at_int', at_bl', p6, p9, p10, p11, p12, p60, dAdd_lst, Int.toNat_natCast, Int.zero_add, Int.sub_zero, bInt_bl, bInt_int, bList_f, dSl_lst, dSl_tup, dSl_scr, List.getElem?_cons_zero, List.getElem?_cons_succ, beq_self_eq_true, Bool.true_or, Bool.or_false, Bool.or_true, Bool.false_or, Nat.reduceSub, ne_scr_nil, at_zero, Int.reduceAdd, Int.reduceSub, Int.reduceMul, sz_lt, dIx_r, bLen_r, isTy_r, app_r, pop_r, clear_r, frz_r, frz_lst, isNone_non, isNone_int, List.lookup_cons, List.lookup_nil, and_self, and_true, true_and, setAt_r, ixN_ok, Option.map_some, List.map_set, List.length_set, snoc_get, snoc_set, setF_r, putFD_nil, putFD_cons, tyName, isT, n, a1, a2, a3, at_one, at_two, at_three]) rfl rfl rfl
end Q
namespace Q
open PySem L2 Mi
/-! dicts by names -/
theorem getK_mem {kds : List (Key × D)} {k : Key} {d : D} (hn : (kds.map (·.1)).Nodup) (h : (k, d) ∈ kds) : getK kds k = some d := by
  induction kds with
  | nil => cases h
  | cons p r ih =>
    obtain ⟨j, e⟩ := p
    rw [List.map_cons] at hn
    obtain ⟨h1, h2⟩ := List.nodup_cons.mp hn
    rw [getK_cons]
    rcases List.mem_cons.mp h with h | h
    · cases h; rw [if_pos rfl]
    · rw [if_neg, ih h2 h]
      rintro rfl
      exact h1 (List.mem_map_of_mem (f := (·.1)) h)
def nmK (t : TR) : Key := .inr (sL t.nm)
theorem nmK_nodup {ts : List TR} (h : (ts.map (·.nm)).Nodup) : (ts.map nmK).Nodup := by
  rw [List.nodup_iff_pairwise_ne, List.pairwise_map] at h ⊢
  exact h.imp fun hne e => hne (sL_inj.mp (Sum.inr.inj e))
def knL (ts : List TR) : List (Key × D) := ts.map fun t => (nmK t, trD t)
theorem knL_keys (ts : List TR) : (knL ts).map (·.1) = ts.map nmK := by unfold knL; rw [List.map_map]; rfl
theorem knL_get {ts : List TR} (h : (ts.map (·.nm)).Nodup) {t : TR} (ht : t ∈ ts) : getK (knL ts) (nmK t) = some (trD t) :=
  getK_mem (by rw [knL_keys]; exact nmK_nodup h) (List.mem_map.mpr ⟨t, ht, rfl⟩)
theorem keys_str (ts : List TR) : keysOf (ts.map fun t => D.str (sL t.nm)) = some (ts.map nmK) := by
  induction ts with
  | nil => rfl
  | cons t ts ih =>
    rw [List.map_cons, List.map_cons]
    unfold keysOf
    rw [ih]
    rfl
theorem keys_int (l : List Int) : keysOf (l.map D.int) = some (l.map Sum.inl) := by
  induction l with
  | nil => rfl
  | cons t ts ih =>
    rw [List.map_cons, List.map_cons]
    unfold keysOf
    rw [ih]
    rfl
theorem lenSet_str {ts : List TR} (h : (ts.map (·.nm)).Nodup) (hl : ts.length < 4000) (S : Store) : bLenSet [.lst (ts.map fun t => D.str (sL t.nm))] S = .ok (.int ts.length) S := by
  unfold bLenSet
  simp only [keys_str]
  rw [if_pos (by simpa using hl), uniqK_nodup (nmK_nodup h), List.length_map]
theorem lenSet_pl {ts : List TR} (h : (ts.map (·.pl)).Nodup) (hl : ts.length < 4000) (S : Store) : bLenSet [.lst (ts.map fun t => D.int t.pl)] S = .ok (.int ts.length) S := by
  have e : (ts.map fun t => D.int t.pl) = (ts.map (·.pl)).map D.int := by rw [List.map_map]; rfl
  unfold bLenSet
  simp only [e, keys_int]
  rw [if_pos (by simpa using hl), uniqK_nodup, List.length_map, List.length_map]
  rw [List.nodup_iff_pairwise_ne, List.pairwise_map, List.pairwise_map]
  rw [List.nodup_iff_pairwise_ne, List.pairwise_map] at h
  exact h.imp fun hne e => hne (Sum.inl.inj e)
theorem pairs_kn {α : Type} (f : α → D) (kf : α → Key) (vf : α → D) (h : ∀ a, pairOf (f a) = some (kf a, vf a)) : ∀ l : List α, pairsOf' (l.map f) = some (l.map fun a => (kf a, vf a))
  | [] => rfl
  | a :: l => by
    rw [List.map_cons, List.map_cons]
    unfold pairsOf'
    rw [h, pairs_kn f kf vf h l]
theorem dEq_self_int {i : Int} {S : Store} : dEq 0 (.int i) (.int i) S = .ok (.bl true) S := by
  unfold dEq
  rw [(Dt.int i).eqB (Nat.zero_le _) S]
/-! what is a list, living or not -/
def IsL (S : Store) (x : D) (xs : List D) (ck : Ck) : Prop := (x = .lst xs ∧ ck = none) ∨ ∃ l, x = .ref l ∧ S[l]? = some (some (.lst xs)) ∧ ck = some (l, xs)
theorem v_are_stacks {ts : List TR} (h : Told ts) {S : Store} {x : D} {ck : Ck} (hx : IsL S x (ts.map trD) ck) : m_are_stacks [x] S = .ok (.bl true) S := by
  have hi := h.hi
  have lo := h.lo
  have hc : ckS ck S := by
    rcases hx with ⟨_, rfl⟩ | ⟨l, _, h, rfl⟩
    · trivial
    · exact h
  have c1 : compD (gName 1) tYesD k_are_stacks_1 ck [some x, none] (ts.map trD) S = .ok (ts.map fun _ => .bl true) S :=
    comp_mm hc (fun _ => .bl true) fun t ht => ⟨_, rfl, rfl, by
      have e := c_is_stack (h.ok t ht) S
      unfold k_are_stacks_1
      simp (disch := first | omega | (simp only [List.length_map, List.length_cons, List.length_nil, List.length_append]; omega)) only [List.map_cons, List.map_nil, List.length_cons, List.length_nil, List.length_map, List.replicate, List.cons_append, List.nil_append, List.append_eq, sSeq_ap, sSet_ap, sIf_ap, sRet_ap, sRetN_ap, sExpr_ap, sNext_ap, sBreak_ap, sCont_ap, sPar_ap, sAsg_ap, sFor_ap, gName_ap, eVar_0, eVar_s, eC_ap, aNil_ap, aCons_ap, e2_ap, e3_ap, toB_bl, toB_stuck, tV_ap, tAnd_ap, tOr_ap, tNot_ap, eAnd_ap, eOr_ap, eNot_ap, eIf_ap, eNeg_ap, eTup_ap, eLst_ap, eLstL_ap, eB_ap, eIsi_ap, eCall_ap, eM_ap, eM0_ap, eIsN_ap, eNotN_ap, oNone_ap, oSome_ap, eSl_ap, iTup_ap, iStr_ap, iRange1_ap, iRange2_ap, iLst_ap, iZipD_ap, setAll_nil, setAll_cons, wipeD_nil, wipeD_cons, dAdd_int, dSub_int, dLt_int, dLe_int, dGt_int, dGe_int, dEqX_int, dEqX_str, dNeX_int, dNeX_str, dEqX_nil, dNeX_nil, dIs_bl, dMod_int, div_lit, bind_ok, bind_exc, toS_ok, toS_exc, then_nx, then_rt, then_exc, endD_nx, endD_rt, endD_exc, List.set_cons_succ, List.set_cons_zero, if_true, if_false, Bool.false_eq_true, Bool.not_true, Bool.not_false, decide_true, decide_false, Nat.zero_add, Nat.reduceAdd, lcEnd_f, eLc_ap, eRev_ap, eFld_ap, sFldD_ap, eMeth_ap, sRaise_ap, eFrz_ap, insOf_ins, bTuple_lst, bTuple_tup, bMin2_int, bMax2_int, bAbs_int, bLen_lst, bLen_tup, bLen_scr, bAll_lst, bAny_lst, bSum_lst, dIx_lst, dIx_tup, dIx_scr, bRepr_bl, sz_lit, Int.reduceLT, Int.reduceLE, Int.reducePow, Nat.reduceLT, Nat.reduceLeDiff, Nat.reducePow, gTup_tup, gCons_c, gNil_n, cast_lit, eq_self, Int.reduceEq, Int.reduceNeg, eDic0_f, sTry_ap, eMake_f, ofS_inj, ofS_beq, String.reduceEq, String.reduceBEq, rg1_ap, rg2_ap, eListRg_ap, iRevRg_ap, iZip3D_ap, iEnum_ap, sSetAt_ap, rg_ok, rg_ok2, rgl_ok, mul_r, mul_l, mod_d, at_int', at_bl', p6, p9, p10, p11, p12, p60, dAdd_lst, Int.toNat_natCast, Int.zero_add, Int.sub_zero, bInt_bl, bInt_int, bList_f, dSl_lst, dSl_tup, dSl_scr, List.getElem?_cons_zero, List.getElem?_cons_succ, beq_self_eq_true, Bool.true_or, Bool.or_false, Bool.or_true, Bool.false_or, Nat.reduceSub, ne_scr_nil, at_zero, Int.reduceAdd, Int.reduceSub, Int.reduceMul, sz_lt, dIx_r, bLen_r, isTy_r, app_r, pop_r, clear_r, frz_r, frz_lst, isNone_non, isNone_int, List.lookup_cons, List.lookup_nil, and_self, and_true, true_and, setAt_r, ixN_ok, Option.map_some, List.map_set, List.length_set, snoc_get, snoc_set, setF_r, putFD_nil, putFD_cons, e]⟩
  have c2 : compD (gName 1) tYesD k_are_stacks_2 ck [some x, none] (ts.map trD) S = .ok (ts.map fun t => .str (sL t.nm)) S :=
    comp_mm hc (fun t : TR => .str (sL t.nm)) fun t ht => ⟨_, rfl, rfl, by unfold k_are_stacks_2 trD; simp (disch := first | omega | (simp only [List.length_map, List.length_cons, List.length_nil, List.length_append]; omega)) only [List.map_cons, List.map_nil, List.length_cons, List.length_nil, List.length_map, List.replicate, List.cons_append, List.nil_append, List.append_eq, sSeq_ap, sSet_ap, sIf_ap, sRet_ap, sRetN_ap, sExpr_ap, sNext_ap, sBreak_ap, sCont_ap, sPar_ap, sAsg_ap, sFor_ap, gName_ap, eVar_0, eVar_s, eC_ap, aNil_ap, aCons_ap, e2_ap, e3_ap, toB_bl, toB_stuck, tV_ap, tAnd_ap, tOr_ap, tNot_ap, eAnd_ap, eOr_ap, eNot_ap, eIf_ap, eNeg_ap, eTup_ap, eLst_ap, eLstL_ap, eB_ap, eIsi_ap, eCall_ap, eM_ap, eM0_ap, eIsN_ap, eNotN_ap, oNone_ap, oSome_ap, eSl_ap, iTup_ap, iStr_ap, iRange1_ap, iRange2_ap, iLst_ap, iZipD_ap, setAll_nil, setAll_cons, wipeD_nil, wipeD_cons, dAdd_int, dSub_int, dLt_int, dLe_int, dGt_int, dGe_int, dEqX_int, dEqX_str, dNeX_int, dNeX_str, dEqX_nil, dNeX_nil, dIs_bl, dMod_int, div_lit, bind_ok, bind_exc, toS_ok, toS_exc, then_nx, then_rt, then_exc, endD_nx, endD_rt, endD_exc, List.set_cons_succ, List.set_cons_zero, if_true, if_false, Bool.false_eq_true, Bool.not_true, Bool.not_false, decide_true, decide_false, Nat.zero_add, Nat.reduceAdd, lcEnd_f, eLc_ap, eRev_ap, eFld_ap, sFldD_ap, eMeth_ap, sRaise_ap, eFrz_ap, insOf_ins, bTuple_lst, bTuple_tup, bMin2_int, bMax2_int, bAbs_int, bLen_lst, bLen_tup, bLen_scr, bAll_lst, bAny_lst, bSum_lst, dIx_lst, dIx_tup, dIx_scr, bRepr_bl, sz_lit, Int.reduceLT, Int.reduceLE, Int.reducePow, Nat.reduceLT, Nat.reduceLeDiff, Nat.reducePow, gTup_tup, gCons_c, gNil_n, cast_lit, eq_self, Int.reduceEq, Int.reduceNeg, eDic0_f, sTry_ap, eMake_f, ofS_inj, ofS_beq, String.reduceEq, String.reduceBEq, rg1_ap, rg2_ap, eListRg_ap, iRevRg_ap, iZip3D_ap, iEnum_ap, sSetAt_ap, rg_ok, rg_ok2, rgl_ok, mul_r, mul_l, mod_d, at_int', at_bl', p6, p9, p10, p11, p12, p60, dAdd_lst, Int.toNat_natCast, Int.zero_add, Int.sub_zero, bInt_bl, bInt_int, bList_f, dSl_lst, dSl_tup, dSl_scr, List.getElem?_cons_zero, List.getElem?_cons_succ, beq_self_eq_true, Bool.true_or, Bool.or_false, Bool.or_true, Bool.false_or, Nat.reduceSub, ne_scr_nil, at_zero, Int.reduceAdd, Int.reduceSub, Int.reduceMul, sz_lt, dIx_r, bLen_r, isTy_r, app_r, pop_r, clear_r, frz_r, frz_lst, isNone_non, isNone_int, List.lookup_cons, List.lookup_nil, and_self, and_true, true_and, setAt_r, ixN_ok, Option.map_some, List.map_set, List.length_set, snoc_get, snoc_set, setF_r, putFD_nil, putFD_cons]⟩
  have c3 : compD (gName 1) tYesD k_are_stacks_3 ck [some x, none] (ts.map trD) S = .ok (ts.map fun t => .int t.pl) S :=
    comp_mm hc (fun t : TR => .int t.pl) fun t ht => ⟨_, rfl, rfl, by unfold k_are_stacks_3 trD; simp (disch := first | omega | (simp only [List.length_map, List.length_cons, List.length_nil, List.length_append]; omega)) only [List.map_cons, List.map_nil, List.length_cons, List.length_nil, List.length_map, List.replicate, List.cons_append, List.nil_append, List.append_eq, sSeq_ap, sSet_ap, sIf_ap, sRet_ap, sRetN_ap, sExpr_ap, sNext_ap, sBreak_ap, sCont_ap, sPar_ap, sAsg_ap, sFor_ap, gName_ap, eVar_0, eVar_s, eC_ap, aNil_ap, aCons_ap, e2_ap, e3_ap, toB_bl, toB_stuck, tV_ap, tAnd_ap, tOr_ap, tNot_ap, eAnd_ap, eOr_ap, eNot_ap, eIf_ap, eNeg_ap, eTup_ap, eLst_ap, eLstL_ap, eB_ap, eIsi_ap, eCall_ap, eM_ap, eM0_ap, eIsN_ap, eNotN_ap, oNone_ap, oSome_ap, eSl_ap, iTup_ap, iStr_ap, iRange1_ap, iRange2_ap, iLst_ap, iZipD_ap, setAll_nil, setAll_cons, wipeD_nil, wipeD_cons, dAdd_int, dSub_int, dLt_int, dLe_int, dGt_int, dGe_int, dEqX_int, dEqX_str, dNeX_int, dNeX_str, dEqX_nil, dNeX_nil, dIs_bl, dMod_int, div_lit, bind_ok, bind_exc, toS_ok, toS_exc, then_nx, then_rt, then_exc, endD_nx, endD_rt, endD_exc, List.set_cons_succ, List.set_cons_zero, if_true, if_false, Bool.false_eq_true, Bool.not_true, Bool.not_false, decide_true, decide_false, Nat.zero_add, Nat.reduceAdd, lcEnd_f, eLc_ap, eRev_ap, eFld_ap, sFldD_ap, eMeth_ap, sRaise_ap, eFrz_ap, insOf_ins, bTuple_lst, bTuple_tup, bMin2_int, bMax2_int, bAbs_int, bLen_lst, bLen_tup, bLen_scr, bAll_lst, bAny_lst, bSum_lst, dIx_lst, dIx_tup, dIx_scr, bRepr_bl, sz_lit, Int.reduceLT, Int.reduceLE, Int.reducePow, Nat.reduceLT, Nat.reduceLeDiff, Nat.reducePow, gTup_tup, gCons_c, gNil_n, cast_lit, eq_self, Int.reduceEq, Int.reduceNeg, eDic0_f, sTry_ap, eMake_f, ofS_inj, ofS_beq, String.reduceEq, String.reduceBEq, rg1_ap, rg2_ap, eListRg_ap, iRevRg_ap, iZip3D_ap, iEnum_ap, sSetAt_ap, rg_ok, rg_ok2, rgl_ok, mul_r, mul_l, mod_d, at_int', at_bl', p6, p9, p10, p11, p12, p60, dAdd_lst, Int.toNat_natCast, Int.zero_add, Int.sub_zero, bInt_bl, bInt_int, bList_f, dSl_lst, dSl_tup, dSl_scr, List.getElem?_cons_zero, List.getElem?_cons_succ, beq_self_eq_true, Bool.true_or, Bool.or_false, Bool.or_true, Bool.false_or, Nat.reduceSub, ne_scr_nil, at_zero, Int.reduceAdd, Int.reduceSub, Int.reduceMul, sz_lt, dIx_r, bLen_r, isTy_r, app_r, pop_r, clear_r, frz_r, frz_lst, isNone_non, isNone_int, List.lookup_cons, List.lookup_nil, and_self, and_true, true_and, setAt_r, ixN_ok, Option.map_some, List.map_set, List.length_set, snoc_get, snoc_set, setF_r, putFD_nil, putFD_cons, at_one]⟩
  have ba : blsOf (ts.map fun _ => D.bl true) = some (ts.map fun _ => true) := by
    have := blsOf_bl (ts.map fun _ => true)
    rw [List.map_map] at this
    exact this
  have al : (ts.map fun _ => true).all (fun b => b) = true := List.all_eq_true.mpr fun b hb => by obtain ⟨_, _, rfl⟩ := List.mem_map.mp hb; rfl
  have l1 := lenSet_str h.nms (by omega) S
  have l2 := lenSet_pl h.pls (by omega) S
  have q1 : decide ((1 : Int) ≤ ts.length) = true := decide_eq_true (by omega)
  have q2 : decide ((ts.length : Int) ≤ 20) = true := decide_eq_true (by omega)
  have sz : ((ts.map trD).length ≤ sizeLine) = True := eq_true (by rw [List.length_map]; exact sz_16 (by omega))
  have sz2 : (ts.length ≤ sizeLine) = True := eq_true (sz_16 (by omega))
  rw [m_are_stacks, runD_ap, z_are_stacks]
  rcases hx with ⟨rfl, rfl⟩ | ⟨l, rfl, hS, rfl⟩
  · simp (disch := first | omega | (simp only [List.length_map, List.length_cons, List.length_nil, List.length_append]; omega)) only [List.map_cons, List.map_nil, List.length_cons, List.length_nil, List.length_map, List.replicate, List.cons_append, List.nil_append, List.append_eq, sSeq_ap, sSet_ap, sIf_ap, sRet_ap, sRetN_ap, sExpr_ap, sNext_ap, sBreak_ap, sCont_ap, sPar_ap, sAsg_ap, sFor_ap, gName_ap, eVar_0, eVar_s, eC_ap, aNil_ap, aCons_ap, e2_ap, e3_ap, toB_bl, toB_stuck, tV_ap, tAnd_ap, tOr_ap, tNot_ap, eAnd_ap, eOr_ap, eNot_ap, eIf_ap, eNeg_ap, eTup_ap, eLst_ap, eLstL_ap, eB_ap, eIsi_ap, eCall_ap, eM_ap, eM0_ap, eIsN_ap, eNotN_ap, oNone_ap, oSome_ap, eSl_ap, iTup_ap, iStr_ap, iRange1_ap, iRange2_ap, iLst_ap, iZipD_ap, setAll_nil, setAll_cons, wipeD_nil, wipeD_cons, dAdd_int, dSub_int, dLt_int, dLe_int, dGt_int, dGe_int, dEqX_int, dEqX_str, dNeX_int, dNeX_str, dEqX_nil, dNeX_nil, dIs_bl, dMod_int, div_lit, bind_ok, bind_exc, toS_ok, toS_exc, then_nx, then_rt, then_exc, endD_nx, endD_rt, endD_exc, List.set_cons_succ, List.set_cons_zero, if_true, if_false, Bool.false_eq_true, Bool.not_true, Bool.not_false, decide_true, decide_false, Nat.zero_add, Nat.reduceAdd, lcEnd_f, eLc_ap, eRev_ap, eFld_ap, sFldD_ap, eMeth_ap, sRaise_ap, eFrz_ap, insOf_ins, bTuple_lst, bTuple_tup, bMin2_int, bMax2_int, bAbs_int, bLen_lst, bLen_tup, bLen_scr, bAll_lst, bAny_lst, bSum_lst, dIx_lst, dIx_tup, dIx_scr, bRepr_bl, sz_lit, Int.reduceLT, Int.reduceLE, Int.reducePow, Nat.reduceLT, Nat.reduceLeDiff, Nat.reducePow, gTup_tup, gCons_c, gNil_n, cast_lit, eq_self, Int.reduceEq, Int.reduceNeg, eDic0_f, sTry_ap, eMake_f, ofS_inj, ofS_beq, String.reduceEq, String.reduceBEq, rg1_ap, rg2_ap, eListRg_ap, iRevRg_ap, iZip3D_ap, iEnum_ap, sSetAt_ap, rg_ok, rg_ok2, rgl_ok, mul_r, mul_l, mod_d, at_int', at_bl', p6, p9, p10, p11, p12, p60, dAdd_lst, Int.toNat_natCast, Int.zero_add, Int.sub_zero, bInt_bl, bInt_int, bList_f, dSl_lst, dSl_tup, dSl_scr, List.getElem?_cons_zero, List.getElem?_cons_succ, beq_self_eq_true, Bool.true_or, Bool.or_false, Bool.or_true, Bool.false_or, Nat.reduceSub, ne_scr_nil, at_zero, Int.reduceAdd, Int.reduceSub, Int.reduceMul, sz_lt, dIx_r, bLen_r, isTy_r, app_r, pop_r, clear_r, frz_r, frz_lst, isNone_non, isNone_int, List.lookup_cons, List.lookup_nil, and_self, and_true, true_and, setAt_r, ixN_ok, Option.map_some, List.map_set, List.length_set, snoc_get, snoc_set, setF_r, putFD_nil, putFD_cons, tyName, isT, q1, q2, sz, sz2, c1, c2, c3, ba, al, l1, l2, dEq_self_int]
  · simp (disch := first | omega | (simp only [List.length_map, List.length_cons, List.length_nil, List.length_append]; omega)) only [List.map_cons, List.map_nil, List.length_cons, List.length_nil, List.length_map, List.replicate, List.cons_append, List.nil_append, List.append_eq, sSeq_ap, sSet_ap, sIf_ap, sRet_ap, sRetN_ap, sExpr_ap, sNext_ap, sBreak_ap, sCont_ap, sPar_ap, sAsg_ap, sFor_ap, gName_ap, eVar_0, eVar_s, eC_ap, aNil_ap, aCons_ap, e2_ap, e3_ap, toB_bl, toB_stuck, tV_ap, tAnd_ap, tOr_ap, tNot_ap, eAnd_ap, eOr_ap, eNot_ap, eIf_ap, eNeg_ap, eTup_ap, eLst_ap, eLstL_ap, eB_ap, eIsi_ap, eCall_ap, eM_ap, eM0_ap, eIsN_ap, eNotN_ap, oNone_ap, oSome_ap, eSl_ap, iTup_ap, iStr_ap, iRange1_ap, iRange2_ap, iLst_ap, iZipD_ap, setAll_nil, setAll_cons, wipeD_nil, wipeD_cons, dAdd_int, dSub_int, dLt_int, dLe_int, dGt_int, dGe_int, dEqX_int, dEqX_str, dNeX_int, dNeX_str, dEqX_nil, dNeX_nil, dIs_bl, dMod_int, div_lit, bind_ok, bind_exc, toS_ok, toS_exc, then_nx, then_rt, then_exc, endD_nx, endD_rt, endD_exc, List.set_cons_succ, List.set_cons_zero, if_true, if_false, Bool.false_eq_true, Bool.not_true, Bool.not_false, decide_true, decide_false, Nat.zero_add, Nat.reduceAdd, lcEnd_f, eLc_ap, eRev_ap, eFld_ap, sFldD_ap, eMeth_ap, sRaise_ap, eFrz_ap, insOf_ins, bTuple_lst, bTuple_tup, bMin2_int, bMax2_int, bAbs_int, bLen_lst, bLen_tup, bLen_scr, bAll_lst, bAny_lst, bSum_lst, dIx_lst, dIx_tup, dIx_scr, bRepr_bl, sz_lit, Int.reduceLT, Int.reduceLE, Int.reducePow, Nat.reduceLT, Nat.reduceLeDiff, Nat.reducePow, gTup_tup, gCons_c, gNil_n, cast_lit, eq_self, Int.reduceEq, Int.reduceNeg, eDic0_f, sTry_ap, eMake_f, ofS_inj, ofS_beq, String.reduceEq, String.reduceBEq, rg1_ap, rg2_ap, eListRg_ap, iRevRg_ap, iZip3D_ap, iEnum_ap, sSetAt_ap, rg_ok, rg_ok2, rgl_ok, mul_r, mul_l, mod_d, at_int', at_bl', p6, p9, p10, p11, p12, p60, dAdd_lst, Int.toNat_natCast, Int.zero_add, Int.sub_zero, bInt_bl, bInt_int, bList_f, dSl_lst, dSl_tup, dSl_scr, List.getElem?_cons_zero, List.getElem?_cons_succ, beq_self_eq_true, Bool.true_or, Bool.or_false, Bool.or_true, Bool.false_or, Nat.reduceSub, ne_scr_nil, at_zero, Int.reduceAdd, Int.reduceSub, Int.reduceMul, sz_lt, dIx_r, bLen_r, isTy_r, app_r, pop_r, clear_r, frz_r, frz_lst, isNone_non, isNone_int, List.lookup_cons, List.lookup_nil, and_self, and_true, true_and, setAt_r, ixN_ok, Option.map_some, List.map_set, List.length_set, snoc_get, snoc_set, setF_r, putFD_nil, putFD_cons, tyName, hS, isT, q1, q2, sz, sz2, c1, c2, c3, ba, al, l1, l2, dEq_self_int]
end Q
namespace Q
open PySem L2 Mi
/-! comprehensions whose elements are new places -/
def ExtS (S0 S : Store) : Prop := ∀ (i : Nat) (o : Option O), S0[i]? = some o → S[i]? = some o
theorem ExtS.refl (S : Store) : ExtS S S := fun _ _ h => h
theorem ExtS.app {S0 S : Store} (h : ExtS S0 S) (T : Store) : ExtS S0 (S ++ T) := fun i o q => by
  have q := h i o q
  rw [List.getElem?_append_left (List.getElem?_eq_some_iff.mp q).1]; exact q
theorem ExtS.ck {S0 S : Store} {ck : Ck} (h : ExtS S0 S) (hc : ckS ck S0) : ckS ck S := by
  cases ck with
  | none => trivial
  | some p => exact h _ _ hc
theorem comp_new {α : Type} {enc : α → D} {g : DG} {t : DT} {f : DE} {δ : Mi.Env} {ck : Ck} (k : α → Nat → D) (y : α → O) {S0 : Store} (hc : ckS ck S0) : ∀ {l : List α} {S : Store}, ExtS S0 S →
    (∀ a ∈ l, ∀ S', ExtS S0 S' → ∃ da, g (enc a) S' = some da ∧ t (setAll δ da) S' = .ok true S' ∧ f (setAll δ da) S' = .ok (k a S'.length) (S' ++ [some (y a)])) →
    compD g t f ck δ (l.map enc) S = .ok (l.zipIdx.map fun p => k p.1 (S.length + p.2)) (S ++ l.map fun a => some (y a))
  | [], S, he, _ => by
    rw [List.map_nil, List.map_nil, List.append_nil]
    unfold compD
    exact if_pos (he.ck hc)
  | a :: l, S, he, h => by
    obtain ⟨da, h1, h2, h3⟩ := h a List.mem_cons_self S he
    have ih := comp_new k y hc (l := l) (S := S ++ [some (y a)]) (he.app _) fun b hb => h b (List.mem_cons_of_mem _ hb)
    rw [List.map_cons]
    unfold compD
    rw [if_pos (he.ck hc), h1]
    simp only [h2, h3, noX, bind_ok, if_true, ih]
    rw [List.zipIdx_cons, List.map_cons, Nat.zero_add, List.zipIdx_succ, List.map_map, List.map_cons, List.append_assoc, List.length_append, List.length_singleton]
    congr 2
    apply List.map_congr_left
    intro p _
    show k p.1 (S.length + 1 + p.2) = k p.1 (S.length + (p.2 + 1))
    rw [Nat.add_assoc, Nat.add_comm 1]
/-! stacks -/
def pilL (ts : List TR) (pl : List Nat) : List (Key × D) := (ts.zip pl).map fun p => (nmK p.1, .ref p.2)
def stV (ts : List TR) (pl : List Nat) (s : Nat) : D := .ins "Stacks" [("known", .dic (knL ts)), ("piles", .dic (pilL ts pl)), ("spots", .ref s)]
theorem pilL_keys {ts : List TR} {pl : List Nat} (h : pl.length = ts.length) : (pilL ts pl).map (·.1) = ts.map nmK := by
  unfold pilL
  rw [List.map_map]
  have : ((fun x : Key × D => x.1) ∘ fun p : TR × Nat => (nmK p.1, D.ref p.2)) = nmK ∘ (·.1) := rfl
  rw [this, ← List.map_map, List.map_fst_zip (by omega)]
theorem zip_range (ts : List TR) (n : Nat) : (ts.zipIdx.map fun p : TR × Nat => (nmK p.1, D.ref (n + p.2))) = pilL ts ((List.range ts.length).map (n + ·)) := by
  unfold pilL
  apply List.ext_getElem?
  intro i
  rw [List.getElem?_map, List.getElem?_map, List.getElem?_zipIdx, List.zip, List.getElem?_zipWith, List.getElem?_map]
  by_cases h : i < ts.length
  · rw [List.getElem?_eq_getElem h, List.getElem?_range h]; simp
  · rw [List.getElem?_eq_none (by omega)]; simp
def repO (n : Nat) : Store := List.replicate n (some (.lst []))
def plR (n m : Nat) : List Nat := (List.range m).map (n + ·)
/-- what is there behind making stacks -/
def mkS (S : Store) (n : Nat) : Store := S ++ [none] ++ repO n ++ [some (.dic [])]
theorem okF_known : okF flT "Stacks" "known" = true := by decide +kernel
theorem okF_piles : okF flT "Stacks" "piles" = true := by decide +kernel
theorem okF_spots : okF flT "Stacks" "spots" = true := by decide +kernel
theorem mid_get {S T : Store} {x : Option O} : (S ++ x :: T)[S.length]? = some x := by rw [List.getElem?_append_right (Nat.le_refl _), Nat.sub_self]; rfl
theorem mid_set {S T : Store} {x y : Option O} : (S ++ x :: T).set S.length y = S ++ y :: T := by
  rw [List.set_append_right _ _ (Nat.le_refl _), Nat.sub_self]; rfl
theorem v_init {ts : List TR} (h : Told ts) {S : Store} {x : D} {ck : Ck} (hx : IsL S x (ts.map trD) ck) :
    m_Stacks____init__ [.ref S.length, x] (S ++ [some (.ins "Stacks" [])]) = .ok .non (S ++ some (.ins "Stacks" [("known", .dic (knL ts)), ("piles", .dic (pilL ts (plR (S.length + 1) ts.length))), ("spots", .ref (S.length + 1 + ts.length))]) :: (repO ts.length ++ [some (.dic [])])) := by
  have hi := h.hi
  have lo := h.lo
  have ext : ∀ T, ExtS S (S ++ T) := fun T => (ExtS.refl S).app T
  have hx' : ∀ T, IsL (S ++ T) x (ts.map trD) ck := fun T => by
    rcases hx with h | ⟨l, h1, h2, h3⟩
    · exact .inl h
    · exact .inr ⟨l, h1, ext T _ _ h2, h3⟩
  have hc : ckS ck S := by
    rcases hx with ⟨_, rfl⟩ | ⟨l, _, h, rfl⟩
    · trivial
    · exact h
  have are := fun T => v_are_stacks h (hx' T)
  have cm := fun T => (call_mut (n := 1) (k := m_are_stacks) (ds := [x]) (S := S ++ T) rfl).trans (are T)
  have it : ∀ T, iLst (eVar 1) [some (.ref S.length), some x, none] (S ++ T) = .ok (ts.map trD, ck) (S ++ T) := fun T => by
    rcases hx' T with ⟨rfl, rfl⟩ | ⟨l, rfl, h2, rfl⟩
    · rfl
    · simp (disch := first | omega | (simp only [List.length_map, List.length_cons, List.length_nil, List.length_append]; omega)) only [List.map_cons, List.map_nil, List.length_cons, List.length_nil, List.length_map, List.replicate, List.cons_append, List.nil_append, List.append_eq, sSeq_ap, sSet_ap, sIf_ap, sRet_ap, sRetN_ap, sExpr_ap, sNext_ap, sBreak_ap, sCont_ap, sPar_ap, sAsg_ap, sFor_ap, gName_ap, eVar_0, eVar_s, eC_ap, aNil_ap, aCons_ap, e2_ap, e3_ap, toB_bl, toB_stuck, tV_ap, tAnd_ap, tOr_ap, tNot_ap, eAnd_ap, eOr_ap, eNot_ap, eIf_ap, eNeg_ap, eTup_ap, eLst_ap, eLstL_ap, eB_ap, eIsi_ap, eCall_ap, eM_ap, eM0_ap, eIsN_ap, eNotN_ap, oNone_ap, oSome_ap, eSl_ap, iTup_ap, iStr_ap, iRange1_ap, iRange2_ap, iLst_ap, iZipD_ap, setAll_nil, setAll_cons, wipeD_nil, wipeD_cons, dAdd_int, dSub_int, dLt_int, dLe_int, dGt_int, dGe_int, dEqX_int, dEqX_str, dNeX_int, dNeX_str, dEqX_nil, dNeX_nil, dIs_bl, dMod_int, div_lit, bind_ok, bind_exc, toS_ok, toS_exc, then_nx, then_rt, then_exc, endD_nx, endD_rt, endD_exc, List.set_cons_succ, List.set_cons_zero, if_true, if_false, Bool.false_eq_true, Bool.not_true, Bool.not_false, decide_true, decide_false, Nat.zero_add, Nat.reduceAdd, lcEnd_f, eLc_ap, eRev_ap, eFld_ap, sFldD_ap, eMeth_ap, sRaise_ap, eFrz_ap, insOf_ins, bTuple_lst, bTuple_tup, bMin2_int, bMax2_int, bAbs_int, bLen_lst, bLen_tup, bLen_scr, bAll_lst, bAny_lst, bSum_lst, dIx_lst, dIx_tup, dIx_scr, bRepr_bl, sz_lit, Int.reduceLT, Int.reduceLE, Int.reducePow, Nat.reduceLT, Nat.reduceLeDiff, Nat.reducePow, gTup_tup, gCons_c, gNil_n, cast_lit, eq_self, Int.reduceEq, Int.reduceNeg, eDic0_f, sTry_ap, eMake_f, ofS_inj, ofS_beq, String.reduceEq, String.reduceBEq, rg1_ap, rg2_ap, eListRg_ap, iRevRg_ap, iZip3D_ap, iEnum_ap, sSetAt_ap, rg_ok, rg_ok2, rgl_ok, mul_r, mul_l, mod_d, at_int', at_bl', p6, p9, p10, p11, p12, p60, dAdd_lst, Int.toNat_natCast, Int.zero_add, Int.sub_zero, bInt_bl, bInt_int, bList_f, dSl_lst, dSl_tup, dSl_scr, List.getElem?_cons_zero, List.getElem?_cons_succ, beq_self_eq_true, Bool.true_or, Bool.or_false, Bool.or_true, Bool.false_or, Nat.reduceSub, ne_scr_nil, at_zero, Int.reduceAdd, Int.reduceSub, Int.reduceMul, sz_lt, dIx_r, bLen_r, isTy_r, app_r, pop_r, clear_r, frz_r, frz_lst, isNone_non, isNone_int, List.lookup_cons, List.lookup_nil, and_self, and_true, true_and, setAt_r, ixN_ok, Option.map_some, List.map_set, List.length_set, snoc_get, snoc_set, setF_r, putFD_nil, putFD_cons, h2]
  have c1 : ∀ T, compD (gName 2) tYesD k_Stacks____init___1 ck [some (.ref S.length), some x, none] (ts.map trD) (S ++ T) = .ok (ts.map fun t => .tup [.str (sL t.nm), trD t]) (S ++ T) := fun T =>
    comp_mm ((ext T).ck hc) (fun t : TR => .tup [.str (sL t.nm), trD t]) fun t ht => ⟨_, rfl, rfl, by unfold k_Stacks____init___1 trD; simp (disch := first | omega | (simp only [List.length_map, List.length_cons, List.length_nil, List.length_append]; omega)) only [List.map_cons, List.map_nil, List.length_cons, List.length_nil, List.length_map, List.replicate, List.cons_append, List.nil_append, List.append_eq, sSeq_ap, sSet_ap, sIf_ap, sRet_ap, sRetN_ap, sExpr_ap, sNext_ap, sBreak_ap, sCont_ap, sPar_ap, sAsg_ap, sFor_ap, gName_ap, eVar_0, eVar_s, eC_ap, aNil_ap, aCons_ap, e2_ap, e3_ap, toB_bl, toB_stuck, tV_ap, tAnd_ap, tOr_ap, tNot_ap, eAnd_ap, eOr_ap, eNot_ap, eIf_ap, eNeg_ap, eTup_ap, eLst_ap, eLstL_ap, eB_ap, eIsi_ap, eCall_ap, eM_ap, eM0_ap, eIsN_ap, eNotN_ap, oNone_ap, oSome_ap, eSl_ap, iTup_ap, iStr_ap, iRange1_ap, iRange2_ap, iLst_ap, iZipD_ap, setAll_nil, setAll_cons, wipeD_nil, wipeD_cons, dAdd_int, dSub_int, dLt_int, dLe_int, dGt_int, dGe_int, dEqX_int, dEqX_str, dNeX_int, dNeX_str, dEqX_nil, dNeX_nil, dIs_bl, dMod_int, div_lit, bind_ok, bind_exc, toS_ok, toS_exc, then_nx, then_rt, then_exc, endD_nx, endD_rt, endD_exc, List.set_cons_succ, List.set_cons_zero, if_true, if_false, Bool.false_eq_true, Bool.not_true, Bool.not_false, decide_true, decide_false, Nat.zero_add, Nat.reduceAdd, lcEnd_f, eLc_ap, eRev_ap, eFld_ap, sFldD_ap, eMeth_ap, sRaise_ap, eFrz_ap, insOf_ins, bTuple_lst, bTuple_tup, bMin2_int, bMax2_int, bAbs_int, bLen_lst, bLen_tup, bLen_scr, bAll_lst, bAny_lst, bSum_lst, dIx_lst, dIx_tup, dIx_scr, bRepr_bl, sz_lit, Int.reduceLT, Int.reduceLE, Int.reducePow, Nat.reduceLT, Nat.reduceLeDiff, Nat.reducePow, gTup_tup, gCons_c, gNil_n, cast_lit, eq_self, Int.reduceEq, Int.reduceNeg, eDic0_f, sTry_ap, eMake_f, ofS_inj, ofS_beq, String.reduceEq, String.reduceBEq, rg1_ap, rg2_ap, eListRg_ap, iRevRg_ap, iZip3D_ap, iEnum_ap, sSetAt_ap, rg_ok, rg_ok2, rgl_ok, mul_r, mul_l, mod_d, at_int', at_bl', p6, p9, p10, p11, p12, p60, dAdd_lst, Int.toNat_natCast, Int.zero_add, Int.sub_zero, bInt_bl, bInt_int, bList_f, dSl_lst, dSl_tup, dSl_scr, List.getElem?_cons_zero, List.getElem?_cons_succ, beq_self_eq_true, Bool.true_or, Bool.or_false, Bool.or_true, Bool.false_or, Nat.reduceSub, ne_scr_nil, at_zero, Int.reduceAdd, Int.reduceSub, Int.reduceMul, sz_lt, dIx_r, bLen_r, isTy_r, app_r, pop_r, clear_r, frz_r, frz_lst, isNone_non, isNone_int, List.lookup_cons, List.lookup_nil, and_self, and_true, true_and, setAt_r, ixN_ok, Option.map_some, List.map_set, List.length_set, snoc_get, snoc_set, setF_r, putFD_nil, putFD_cons]⟩
  have c2 : ∀ T, compD (gName 2) tYesD k_Stacks____init___2 ck [some (.ref S.length), some x, none] (ts.map trD) (S ++ T) = .ok (ts.zipIdx.map fun p => .tup [.str (sL p.1.nm), .ref ((S ++ T).length + p.2)]) (S ++ T ++ ts.map fun _ => some (.lst [])) := fun T =>
    comp_new (fun (t : TR) n => .tup [.str (sL t.nm), .ref n]) (fun _ => .lst []) hc (ext T) fun t ht S' _ => ⟨_, rfl, rfl, by unfold k_Stacks____init___2 trD; simp (disch := first | omega | (simp only [List.length_map, List.length_cons, List.length_nil, List.length_append]; omega)) only [List.map_cons, List.map_nil, List.length_cons, List.length_nil, List.length_map, List.replicate, List.cons_append, List.nil_append, List.append_eq, sSeq_ap, sSet_ap, sIf_ap, sRet_ap, sRetN_ap, sExpr_ap, sNext_ap, sBreak_ap, sCont_ap, sPar_ap, sAsg_ap, sFor_ap, gName_ap, eVar_0, eVar_s, eC_ap, aNil_ap, aCons_ap, e2_ap, e3_ap, toB_bl, toB_stuck, tV_ap, tAnd_ap, tOr_ap, tNot_ap, eAnd_ap, eOr_ap, eNot_ap, eIf_ap, eNeg_ap, eTup_ap, eLst_ap, eLstL_ap, eB_ap, eIsi_ap, eCall_ap, eM_ap, eM0_ap, eIsN_ap, eNotN_ap, oNone_ap, oSome_ap, eSl_ap, iTup_ap, iStr_ap, iRange1_ap, iRange2_ap, iLst_ap, iZipD_ap, setAll_nil, setAll_cons, wipeD_nil, wipeD_cons, dAdd_int, dSub_int, dLt_int, dLe_int, dGt_int, dGe_int, dEqX_int, dEqX_str, dNeX_int, dNeX_str, dEqX_nil, dNeX_nil, dIs_bl, dMod_int, div_lit, bind_ok, bind_exc, toS_ok, toS_exc, then_nx, then_rt, then_exc, endD_nx, endD_rt, endD_exc, List.set_cons_succ, List.set_cons_zero, if_true, if_false, Bool.false_eq_true, Bool.not_true, Bool.not_false, decide_true, decide_false, Nat.zero_add, Nat.reduceAdd, lcEnd_f, eLc_ap, eRev_ap, eFld_ap, sFldD_ap, eMeth_ap, sRaise_ap, eFrz_ap, insOf_ins, bTuple_lst, bTuple_tup, bMin2_int, bMax2_int, bAbs_int, bLen_lst, bLen_tup, bLen_scr, bAll_lst, bAny_lst, bSum_lst, dIx_lst, dIx_tup, dIx_scr, bRepr_bl, sz_lit, Int.reduceLT, Int.reduceLE, Int.reducePow, Nat.reduceLT, Nat.reduceLeDiff, Nat.reducePow, gTup_tup, gCons_c, gNil_n, cast_lit, eq_self, Int.reduceEq, Int.reduceNeg, eDic0_f, sTry_ap, eMake_f, ofS_inj, ofS_beq, String.reduceEq, String.reduceBEq, rg1_ap, rg2_ap, eListRg_ap, iRevRg_ap, iZip3D_ap, iEnum_ap, sSetAt_ap, rg_ok, rg_ok2, rgl_ok, mul_r, mul_l, mod_d, at_int', at_bl', p6, p9, p10, p11, p12, p60, dAdd_lst, Int.toNat_natCast, Int.zero_add, Int.sub_zero, bInt_bl, bInt_int, bList_f, dSl_lst, dSl_tup, dSl_scr, List.getElem?_cons_zero, List.getElem?_cons_succ, beq_self_eq_true, Bool.true_or, Bool.or_false, Bool.or_true, Bool.false_or, Nat.reduceSub, ne_scr_nil, at_zero, Int.reduceAdd, Int.reduceSub, Int.reduceMul, sz_lt, dIx_r, bLen_r, isTy_r, app_r, pop_r, clear_r, frz_r, frz_lst, isNone_non, isNone_int, List.lookup_cons, List.lookup_nil, and_self, and_true, true_and, setAt_r, ixN_ok, Option.map_some, List.map_set, List.length_set, snoc_get, snoc_set, setF_r, putFD_nil, putFD_cons]⟩
  have sz : ((ts.map trD).length ≤ sizeLine) = True := eq_true (by rw [List.length_map]; exact sz_16 (by omega))
  have d1 : ∀ S', bDict false [.lst (ts.map fun t => .tup [.str (sL t.nm), trD t])] S' = .ok (.dic (knL ts)) S' := fun S' => by
    unfold bDict
    simp only [pairs_kn (fun t : TR => .tup [.str (sL t.nm), trD t]) nmK trD (fun _ => rfl)]
    rw [show (ts.map fun a => (nmK a, trD a)) = knL ts from rfl, mergeD_nil (by rw [knL_keys]; exact nmK_nodup h.nms)]
    rfl
  have d2 : ∀ n S', bDict false [.lst (ts.zipIdx.map fun p => .tup [.str (sL p.1.nm), .ref (n + p.2)])] S' = .ok (.dic (pilL ts (plR n ts.length))) S' := fun n S' => by
    unfold bDict
    simp only [pairs_kn (fun p : TR × Nat => .tup [.str (sL p.1.nm), .ref (n + p.2)]) (fun p => nmK p.1) (fun p => .ref (n + p.2)) (fun _ => rfl)]
    rw [zip_range, mergeD_nil (by rw [pilL_keys (by simp)]; exact nmK_nodup h.nms)]
    rfl
  rw [m_Stacks____init__, runD_ap, z_Stacks____init__]
  simp only [sSeq_ap]
  have rep : (ts.map fun _ => some (O.lst [])) = repO ts.length := by unfold repO; rw [List.map_const']
  have c3 : ∀ o : O, compD (gName 2) tYesD k_Stacks____init___2 ck [some (.ref S.length), some x, none] (ts.map trD) (S ++ [some o]) = .ok (ts.zipIdx.map fun p => .tup [.str (sL p.1.nm), .ref (S.length + 1 + p.2)]) (S ++ some o :: repO ts.length) := fun o => by
    rw [c2, rep, List.length_append, List.append_assoc]; rfl
  have len : ∀ o : O, (S ++ some o :: repO ts.length).length = S.length + 1 + ts.length := fun o => by
    rw [List.length_append, List.length_cons]; unfold repO; rw [List.length_replicate]; omega
  simp (disch := first | omega | (simp only [List.length_map, List.length_cons, List.length_nil, List.length_append]; omega)) only [List.map_cons, List.map_nil, List.length_cons, List.length_nil, List.length_map, List.replicate, List.cons_append, List.nil_append, List.append_eq, sSeq_ap, sSet_ap, sIf_ap, sRet_ap, sRetN_ap, sExpr_ap, sNext_ap, sBreak_ap, sCont_ap, sPar_ap, sAsg_ap, sFor_ap, gName_ap, eVar_0, eVar_s, eC_ap, aNil_ap, aCons_ap, e2_ap, e3_ap, toB_bl, toB_stuck, tV_ap, tAnd_ap, tOr_ap, tNot_ap, eAnd_ap, eOr_ap, eNot_ap, eIf_ap, eNeg_ap, eTup_ap, eLst_ap, eLstL_ap, eB_ap, eIsi_ap, eCall_ap, eM_ap, eM0_ap, eIsN_ap, eNotN_ap, oNone_ap, oSome_ap, eSl_ap, iTup_ap, iStr_ap, iRange1_ap, iRange2_ap, iLst_ap, iZipD_ap, setAll_nil, setAll_cons, wipeD_nil, wipeD_cons, dAdd_int, dSub_int, dLt_int, dLe_int, dGt_int, dGe_int, dEqX_int, dEqX_str, dNeX_int, dNeX_str, dEqX_nil, dNeX_nil, dIs_bl, dMod_int, div_lit, bind_ok, bind_exc, toS_ok, toS_exc, then_nx, then_rt, then_exc, endD_nx, endD_rt, endD_exc, List.set_cons_succ, List.set_cons_zero, if_true, if_false, Bool.false_eq_true, Bool.not_true, Bool.not_false, decide_true, decide_false, Nat.zero_add, Nat.reduceAdd, lcEnd_f, eLc_ap, eRev_ap, eFld_ap, sFldD_ap, eMeth_ap, sRaise_ap, eFrz_ap, insOf_ins, bTuple_lst, bTuple_tup, bMin2_int, bMax2_int, bAbs_int, bLen_lst, bLen_tup, bLen_scr, bAll_lst, bAny_lst, bSum_lst, dIx_lst, dIx_tup, dIx_scr, bRepr_bl, sz_lit, Int.reduceLT, Int.reduceLE, Int.reducePow, Nat.reduceLT, Nat.reduceLeDiff, Nat.reducePow, gTup_tup, gCons_c, gNil_n, cast_lit, eq_self, Int.reduceEq, Int.reduceNeg, eDic0_f, sTry_ap, eMake_f, ofS_inj, ofS_beq, String.reduceEq, String.reduceBEq, rg1_ap, rg2_ap, eListRg_ap, iRevRg_ap, iZip3D_ap, iEnum_ap, sSetAt_ap, rg_ok, rg_ok2, rgl_ok, mul_r, mul_l, mod_d, at_int', at_bl', p6, p9, p10, p11, p12, p60, dAdd_lst, Int.toNat_natCast, Int.zero_add, Int.sub_zero, bInt_bl, bInt_int, bList_f, dSl_lst, dSl_tup, dSl_scr, List.getElem?_cons_zero, List.getElem?_cons_succ, beq_self_eq_true, Bool.true_or, Bool.or_false, Bool.or_true, Bool.false_or, Nat.reduceSub, ne_scr_nil, at_zero, Int.reduceAdd, Int.reduceSub, Int.reduceMul, sz_lt, dIx_r, bLen_r, isTy_r, app_r, pop_r, clear_r, frz_r, frz_lst, isNone_non, isNone_int, List.lookup_cons, List.lookup_nil, and_self, and_true, true_and, setAt_r, ixN_ok, Option.map_some, List.map_set, List.length_set, snoc_get, snoc_set, setF_r, putFD_nil, putFD_cons, cm, it, sz, c1, d1, okF_known, okF_piles, okF_spots, mid_get, mid_set, List.append_assoc, c3, d2, eDic0_t, len, -iLst_ap]
end Q
namespace Q
open PySem L2 Mi
/-! dicts read -/
theorem dIx_dic {kds : List (Key × D)} {x : Str} {d : D} {S : Store} (h : getK kds (.inr x) = some d) : dIx (.dic kds) (.str x) S = .ok d S := by
  unfold dIx
  simp only [anyOf, seqOf, lstOf, dicOf, Mi.keyOf, h]
theorem dIx_rdic {l : Nat} {kds : List (Key × D)} {x : Str} {d : D} {S : Store} (hS : S[l]? = some (some (.dic kds))) (h : getK kds (.inr x) = some d) : dIx (.ref l) (.str x) S = .ok d S := by
  unfold dIx
  simp only [anyOf, seqOf, lstOf, dicOf, Mi.keyOf, hS, h]
theorem in_dic {kds : List (Key × D)} {x : Str} {S : Store} : inB S (.str x) (.dic kds) = some (getK kds (.inr x)).isSome := by
  unfold inB
  simp only [anyOf, seqOf, lstOf, dicOf, Mi.keyOf]
theorem in_rdic {l : Nat} {kds : List (Key × D)} {x : Str} {S : Store} (hS : S[l]? = some (some (.dic kds))) : inB S (.str x) (.ref l) = some (getK kds (.inr x)).isSome := by
  unfold inB
  simp only [anyOf, seqOf, lstOf, dicOf, Mi.keyOf, hS]
theorem dIn_of {x y : D} {b : Bool} {S : Store} (h : inB S x y = some b) : dIn x y S = .ok (.bl b) S := by unfold dIn; rw [h]
theorem dNotIn_of {x y : D} {b : Bool} {S : Store} (h : inB S x y = some b) : dNotIn x y S = .ok (.bl (!b)) S := by unfold dNotIn; rw [h]
/-! what stands -/
abbrev Bx := List Nat × Int
def bxD (b : Bx) : D := .tup [.str (sL b.1), .int b.2]
def has (p : List Bx) (b : List Nat) : Bool := p.any fun x => decide (x.1 = b)
def wh : List TR → List (List Bx) → List Nat → Option (List Nat)
  | t :: ts, p :: P, b => if has p b = true then some t.nm else wh ts P b
  | _, _, _ => none
structure Pil (S : Store) (P : List (List Bx)) (pl : List Nat) : Prop where
  n : pl.length = P.length
  at_ : ∀ (i l : Nat) (p : List Bx), pl[i]? = some l → P[i]? = some p → S[l]? = some (some (O.lst (p.map bxD)))
structure StI (c : Nat) (S : Store) (ts : List TR) (P : List (List Bx)) (pl : List Nat) (s : Nat) : Prop where
  told : Told ts
  Pn : P.length = ts.length
  pil : Pil S P pl
  nd : (s :: pl).Nodup
  sp : ∃ kds, S[s]? = some (some (.dic kds)) ∧ (kds.length ≤ c ∧ norefK kds = true) ∧ ∀ b : List Nat, getK kds (.inr (sL b)) = (wh ts P b).map fun n => .str (sL n)
theorem pil_get {ts : List TR} {pl : List Nat} (hn : (ts.map (·.nm)).Nodup) (hl : pl.length = ts.length) {i l : Nat} {t : TR} (ht : ts[i]? = some t) (hp : pl[i]? = some l) : getK (pilL ts pl) (.inr (sL t.nm)) = some (.ref l) := by
  refine getK_mem (by rw [pilL_keys hl]; exact nmK_nodup hn) (List.mem_map.mpr ⟨(t, l), ?_, rfl⟩)
  refine List.mem_of_getElem? (i := i) ?_
  rw [List.zip, List.getElem?_zipWith, ht, hp]
section
variable {c : Nat} {S : Store} {ts : List TR} {P : List (List Bx)} {pl : List Nat} {s i l : Nat} {t : TR} {p : List Bx}
theorem v_need {ts : List TR} (h : Told ts) (ht : t ∈ ts) (S : Store) (pl : List Nat) (s : Nat) : m_Stacks__need_stack [stV ts pl s, .str (sL t.nm)] S = .ok .non S := by
  have e : dNotIn (.str (sL t.nm)) (.dic (knL ts)) S = .ok (.bl false) S := by
    rw [dNotIn_of in_dic, show (Sum.inr (sL t.nm) : Key) = nmK t from rfl, knL_get h.nms ht]; rfl
  rw [m_Stacks__need_stack, runD_ap, z_Stacks__need_stack]
  unfold stV
  simp (disch := first | omega | (simp only [List.length_map, List.length_cons, List.length_nil, List.length_append]; omega)) only [List.map_cons, List.map_nil, List.length_cons, List.length_nil, List.length_map, List.replicate, List.cons_append, List.nil_append, List.append_eq, sSeq_ap, sSet_ap, sIf_ap, sRet_ap, sRetN_ap, sExpr_ap, sNext_ap, sBreak_ap, sCont_ap, sPar_ap, sAsg_ap, sFor_ap, gName_ap, eVar_0, eVar_s, eC_ap, aNil_ap, aCons_ap, e2_ap, e3_ap, toB_bl, toB_stuck, tV_ap, tAnd_ap, tOr_ap, tNot_ap, eAnd_ap, eOr_ap, eNot_ap, eIf_ap, eNeg_ap, eTup_ap, eLst_ap, eLstL_ap, eB_ap, eIsi_ap, eCall_ap, eM_ap, eM0_ap, eIsN_ap, eNotN_ap, oNone_ap, oSome_ap, eSl_ap, iTup_ap, iStr_ap, iRange1_ap, iRange2_ap, iLst_ap, iZipD_ap, setAll_nil, setAll_cons, wipeD_nil, wipeD_cons, dAdd_int, dSub_int, dLt_int, dLe_int, dGt_int, dGe_int, dEqX_int, dEqX_str, dNeX_int, dNeX_str, dEqX_nil, dNeX_nil, dIs_bl, dMod_int, div_lit, bind_ok, bind_exc, toS_ok, toS_exc, then_nx, then_rt, then_exc, endD_nx, endD_rt, endD_exc, List.set_cons_succ, List.set_cons_zero, if_true, if_false, Bool.false_eq_true, Bool.not_true, Bool.not_false, decide_true, decide_false, Nat.zero_add, Nat.reduceAdd, lcEnd_f, eLc_ap, eRev_ap, eFld_ap, sFldD_ap, eMeth_ap, sRaise_ap, eFrz_ap, insOf_ins, bTuple_lst, bTuple_tup, bMin2_int, bMax2_int, bAbs_int, bLen_lst, bLen_tup, bLen_scr, bAll_lst, bAny_lst, bSum_lst, dIx_lst, dIx_tup, dIx_scr, bRepr_bl, sz_lit, Int.reduceLT, Int.reduceLE, Int.reducePow, Nat.reduceLT, Nat.reduceLeDiff, Nat.reducePow, gTup_tup, gCons_c, gNil_n, cast_lit, eq_self, Int.reduceEq, Int.reduceNeg, eDic0_f, sTry_ap, eMake_f, ofS_inj, ofS_beq, String.reduceEq, String.reduceBEq, rg1_ap, rg2_ap, eListRg_ap, iRevRg_ap, iZip3D_ap, iEnum_ap, sSetAt_ap, rg_ok, rg_ok2, rgl_ok, mul_r, mul_l, mod_d, at_int', at_bl', p6, p9, p10, p11, p12, p60, dAdd_lst, Int.toNat_natCast, Int.zero_add, Int.sub_zero, bInt_bl, bInt_int, bList_f, dSl_lst, dSl_tup, dSl_scr, List.getElem?_cons_zero, List.getElem?_cons_succ, beq_self_eq_true, Bool.true_or, Bool.or_false, Bool.or_true, Bool.false_or, Nat.reduceSub, ne_scr_nil, at_zero, Int.reduceAdd, Int.reduceSub, Int.reduceMul, sz_lt, dIx_r, bLen_r, isTy_r, app_r, pop_r, clear_r, frz_r, frz_lst, isNone_non, isNone_int, List.lookup_cons, List.lookup_nil, and_self, and_true, true_and, setAt_r, ixN_ok, Option.map_some, List.map_set, List.length_set, snoc_get, snoc_set, setF_r, putFD_nil, putFD_cons, tyName, isT, e, okF_known]
theorem c_need {ts : List TR} (h : Told ts) (ht : t ∈ ts) (S : Store) (pl : List Nat) (s : Nat) : callD 2 m_Stacks__need_stack [] [stV ts pl s, .str (sL t.nm)] S = .ok .non S := (call_mut rfl).trans (v_need h ht S pl s)
theorem kn_ix {ts : List TR} (h : Told ts) (ht : t ∈ ts) (S : Store) : dIx (.dic (knL ts)) (.str (sL t.nm)) S = .ok (trD t) S := dIx_dic (knL_get h.nms ht)
theorem v_high {ts : List TR} (h : Told ts) (ht : t ∈ ts) (S : Store) (pl : List Nat) (s : Nat) : callD 2 m_Stacks__high [] [stV ts pl s, .str (sL t.nm)] S = .ok (.int t.hi) S := by
  have a := c_need h ht S pl s
  have k := kn_ix h ht S
  refine (call_mut rfl).trans ?_
  rw [m_Stacks__high, runD_ap, z_Stacks__high]
  unfold stV trD at *
  simp (disch := first | omega | (simp only [List.length_map, List.length_cons, List.length_nil, List.length_append]; omega)) only [List.map_cons, List.map_nil, List.length_cons, List.length_nil, List.length_map, List.replicate, List.cons_append, List.nil_append, List.append_eq, sSeq_ap, sSet_ap, sIf_ap, sRet_ap, sRetN_ap, sExpr_ap, sNext_ap, sBreak_ap, sCont_ap, sPar_ap, sAsg_ap, sFor_ap, gName_ap, eVar_0, eVar_s, eC_ap, aNil_ap, aCons_ap, e2_ap, e3_ap, toB_bl, toB_stuck, tV_ap, tAnd_ap, tOr_ap, tNot_ap, eAnd_ap, eOr_ap, eNot_ap, eIf_ap, eNeg_ap, eTup_ap, eLst_ap, eLstL_ap, eB_ap, eIsi_ap, eCall_ap, eM_ap, eM0_ap, eIsN_ap, eNotN_ap, oNone_ap, oSome_ap, eSl_ap, iTup_ap, iStr_ap, iRange1_ap, iRange2_ap, iLst_ap, iZipD_ap, setAll_nil, setAll_cons, wipeD_nil, wipeD_cons, dAdd_int, dSub_int, dLt_int, dLe_int, dGt_int, dGe_int, dEqX_int, dEqX_str, dNeX_int, dNeX_str, dEqX_nil, dNeX_nil, dIs_bl, dMod_int, div_lit, bind_ok, bind_exc, toS_ok, toS_exc, then_nx, then_rt, then_exc, endD_nx, endD_rt, endD_exc, List.set_cons_succ, List.set_cons_zero, if_true, if_false, Bool.false_eq_true, Bool.not_true, Bool.not_false, decide_true, decide_false, Nat.zero_add, Nat.reduceAdd, lcEnd_f, eLc_ap, eRev_ap, eFld_ap, sFldD_ap, eMeth_ap, sRaise_ap, eFrz_ap, insOf_ins, bTuple_lst, bTuple_tup, bMin2_int, bMax2_int, bAbs_int, bLen_lst, bLen_tup, bLen_scr, bAll_lst, bAny_lst, bSum_lst, dIx_lst, dIx_tup, dIx_scr, bRepr_bl, sz_lit, Int.reduceLT, Int.reduceLE, Int.reducePow, Nat.reduceLT, Nat.reduceLeDiff, Nat.reducePow, gTup_tup, gCons_c, gNil_n, cast_lit, eq_self, Int.reduceEq, Int.reduceNeg, eDic0_f, sTry_ap, eMake_f, ofS_inj, ofS_beq, String.reduceEq, String.reduceBEq, rg1_ap, rg2_ap, eListRg_ap, iRevRg_ap, iZip3D_ap, iEnum_ap, sSetAt_ap, rg_ok, rg_ok2, rgl_ok, mul_r, mul_l, mod_d, at_int', at_bl', p6, p9, p10, p11, p12, p60, dAdd_lst, Int.toNat_natCast, Int.zero_add, Int.sub_zero, bInt_bl, bInt_int, bList_f, dSl_lst, dSl_tup, dSl_scr, List.getElem?_cons_zero, List.getElem?_cons_succ, beq_self_eq_true, Bool.true_or, Bool.or_false, Bool.or_true, Bool.false_or, Nat.reduceSub, ne_scr_nil, at_zero, Int.reduceAdd, Int.reduceSub, Int.reduceMul, sz_lt, dIx_r, bLen_r, isTy_r, app_r, pop_r, clear_r, frz_r, frz_lst, isNone_non, isNone_int, List.lookup_cons, List.lookup_nil, and_self, and_true, true_and, setAt_r, ixN_ok, Option.map_some, List.map_set, List.length_set, snoc_get, snoc_set, setF_r, putFD_nil, putFD_cons, okF_known, okF_piles, a, k, at_two]
theorem v_weight {ts : List TR} (h : Told ts) (ht : t ∈ ts) (S : Store) (pl : List Nat) (s : Nat) : callD 2 m_Stacks__weight [] [stV ts pl s, .str (sL t.nm)] S = .ok (.int t.wt) S := by
  have a := c_need h ht S pl s
  have k := kn_ix h ht S
  refine (call_mut rfl).trans ?_
  rw [m_Stacks__weight, runD_ap, z_Stacks__weight]
  unfold stV trD at *
  simp (disch := first | omega | (simp only [List.length_map, List.length_cons, List.length_nil, List.length_append]; omega)) only [List.map_cons, List.map_nil, List.length_cons, List.length_nil, List.length_map, List.replicate, List.cons_append, List.nil_append, List.append_eq, sSeq_ap, sSet_ap, sIf_ap, sRet_ap, sRetN_ap, sExpr_ap, sNext_ap, sBreak_ap, sCont_ap, sPar_ap, sAsg_ap, sFor_ap, gName_ap, eVar_0, eVar_s, eC_ap, aNil_ap, aCons_ap, e2_ap, e3_ap, toB_bl, toB_stuck, tV_ap, tAnd_ap, tOr_ap, tNot_ap, eAnd_ap, eOr_ap, eNot_ap, eIf_ap, eNeg_ap, eTup_ap, eLst_ap, eLstL_ap, eB_ap, eIsi_ap, eCall_ap, eM_ap, eM0_ap, eIsN_ap, eNotN_ap, oNone_ap, oSome_ap, eSl_ap, iTup_ap, iStr_ap, iRange1_ap, iRange2_ap, iLst_ap, iZipD_ap, setAll_nil, setAll_cons, wipeD_nil, wipeD_cons, dAdd_int, dSub_int, dLt_int, dLe_int, dGt_int, dGe_int, dEqX_int, dEqX_str, dNeX_int, dNeX_str, dEqX_nil, dNeX_nil, dIs_bl, dMod_int, div_lit, bind_ok, bind_exc, toS_ok, toS_exc, then_nx, then_rt, then_exc, endD_nx, endD_rt, endD_exc, List.set_cons_succ, List.set_cons_zero, if_true, if_false, Bool.false_eq_true, Bool.not_true, Bool.not_false, decide_true, decide_false, Nat.zero_add, Nat.reduceAdd, lcEnd_f, eLc_ap, eRev_ap, eFld_ap, sFldD_ap, eMeth_ap, sRaise_ap, eFrz_ap, insOf_ins, bTuple_lst, bTuple_tup, bMin2_int, bMax2_int, bAbs_int, bLen_lst, bLen_tup, bLen_scr, bAll_lst, bAny_lst, bSum_lst, dIx_lst, dIx_tup, dIx_scr, bRepr_bl, sz_lit, Int.reduceLT, Int.reduceLE, Int.reducePow, Nat.reduceLT, Nat.reduceLeDiff, Nat.reducePow, gTup_tup, gCons_c, gNil_n, cast_lit, eq_self, Int.reduceEq, Int.reduceNeg, eDic0_f, sTry_ap, eMake_f, ofS_inj, ofS_beq, String.reduceEq, String.reduceBEq, rg1_ap, rg2_ap, eListRg_ap, iRevRg_ap, iZip3D_ap, iEnum_ap, sSetAt_ap, rg_ok, rg_ok2, rgl_ok, mul_r, mul_l, mod_d, at_int', at_bl', p6, p9, p10, p11, p12, p60, dAdd_lst, Int.toNat_natCast, Int.zero_add, Int.sub_zero, bInt_bl, bInt_int, bList_f, dSl_lst, dSl_tup, dSl_scr, List.getElem?_cons_zero, List.getElem?_cons_succ, beq_self_eq_true, Bool.true_or, Bool.or_false, Bool.or_true, Bool.false_or, Nat.reduceSub, ne_scr_nil, at_zero, Int.reduceAdd, Int.reduceSub, Int.reduceMul, sz_lt, dIx_r, bLen_r, isTy_r, app_r, pop_r, clear_r, frz_r, frz_lst, isNone_non, isNone_int, List.lookup_cons, List.lookup_nil, and_self, and_true, true_and, setAt_r, ixN_ok, Option.map_some, List.map_set, List.length_set, snoc_get, snoc_set, setF_r, putFD_nil, putFD_cons, okF_known, okF_piles, a, k, at_three]
theorem v_boxes (h : StI c S ts P pl s) (ht : ts[i]? = some t) (hl : pl[i]? = some l) (hp : P[i]? = some p) : callD 2 m_Stacks__boxes [] [stV ts pl s, .str (sL t.nm)] S = .ok (.ref S.length) (S ++ [some (.lst (p.map bxD))]) := by
  have a := c_need h.told (List.mem_of_getElem? ht) S pl s
  have k : dIx (.dic (pilL ts pl)) (.str (sL t.nm)) S = .ok (.ref l) S := dIx_dic (pil_get h.told.nms (h.pil.n.trans h.Pn) ht hl)
  have b := h.pil.at_ i l p hl hp
  have bl : bList true [.ref l] S = .ok (.ref S.length) (S ++ [some (.lst (p.map bxD))]) := by
    unfold bList
    simp only [anyOf, seqOf, lstOf, b, if_true]
  refine (call_mut rfl).trans ?_
  rw [m_Stacks__boxes, runD_ap, z_Stacks__boxes]
  unfold stV at *
  simp (disch := first | omega | (simp only [List.length_map, List.length_cons, List.length_nil, List.length_append]; omega)) only [List.map_cons, List.map_nil, List.length_cons, List.length_nil, List.length_map, List.replicate, List.cons_append, List.nil_append, List.append_eq, sSeq_ap, sSet_ap, sIf_ap, sRet_ap, sRetN_ap, sExpr_ap, sNext_ap, sBreak_ap, sCont_ap, sPar_ap, sAsg_ap, sFor_ap, gName_ap, eVar_0, eVar_s, eC_ap, aNil_ap, aCons_ap, e2_ap, e3_ap, toB_bl, toB_stuck, tV_ap, tAnd_ap, tOr_ap, tNot_ap, eAnd_ap, eOr_ap, eNot_ap, eIf_ap, eNeg_ap, eTup_ap, eLst_ap, eLstL_ap, eB_ap, eIsi_ap, eCall_ap, eM_ap, eM0_ap, eIsN_ap, eNotN_ap, oNone_ap, oSome_ap, eSl_ap, iTup_ap, iStr_ap, iRange1_ap, iRange2_ap, iLst_ap, iZipD_ap, setAll_nil, setAll_cons, wipeD_nil, wipeD_cons, dAdd_int, dSub_int, dLt_int, dLe_int, dGt_int, dGe_int, dEqX_int, dEqX_str, dNeX_int, dNeX_str, dEqX_nil, dNeX_nil, dIs_bl, dMod_int, div_lit, bind_ok, bind_exc, toS_ok, toS_exc, then_nx, then_rt, then_exc, endD_nx, endD_rt, endD_exc, List.set_cons_succ, List.set_cons_zero, if_true, if_false, Bool.false_eq_true, Bool.not_true, Bool.not_false, decide_true, decide_false, Nat.zero_add, Nat.reduceAdd, lcEnd_f, eLc_ap, eRev_ap, eFld_ap, sFldD_ap, eMeth_ap, sRaise_ap, eFrz_ap, insOf_ins, bTuple_lst, bTuple_tup, bMin2_int, bMax2_int, bAbs_int, bLen_lst, bLen_tup, bLen_scr, bAll_lst, bAny_lst, bSum_lst, dIx_lst, dIx_tup, dIx_scr, bRepr_bl, sz_lit, Int.reduceLT, Int.reduceLE, Int.reducePow, Nat.reduceLT, Nat.reduceLeDiff, Nat.reducePow, gTup_tup, gCons_c, gNil_n, cast_lit, eq_self, Int.reduceEq, Int.reduceNeg, eDic0_f, sTry_ap, eMake_f, ofS_inj, ofS_beq, String.reduceEq, String.reduceBEq, rg1_ap, rg2_ap, eListRg_ap, iRevRg_ap, iZip3D_ap, iEnum_ap, sSetAt_ap, rg_ok, rg_ok2, rgl_ok, mul_r, mul_l, mod_d, at_int', at_bl', p6, p9, p10, p11, p12, p60, dAdd_lst, Int.toNat_natCast, Int.zero_add, Int.sub_zero, bInt_bl, bInt_int, bList_f, dSl_lst, dSl_tup, dSl_scr, List.getElem?_cons_zero, List.getElem?_cons_succ, beq_self_eq_true, Bool.true_or, Bool.or_false, Bool.or_true, Bool.false_or, Nat.reduceSub, ne_scr_nil, at_zero, Int.reduceAdd, Int.reduceSub, Int.reduceMul, sz_lt, dIx_r, bLen_r, isTy_r, app_r, pop_r, clear_r, frz_r, frz_lst, isNone_non, isNone_int, List.lookup_cons, List.lookup_nil, and_self, and_true, true_and, setAt_r, ixN_ok, Option.map_some, List.map_set, List.length_set, snoc_get, snoc_set, setF_r, putFD_nil, putFD_cons, okF_known, okF_piles, a, k, bl]
theorem vS_names {ts : List TR} (h : Told ts) (S : Store) (pl : List Nat) (s : Nat) : callD 1 m_Stacks__names [] [stV ts pl s] S = .ok (.ref S.length) (S ++ [some (.lst ((sortStr (ts.map fun t => sL t.nm)).map .str))]) := by
  have k : bListK false [.dic (knL ts)] S = .ok (.lst (ts.map fun t => .str (sL t.nm))) S := by
    unfold bListK knL
    simp only [dicOf, List.map_map]
    rfl
  have so : bSortedS true [.lst (ts.map fun t => .str (sL t.nm))] S = .ok (.ref S.length) (S ++ [some (.lst ((sortStr (ts.map fun t => sL t.nm)).map .str))]) := by
    unfold bSortedS
    have e : strsOf (ts.map fun t => D.str (sL t.nm)) = some (ts.map fun t => sL t.nm) := by
      clear h k
      induction ts with
      | nil => rfl
      | cons t ts ih => rw [List.map_cons, List.map_cons]; show (strsOf _).map _ = _; rw [ih]; rfl
    simp only [seqOf, lstOf, e]
    rw [if_pos (by rw [List.length_map]; have := h.hi; omega)]
    rfl
  refine (call_mut rfl).trans ?_
  rw [m_Stacks__names, runD_ap, z_Stacks__names]
  unfold stV
  simp (disch := first | omega | (simp only [List.length_map, List.length_cons, List.length_nil, List.length_append]; omega)) only [List.map_cons, List.map_nil, List.length_cons, List.length_nil, List.length_map, List.replicate, List.cons_append, List.nil_append, List.append_eq, sSeq_ap, sSet_ap, sIf_ap, sRet_ap, sRetN_ap, sExpr_ap, sNext_ap, sBreak_ap, sCont_ap, sPar_ap, sAsg_ap, sFor_ap, gName_ap, eVar_0, eVar_s, eC_ap, aNil_ap, aCons_ap, e2_ap, e3_ap, toB_bl, toB_stuck, tV_ap, tAnd_ap, tOr_ap, tNot_ap, eAnd_ap, eOr_ap, eNot_ap, eIf_ap, eNeg_ap, eTup_ap, eLst_ap, eLstL_ap, eB_ap, eIsi_ap, eCall_ap, eM_ap, eM0_ap, eIsN_ap, eNotN_ap, oNone_ap, oSome_ap, eSl_ap, iTup_ap, iStr_ap, iRange1_ap, iRange2_ap, iLst_ap, iZipD_ap, setAll_nil, setAll_cons, wipeD_nil, wipeD_cons, dAdd_int, dSub_int, dLt_int, dLe_int, dGt_int, dGe_int, dEqX_int, dEqX_str, dNeX_int, dNeX_str, dEqX_nil, dNeX_nil, dIs_bl, dMod_int, div_lit, bind_ok, bind_exc, toS_ok, toS_exc, then_nx, then_rt, then_exc, endD_nx, endD_rt, endD_exc, List.set_cons_succ, List.set_cons_zero, if_true, if_false, Bool.false_eq_true, Bool.not_true, Bool.not_false, decide_true, decide_false, Nat.zero_add, Nat.reduceAdd, lcEnd_f, eLc_ap, eRev_ap, eFld_ap, sFldD_ap, eMeth_ap, sRaise_ap, eFrz_ap, insOf_ins, bTuple_lst, bTuple_tup, bMin2_int, bMax2_int, bAbs_int, bLen_lst, bLen_tup, bLen_scr, bAll_lst, bAny_lst, bSum_lst, dIx_lst, dIx_tup, dIx_scr, bRepr_bl, sz_lit, Int.reduceLT, Int.reduceLE, Int.reducePow, Nat.reduceLT, Nat.reduceLeDiff, Nat.reducePow, gTup_tup, gCons_c, gNil_n, cast_lit, eq_self, Int.reduceEq, Int.reduceNeg, eDic0_f, sTry_ap, eMake_f, ofS_inj, ofS_beq, String.reduceEq, String.reduceBEq, rg1_ap, rg2_ap, eListRg_ap, iRevRg_ap, iZip3D_ap, iEnum_ap, sSetAt_ap, rg_ok, rg_ok2, rgl_ok, mul_r, mul_l, mod_d, at_int', at_bl', p6, p9, p10, p11, p12, p60, dAdd_lst, Int.toNat_natCast, Int.zero_add, Int.sub_zero, bInt_bl, bInt_int, bList_f, dSl_lst, dSl_tup, dSl_scr, List.getElem?_cons_zero, List.getElem?_cons_succ, beq_self_eq_true, Bool.true_or, Bool.or_false, Bool.or_true, Bool.false_or, Nat.reduceSub, ne_scr_nil, at_zero, Int.reduceAdd, Int.reduceSub, Int.reduceMul, sz_lt, dIx_r, bLen_r, isTy_r, app_r, pop_r, clear_r, frz_r, frz_lst, isNone_non, isNone_int, List.lookup_cons, List.lookup_nil, and_self, and_true, true_and, setAt_r, ixN_ok, Option.map_some, List.map_set, List.length_set, snoc_get, snoc_set, setF_r, putFD_nil, putFD_cons, okF_known, k, so]
theorem v_told {ts : List TR} (S : Store) (pl : List Nat) (s : Nat) : callD 1 m_Stacks__told [] [stV ts pl s] S = .ok (.lst (ts.map trD)) S := by
  have k : eListVals false (eFld flT "known" (eVar 0)) [some (stV ts pl s)] S = .ok (.lst (ts.map trD)) S := by
    unfold eListVals stV
    simp (disch := first | omega | (simp only [List.length_map, List.length_cons, List.length_nil, List.length_append]; omega)) only [List.map_cons, List.map_nil, List.length_cons, List.length_nil, List.length_map, List.replicate, List.cons_append, List.nil_append, List.append_eq, sSeq_ap, sSet_ap, sIf_ap, sRet_ap, sRetN_ap, sExpr_ap, sNext_ap, sBreak_ap, sCont_ap, sPar_ap, sAsg_ap, sFor_ap, gName_ap, eVar_0, eVar_s, eC_ap, aNil_ap, aCons_ap, e2_ap, e3_ap, toB_bl, toB_stuck, tV_ap, tAnd_ap, tOr_ap, tNot_ap, eAnd_ap, eOr_ap, eNot_ap, eIf_ap, eNeg_ap, eTup_ap, eLst_ap, eLstL_ap, eB_ap, eIsi_ap, eCall_ap, eM_ap, eM0_ap, eIsN_ap, eNotN_ap, oNone_ap, oSome_ap, eSl_ap, iTup_ap, iStr_ap, iRange1_ap, iRange2_ap, iLst_ap, iZipD_ap, setAll_nil, setAll_cons, wipeD_nil, wipeD_cons, dAdd_int, dSub_int, dLt_int, dLe_int, dGt_int, dGe_int, dEqX_int, dEqX_str, dNeX_int, dNeX_str, dEqX_nil, dNeX_nil, dIs_bl, dMod_int, div_lit, bind_ok, bind_exc, toS_ok, toS_exc, then_nx, then_rt, then_exc, endD_nx, endD_rt, endD_exc, List.set_cons_succ, List.set_cons_zero, if_true, if_false, Bool.false_eq_true, Bool.not_true, Bool.not_false, decide_true, decide_false, Nat.zero_add, Nat.reduceAdd, lcEnd_f, eLc_ap, eRev_ap, eFld_ap, sFldD_ap, eMeth_ap, sRaise_ap, eFrz_ap, insOf_ins, bTuple_lst, bTuple_tup, bMin2_int, bMax2_int, bAbs_int, bLen_lst, bLen_tup, bLen_scr, bAll_lst, bAny_lst, bSum_lst, dIx_lst, dIx_tup, dIx_scr, bRepr_bl, sz_lit, Int.reduceLT, Int.reduceLE, Int.reducePow, Nat.reduceLT, Nat.reduceLeDiff, Nat.reducePow, gTup_tup, gCons_c, gNil_n, cast_lit, eq_self, Int.reduceEq, Int.reduceNeg, eDic0_f, sTry_ap, eMake_f, ofS_inj, ofS_beq, String.reduceEq, String.reduceBEq, rg1_ap, rg2_ap, eListRg_ap, iRevRg_ap, iZip3D_ap, iEnum_ap, sSetAt_ap, rg_ok, rg_ok2, rgl_ok, mul_r, mul_l, mod_d, at_int', at_bl', p6, p9, p10, p11, p12, p60, dAdd_lst, Int.toNat_natCast, Int.zero_add, Int.sub_zero, bInt_bl, bInt_int, bList_f, dSl_lst, dSl_tup, dSl_scr, List.getElem?_cons_zero, List.getElem?_cons_succ, beq_self_eq_true, Bool.true_or, Bool.or_false, Bool.or_true, Bool.false_or, Nat.reduceSub, ne_scr_nil, at_zero, Int.reduceAdd, Int.reduceSub, Int.reduceMul, sz_lt, dIx_r, bLen_r, isTy_r, app_r, pop_r, clear_r, frz_r, frz_lst, isNone_non, isNone_int, List.lookup_cons, List.lookup_nil, and_self, and_true, true_and, setAt_r, ixN_ok, Option.map_some, List.map_set, List.length_set, snoc_get, snoc_set, setF_r, putFD_nil, putFD_cons, okF_known]
    simp only [dicOf]
    unfold knL newLst
    rw [List.map_map]; rfl
  refine (call_mut rfl).trans ?_
  rw [m_Stacks__told, runD_ap, z_Stacks__told]
  simp (disch := first | omega | (simp only [List.length_map, List.length_cons, List.length_nil, List.length_append]; omega)) only [List.map_cons, List.map_nil, List.length_cons, List.length_nil, List.length_map, List.replicate, List.cons_append, List.nil_append, List.append_eq, sSeq_ap, sSet_ap, sIf_ap, sRet_ap, sRetN_ap, sExpr_ap, sNext_ap, sBreak_ap, sCont_ap, sPar_ap, sAsg_ap, sFor_ap, gName_ap, eVar_0, eVar_s, eC_ap, aNil_ap, aCons_ap, e2_ap, e3_ap, toB_bl, toB_stuck, tV_ap, tAnd_ap, tOr_ap, tNot_ap, eAnd_ap, eOr_ap, eNot_ap, eIf_ap, eNeg_ap, eTup_ap, eLst_ap, eLstL_ap, eB_ap, eIsi_ap, eCall_ap, eM_ap, eM0_ap, eIsN_ap, eNotN_ap, oNone_ap, oSome_ap, eSl_ap, iTup_ap, iStr_ap, iRange1_ap, iRange2_ap, iLst_ap, iZipD_ap, setAll_nil, setAll_cons, wipeD_nil, wipeD_cons, dAdd_int, dSub_int, dLt_int, dLe_int, dGt_int, dGe_int, dEqX_int, dEqX_str, dNeX_int, dNeX_str, dEqX_nil, dNeX_nil, dIs_bl, dMod_int, div_lit, bind_ok, bind_exc, toS_ok, toS_exc, then_nx, then_rt, then_exc, endD_nx, endD_rt, endD_exc, List.set_cons_succ, List.set_cons_zero, if_true, if_false, Bool.false_eq_true, Bool.not_true, Bool.not_false, decide_true, decide_false, Nat.zero_add, Nat.reduceAdd, lcEnd_f, eLc_ap, eRev_ap, eFld_ap, sFldD_ap, eMeth_ap, sRaise_ap, eFrz_ap, insOf_ins, bTuple_lst, bTuple_tup, bMin2_int, bMax2_int, bAbs_int, bLen_lst, bLen_tup, bLen_scr, bAll_lst, bAny_lst, bSum_lst, dIx_lst, dIx_tup, dIx_scr, bRepr_bl, sz_lit, Int.reduceLT, Int.reduceLE, Int.reducePow, Nat.reduceLT, Nat.reduceLeDiff, Nat.reducePow, gTup_tup, gCons_c, gNil_n, cast_lit, eq_self, Int.reduceEq, Int.reduceNeg, eDic0_f, sTry_ap, eMake_f, ofS_inj, ofS_beq, String.reduceEq, String.reduceBEq, rg1_ap, rg2_ap, eListRg_ap, iRevRg_ap, iZip3D_ap, iEnum_ap, sSetAt_ap, rg_ok, rg_ok2, rgl_ok, mul_r, mul_l, mod_d, at_int', at_bl', p6, p9, p10, p11, p12, p60, dAdd_lst, Int.toNat_natCast, Int.zero_add, Int.sub_zero, bInt_bl, bInt_int, bList_f, dSl_lst, dSl_tup, dSl_scr, List.getElem?_cons_zero, List.getElem?_cons_succ, beq_self_eq_true, Bool.true_or, Bool.or_false, Bool.or_true, Bool.false_or, Nat.reduceSub, ne_scr_nil, at_zero, Int.reduceAdd, Int.reduceSub, Int.reduceMul, sz_lt, dIx_r, bLen_r, isTy_r, app_r, pop_r, clear_r, frz_r, frz_lst, isNone_non, isNone_int, List.lookup_cons, List.lookup_nil, and_self, and_true, true_and, setAt_r, ixN_ok, Option.map_some, List.map_set, List.length_set, snoc_get, snoc_set, setF_r, putFD_nil, putFD_cons, k]
end
end Q
namespace Q
open PySem L2 Mi
theorem norefK_all {r : List (Key × D)} : norefK r = true ↔ ∀ p ∈ r, noref p.2 = true := by
  induction r with
  | nil => simp [norefK]
  | cons p r ih =>
    obtain ⟨k, d⟩ := p
    simp only [norefK, Bool.and_eq_true, ih, List.forall_mem_cons]
theorem norefK_put {r : List (Key × D)} {j : Key} {d : D} (h : norefK r = true) (hd : noref d = true) : norefK (putD r j d) = true := by
  rw [norefK_all] at h ⊢
  intro p hp
  unfold putD at hp
  split at hp
  · obtain ⟨q, hq, rfl⟩ := List.mem_map.mp hp
    split
    · exact hd
    · exact h q hq
  · rcases List.mem_append.mp hp with hp | hp
    · exact h p hp
    · rw [List.mem_singleton.mp hp]; exact hd
theorem norefK_drop {r : List (Key × D)} {j : Key} (h : norefK r = true) : norefK (dropD r j) = true := by
  rw [norefK_all] at h ⊢
  exact fun p hp => h p ((List.mem_filter.mp hp).1)
/-! where a box lies -/
theorem has_app {p : List Bx} {x : Bx} {b : List Nat} : has (p ++ [x]) b = (has p b || decide (x.1 = b)) := by unfold has; rw [List.any_append]; simp
theorem has_iff {p : List Bx} {b : List Nat} : has p b = true ↔ b ∈ p.map (·.1) := by
  unfold has
  rw [List.any_eq_true]
  constructor
  · rintro ⟨x, h, e⟩
    exact List.mem_map.mpr ⟨x, h, of_decide_eq_true e⟩
  · intro h
    obtain ⟨x, h, e⟩ := List.mem_map.mp h
    exact ⟨x, h, decide_eq_true e⟩
def names (P : List (List Bx)) : List (List Nat) := P.flatten.map (·.1)
theorem names_cons {p : List Bx} {P : List (List Bx)} : names (p :: P) = p.map (·.1) ++ names P := by unfold names; rw [List.flatten_cons, List.map_append]
theorem wh_none : ∀ {ts : List TR} {P : List (List Bx)} {b : List Nat}, P.length = ts.length → (wh ts P b = none ↔ b ∉ names P)
  | [], [], b, _ => by simp [wh, names]
  | [], _ :: _, b, h => by simp at h
  | _ :: _, [], b, h => by simp at h
  | t :: ts, p :: P, b, h => by
    have ih := wh_none (ts := ts) (P := P) (b := b) (by simpa using h)
    rw [names_cons, List.mem_append]
    unfold wh
    by_cases e : has p b = true
    · rw [if_pos e]
      exact ⟨fun z => (by cases z), fun z => absurd (.inl (has_iff.mp e)) z⟩
    · rw [if_neg e, ih]
      exact ⟨fun z q => q.elim (fun q => e (has_iff.mpr q)) z, fun z q => z (.inr q)⟩
theorem wh_put {w : Int} {t : TR} {p : List Bx} {b : List Nat} : ∀ {ts : List TR} {P : List (List Bx)} {i : Nat}, ts[i]? = some t → P[i]? = some p → wh ts P b = none → ∀ b', wh ts (P.set i (p ++ [(b, w)])) b' = if b = b' then some t.nm else wh ts P b'
  | [], _, i, h, _, _ => by simp at h
  | _ :: _, [], i, _, h, _ => by simp at h
  | t0 :: ts, p0 :: P, 0, h1, h2, h3 => fun b' => by
    cases h1; cases h2
    rw [List.set_cons_zero]
    unfold wh
    rw [has_app]
    by_cases e : b = b'
    · rw [if_pos e, if_pos (by simp [e])]
    · rw [if_neg e]; simp [e]
  | t0 :: ts, p0 :: P, i + 1, h1, h2, h3 => fun b' => by
    unfold wh at h3
    have n0 : ¬ has p0 b = true := fun z => by rw [if_pos z] at h3; cases h3
    rw [if_neg n0] at h3
    have ih := wh_put (w := w) (ts := ts) (P := P) (i := i) (by simpa using h1) (by simpa using h2) h3 b'
    rw [List.set_cons_succ]
    unfold wh
    rw [ih]
    by_cases e : b = b'
    · subst e; rw [if_pos rfl, if_pos rfl, if_neg n0]
    · rw [if_neg e, if_neg e]
theorem wh_take {x : Bx} {q : List Bx} : ∀ {ts : List TR} {P : List (List Bx)} {i : Nat}, P.length = ts.length → P[i]? = some (q ++ [x]) → (names P).Nodup → ∀ b', wh ts (P.set i q) b' = if x.1 = b' then none else wh ts P b'
  | [], [], i, _, h, _ => by simp at h
  | [], _ :: _, i, h, _, _ => by simp at h
  | _ :: _, [], i, h, _, _ => by simp at h
  | t0 :: ts, p0 :: P, 0, hl, h2, h3 => fun b' => by
    cases h2
    rw [names_cons, List.map_append, List.nodup_append] at h3
    obtain ⟨n1, n2, n3⟩ := h3
    rw [List.nodup_append] at n1
    rw [List.set_cons_zero]
    unfold wh
    rw [has_app]
    by_cases e : x.1 = b'
    · rw [if_pos e]
      have a1 : ¬ has q b' = true := fun z => n1.2.2 b' (has_iff.mp z) x.1 (by simp) e.symm
      have a2 : wh ts P b' = none := (wh_none (by simpa using hl)).mpr fun z => n3 x.1 (by simp) b' z e
      rw [if_neg a1, a2]
    · rw [if_neg e]; simp [e]
  | t0 :: ts, p0 :: P, i + 1, hl, h2, h3 => fun b' => by
    rw [names_cons, List.nodup_append] at h3
    have hx : x.1 ∈ names P := by
      unfold names
      exact List.mem_map_of_mem (List.mem_flatten.mpr ⟨q ++ [x], List.mem_of_getElem? (by simpa using h2), by simp⟩)
    have ih := wh_take (ts := ts) (P := P) (i := i) (by simpa using hl) (by simpa using h2) h3.2.1 b'
    rw [List.set_cons_succ]
    unfold wh
    rw [ih]
    by_cases e : x.1 = b'
    · rw [if_pos e, if_pos e, if_neg fun z => h3.2.2 b' (has_iff.mp z) x.1 hx e.symm]
    · rw [if_neg e, if_neg e]
theorem names_put {w : Int} {p : List Bx} {b : List Nat} : ∀ {P : List (List Bx)} {i : Nat}, P[i]? = some p → (names (P.set i (p ++ [(b, w)]))).Perm (b :: names P)
  | [], i, h => by simp at h
  | p0 :: P, 0, h => by
    cases h
    rw [List.set_cons_zero, names_cons, names_cons, List.map_append, List.map_cons, List.map_nil, List.append_assoc]
    exact List.perm_middle
  | p0 :: P, i + 1, h => by
    rw [List.set_cons_succ, names_cons, names_cons]
    exact ((names_put (P := P) (i := i) (by simpa using h)).append_left _).trans List.perm_middle
theorem names_take {x : Bx} {q : List Bx} : ∀ {P : List (List Bx)} {i : Nat}, P[i]? = some (q ++ [x]) → (names P).Perm (x.1 :: names (P.set i q))
  | [], i, h => by simp at h
  | p0 :: P, 0, h => by
    cases h
    rw [List.set_cons_zero, names_cons, names_cons, List.map_append, List.map_cons, List.map_nil, List.append_assoc]
    exact List.perm_middle
  | p0 :: P, i + 1, h => by
    rw [List.set_cons_succ, names_cons, names_cons]
    exact ((names_take (P := P) (i := i) (by simpa using h)).append_left _).trans List.perm_middle
/-- a pile is changed -/
theorem Pil.set {S : Store} {P : List (List Bx)} {pl : List Nat} (h : Pil S P pl) (nd : pl.Nodup) {i l : Nat} {p q : List Bx} (hl : pl[i]? = some l) (hp : P[i]? = some p) : Pil (S.set l (some (.lst (q.map bxD)))) (P.set i q) pl where
  n := by rw [List.length_set]; exact h.n
  at_ := fun j m r hm hr => by
    by_cases e : i = j
    · subst e
      rw [hl] at hm
      cases hm
      rw [List.getElem?_set_self (List.getElem?_eq_some_iff.mp hp).1] at hr
      cases hr
      exact List.getElem?_set_self (List.getElem?_eq_some_iff.mp (h.at_ i l p hl hp)).1
    · rw [List.getElem?_set_ne e] at hr
      have ne : l ≠ m := fun z => by
        subst z
        have a := (List.getElem?_eq_some_iff.mp hl)
        have b := (List.getElem?_eq_some_iff.mp hm)
        obtain ⟨a1, a2⟩ := a
        obtain ⟨b1, b2⟩ := b
        have nd' := List.pairwise_iff_getElem.mp (List.nodup_iff_pairwise_ne.mp nd)
        rcases Nat.lt_or_gt_of_ne e with q | q
        · exact nd' i j a1 b1 q (a2.trans b2.symm)
        · exact nd' j i b1 a1 q (b2.trans a2.symm)
      rw [List.getElem?_set_ne ne]
      exact h.at_ j m r hm hr
theorem Pil.oth {S : Store} {P : List (List Bx)} {pl : List Nat} (h : Pil S P pl) {s : Nat} (hs : s ∉ pl) (x : Option O) : Pil (S.set s x) P pl where
  n := h.n
  at_ := fun j m r hm hr => by
    have ne : s ≠ m := fun z => hs (by rw [z]; exact List.mem_of_getElem? hm)
    rw [List.getElem?_set_ne ne]
    exact h.at_ j m r hm hr
end Q
namespace Q
open PySem L2 Mi
theorem intsOf_ints (l : List Int) : intsOf (l.map D.int) = some l := by
  have e := intsOf_map (fun x : Int => x) l
  rw [List.map_id'] at e
  exact e
def wtS (p : List Bx) : Int := (p.map (·.2)).sum
section
variable {c : Nat} {S : Store} {ts : List TR} {P : List (List Bx)} {pl : List Nat} {s i l : Nat} {t : TR} {p q : List Bx} {x : Bx} {b : List Nat} {w : Int}
theorem StI.ix (h : StI c S ts P pl s) (ht : ts[i]? = some t) (hl : pl[i]? = some l) (S' : Store) : dIx (.dic (pilL ts pl)) (.str (sL t.nm)) S' = .ok (.ref l) S' := dIx_dic (pil_get h.told.nms (h.pil.n.trans h.Pn) ht hl)
theorem StI.ndl (h : StI c S ts P pl s) : pl.Nodup := (List.nodup_cons.mp h.nd).2
theorem StI.nds (h : StI c S ts P pl s) : s ∉ pl := (List.nodup_cons.mp h.nd).1
/-- put -/
theorem v_put (h : StI c S ts P pl s) (nn : (names P).Nodup) (ht : ts[i]? = some t) (hl : pl[i]? = some l) (hp : P[i]? = some p) (nb : NmOk b) (w0 : 1 ≤ w) (w1 : w ≤ 1000000000000) (hw : wh ts P b = none) (hh : (p.length : Int) < t.hi) (hs : wtS p + w ≤ t.wt) (hc : c ≤ 1000) :
    ∃ S', callD 4 m_Stacks__put [] [stV ts pl s, .str (sL b), .int w, .str (sL t.nm)] S = .ok .non S' ∧ S'.length = S.length ∧ (∀ m, m ∉ s :: pl → S'[m]? = S[m]?) ∧ StI (c + 1) S' ts (P.set i (p ++ [(b, w)])) pl s ∧ (names (P.set i (p ++ [(b, w)]))).Nodup := by
  obtain ⟨kds, k1, ⟨k2, kn⟩, k3⟩ := h.sp
  have tm := List.mem_of_getElem? ht
  have tok := h.told.ok t tm
  have at0 := h.pil.at_ i l p hl hp
  have e1 := c_is_name nb S
  have e2 := c_in w0 w1 S
  have e3 := c_need h.told tm S pl s
  have kb : getK kds (.inr (sL b)) = none := by rw [k3, hw]; rfl
  have e4 : dIn (.str (sL b)) (.ref s) S = .ok (.bl false) S := by rw [dIn_of (in_rdic k1), kb]; rfl
  have e5 := h.ix ht hl S
  have e6 := v_high h.told tm S pl s
  have e7 := v_weight h.told tm S pl s
  have cm : compD (gName 5) tYesD k_Stacks__put_1 (some (l, p.map bxD)) [some (stV ts pl s), some (.str (sL b)), some (.int w), some (.str (sL t.nm)), some (.ref l), none] (p.map bxD) S = .ok (p.map fun y => .int y.2) S :=
    comp_mm (ck := some (l, p.map bxD)) at0 (fun y : Bx => .int y.2) fun y hy => ⟨_, rfl, rfl, by unfold k_Stacks__put_1 bxD; simp (disch := first | omega | (simp only [List.length_map, List.length_cons, List.length_nil, List.length_append]; omega)) only [List.map_cons, List.map_nil, List.length_cons, List.length_nil, List.length_map, List.replicate, List.cons_append, List.nil_append, List.append_eq, sSeq_ap, sSet_ap, sIf_ap, sRet_ap, sRetN_ap, sExpr_ap, sNext_ap, sBreak_ap, sCont_ap, sPar_ap, sAsg_ap, sFor_ap, gName_ap, eVar_0, eVar_s, eC_ap, aNil_ap, aCons_ap, e2_ap, e3_ap, toB_bl, toB_stuck, tV_ap, tAnd_ap, tOr_ap, tNot_ap, eAnd_ap, eOr_ap, eNot_ap, eIf_ap, eNeg_ap, eTup_ap, eLst_ap, eLstL_ap, eB_ap, eIsi_ap, eCall_ap, eM_ap, eM0_ap, eIsN_ap, eNotN_ap, oNone_ap, oSome_ap, eSl_ap, iTup_ap, iStr_ap, iRange1_ap, iRange2_ap, iLst_ap, iZipD_ap, setAll_nil, setAll_cons, wipeD_nil, wipeD_cons, dAdd_int, dSub_int, dLt_int, dLe_int, dGt_int, dGe_int, dEqX_int, dEqX_str, dNeX_int, dNeX_str, dEqX_nil, dNeX_nil, dIs_bl, dMod_int, div_lit, bind_ok, bind_exc, toS_ok, toS_exc, then_nx, then_rt, then_exc, endD_nx, endD_rt, endD_exc, List.set_cons_succ, List.set_cons_zero, if_true, if_false, Bool.false_eq_true, Bool.not_true, Bool.not_false, decide_true, decide_false, Nat.zero_add, Nat.reduceAdd, lcEnd_f, eLc_ap, eRev_ap, eFld_ap, sFldD_ap, eMeth_ap, sRaise_ap, eFrz_ap, insOf_ins, bTuple_lst, bTuple_tup, bMin2_int, bMax2_int, bAbs_int, bLen_lst, bLen_tup, bLen_scr, bAll_lst, bAny_lst, bSum_lst, dIx_lst, dIx_tup, dIx_scr, bRepr_bl, sz_lit, Int.reduceLT, Int.reduceLE, Int.reducePow, Nat.reduceLT, Nat.reduceLeDiff, Nat.reducePow, gTup_tup, gCons_c, gNil_n, cast_lit, eq_self, Int.reduceEq, Int.reduceNeg, eDic0_f, sTry_ap, eMake_f, ofS_inj, ofS_beq, String.reduceEq, String.reduceBEq, rg1_ap, rg2_ap, eListRg_ap, iRevRg_ap, iZip3D_ap, iEnum_ap, sSetAt_ap, rg_ok, rg_ok2, rgl_ok, mul_r, mul_l, mod_d, at_int', at_bl', p6, p9, p10, p11, p12, p60, dAdd_lst, Int.toNat_natCast, Int.zero_add, Int.sub_zero, bInt_bl, bInt_int, bList_f, dSl_lst, dSl_tup, dSl_scr, List.getElem?_cons_zero, List.getElem?_cons_succ, beq_self_eq_true, Bool.true_or, Bool.or_false, Bool.or_true, Bool.false_or, Nat.reduceSub, ne_scr_nil, at_zero, Int.reduceAdd, Int.reduceSub, Int.reduceMul, sz_lt, dIx_r, bLen_r, isTy_r, app_r, pop_r, clear_r, frz_r, frz_lst, isNone_non, isNone_int, List.lookup_cons, List.lookup_nil, and_self, and_true, true_and, setAt_r, ixN_ok, Option.map_some, List.map_set, List.length_set, snoc_get, snoc_set, setF_r, putFD_nil, putFD_cons, at_one]⟩
  have is : intsOf (p.map fun y : Bx => D.int y.2) = some (p.map (·.2)) := by
    have := intsOf_ints (p.map (·.2))
    rw [List.map_map] at this
    exact this
  have hn : (p.length : Int) ≠ t.hi := by omega
  have q1 : decide ((p.length : Int) = t.hi) = false := decide_eq_false hn
  have q2 : decide ((p.map (·.2)).sum + w > t.wt) = false := decide_eq_false (by unfold wtS at hs; omega)
  have sz : (p.length ≤ sizeLine) = True := eq_true (sz_16 (by have := tok.hi1; omega))
  have hsl : s ≠ l := fun z => h.nds (by rw [z]; exact List.mem_of_getElem? hl)
  have a1 : mAppend (.ref l) [.tup [.str (sL b), .int w]] S = .ok .non (S.set l (some (.lst ((p ++ [(b, w)]).map bxD)))) := by
    rw [app_ok at0 (by rw [List.length_map]; have := tok.hi1; omega), List.map_append]; rfl
  have ks : (S.set l (some (.lst ((p ++ [(b, w)]).map bxD))))[s]? = some (some (.dic kds)) := by rw [List.getElem?_set_ne (Ne.symm hsl)]; exact k1
  have a2 : setAt (.ref s) (.str (sL b)) (.str (sL t.nm)) (S.set l (some (.lst ((p ++ [(b, w)]).map bxD)))) = some ((S.set l (some (.lst ((p ++ [(b, w)]).map bxD)))).set s (some (.dic (putD kds (.inr (sL b)) (.str (sL t.nm)))))) := by
    unfold setAt
    simp only [ks, Mi.keyOf]
    rw [if_pos (by omega)]
  refine ⟨(S.set l (some (.lst ((p ++ [(b, w)]).map bxD)))).set s (some (.dic (putD kds (.inr (sL b)) (.str (sL t.nm))))), ?_, by rw [List.length_set, List.length_set], fun m hm => ?_, ?_, ?_⟩
  · refine (call_mut rfl).trans ?_
    rw [m_Stacks__put, runD_ap, z_Stacks__put]
    have ty : isTy "list" S (.ref l) = true := by rw [isTy_r, at0]; rfl
    unfold stV at *
    simp (disch := first | omega | (simp only [List.length_map, List.length_cons, List.length_nil, List.length_append]; omega)) only [List.map_cons, List.map_nil, List.length_cons, List.length_nil, List.length_map, List.replicate, List.cons_append, List.nil_append, List.append_eq, sSeq_ap, sSet_ap, sIf_ap, sRet_ap, sRetN_ap, sExpr_ap, sNext_ap, sBreak_ap, sCont_ap, sPar_ap, sAsg_ap, sFor_ap, gName_ap, eVar_0, eVar_s, eC_ap, aNil_ap, aCons_ap, e2_ap, e3_ap, toB_bl, toB_stuck, tV_ap, tAnd_ap, tOr_ap, tNot_ap, eAnd_ap, eOr_ap, eNot_ap, eIf_ap, eNeg_ap, eTup_ap, eLst_ap, eLstL_ap, eB_ap, eIsi_ap, eCall_ap, eM_ap, eM0_ap, eIsN_ap, eNotN_ap, oNone_ap, oSome_ap, eSl_ap, iTup_ap, iStr_ap, iRange1_ap, iRange2_ap, iLst_ap, iZipD_ap, setAll_nil, setAll_cons, wipeD_nil, wipeD_cons, dAdd_int, dSub_int, dLt_int, dLe_int, dGt_int, dGe_int, dEqX_int, dEqX_str, dNeX_int, dNeX_str, dEqX_nil, dNeX_nil, dIs_bl, dMod_int, div_lit, bind_ok, bind_exc, toS_ok, toS_exc, then_nx, then_rt, then_exc, endD_nx, endD_rt, endD_exc, List.set_cons_succ, List.set_cons_zero, if_true, if_false, Bool.false_eq_true, Bool.not_true, Bool.not_false, decide_true, decide_false, Nat.zero_add, Nat.reduceAdd, lcEnd_f, eLc_ap, eRev_ap, eFld_ap, sFldD_ap, eMeth_ap, sRaise_ap, eFrz_ap, insOf_ins, bTuple_lst, bTuple_tup, bMin2_int, bMax2_int, bAbs_int, bLen_lst, bLen_tup, bLen_scr, bAll_lst, bAny_lst, bSum_lst, dIx_lst, dIx_tup, dIx_scr, bRepr_bl, sz_lit, Int.reduceLT, Int.reduceLE, Int.reducePow, Nat.reduceLT, Nat.reduceLeDiff, Nat.reducePow, gTup_tup, gCons_c, gNil_n, cast_lit, eq_self, Int.reduceEq, Int.reduceNeg, eDic0_f, sTry_ap, eMake_f, ofS_inj, ofS_beq, String.reduceEq, String.reduceBEq, rg1_ap, rg2_ap, eListRg_ap, iRevRg_ap, iZip3D_ap, iEnum_ap, sSetAt_ap, rg_ok, rg_ok2, rgl_ok, mul_r, mul_l, mod_d, at_int', at_bl', p6, p9, p10, p11, p12, p60, dAdd_lst, Int.toNat_natCast, Int.zero_add, Int.sub_zero, bInt_bl, bInt_int, bList_f, dSl_lst, dSl_tup, dSl_scr, List.getElem?_cons_zero, List.getElem?_cons_succ, beq_self_eq_true, Bool.true_or, Bool.or_false, Bool.or_true, Bool.false_or, Nat.reduceSub, ne_scr_nil, at_zero, Int.reduceAdd, Int.reduceSub, Int.reduceMul, sz_lt, dIx_r, bLen_r, isTy_r, app_r, pop_r, clear_r, frz_r, frz_lst, isNone_non, isNone_int, List.lookup_cons, List.lookup_nil, and_self, and_true, true_and, setAt_r, ixN_ok, Option.map_some, List.map_set, List.length_set, snoc_get, snoc_set, setF_r, putFD_nil, putFD_cons, okF_known, okF_piles, okF_spots, e1, e2, e3, e4, e5, e6, e7, at0, cm, is, q1, q2, sz, ty, a1, a2]
  · rw [List.getElem?_set_ne fun z => hm (by rw [← z]; exact List.mem_cons_self), List.getElem?_set_ne fun z => hm (by rw [← z]; exact List.mem_cons_of_mem _ (List.mem_of_getElem? hl))]
  · refine ⟨h.told, by rw [List.length_set]; exact h.Pn, (h.pil.set h.ndl hl hp).oth h.nds _, h.nd, _, List.getElem?_set_self (by rw [List.length_set]; exact (List.getElem?_eq_some_iff.mp k1).1), ?_, fun b' => ?_⟩
    · exact ⟨by have := putD_len (r := kds) (j := .inr (sL b)) (d := .str (sL t.nm)); omega, norefK_put kn rfl⟩
    · rw [getK_put, wh_put ht hp hw b', k3]
      by_cases e : b = b'
      · rw [if_pos e, if_pos (by rw [e])]; rfl
      · rw [if_neg e, if_neg fun z => e (sL_inj.mp (Sum.inr.inj z))]
  · exact (names_put hp).nodup_iff.mpr (List.nodup_cons.mpr ⟨(wh_none h.Pn).mp hw, nn⟩)
end
end Q
namespace Q
open PySem L2 Mi
theorem pop_ok {l : Nat} {xs : List D} {y : D} {S : Store} (h : S[l]? = some (some (.lst (xs ++ [y])))) : mPop (.ref l) [] S = .ok y (S.set l (some (.lst xs))) := by
  rw [pop_r, h]
  simp
theorem wh_some : ∀ {ts : List TR} {P : List (List Bx)} {b n : List Nat}, wh ts P b = some n → ∃ (i : Nat) (t : TR) (p : List Bx), ts[i]? = some t ∧ P[i]? = some p ∧ has p b = true ∧ n = t.nm
  | [], _, b, n, h => by cases h
  | _ :: _, [], b, n, h => by cases h
  | t :: ts, p :: P, b, n, h => by
    unfold wh at h
    by_cases e : has p b = true
    · rw [if_pos e] at h
      cases h
      exact ⟨0, t, p, rfl, rfl, e, rfl⟩
    · rw [if_neg e] at h
      obtain ⟨i, t', p', h1, h2, h3, h4⟩ := wh_some h
      exact ⟨i + 1, t', p', by simpa using h1, by simpa using h2, h3, h4⟩
theorem has_snoc {p : List Bx} {b : List Nat} (h : has p b = true) : ∃ q x, p = q ++ [x] := by
  rcases List.eq_nil_or_concat p with rfl | ⟨q, x, rfl⟩
  · cases h
  · exact ⟨q, x, by simp⟩
section
variable {c : Nat} {S : Store} {ts : List TR} {P : List (List Bx)} {pl : List Nat} {s i l : Nat} {t : TR} {p q : List Bx} {x : Bx} {b : List Nat} {w : Int}
theorem v_take (h : StI c S ts P pl s) (nn : (names P).Nodup) (ht : ts[i]? = some t) (hl : pl[i]? = some l) (hp : P[i]? = some (q ++ [x])) :
    ∃ S', callD 2 m_Stacks__take [] [stV ts pl s, .str (sL t.nm)] S = .ok (bxD x) S' ∧ S'.length = S.length ∧ (∀ m, m ∉ s :: pl → S'[m]? = S[m]?) ∧ StI c S' ts (P.set i q) pl s ∧ (names (P.set i q)).Nodup := by
  obtain ⟨kds, k1, ⟨k2, kn⟩, k3⟩ := h.sp
  have tm := List.mem_of_getElem? ht
  have at0 := h.pil.at_ i l _ hl hp
  rw [List.map_append, List.map_cons, List.map_nil] at at0
  have e3 := c_need h.told tm S pl s
  have e5 := fun S' => h.ix ht hl S'
  have e6 : dEqX 1 (.ref l) (.lst []) S = .ok (.bl false) S := by rw [eq_ref_nil at0]; simp
  have e7 := pop_ok at0
  have ty : isTy "list" S (.ref l) = true := by rw [isTy_r, at0]; rfl
  have hsl : s ≠ l := fun z => h.nds (by rw [z]; exact List.mem_of_getElem? hl)
  have hx : x.1 ∈ names P := by
    unfold names
    exact List.mem_map_of_mem (List.mem_flatten.mpr ⟨q ++ [x], List.mem_of_getElem? hp, by simp⟩)
  have wx : ∃ n, wh ts P x.1 = some n := by
    cases z : wh ts P x.1 with
    | none => exact absurd hx ((wh_none h.Pn).mp z)
    | some n => exact ⟨n, rfl⟩
  obtain ⟨n, wx⟩ := wx
  have kb : getK kds (.inr (sL x.1)) = some (.str (sL n)) := by rw [k3, wx]; rfl
  have ks : (S.set l (some (.lst (q.map bxD))))[s]? = some (some (.dic kds)) := by rw [List.getElem?_set_ne (Ne.symm hsl)]; exact k1
  have e8' : ∀ S2 : Store, S2[s]? = some (some (.dic kds)) → eDPop (eFld flT "spots" (eVar 0)) (e2 dIx (eVar 2) (eC (.int 0))) [some (stV ts pl s), some (.str (sL t.nm)), some (bxD x)] S2 = .ok (.str (sL n)) (S2.set s (some (.dic (dropD kds (.inr (sL x.1)))))) := fun S2 ks => by
    unfold eDPop stV bxD
    simp (disch := first | omega | (simp only [List.length_map, List.length_cons, List.length_nil, List.length_append]; omega)) only [List.map_cons, List.map_nil, List.length_cons, List.length_nil, List.length_map, List.replicate, List.cons_append, List.nil_append, List.append_eq, sSeq_ap, sSet_ap, sIf_ap, sRet_ap, sRetN_ap, sExpr_ap, sNext_ap, sBreak_ap, sCont_ap, sPar_ap, sAsg_ap, sFor_ap, gName_ap, eVar_0, eVar_s, eC_ap, aNil_ap, aCons_ap, e2_ap, e3_ap, toB_bl, toB_stuck, tV_ap, tAnd_ap, tOr_ap, tNot_ap, eAnd_ap, eOr_ap, eNot_ap, eIf_ap, eNeg_ap, eTup_ap, eLst_ap, eLstL_ap, eB_ap, eIsi_ap, eCall_ap, eM_ap, eM0_ap, eIsN_ap, eNotN_ap, oNone_ap, oSome_ap, eSl_ap, iTup_ap, iStr_ap, iRange1_ap, iRange2_ap, iLst_ap, iZipD_ap, setAll_nil, setAll_cons, wipeD_nil, wipeD_cons, dAdd_int, dSub_int, dLt_int, dLe_int, dGt_int, dGe_int, dEqX_int, dEqX_str, dNeX_int, dNeX_str, dEqX_nil, dNeX_nil, dIs_bl, dMod_int, div_lit, bind_ok, bind_exc, toS_ok, toS_exc, then_nx, then_rt, then_exc, endD_nx, endD_rt, endD_exc, List.set_cons_succ, List.set_cons_zero, if_true, if_false, Bool.false_eq_true, Bool.not_true, Bool.not_false, decide_true, decide_false, Nat.zero_add, Nat.reduceAdd, lcEnd_f, eLc_ap, eRev_ap, eFld_ap, sFldD_ap, eMeth_ap, sRaise_ap, eFrz_ap, insOf_ins, bTuple_lst, bTuple_tup, bMin2_int, bMax2_int, bAbs_int, bLen_lst, bLen_tup, bLen_scr, bAll_lst, bAny_lst, bSum_lst, dIx_lst, dIx_tup, dIx_scr, bRepr_bl, sz_lit, Int.reduceLT, Int.reduceLE, Int.reducePow, Nat.reduceLT, Nat.reduceLeDiff, Nat.reducePow, gTup_tup, gCons_c, gNil_n, cast_lit, eq_self, Int.reduceEq, Int.reduceNeg, eDic0_f, sTry_ap, eMake_f, ofS_inj, ofS_beq, String.reduceEq, String.reduceBEq, rg1_ap, rg2_ap, eListRg_ap, iRevRg_ap, iZip3D_ap, iEnum_ap, sSetAt_ap, rg_ok, rg_ok2, rgl_ok, mul_r, mul_l, mod_d, at_int', at_bl', p6, p9, p10, p11, p12, p60, dAdd_lst, Int.toNat_natCast, Int.zero_add, Int.sub_zero, bInt_bl, bInt_int, bList_f, dSl_lst, dSl_tup, dSl_scr, List.getElem?_cons_zero, List.getElem?_cons_succ, beq_self_eq_true, Bool.true_or, Bool.or_false, Bool.or_true, Bool.false_or, Nat.reduceSub, ne_scr_nil, at_zero, Int.reduceAdd, Int.reduceSub, Int.reduceMul, sz_lt, dIx_r, bLen_r, isTy_r, app_r, pop_r, clear_r, frz_r, frz_lst, isNone_non, isNone_int, List.lookup_cons, List.lookup_nil, and_self, and_true, true_and, setAt_r, ixN_ok, Option.map_some, List.map_set, List.length_set, snoc_get, snoc_set, setF_r, putFD_nil, putFD_cons, okF_spots, ks, Mi.keyOf, kb]
  have e8 := e8' _ ks
  refine ⟨(S.set l (some (.lst (q.map bxD)))).set s (some (.dic (dropD kds (.inr (sL x.1))))), ?_, by rw [List.length_set, List.length_set], fun m hm => ?_, ?_, ?_⟩
  · refine (call_mut rfl).trans ?_
    rw [m_Stacks__take, runD_ap, z_Stacks__take]
    unfold stV at *
    simp (disch := first | omega | (simp only [List.length_map, List.length_cons, List.length_nil, List.length_append]; omega)) only [List.map_cons, List.map_nil, List.length_cons, List.length_nil, List.length_map, List.replicate, List.cons_append, List.nil_append, List.append_eq, sSeq_ap, sSet_ap, sIf_ap, sRet_ap, sRetN_ap, sExpr_ap, sNext_ap, sBreak_ap, sCont_ap, sPar_ap, sAsg_ap, sFor_ap, gName_ap, eVar_0, eVar_s, eC_ap, aNil_ap, aCons_ap, e2_ap, e3_ap, toB_bl, toB_stuck, tV_ap, tAnd_ap, tOr_ap, tNot_ap, eAnd_ap, eOr_ap, eNot_ap, eIf_ap, eNeg_ap, eTup_ap, eLst_ap, eLstL_ap, eB_ap, eIsi_ap, eCall_ap, eM_ap, eM0_ap, eIsN_ap, eNotN_ap, oNone_ap, oSome_ap, eSl_ap, iTup_ap, iStr_ap, iRange1_ap, iRange2_ap, iLst_ap, iZipD_ap, setAll_nil, setAll_cons, wipeD_nil, wipeD_cons, dAdd_int, dSub_int, dLt_int, dLe_int, dGt_int, dGe_int, dEqX_int, dEqX_str, dNeX_int, dNeX_str, dEqX_nil, dNeX_nil, dIs_bl, dMod_int, div_lit, bind_ok, bind_exc, toS_ok, toS_exc, then_nx, then_rt, then_exc, endD_nx, endD_rt, endD_exc, List.set_cons_succ, List.set_cons_zero, if_true, if_false, Bool.false_eq_true, Bool.not_true, Bool.not_false, decide_true, decide_false, Nat.zero_add, Nat.reduceAdd, lcEnd_f, eLc_ap, eRev_ap, eFld_ap, sFldD_ap, eMeth_ap, sRaise_ap, eFrz_ap, insOf_ins, bTuple_lst, bTuple_tup, bMin2_int, bMax2_int, bAbs_int, bLen_lst, bLen_tup, bLen_scr, bAll_lst, bAny_lst, bSum_lst, dIx_lst, dIx_tup, dIx_scr, bRepr_bl, sz_lit, Int.reduceLT, Int.reduceLE, Int.reducePow, Nat.reduceLT, Nat.reduceLeDiff, Nat.reducePow, gTup_tup, gCons_c, gNil_n, cast_lit, eq_self, Int.reduceEq, Int.reduceNeg, eDic0_f, sTry_ap, eMake_f, ofS_inj, ofS_beq, String.reduceEq, String.reduceBEq, rg1_ap, rg2_ap, eListRg_ap, iRevRg_ap, iZip3D_ap, iEnum_ap, sSetAt_ap, rg_ok, rg_ok2, rgl_ok, mul_r, mul_l, mod_d, at_int', at_bl', p6, p9, p10, p11, p12, p60, dAdd_lst, Int.toNat_natCast, Int.zero_add, Int.sub_zero, bInt_bl, bInt_int, bList_f, dSl_lst, dSl_tup, dSl_scr, List.getElem?_cons_zero, List.getElem?_cons_succ, beq_self_eq_true, Bool.true_or, Bool.or_false, Bool.or_true, Bool.false_or, Nat.reduceSub, ne_scr_nil, at_zero, Int.reduceAdd, Int.reduceSub, Int.reduceMul, sz_lt, dIx_r, bLen_r, isTy_r, app_r, pop_r, clear_r, frz_r, frz_lst, isNone_non, isNone_int, List.lookup_cons, List.lookup_nil, and_self, and_true, true_and, setAt_r, ixN_ok, Option.map_some, List.map_set, List.length_set, snoc_get, snoc_set, setF_r, putFD_nil, putFD_cons, okF_known, okF_piles, okF_spots, e3, e5, e6, e7, e8, ty]
  · rw [List.getElem?_set_ne fun z => hm (by rw [← z]; exact List.mem_cons_self), List.getElem?_set_ne fun z => hm (by rw [← z]; exact List.mem_cons_of_mem _ (List.mem_of_getElem? hl))]
  · refine ⟨h.told, by rw [List.length_set]; exact h.Pn, (h.pil.set h.ndl hl hp).oth h.nds _, h.nd, _, List.getElem?_set_self (by rw [List.length_set]; exact (List.getElem?_eq_some_iff.mp k1).1), ?_, fun b' => ?_⟩
    · exact ⟨by have := dropD_len (r := kds) (j := .inr (sL x.1)); omega, norefK_drop kn⟩
    · rw [getK_drop, wh_take h.Pn hp nn b', k3]
      by_cases e : x.1 = b'
      · rw [if_pos e, if_pos (by rw [e])]; rfl
      · rw [if_neg e, if_neg fun z => e (sL_inj.mp (Sum.inr.inj z))]
  · exact (List.nodup_cons.mp ((names_take hp).nodup_iff.mp nn)).2
theorem c_needbox (h : StI c S ts P pl s) {n : List Nat} (hw : wh ts P b = some n) : callD 2 m_Stacks__need_box [] [stV ts pl s, .str (sL b)] S = .ok .non S := by
  obtain ⟨kds, k1, ⟨k2, kn⟩, k3⟩ := h.sp
  have kb : getK kds (.inr (sL b)) = some (.str (sL n)) := by rw [k3, hw]; rfl
  have e : dNotIn (.str (sL b)) (.ref s) S = .ok (.bl false) S := by rw [dNotIn_of (in_rdic k1), kb]; rfl
  refine (call_mut rfl).trans ?_
  rw [m_Stacks__need_box, runD_ap, z_Stacks__need_box]
  unfold stV
  simp (disch := first | omega | (simp only [List.length_map, List.length_cons, List.length_nil, List.length_append]; omega)) only [List.map_cons, List.map_nil, List.length_cons, List.length_nil, List.length_map, List.replicate, List.cons_append, List.nil_append, List.append_eq, sSeq_ap, sSet_ap, sIf_ap, sRet_ap, sRetN_ap, sExpr_ap, sNext_ap, sBreak_ap, sCont_ap, sPar_ap, sAsg_ap, sFor_ap, gName_ap, eVar_0, eVar_s, eC_ap, aNil_ap, aCons_ap, e2_ap, e3_ap, toB_bl, toB_stuck, tV_ap, tAnd_ap, tOr_ap, tNot_ap, eAnd_ap, eOr_ap, eNot_ap, eIf_ap, eNeg_ap, eTup_ap, eLst_ap, eLstL_ap, eB_ap, eIsi_ap, eCall_ap, eM_ap, eM0_ap, eIsN_ap, eNotN_ap, oNone_ap, oSome_ap, eSl_ap, iTup_ap, iStr_ap, iRange1_ap, iRange2_ap, iLst_ap, iZipD_ap, setAll_nil, setAll_cons, wipeD_nil, wipeD_cons, dAdd_int, dSub_int, dLt_int, dLe_int, dGt_int, dGe_int, dEqX_int, dEqX_str, dNeX_int, dNeX_str, dEqX_nil, dNeX_nil, dIs_bl, dMod_int, div_lit, bind_ok, bind_exc, toS_ok, toS_exc, then_nx, then_rt, then_exc, endD_nx, endD_rt, endD_exc, List.set_cons_succ, List.set_cons_zero, if_true, if_false, Bool.false_eq_true, Bool.not_true, Bool.not_false, decide_true, decide_false, Nat.zero_add, Nat.reduceAdd, lcEnd_f, eLc_ap, eRev_ap, eFld_ap, sFldD_ap, eMeth_ap, sRaise_ap, eFrz_ap, insOf_ins, bTuple_lst, bTuple_tup, bMin2_int, bMax2_int, bAbs_int, bLen_lst, bLen_tup, bLen_scr, bAll_lst, bAny_lst, bSum_lst, dIx_lst, dIx_tup, dIx_scr, bRepr_bl, sz_lit, Int.reduceLT, Int.reduceLE, Int.reducePow, Nat.reduceLT, Nat.reduceLeDiff, Nat.reducePow, gTup_tup, gCons_c, gNil_n, cast_lit, eq_self, Int.reduceEq, Int.reduceNeg, eDic0_f, sTry_ap, eMake_f, ofS_inj, ofS_beq, String.reduceEq, String.reduceBEq, rg1_ap, rg2_ap, eListRg_ap, iRevRg_ap, iZip3D_ap, iEnum_ap, sSetAt_ap, rg_ok, rg_ok2, rgl_ok, mul_r, mul_l, mod_d, at_int', at_bl', p6, p9, p10, p11, p12, p60, dAdd_lst, Int.toNat_natCast, Int.zero_add, Int.sub_zero, bInt_bl, bInt_int, bList_f, dSl_lst, dSl_tup, dSl_scr, List.getElem?_cons_zero, List.getElem?_cons_succ, beq_self_eq_true, Bool.true_or, Bool.or_false, Bool.or_true, Bool.false_or, Nat.reduceSub, ne_scr_nil, at_zero, Int.reduceAdd, Int.reduceSub, Int.reduceMul, sz_lt, dIx_r, bLen_r, isTy_r, app_r, pop_r, clear_r, frz_r, frz_lst, isNone_non, isNone_int, List.lookup_cons, List.lookup_nil, and_self, and_true, true_and, setAt_r, ixN_ok, Option.map_some, List.map_set, List.length_set, snoc_get, snoc_set, setF_r, putFD_nil, putFD_cons, tyName, isT, e, okF_spots]
theorem v_where (h : StI c S ts P pl s) {n : List Nat} (hw : wh ts P b = some n) : callD 2 m_Stacks__where [] [stV ts pl s, .str (sL b)] S = .ok (.str (sL n)) S := by
  obtain ⟨kds, k1, ⟨k2, kn⟩, k3⟩ := h.sp
  have kb : getK kds (.inr (sL b)) = some (.str (sL n)) := by rw [k3, hw]; rfl
  have a := c_needbox h hw
  have e := dIx_rdic k1 kb
  refine (call_mut rfl).trans ?_
  rw [m_Stacks__where, runD_ap, z_Stacks__where]
  unfold stV at *
  simp (disch := first | omega | (simp only [List.length_map, List.length_cons, List.length_nil, List.length_append]; omega)) only [List.map_cons, List.map_nil, List.length_cons, List.length_nil, List.length_map, List.replicate, List.cons_append, List.nil_append, List.append_eq, sSeq_ap, sSet_ap, sIf_ap, sRet_ap, sRetN_ap, sExpr_ap, sNext_ap, sBreak_ap, sCont_ap, sPar_ap, sAsg_ap, sFor_ap, gName_ap, eVar_0, eVar_s, eC_ap, aNil_ap, aCons_ap, e2_ap, e3_ap, toB_bl, toB_stuck, tV_ap, tAnd_ap, tOr_ap, tNot_ap, eAnd_ap, eOr_ap, eNot_ap, eIf_ap, eNeg_ap, eTup_ap, eLst_ap, eLstL_ap, eB_ap, eIsi_ap, eCall_ap, eM_ap, eM0_ap, eIsN_ap, eNotN_ap, oNone_ap, oSome_ap, eSl_ap, iTup_ap, iStr_ap, iRange1_ap, iRange2_ap, iLst_ap, iZipD_ap, setAll_nil, setAll_cons, wipeD_nil, wipeD_cons, dAdd_int, dSub_int, dLt_int, dLe_int, dGt_int, dGe_int, dEqX_int, dEqX_str, dNeX_int, dNeX_str, dEqX_nil, dNeX_nil, dIs_bl, dMod_int, div_lit, bind_ok, bind_exc, toS_ok, toS_exc, then_nx, then_rt, then_exc, endD_nx, endD_rt, endD_exc, List.set_cons_succ, List.set_cons_zero, if_true, if_false, Bool.false_eq_true, Bool.not_true, Bool.not_false, decide_true, decide_false, Nat.zero_add, Nat.reduceAdd, lcEnd_f, eLc_ap, eRev_ap, eFld_ap, sFldD_ap, eMeth_ap, sRaise_ap, eFrz_ap, insOf_ins, bTuple_lst, bTuple_tup, bMin2_int, bMax2_int, bAbs_int, bLen_lst, bLen_tup, bLen_scr, bAll_lst, bAny_lst, bSum_lst, dIx_lst, dIx_tup, dIx_scr, bRepr_bl, sz_lit, Int.reduceLT, Int.reduceLE, Int.reducePow, Nat.reduceLT, Nat.reduceLeDiff, Nat.reducePow, gTup_tup, gCons_c, gNil_n, cast_lit, eq_self, Int.reduceEq, Int.reduceNeg, eDic0_f, sTry_ap, eMake_f, ofS_inj, ofS_beq, String.reduceEq, String.reduceBEq, rg1_ap, rg2_ap, eListRg_ap, iRevRg_ap, iZip3D_ap, iEnum_ap, sSetAt_ap, rg_ok, rg_ok2, rgl_ok, mul_r, mul_l, mod_d, at_int', at_bl', p6, p9, p10, p11, p12, p60, dAdd_lst, Int.toNat_natCast, Int.zero_add, Int.sub_zero, bInt_bl, bInt_int, bList_f, dSl_lst, dSl_tup, dSl_scr, List.getElem?_cons_zero, List.getElem?_cons_succ, beq_self_eq_true, Bool.true_or, Bool.or_false, Bool.or_true, Bool.false_or, Nat.reduceSub, ne_scr_nil, at_zero, Int.reduceAdd, Int.reduceSub, Int.reduceMul, sz_lt, dIx_r, bLen_r, isTy_r, app_r, pop_r, clear_r, frz_r, frz_lst, isNone_non, isNone_int, List.lookup_cons, List.lookup_nil, and_self, and_true, true_and, setAt_r, ixN_ok, Option.map_some, List.map_set, List.length_set, snoc_get, snoc_set, setF_r, putFD_nil, putFD_cons, a, e, okF_spots, -dIx_r]
theorem v_is_top (h : StI c S ts P pl s) (hw : wh ts P b = some t.nm) (ht : ts[i]? = some t) (hl : pl[i]? = some l) (hp : P[i]? = some (q ++ [x])) : callD 2 m_Stacks__is_top [] [stV ts pl s, .str (sL b)] S = .ok (.bl (decide (sL x.1 = sL b))) S := by
  obtain ⟨kds, k1, ⟨k2, kn⟩, k3⟩ := h.sp
  have kb : getK kds (.inr (sL b)) = some (.str (sL t.nm)) := by rw [k3, hw]; rfl
  have a := c_needbox h hw
  have e := dIx_rdic k1 kb
  have e5 := h.ix ht hl S
  have at0 := h.pil.at_ i l _ hl hp
  have lst : dIx (.ref l) (.int (-1)) S = .ok (bxD x) S := by
    rw [dIx_r, at0]
    have := at_last (f := bxD) (l := q ++ [x]) x (by simp)
    simp only [this]
    rw [List.length_append, List.length_singleton, Nat.add_sub_cancel, getD_app_r]
  unfold bxD at lst
  refine (call_mut rfl).trans ?_
  rw [m_Stacks__is_top, runD_ap, z_Stacks__is_top]
  unfold stV at *
  simp (disch := first | omega | (simp only [List.length_map, List.length_cons, List.length_nil, List.length_append]; omega)) only [List.map_cons, List.map_nil, List.length_cons, List.length_nil, List.length_map, List.replicate, List.cons_append, List.nil_append, List.append_eq, sSeq_ap, sSet_ap, sIf_ap, sRet_ap, sRetN_ap, sExpr_ap, sNext_ap, sBreak_ap, sCont_ap, sPar_ap, sAsg_ap, sFor_ap, gName_ap, eVar_0, eVar_s, eC_ap, aNil_ap, aCons_ap, e2_ap, e3_ap, toB_bl, toB_stuck, tV_ap, tAnd_ap, tOr_ap, tNot_ap, eAnd_ap, eOr_ap, eNot_ap, eIf_ap, eNeg_ap, eTup_ap, eLst_ap, eLstL_ap, eB_ap, eIsi_ap, eCall_ap, eM_ap, eM0_ap, eIsN_ap, eNotN_ap, oNone_ap, oSome_ap, eSl_ap, iTup_ap, iStr_ap, iRange1_ap, iRange2_ap, iLst_ap, iZipD_ap, setAll_nil, setAll_cons, wipeD_nil, wipeD_cons, dAdd_int, dSub_int, dLt_int, dLe_int, dGt_int, dGe_int, dEqX_int, dEqX_str, dNeX_int, dNeX_str, dEqX_nil, dNeX_nil, dIs_bl, dMod_int, div_lit, bind_ok, bind_exc, toS_ok, toS_exc, then_nx, then_rt, then_exc, endD_nx, endD_rt, endD_exc, List.set_cons_succ, List.set_cons_zero, if_true, if_false, Bool.false_eq_true, Bool.not_true, Bool.not_false, decide_true, decide_false, Nat.zero_add, Nat.reduceAdd, lcEnd_f, eLc_ap, eRev_ap, eFld_ap, sFldD_ap, eMeth_ap, sRaise_ap, eFrz_ap, insOf_ins, bTuple_lst, bTuple_tup, bMin2_int, bMax2_int, bAbs_int, bLen_lst, bLen_tup, bLen_scr, bAll_lst, bAny_lst, bSum_lst, dIx_lst, dIx_tup, dIx_scr, bRepr_bl, sz_lit, Int.reduceLT, Int.reduceLE, Int.reducePow, Nat.reduceLT, Nat.reduceLeDiff, Nat.reducePow, gTup_tup, gCons_c, gNil_n, cast_lit, eq_self, Int.reduceEq, Int.reduceNeg, eDic0_f, sTry_ap, eMake_f, ofS_inj, ofS_beq, String.reduceEq, String.reduceBEq, rg1_ap, rg2_ap, eListRg_ap, iRevRg_ap, iZip3D_ap, iEnum_ap, sSetAt_ap, rg_ok, rg_ok2, rgl_ok, mul_r, mul_l, mod_d, at_int', at_bl', p6, p9, p10, p11, p12, p60, dAdd_lst, Int.toNat_natCast, Int.zero_add, Int.sub_zero, bInt_bl, bInt_int, bList_f, dSl_lst, dSl_tup, dSl_scr, List.getElem?_cons_zero, List.getElem?_cons_succ, beq_self_eq_true, Bool.true_or, Bool.or_false, Bool.or_true, Bool.false_or, Nat.reduceSub, ne_scr_nil, at_zero, Int.reduceAdd, Int.reduceSub, Int.reduceMul, sz_lt, dIx_r, bLen_r, isTy_r, app_r, pop_r, clear_r, frz_r, frz_lst, isNone_non, isNone_int, List.lookup_cons, List.lookup_nil, and_self, and_true, true_and, setAt_r, ixN_ok, Option.map_some, List.map_set, List.length_set, snoc_get, snoc_set, setF_r, putFD_nil, putFD_cons, a, e, e5, lst, okF_spots, okF_piles, -dIx_r]
end
end Q
namespace Q
open PySem L2 Mi
/-! the law's own -/
def ownV (ts : List TR) (ql : List Nat) : D := .dic [(.inr "told", .lst (ts.map trD)), (.inr "piles", .dic (pilL ts ql))]
theorem own_told {ts : List TR} {ql : List Nat} {S : Store} : dIx (ownV ts ql) (.str "told") S = .ok (.lst (ts.map trD)) S := dIx_dic (by rw [getK_cons, if_pos rfl])
theorem own_piles {ts : List TR} {ql : List Nat} {S : Store} : dIx (ownV ts ql) (.str "piles") S = .ok (.dic (pilL ts ql)) S := dIx_dic (by rw [getK_cons, if_neg (by decide +kernel), getK_cons, if_pos rfl])
theorem own_merge (a b : D) : mergeD [] [((.inr "told" : Key), a), (.inr "piles", b)] = [(.inr "told", a), (.inr "piles", b)] := mergeD_nil (by show ([.inr "told", .inr "piles"] : List Key).Nodup; decide +kernel)
theorem v_new {ts : List TR} (h : Told ts) (S : Store) : callD 1 m__law_new [] [.lst (ts.map trD)] S = .ok (ownV ts (plR S.length ts.length)) (S ++ repO ts.length) := by
  have hi := h.hi
  have c2 : compD (gName 1) tYesD k__law_new_1 none [some (.lst (ts.map trD)), none] (ts.map trD) S = .ok (ts.zipIdx.map fun p => .tup [.str (sL p.1.nm), .ref (S.length + p.2)]) (S ++ ts.map fun _ => some (.lst [])) :=
    comp_new (fun (t : TR) n => .tup [.str (sL t.nm), .ref n]) (fun _ => .lst []) (ck := none) (S0 := S) trivial (ExtS.refl S) fun t ht S' _ => ⟨_, rfl, rfl, by unfold k__law_new_1 trD; simp (disch := first | omega | (simp only [List.length_map, List.length_cons, List.length_nil, List.length_append]; omega)) only [List.map_cons, List.map_nil, List.length_cons, List.length_nil, List.length_map, List.replicate, List.cons_append, List.nil_append, List.append_eq, sSeq_ap, sSet_ap, sIf_ap, sRet_ap, sRetN_ap, sExpr_ap, sNext_ap, sBreak_ap, sCont_ap, sPar_ap, sAsg_ap, sFor_ap, gName_ap, eVar_0, eVar_s, eC_ap, aNil_ap, aCons_ap, e2_ap, e3_ap, toB_bl, toB_stuck, tV_ap, tAnd_ap, tOr_ap, tNot_ap, eAnd_ap, eOr_ap, eNot_ap, eIf_ap, eNeg_ap, eTup_ap, eLst_ap, eLstL_ap, eB_ap, eIsi_ap, eCall_ap, eM_ap, eM0_ap, eIsN_ap, eNotN_ap, oNone_ap, oSome_ap, eSl_ap, iTup_ap, iStr_ap, iRange1_ap, iRange2_ap, iLst_ap, iZipD_ap, setAll_nil, setAll_cons, wipeD_nil, wipeD_cons, dAdd_int, dSub_int, dLt_int, dLe_int, dGt_int, dGe_int, dEqX_int, dEqX_str, dNeX_int, dNeX_str, dEqX_nil, dNeX_nil, dIs_bl, dMod_int, div_lit, bind_ok, bind_exc, toS_ok, toS_exc, then_nx, then_rt, then_exc, endD_nx, endD_rt, endD_exc, List.set_cons_succ, List.set_cons_zero, if_true, if_false, Bool.false_eq_true, Bool.not_true, Bool.not_false, decide_true, decide_false, Nat.zero_add, Nat.reduceAdd, lcEnd_f, eLc_ap, eRev_ap, eFld_ap, sFldD_ap, eMeth_ap, sRaise_ap, eFrz_ap, insOf_ins, bTuple_lst, bTuple_tup, bMin2_int, bMax2_int, bAbs_int, bLen_lst, bLen_tup, bLen_scr, bAll_lst, bAny_lst, bSum_lst, dIx_lst, dIx_tup, dIx_scr, bRepr_bl, sz_lit, Int.reduceLT, Int.reduceLE, Int.reducePow, Nat.reduceLT, Nat.reduceLeDiff, Nat.reducePow, gTup_tup, gCons_c, gNil_n, cast_lit, eq_self, Int.reduceEq, Int.reduceNeg, eDic0_f, sTry_ap, eMake_f, ofS_inj, ofS_beq, String.reduceEq, String.reduceBEq, rg1_ap, rg2_ap, eListRg_ap, iRevRg_ap, iZip3D_ap, iEnum_ap, sSetAt_ap, rg_ok, rg_ok2, rgl_ok, mul_r, mul_l, mod_d, at_int', at_bl', p6, p9, p10, p11, p12, p60, dAdd_lst, Int.toNat_natCast, Int.zero_add, Int.sub_zero, bInt_bl, bInt_int, bList_f, dSl_lst, dSl_tup, dSl_scr, List.getElem?_cons_zero, List.getElem?_cons_succ, beq_self_eq_true, Bool.true_or, Bool.or_false, Bool.or_true, Bool.false_or, Nat.reduceSub, ne_scr_nil, at_zero, Int.reduceAdd, Int.reduceSub, Int.reduceMul, sz_lt, dIx_r, bLen_r, isTy_r, app_r, pop_r, clear_r, frz_r, frz_lst, isNone_non, isNone_int, List.lookup_cons, List.lookup_nil, and_self, and_true, true_and, setAt_r, ixN_ok, Option.map_some, List.map_set, List.length_set, snoc_get, snoc_set, setF_r, putFD_nil, putFD_cons]⟩
  have sz : (ts.length ≤ sizeLine) = True := eq_true (sz_16 (by omega))
  have d2 : ∀ n S', bDict false [.lst (ts.zipIdx.map fun p => .tup [.str (sL p.1.nm), .ref (n + p.2)])] S' = .ok (.dic (pilL ts (plR n ts.length))) S' := fun n S' => by
    unfold bDict
    simp only [pairs_kn (fun p : TR × Nat => .tup [.str (sL p.1.nm), .ref (n + p.2)]) (fun p => nmK p.1) (fun p => .ref (n + p.2)) (fun _ => rfl)]
    rw [zip_range, mergeD_nil (by rw [pilL_keys (by simp)]; exact nmK_nodup h.nms)]
    rfl
  have rep : (ts.map fun _ => some (O.lst [])) = repO ts.length := by unfold repO; rw [List.map_const']
  refine (call_mut rfl).trans ?_
  rw [m__law_new, runD_ap, z__law_new]
  simp only [eDic, pairsD, sRet_ap]
  simp (disch := first | omega | (simp only [List.length_map, List.length_cons, List.length_nil, List.length_append]; omega)) only [List.map_cons, List.map_nil, List.length_cons, List.length_nil, List.length_map, List.replicate, List.cons_append, List.nil_append, List.append_eq, sSeq_ap, sSet_ap, sIf_ap, sRet_ap, sRetN_ap, sExpr_ap, sNext_ap, sBreak_ap, sCont_ap, sPar_ap, sAsg_ap, sFor_ap, gName_ap, eVar_0, eVar_s, eC_ap, aNil_ap, aCons_ap, e2_ap, e3_ap, toB_bl, toB_stuck, tV_ap, tAnd_ap, tOr_ap, tNot_ap, eAnd_ap, eOr_ap, eNot_ap, eIf_ap, eNeg_ap, eTup_ap, eLst_ap, eLstL_ap, eB_ap, eIsi_ap, eCall_ap, eM_ap, eM0_ap, eIsN_ap, eNotN_ap, oNone_ap, oSome_ap, eSl_ap, iTup_ap, iStr_ap, iRange1_ap, iRange2_ap, iLst_ap, iZipD_ap, setAll_nil, setAll_cons, wipeD_nil, wipeD_cons, dAdd_int, dSub_int, dLt_int, dLe_int, dGt_int, dGe_int, dEqX_int, dEqX_str, dNeX_int, dNeX_str, dEqX_nil, dNeX_nil, dIs_bl, dMod_int, div_lit, bind_ok, bind_exc, toS_ok, toS_exc, then_nx, then_rt, then_exc, endD_nx, endD_rt, endD_exc, List.set_cons_succ, List.set_cons_zero, if_true, if_false, Bool.false_eq_true, Bool.not_true, Bool.not_false, decide_true, decide_false, Nat.zero_add, Nat.reduceAdd, lcEnd_f, eLc_ap, eRev_ap, eFld_ap, sFldD_ap, eMeth_ap, sRaise_ap, eFrz_ap, insOf_ins, bTuple_lst, bTuple_tup, bMin2_int, bMax2_int, bAbs_int, bLen_lst, bLen_tup, bLen_scr, bAll_lst, bAny_lst, bSum_lst, dIx_lst, dIx_tup, dIx_scr, bRepr_bl, sz_lit, Int.reduceLT, Int.reduceLE, Int.reducePow, Nat.reduceLT, Nat.reduceLeDiff, Nat.reducePow, gTup_tup, gCons_c, gNil_n, cast_lit, eq_self, Int.reduceEq, Int.reduceNeg, eDic0_f, sTry_ap, eMake_f, ofS_inj, ofS_beq, String.reduceEq, String.reduceBEq, rg1_ap, rg2_ap, eListRg_ap, iRevRg_ap, iZip3D_ap, iEnum_ap, sSetAt_ap, rg_ok, rg_ok2, rgl_ok, mul_r, mul_l, mod_d, at_int', at_bl', p6, p9, p10, p11, p12, p60, dAdd_lst, Int.toNat_natCast, Int.zero_add, Int.sub_zero, bInt_bl, bInt_int, bList_f, dSl_lst, dSl_tup, dSl_scr, List.getElem?_cons_zero, List.getElem?_cons_succ, beq_self_eq_true, Bool.true_or, Bool.or_false, Bool.or_true, Bool.false_or, Nat.reduceSub, ne_scr_nil, at_zero, Int.reduceAdd, Int.reduceSub, Int.reduceMul, sz_lt, dIx_r, bLen_r, isTy_r, app_r, pop_r, clear_r, frz_r, frz_lst, isNone_non, isNone_int, List.lookup_cons, List.lookup_nil, and_self, and_true, true_and, setAt_r, ixN_ok, Option.map_some, List.map_set, List.length_set, snoc_get, snoc_set, setF_r, putFD_nil, putFD_cons, c2, sz, d2, rep, noX_ok, own_merge]
  rfl
theorem nodup_inj {ts : List TR} (h : (ts.map (·.nm)).Nodup) {t u : TR} (ht : t ∈ ts) (hu : u ∈ ts) (e : u.nm = t.nm) : u = t := by
  induction ts with
  | nil => cases ht
  | cons a ts ih =>
    rw [List.map_cons] at h
    obtain ⟨h1, h2⟩ := List.nodup_cons.mp h
    rcases List.mem_cons.mp ht with rfl | ht' <;> rcases List.mem_cons.mp hu with rfl | hu'
    · rfl
    · exact absurd (by rw [← e]; exact List.mem_map_of_mem (f := (·.nm)) hu') h1
    · exact absurd (by rw [e]; exact List.mem_map_of_mem (f := (·.nm)) ht') h1
    · exact ih h2 ht' hu'
theorem v_of {ts : List TR} (h : Told ts) {t : TR} (ht : t ∈ ts) (ql : List Nat) (S : Store) : callD 2 m__law_of [] [ownV ts ql, .str (sL t.nm)] S = .ok (trD t) S := by
  have cm : compD (gName 2) t__law_of_1 k__law_of_1 none [some (ownV ts ql), some (.str (sL t.nm)), none] (ts.map trD) S = .ok ((ts.filter fun u => decide (sL u.nm = sL t.nm)).map trD) S :=
    comp_fm (ck := none) trivial (fun u : TR => decide (sL u.nm = sL t.nm)) trD fun u hu => ⟨_, rfl, by unfold t__law_of_1 trD; simp (disch := first | omega | (simp only [List.length_map, List.length_cons, List.length_nil, List.length_append]; omega)) only [List.map_cons, List.map_nil, List.length_cons, List.length_nil, List.length_map, List.replicate, List.cons_append, List.nil_append, List.append_eq, sSeq_ap, sSet_ap, sIf_ap, sRet_ap, sRetN_ap, sExpr_ap, sNext_ap, sBreak_ap, sCont_ap, sPar_ap, sAsg_ap, sFor_ap, gName_ap, eVar_0, eVar_s, eC_ap, aNil_ap, aCons_ap, e2_ap, e3_ap, toB_bl, toB_stuck, tV_ap, tAnd_ap, tOr_ap, tNot_ap, eAnd_ap, eOr_ap, eNot_ap, eIf_ap, eNeg_ap, eTup_ap, eLst_ap, eLstL_ap, eB_ap, eIsi_ap, eCall_ap, eM_ap, eM0_ap, eIsN_ap, eNotN_ap, oNone_ap, oSome_ap, eSl_ap, iTup_ap, iStr_ap, iRange1_ap, iRange2_ap, iLst_ap, iZipD_ap, setAll_nil, setAll_cons, wipeD_nil, wipeD_cons, dAdd_int, dSub_int, dLt_int, dLe_int, dGt_int, dGe_int, dEqX_int, dEqX_str, dNeX_int, dNeX_str, dEqX_nil, dNeX_nil, dIs_bl, dMod_int, div_lit, bind_ok, bind_exc, toS_ok, toS_exc, then_nx, then_rt, then_exc, endD_nx, endD_rt, endD_exc, List.set_cons_succ, List.set_cons_zero, if_true, if_false, Bool.false_eq_true, Bool.not_true, Bool.not_false, decide_true, decide_false, Nat.zero_add, Nat.reduceAdd, lcEnd_f, eLc_ap, eRev_ap, eFld_ap, sFldD_ap, eMeth_ap, sRaise_ap, eFrz_ap, insOf_ins, bTuple_lst, bTuple_tup, bMin2_int, bMax2_int, bAbs_int, bLen_lst, bLen_tup, bLen_scr, bAll_lst, bAny_lst, bSum_lst, dIx_lst, dIx_tup, dIx_scr, bRepr_bl, sz_lit, Int.reduceLT, Int.reduceLE, Int.reducePow, Nat.reduceLT, Nat.reduceLeDiff, Nat.reducePow, gTup_tup, gCons_c, gNil_n, cast_lit, eq_self, Int.reduceEq, Int.reduceNeg, eDic0_f, sTry_ap, eMake_f, ofS_inj, ofS_beq, String.reduceEq, String.reduceBEq, rg1_ap, rg2_ap, eListRg_ap, iRevRg_ap, iZip3D_ap, iEnum_ap, sSetAt_ap, rg_ok, rg_ok2, rgl_ok, mul_r, mul_l, mod_d, at_int', at_bl', p6, p9, p10, p11, p12, p60, dAdd_lst, Int.toNat_natCast, Int.zero_add, Int.sub_zero, bInt_bl, bInt_int, bList_f, dSl_lst, dSl_tup, dSl_scr, List.getElem?_cons_zero, List.getElem?_cons_succ, beq_self_eq_true, Bool.true_or, Bool.or_false, Bool.or_true, Bool.false_or, Nat.reduceSub, ne_scr_nil, at_zero, Int.reduceAdd, Int.reduceSub, Int.reduceMul, sz_lt, dIx_r, bLen_r, isTy_r, app_r, pop_r, clear_r, frz_r, frz_lst, isNone_non, isNone_int, List.lookup_cons, List.lookup_nil, and_self, and_true, true_and, setAt_r, ixN_ok, Option.map_some, List.map_set, List.length_set, snoc_get, snoc_set, setF_r, putFD_nil, putFD_cons], fun _ => by unfold k__law_of_1; simp (disch := first | omega | (simp only [List.length_map, List.length_cons, List.length_nil, List.length_append]; omega)) only [List.map_cons, List.map_nil, List.length_cons, List.length_nil, List.length_map, List.replicate, List.cons_append, List.nil_append, List.append_eq, sSeq_ap, sSet_ap, sIf_ap, sRet_ap, sRetN_ap, sExpr_ap, sNext_ap, sBreak_ap, sCont_ap, sPar_ap, sAsg_ap, sFor_ap, gName_ap, eVar_0, eVar_s, eC_ap, aNil_ap, aCons_ap, e2_ap, e3_ap, toB_bl, toB_stuck, tV_ap, tAnd_ap, tOr_ap, tNot_ap, eAnd_ap, eOr_ap, eNot_ap, eIf_ap, eNeg_ap, eTup_ap, eLst_ap, eLstL_ap, eB_ap, eIsi_ap, eCall_ap, eM_ap, eM0_ap, eIsN_ap, eNotN_ap, oNone_ap, oSome_ap, eSl_ap, iTup_ap, iStr_ap, iRange1_ap, iRange2_ap, iLst_ap, iZipD_ap, setAll_nil, setAll_cons, wipeD_nil, wipeD_cons, dAdd_int, dSub_int, dLt_int, dLe_int, dGt_int, dGe_int, dEqX_int, dEqX_str, dNeX_int, dNeX_str, dEqX_nil, dNeX_nil, dIs_bl, dMod_int, div_lit, bind_ok, bind_exc, toS_ok, toS_exc, then_nx, then_rt, then_exc, endD_nx, endD_rt, endD_exc, List.set_cons_succ, List.set_cons_zero, if_true, if_false, Bool.false_eq_true, Bool.not_true, Bool.not_false, decide_true, decide_false, Nat.zero_add, Nat.reduceAdd, lcEnd_f, eLc_ap, eRev_ap, eFld_ap, sFldD_ap, eMeth_ap, sRaise_ap, eFrz_ap, insOf_ins, bTuple_lst, bTuple_tup, bMin2_int, bMax2_int, bAbs_int, bLen_lst, bLen_tup, bLen_scr, bAll_lst, bAny_lst, bSum_lst, dIx_lst, dIx_tup, dIx_scr, bRepr_bl, sz_lit, Int.reduceLT, Int.reduceLE, Int.reducePow, Nat.reduceLT, Nat.reduceLeDiff, Nat.reducePow, gTup_tup, gCons_c, gNil_n, cast_lit, eq_self, Int.reduceEq, Int.reduceNeg, eDic0_f, sTry_ap, eMake_f, ofS_inj, ofS_beq, String.reduceEq, String.reduceBEq, rg1_ap, rg2_ap, eListRg_ap, iRevRg_ap, iZip3D_ap, iEnum_ap, sSetAt_ap, rg_ok, rg_ok2, rgl_ok, mul_r, mul_l, mod_d, at_int', at_bl', p6, p9, p10, p11, p12, p60, dAdd_lst, Int.toNat_natCast, Int.zero_add, Int.sub_zero, bInt_bl, bInt_int, bList_f, dSl_lst, dSl_tup, dSl_scr, List.getElem?_cons_zero, List.getElem?_cons_succ, beq_self_eq_true, Bool.true_or, Bool.or_false, Bool.or_true, Bool.false_or, Nat.reduceSub, ne_scr_nil, at_zero, Int.reduceAdd, Int.reduceSub, Int.reduceMul, sz_lt, dIx_r, bLen_r, isTy_r, app_r, pop_r, clear_r, frz_r, frz_lst, isNone_non, isNone_int, List.lookup_cons, List.lookup_nil, and_self, and_true, true_and, setAt_r, ixN_ok, Option.map_some, List.map_set, List.length_set, snoc_get, snoc_set, setF_r, putFD_nil, putFD_cons]⟩
  have hi := h.hi
  have sz : ((ts.map trD).length ≤ sizeLine) = True := eq_true (by rw [List.length_map]; exact sz_16 (by omega))
  have sz2 : (ts.length ≤ sizeLine) = True := eq_true (sz_16 (by omega))
  have fl : ∃ r, (ts.filter fun u => decide (sL u.nm = sL t.nm)) = t :: r := by
    cases z : ts.filter fun u => decide (sL u.nm = sL t.nm) with
    | nil =>
      have : t ∈ ts.filter fun u => decide (sL u.nm = sL t.nm) := List.mem_filter.mpr ⟨ht, by simp⟩
      rw [z] at this; cases this
    | cons u r =>
      have hu : u ∈ ts.filter fun u => decide (sL u.nm = sL t.nm) := by rw [z]; exact List.mem_cons_self
      obtain ⟨h1, h2⟩ := List.mem_filter.mp hu
      rw [nodup_inj h.nms ht h1 (sL_inj.mp (of_decide_eq_true h2))]
      exact ⟨r, rfl⟩
  obtain ⟨r, fl⟩ := fl
  have ot := own_told (ts := ts) (ql := ql) (S := S)
  refine (call_mut rfl).trans ?_
  rw [m__law_of, runD_ap, z__law_of]
  simp (disch := first | omega | (simp only [List.length_map, List.length_cons, List.length_nil, List.length_append]; omega)) only [List.map_cons, List.map_nil, List.length_cons, List.length_nil, List.length_map, List.replicate, List.cons_append, List.nil_append, List.append_eq, sSeq_ap, sSet_ap, sIf_ap, sRet_ap, sRetN_ap, sExpr_ap, sNext_ap, sBreak_ap, sCont_ap, sPar_ap, sAsg_ap, sFor_ap, gName_ap, eVar_0, eVar_s, eC_ap, aNil_ap, aCons_ap, e2_ap, e3_ap, toB_bl, toB_stuck, tV_ap, tAnd_ap, tOr_ap, tNot_ap, eAnd_ap, eOr_ap, eNot_ap, eIf_ap, eNeg_ap, eTup_ap, eLst_ap, eLstL_ap, eB_ap, eIsi_ap, eCall_ap, eM_ap, eM0_ap, eIsN_ap, eNotN_ap, oNone_ap, oSome_ap, eSl_ap, iTup_ap, iStr_ap, iRange1_ap, iRange2_ap, iLst_ap, iZipD_ap, setAll_nil, setAll_cons, wipeD_nil, wipeD_cons, dAdd_int, dSub_int, dLt_int, dLe_int, dGt_int, dGe_int, dEqX_int, dEqX_str, dNeX_int, dNeX_str, dEqX_nil, dNeX_nil, dIs_bl, dMod_int, div_lit, bind_ok, bind_exc, toS_ok, toS_exc, then_nx, then_rt, then_exc, endD_nx, endD_rt, endD_exc, List.set_cons_succ, List.set_cons_zero, if_true, if_false, Bool.false_eq_true, Bool.not_true, Bool.not_false, decide_true, decide_false, Nat.zero_add, Nat.reduceAdd, lcEnd_f, eLc_ap, eRev_ap, eFld_ap, sFldD_ap, eMeth_ap, sRaise_ap, eFrz_ap, insOf_ins, bTuple_lst, bTuple_tup, bMin2_int, bMax2_int, bAbs_int, bLen_lst, bLen_tup, bLen_scr, bAll_lst, bAny_lst, bSum_lst, dIx_lst, dIx_tup, dIx_scr, bRepr_bl, sz_lit, Int.reduceLT, Int.reduceLE, Int.reducePow, Nat.reduceLT, Nat.reduceLeDiff, Nat.reducePow, gTup_tup, gCons_c, gNil_n, cast_lit, eq_self, Int.reduceEq, Int.reduceNeg, eDic0_f, sTry_ap, eMake_f, ofS_inj, ofS_beq, String.reduceEq, String.reduceBEq, rg1_ap, rg2_ap, eListRg_ap, iRevRg_ap, iZip3D_ap, iEnum_ap, sSetAt_ap, rg_ok, rg_ok2, rgl_ok, mul_r, mul_l, mod_d, at_int', at_bl', p6, p9, p10, p11, p12, p60, dAdd_lst, Int.toNat_natCast, Int.zero_add, Int.sub_zero, bInt_bl, bInt_int, bList_f, dSl_lst, dSl_tup, dSl_scr, List.getElem?_cons_zero, List.getElem?_cons_succ, beq_self_eq_true, Bool.true_or, Bool.or_false, Bool.or_true, Bool.false_or, Nat.reduceSub, ne_scr_nil, at_zero, Int.reduceAdd, Int.reduceSub, Int.reduceMul, sz_lt, dIx_r, bLen_r, isTy_r, app_r, pop_r, clear_r, frz_r, frz_lst, isNone_non, isNone_int, List.lookup_cons, List.lookup_nil, and_self, and_true, true_and, setAt_r, ixN_ok, Option.map_some, List.map_set, List.length_set, snoc_get, snoc_set, setF_r, putFD_nil, putFD_cons, ot, sz, sz2, cm, fl]
def whD (o : Option (List Nat)) : D := match o with | some n => .str (sL n) | none => .non
theorem loop_where (own : D) (b : List Nat) (S : Store) (o4 : Option D) : ∀ (ts : List TR) (P : List (List Bx)) (pl : List Nat), pl.length = ts.length → (∀ p ∈ P, p.length ≤ 100) → Pil S P pl → P.length = ts.length → ∀ (o2 o3 : Option D), ∃ b2 b3,
    forD none (gTup 2 (gCons (gName 2) (gCons (gName 3) gNil))) b__law_where_1 ((pilL ts pl).map fun kd => .tup [keyD kd.1, kd.2]) [some own, some (.str (sL b)), o2, o3, o4] S = (match wh ts P b with | some n => .rt (.str (sL n)) S | none => .nx [some own, some (.str (sL b)), b2, b3, o4] S)
  | [], P, pl, _, _, _, _, o2, o3 => ⟨o2, o3, by unfold pilL; rw [List.zip_nil_left, List.map_nil, List.map_nil, forD_nil]; unfold wh; rfl⟩
  | t :: ts, [], pl, _, _, _, hl, o2, o3 => by simp at hl
  | t :: ts, p :: P, [], hl, _, _, _, o2, o3 => by simp at hl
  | t :: ts, p :: P, l :: pl, h1, hz, h2, h3, o2, o3 => by
    have at0 := h2.at_ 0 l p rfl rfl
    have cm : compD (gName 4) tYesD k__law_where_1 (some (l, p.map bxD)) [some own, some (.str (sL b)), some (.str (sL t.nm)), some (.ref l), none] (p.map bxD) S = .ok (p.map fun y => .str (sL y.1)) S :=
      comp_mm (ck := some (l, p.map bxD)) at0 (fun y : Bx => .str (sL y.1)) fun y hy => ⟨_, rfl, rfl, by unfold k__law_where_1 bxD; simp (disch := first | omega | (simp only [List.length_map, List.length_cons, List.length_nil, List.length_append]; omega)) only [List.map_cons, List.map_nil, List.length_cons, List.length_nil, List.length_map, List.replicate, List.cons_append, List.nil_append, List.append_eq, sSeq_ap, sSet_ap, sIf_ap, sRet_ap, sRetN_ap, sExpr_ap, sNext_ap, sBreak_ap, sCont_ap, sPar_ap, sAsg_ap, sFor_ap, gName_ap, eVar_0, eVar_s, eC_ap, aNil_ap, aCons_ap, e2_ap, e3_ap, toB_bl, toB_stuck, tV_ap, tAnd_ap, tOr_ap, tNot_ap, eAnd_ap, eOr_ap, eNot_ap, eIf_ap, eNeg_ap, eTup_ap, eLst_ap, eLstL_ap, eB_ap, eIsi_ap, eCall_ap, eM_ap, eM0_ap, eIsN_ap, eNotN_ap, oNone_ap, oSome_ap, eSl_ap, iTup_ap, iStr_ap, iRange1_ap, iRange2_ap, iLst_ap, iZipD_ap, setAll_nil, setAll_cons, wipeD_nil, wipeD_cons, dAdd_int, dSub_int, dLt_int, dLe_int, dGt_int, dGe_int, dEqX_int, dEqX_str, dNeX_int, dNeX_str, dEqX_nil, dNeX_nil, dIs_bl, dMod_int, div_lit, bind_ok, bind_exc, toS_ok, toS_exc, then_nx, then_rt, then_exc, endD_nx, endD_rt, endD_exc, List.set_cons_succ, List.set_cons_zero, if_true, if_false, Bool.false_eq_true, Bool.not_true, Bool.not_false, decide_true, decide_false, Nat.zero_add, Nat.reduceAdd, lcEnd_f, eLc_ap, eRev_ap, eFld_ap, sFldD_ap, eMeth_ap, sRaise_ap, eFrz_ap, insOf_ins, bTuple_lst, bTuple_tup, bMin2_int, bMax2_int, bAbs_int, bLen_lst, bLen_tup, bLen_scr, bAll_lst, bAny_lst, bSum_lst, dIx_lst, dIx_tup, dIx_scr, bRepr_bl, sz_lit, Int.reduceLT, Int.reduceLE, Int.reducePow, Nat.reduceLT, Nat.reduceLeDiff, Nat.reducePow, gTup_tup, gCons_c, gNil_n, cast_lit, eq_self, Int.reduceEq, Int.reduceNeg, eDic0_f, sTry_ap, eMake_f, ofS_inj, ofS_beq, String.reduceEq, String.reduceBEq, rg1_ap, rg2_ap, eListRg_ap, iRevRg_ap, iZip3D_ap, iEnum_ap, sSetAt_ap, rg_ok, rg_ok2, rgl_ok, mul_r, mul_l, mod_d, at_int', at_bl', p6, p9, p10, p11, p12, p60, dAdd_lst, Int.toNat_natCast, Int.zero_add, Int.sub_zero, bInt_bl, bInt_int, bList_f, dSl_lst, dSl_tup, dSl_scr, List.getElem?_cons_zero, List.getElem?_cons_succ, beq_self_eq_true, Bool.true_or, Bool.or_false, Bool.or_true, Bool.false_or, Nat.reduceSub, ne_scr_nil, at_zero, Int.reduceAdd, Int.reduceSub, Int.reduceMul, sz_lt, dIx_r, bLen_r, isTy_r, app_r, pop_r, clear_r, frz_r, frz_lst, isNone_non, isNone_int, List.lookup_cons, List.lookup_nil, and_self, and_true, true_and, setAt_r, ixN_ok, Option.map_some, List.map_set, List.length_set, snoc_get, snoc_set, setF_r, putFD_nil, putFD_cons]⟩
    have sz : (p.length ≤ sizeLine) = True := eq_true (sz_16 (by have := hz p List.mem_cons_self; omega))
    have hin : dIn (.str (sL b)) (.lst (p.map fun y => .str (sL y.1))) S = .ok (.bl (has p b)) S := by
      refine dIn_of ?_
      unfold inB
      have fl : (p.map fun y => D.str (sL y.1)).all flatD = true := List.all_eq_true.mpr fun d hd => by obtain ⟨y, _, rfl⟩ := List.mem_map.mp hd; rfl
      have an : ((p.map fun y => D.str (sL y.1)).any fun z => eqF z (.str (sL b))) = has p b := by
        unfold has
        rw [List.any_map]
        congr 1
        funext y
        show (sL y.1 == sL b) = decide (y.1 = b)
        rw [Bool.eq_iff_iff, beq_iff_eq, sL_inj, decide_eq_true_eq]
      simp only [anyOf, seqOf, lstOf, fl, an]
      rfl
    have ih := loop_where own b S o4 ts P pl (by simpa using h1) (fun q hq => hz q (List.mem_cons_of_mem _ hq)) ⟨by simpa using h2.n, fun i m q hm hq => h2.at_ (i + 1) m q (by simpa using hm) (by simpa using hq)⟩ (by simpa using h3) (some (.str (sL t.nm))) (some (.ref l))
    obtain ⟨b2, b3, ih⟩ := ih
    have hg : gTup 2 (gCons (gName 2) (gCons (gName 3) gNil)) (D.tup [keyD (nmK t), .ref l]) S = some [(2, .str (sL t.nm)), (3, .ref l)] := by
      show _ = _
      simp (disch := first | omega | (simp only [List.length_map, List.length_cons, List.length_nil, List.length_append]; omega)) only [List.map_cons, List.map_nil, List.length_cons, List.length_nil, List.length_map, List.replicate, List.cons_append, List.nil_append, List.append_eq, sSeq_ap, sSet_ap, sIf_ap, sRet_ap, sRetN_ap, sExpr_ap, sNext_ap, sBreak_ap, sCont_ap, sPar_ap, sAsg_ap, sFor_ap, gName_ap, eVar_0, eVar_s, eC_ap, aNil_ap, aCons_ap, e2_ap, e3_ap, toB_bl, toB_stuck, tV_ap, tAnd_ap, tOr_ap, tNot_ap, eAnd_ap, eOr_ap, eNot_ap, eIf_ap, eNeg_ap, eTup_ap, eLst_ap, eLstL_ap, eB_ap, eIsi_ap, eCall_ap, eM_ap, eM0_ap, eIsN_ap, eNotN_ap, oNone_ap, oSome_ap, eSl_ap, iTup_ap, iStr_ap, iRange1_ap, iRange2_ap, iLst_ap, iZipD_ap, setAll_nil, setAll_cons, wipeD_nil, wipeD_cons, dAdd_int, dSub_int, dLt_int, dLe_int, dGt_int, dGe_int, dEqX_int, dEqX_str, dNeX_int, dNeX_str, dEqX_nil, dNeX_nil, dIs_bl, dMod_int, div_lit, bind_ok, bind_exc, toS_ok, toS_exc, then_nx, then_rt, then_exc, endD_nx, endD_rt, endD_exc, List.set_cons_succ, List.set_cons_zero, if_true, if_false, Bool.false_eq_true, Bool.not_true, Bool.not_false, decide_true, decide_false, Nat.zero_add, Nat.reduceAdd, lcEnd_f, eLc_ap, eRev_ap, eFld_ap, sFldD_ap, eMeth_ap, sRaise_ap, eFrz_ap, insOf_ins, bTuple_lst, bTuple_tup, bMin2_int, bMax2_int, bAbs_int, bLen_lst, bLen_tup, bLen_scr, bAll_lst, bAny_lst, bSum_lst, dIx_lst, dIx_tup, dIx_scr, bRepr_bl, sz_lit, Int.reduceLT, Int.reduceLE, Int.reducePow, Nat.reduceLT, Nat.reduceLeDiff, Nat.reducePow, gTup_tup, gCons_c, gNil_n, cast_lit, eq_self, Int.reduceEq, Int.reduceNeg, eDic0_f, sTry_ap, eMake_f, ofS_inj, ofS_beq, String.reduceEq, String.reduceBEq, rg1_ap, rg2_ap, eListRg_ap, iRevRg_ap, iZip3D_ap, iEnum_ap, sSetAt_ap, rg_ok, rg_ok2, rgl_ok, mul_r, mul_l, mod_d, at_int', at_bl', p6, p9, p10, p11, p12, p60, dAdd_lst, Int.toNat_natCast, Int.zero_add, Int.sub_zero, bInt_bl, bInt_int, bList_f, dSl_lst, dSl_tup, dSl_scr, List.getElem?_cons_zero, List.getElem?_cons_succ, beq_self_eq_true, Bool.true_or, Bool.or_false, Bool.or_true, Bool.false_or, Nat.reduceSub, ne_scr_nil, at_zero, Int.reduceAdd, Int.reduceSub, Int.reduceMul, sz_lt, dIx_r, bLen_r, isTy_r, app_r, pop_r, clear_r, frz_r, frz_lst, isNone_non, isNone_int, List.lookup_cons, List.lookup_nil, and_self, and_true, true_and, setAt_r, ixN_ok, Option.map_some, List.map_set, List.length_set, snoc_get, snoc_set, setF_r, putFD_nil, putFD_cons]
      rfl
    have cons : (pilL (t :: ts) (l :: pl)).map (fun kd => D.tup [keyD kd.1, kd.2]) = .tup [keyD (nmK t), .ref l] :: (pilL ts pl).map fun kd => .tup [keyD kd.1, kd.2] := rfl
    rw [cons]
    unfold wh
    by_cases e : has p b = true
    · rw [e] at hin
      refine ⟨o2, o3, ?_⟩
      rw [if_pos e]
      have body : b__law_where_1 (setAll [some own, some (.str (sL b)), o2, o3, o4] [(2, .str (sL t.nm)), (3, .ref l)]) S = .rt (.str (sL t.nm)) S := by
        unfold b__law_where_1
        simp (disch := first | omega | (simp only [List.length_map, List.length_cons, List.length_nil, List.length_append]; omega)) only [List.map_cons, List.map_nil, List.length_cons, List.length_nil, List.length_map, List.replicate, List.cons_append, List.nil_append, List.append_eq, sSeq_ap, sSet_ap, sIf_ap, sRet_ap, sRetN_ap, sExpr_ap, sNext_ap, sBreak_ap, sCont_ap, sPar_ap, sAsg_ap, sFor_ap, gName_ap, eVar_0, eVar_s, eC_ap, aNil_ap, aCons_ap, e2_ap, e3_ap, toB_bl, toB_stuck, tV_ap, tAnd_ap, tOr_ap, tNot_ap, eAnd_ap, eOr_ap, eNot_ap, eIf_ap, eNeg_ap, eTup_ap, eLst_ap, eLstL_ap, eB_ap, eIsi_ap, eCall_ap, eM_ap, eM0_ap, eIsN_ap, eNotN_ap, oNone_ap, oSome_ap, eSl_ap, iTup_ap, iStr_ap, iRange1_ap, iRange2_ap, iLst_ap, iZipD_ap, setAll_nil, setAll_cons, wipeD_nil, wipeD_cons, dAdd_int, dSub_int, dLt_int, dLe_int, dGt_int, dGe_int, dEqX_int, dEqX_str, dNeX_int, dNeX_str, dEqX_nil, dNeX_nil, dIs_bl, dMod_int, div_lit, bind_ok, bind_exc, toS_ok, toS_exc, then_nx, then_rt, then_exc, endD_nx, endD_rt, endD_exc, List.set_cons_succ, List.set_cons_zero, if_true, if_false, Bool.false_eq_true, Bool.not_true, Bool.not_false, decide_true, decide_false, Nat.zero_add, Nat.reduceAdd, lcEnd_f, eLc_ap, eRev_ap, eFld_ap, sFldD_ap, eMeth_ap, sRaise_ap, eFrz_ap, insOf_ins, bTuple_lst, bTuple_tup, bMin2_int, bMax2_int, bAbs_int, bLen_lst, bLen_tup, bLen_scr, bAll_lst, bAny_lst, bSum_lst, dIx_lst, dIx_tup, dIx_scr, bRepr_bl, sz_lit, Int.reduceLT, Int.reduceLE, Int.reducePow, Nat.reduceLT, Nat.reduceLeDiff, Nat.reducePow, gTup_tup, gCons_c, gNil_n, cast_lit, eq_self, Int.reduceEq, Int.reduceNeg, eDic0_f, sTry_ap, eMake_f, ofS_inj, ofS_beq, String.reduceEq, String.reduceBEq, rg1_ap, rg2_ap, eListRg_ap, iRevRg_ap, iZip3D_ap, iEnum_ap, sSetAt_ap, rg_ok, rg_ok2, rgl_ok, mul_r, mul_l, mod_d, at_int', at_bl', p6, p9, p10, p11, p12, p60, dAdd_lst, Int.toNat_natCast, Int.zero_add, Int.sub_zero, bInt_bl, bInt_int, bList_f, dSl_lst, dSl_tup, dSl_scr, List.getElem?_cons_zero, List.getElem?_cons_succ, beq_self_eq_true, Bool.true_or, Bool.or_false, Bool.or_true, Bool.false_or, Nat.reduceSub, ne_scr_nil, at_zero, Int.reduceAdd, Int.reduceSub, Int.reduceMul, sz_lt, dIx_r, bLen_r, isTy_r, app_r, pop_r, clear_r, frz_r, frz_lst, isNone_non, isNone_int, List.lookup_cons, List.lookup_nil, and_self, and_true, true_and, setAt_r, ixN_ok, Option.map_some, List.map_set, List.length_set, snoc_get, snoc_set, setF_r, putFD_nil, putFD_cons, at0, sz, cm, hin]
      unfold forD
      rw [if_pos (show ckS none S from trivial), hg]
      simp only [body]
    · have e' : has p b = false := by simpa using e
      rw [e'] at hin
      refine ⟨b2, b3, ?_⟩
      rw [if_neg e, ← ih]
      have body : b__law_where_1 (setAll [some own, some (.str (sL b)), o2, o3, o4] [(2, .str (sL t.nm)), (3, .ref l)]) S = .nx [some own, some (.str (sL b)), some (.str (sL t.nm)), some (.ref l), o4] S := by
        unfold b__law_where_1
        simp (disch := first | omega | (simp only [List.length_map, List.length_cons, List.length_nil, List.length_append]; omega)) only [List.map_cons, List.map_nil, List.length_cons, List.length_nil, List.length_map, List.replicate, List.cons_append, List.nil_append, List.append_eq, sSeq_ap, sSet_ap, sIf_ap, sRet_ap, sRetN_ap, sExpr_ap, sNext_ap, sBreak_ap, sCont_ap, sPar_ap, sAsg_ap, sFor_ap, gName_ap, eVar_0, eVar_s, eC_ap, aNil_ap, aCons_ap, e2_ap, e3_ap, toB_bl, toB_stuck, tV_ap, tAnd_ap, tOr_ap, tNot_ap, eAnd_ap, eOr_ap, eNot_ap, eIf_ap, eNeg_ap, eTup_ap, eLst_ap, eLstL_ap, eB_ap, eIsi_ap, eCall_ap, eM_ap, eM0_ap, eIsN_ap, eNotN_ap, oNone_ap, oSome_ap, eSl_ap, iTup_ap, iStr_ap, iRange1_ap, iRange2_ap, iLst_ap, iZipD_ap, setAll_nil, setAll_cons, wipeD_nil, wipeD_cons, dAdd_int, dSub_int, dLt_int, dLe_int, dGt_int, dGe_int, dEqX_int, dEqX_str, dNeX_int, dNeX_str, dEqX_nil, dNeX_nil, dIs_bl, dMod_int, div_lit, bind_ok, bind_exc, toS_ok, toS_exc, then_nx, then_rt, then_exc, endD_nx, endD_rt, endD_exc, List.set_cons_succ, List.set_cons_zero, if_true, if_false, Bool.false_eq_true, Bool.not_true, Bool.not_false, decide_true, decide_false, Nat.zero_add, Nat.reduceAdd, lcEnd_f, eLc_ap, eRev_ap, eFld_ap, sFldD_ap, eMeth_ap, sRaise_ap, eFrz_ap, insOf_ins, bTuple_lst, bTuple_tup, bMin2_int, bMax2_int, bAbs_int, bLen_lst, bLen_tup, bLen_scr, bAll_lst, bAny_lst, bSum_lst, dIx_lst, dIx_tup, dIx_scr, bRepr_bl, sz_lit, Int.reduceLT, Int.reduceLE, Int.reducePow, Nat.reduceLT, Nat.reduceLeDiff, Nat.reducePow, gTup_tup, gCons_c, gNil_n, cast_lit, eq_self, Int.reduceEq, Int.reduceNeg, eDic0_f, sTry_ap, eMake_f, ofS_inj, ofS_beq, String.reduceEq, String.reduceBEq, rg1_ap, rg2_ap, eListRg_ap, iRevRg_ap, iZip3D_ap, iEnum_ap, sSetAt_ap, rg_ok, rg_ok2, rgl_ok, mul_r, mul_l, mod_d, at_int', at_bl', p6, p9, p10, p11, p12, p60, dAdd_lst, Int.toNat_natCast, Int.zero_add, Int.sub_zero, bInt_bl, bInt_int, bList_f, dSl_lst, dSl_tup, dSl_scr, List.getElem?_cons_zero, List.getElem?_cons_succ, beq_self_eq_true, Bool.true_or, Bool.or_false, Bool.or_true, Bool.false_or, Nat.reduceSub, ne_scr_nil, at_zero, Int.reduceAdd, Int.reduceSub, Int.reduceMul, sz_lt, dIx_r, bLen_r, isTy_r, app_r, pop_r, clear_r, frz_r, frz_lst, isNone_non, isNone_int, List.lookup_cons, List.lookup_nil, and_self, and_true, true_and, setAt_r, ixN_ok, Option.map_some, List.map_set, List.length_set, snoc_get, snoc_set, setF_r, putFD_nil, putFD_cons, at0, sz, cm, hin]
      exact forD_cons hg body
theorem v_where_own {ts : List TR} {P : List (List Bx)} {ql : List Nat} {S : Store} (hl : ql.length = ts.length) (hz : ∀ p ∈ P, p.length ≤ 100) (h2 : Pil S P ql) (h3 : P.length = ts.length) (b : List Nat) : callD 2 m__law_where [] [ownV ts ql, .str (sL b)] S = .ok (whD (wh ts P b)) S := by
  obtain ⟨b2, b3, lp⟩ := loop_where (ownV ts ql) b S none ts P ql hl hz h2 h3 none none
  have it : iItemsD (e2 dIx (eVar 0) (eC (.str "piles"))) [some (ownV ts ql), some (.str (sL b)), none, none, none] S = .ok ((pilL ts ql).map (fun kd => .tup [keyD kd.1, kd.2]), none) S := by
    have op := own_piles (ts := ts) (ql := ql) (S := S)
    unfold iItemsD
    simp (disch := first | omega | (simp only [List.length_map, List.length_cons, List.length_nil, List.length_append]; omega)) only [List.map_cons, List.map_nil, List.length_cons, List.length_nil, List.length_map, List.replicate, List.cons_append, List.nil_append, List.append_eq, sSeq_ap, sSet_ap, sIf_ap, sRet_ap, sRetN_ap, sExpr_ap, sNext_ap, sBreak_ap, sCont_ap, sPar_ap, sAsg_ap, sFor_ap, gName_ap, eVar_0, eVar_s, eC_ap, aNil_ap, aCons_ap, e2_ap, e3_ap, toB_bl, toB_stuck, tV_ap, tAnd_ap, tOr_ap, tNot_ap, eAnd_ap, eOr_ap, eNot_ap, eIf_ap, eNeg_ap, eTup_ap, eLst_ap, eLstL_ap, eB_ap, eIsi_ap, eCall_ap, eM_ap, eM0_ap, eIsN_ap, eNotN_ap, oNone_ap, oSome_ap, eSl_ap, iTup_ap, iStr_ap, iRange1_ap, iRange2_ap, iLst_ap, iZipD_ap, setAll_nil, setAll_cons, wipeD_nil, wipeD_cons, dAdd_int, dSub_int, dLt_int, dLe_int, dGt_int, dGe_int, dEqX_int, dEqX_str, dNeX_int, dNeX_str, dEqX_nil, dNeX_nil, dIs_bl, dMod_int, div_lit, bind_ok, bind_exc, toS_ok, toS_exc, then_nx, then_rt, then_exc, endD_nx, endD_rt, endD_exc, List.set_cons_succ, List.set_cons_zero, if_true, if_false, Bool.false_eq_true, Bool.not_true, Bool.not_false, decide_true, decide_false, Nat.zero_add, Nat.reduceAdd, lcEnd_f, eLc_ap, eRev_ap, eFld_ap, sFldD_ap, eMeth_ap, sRaise_ap, eFrz_ap, insOf_ins, bTuple_lst, bTuple_tup, bMin2_int, bMax2_int, bAbs_int, bLen_lst, bLen_tup, bLen_scr, bAll_lst, bAny_lst, bSum_lst, dIx_lst, dIx_tup, dIx_scr, bRepr_bl, sz_lit, Int.reduceLT, Int.reduceLE, Int.reducePow, Nat.reduceLT, Nat.reduceLeDiff, Nat.reducePow, gTup_tup, gCons_c, gNil_n, cast_lit, eq_self, Int.reduceEq, Int.reduceNeg, eDic0_f, sTry_ap, eMake_f, ofS_inj, ofS_beq, String.reduceEq, String.reduceBEq, rg1_ap, rg2_ap, eListRg_ap, iRevRg_ap, iZip3D_ap, iEnum_ap, sSetAt_ap, rg_ok, rg_ok2, rgl_ok, mul_r, mul_l, mod_d, at_int', at_bl', p6, p9, p10, p11, p12, p60, dAdd_lst, Int.toNat_natCast, Int.zero_add, Int.sub_zero, bInt_bl, bInt_int, bList_f, dSl_lst, dSl_tup, dSl_scr, List.getElem?_cons_zero, List.getElem?_cons_succ, beq_self_eq_true, Bool.true_or, Bool.or_false, Bool.or_true, Bool.false_or, Nat.reduceSub, ne_scr_nil, at_zero, Int.reduceAdd, Int.reduceSub, Int.reduceMul, sz_lt, dIx_r, bLen_r, isTy_r, app_r, pop_r, clear_r, frz_r, frz_lst, isNone_non, isNone_int, List.lookup_cons, List.lookup_nil, and_self, and_true, true_and, setAt_r, ixN_ok, Option.map_some, List.map_set, List.length_set, snoc_get, snoc_set, setF_r, putFD_nil, putFD_cons, op]
  refine (call_mut rfl).trans ?_
  rw [m__law_where, runD_ap, z__law_where]
  simp (disch := first | omega | (simp only [List.length_map, List.length_cons, List.length_nil, List.length_append]; omega)) only [List.map_cons, List.map_nil, List.length_cons, List.length_nil, List.length_map, List.replicate, List.cons_append, List.nil_append, List.append_eq, sSeq_ap, sSet_ap, sIf_ap, sRet_ap, sRetN_ap, sExpr_ap, sNext_ap, sBreak_ap, sCont_ap, sPar_ap, sAsg_ap, sFor_ap, gName_ap, eVar_0, eVar_s, eC_ap, aNil_ap, aCons_ap, e2_ap, e3_ap, toB_bl, toB_stuck, tV_ap, tAnd_ap, tOr_ap, tNot_ap, eAnd_ap, eOr_ap, eNot_ap, eIf_ap, eNeg_ap, eTup_ap, eLst_ap, eLstL_ap, eB_ap, eIsi_ap, eCall_ap, eM_ap, eM0_ap, eIsN_ap, eNotN_ap, oNone_ap, oSome_ap, eSl_ap, iTup_ap, iStr_ap, iRange1_ap, iRange2_ap, iLst_ap, iZipD_ap, setAll_nil, setAll_cons, wipeD_nil, wipeD_cons, dAdd_int, dSub_int, dLt_int, dLe_int, dGt_int, dGe_int, dEqX_int, dEqX_str, dNeX_int, dNeX_str, dEqX_nil, dNeX_nil, dIs_bl, dMod_int, div_lit, bind_ok, bind_exc, toS_ok, toS_exc, then_nx, then_rt, then_exc, endD_nx, endD_rt, endD_exc, List.set_cons_succ, List.set_cons_zero, if_true, if_false, Bool.false_eq_true, Bool.not_true, Bool.not_false, decide_true, decide_false, Nat.zero_add, Nat.reduceAdd, lcEnd_f, eLc_ap, eRev_ap, eFld_ap, sFldD_ap, eMeth_ap, sRaise_ap, eFrz_ap, insOf_ins, bTuple_lst, bTuple_tup, bMin2_int, bMax2_int, bAbs_int, bLen_lst, bLen_tup, bLen_scr, bAll_lst, bAny_lst, bSum_lst, dIx_lst, dIx_tup, dIx_scr, bRepr_bl, sz_lit, Int.reduceLT, Int.reduceLE, Int.reducePow, Nat.reduceLT, Nat.reduceLeDiff, Nat.reducePow, gTup_tup, gCons_c, gNil_n, cast_lit, eq_self, Int.reduceEq, Int.reduceNeg, eDic0_f, sTry_ap, eMake_f, ofS_inj, ofS_beq, String.reduceEq, String.reduceBEq, rg1_ap, rg2_ap, eListRg_ap, iRevRg_ap, iZip3D_ap, iEnum_ap, sSetAt_ap, rg_ok, rg_ok2, rgl_ok, mul_r, mul_l, mod_d, at_int', at_bl', p6, p9, p10, p11, p12, p60, dAdd_lst, Int.toNat_natCast, Int.zero_add, Int.sub_zero, bInt_bl, bInt_int, bList_f, dSl_lst, dSl_tup, dSl_scr, List.getElem?_cons_zero, List.getElem?_cons_succ, beq_self_eq_true, Bool.true_or, Bool.or_false, Bool.or_true, Bool.false_or, Nat.reduceSub, ne_scr_nil, at_zero, Int.reduceAdd, Int.reduceSub, Int.reduceMul, sz_lt, dIx_r, bLen_r, isTy_r, app_r, pop_r, clear_r, frz_r, frz_lst, isNone_non, isNone_int, List.lookup_cons, List.lookup_nil, and_self, and_true, true_and, setAt_r, ixN_ok, Option.map_some, List.map_set, List.length_set, snoc_get, snoc_set, setF_r, putFD_nil, putFD_cons, it, lp]
  cases wh ts P b with
  | none => simp (disch := first | omega | (simp only [List.length_map, List.length_cons, List.length_nil, List.length_append]; omega)) only [List.map_cons, List.map_nil, List.length_cons, List.length_nil, List.length_map, List.replicate, List.cons_append, List.nil_append, List.append_eq, sSeq_ap, sSet_ap, sIf_ap, sRet_ap, sRetN_ap, sExpr_ap, sNext_ap, sBreak_ap, sCont_ap, sPar_ap, sAsg_ap, sFor_ap, gName_ap, eVar_0, eVar_s, eC_ap, aNil_ap, aCons_ap, e2_ap, e3_ap, toB_bl, toB_stuck, tV_ap, tAnd_ap, tOr_ap, tNot_ap, eAnd_ap, eOr_ap, eNot_ap, eIf_ap, eNeg_ap, eTup_ap, eLst_ap, eLstL_ap, eB_ap, eIsi_ap, eCall_ap, eM_ap, eM0_ap, eIsN_ap, eNotN_ap, oNone_ap, oSome_ap, eSl_ap, iTup_ap, iStr_ap, iRange1_ap, iRange2_ap, iLst_ap, iZipD_ap, setAll_nil, setAll_cons, wipeD_nil, wipeD_cons, dAdd_int, dSub_int, dLt_int, dLe_int, dGt_int, dGe_int, dEqX_int, dEqX_str, dNeX_int, dNeX_str, dEqX_nil, dNeX_nil, dIs_bl, dMod_int, div_lit, bind_ok, bind_exc, toS_ok, toS_exc, then_nx, then_rt, then_exc, endD_nx, endD_rt, endD_exc, List.set_cons_succ, List.set_cons_zero, if_true, if_false, Bool.false_eq_true, Bool.not_true, Bool.not_false, decide_true, decide_false, Nat.zero_add, Nat.reduceAdd, lcEnd_f, eLc_ap, eRev_ap, eFld_ap, sFldD_ap, eMeth_ap, sRaise_ap, eFrz_ap, insOf_ins, bTuple_lst, bTuple_tup, bMin2_int, bMax2_int, bAbs_int, bLen_lst, bLen_tup, bLen_scr, bAll_lst, bAny_lst, bSum_lst, dIx_lst, dIx_tup, dIx_scr, bRepr_bl, sz_lit, Int.reduceLT, Int.reduceLE, Int.reducePow, Nat.reduceLT, Nat.reduceLeDiff, Nat.reducePow, gTup_tup, gCons_c, gNil_n, cast_lit, eq_self, Int.reduceEq, Int.reduceNeg, eDic0_f, sTry_ap, eMake_f, ofS_inj, ofS_beq, String.reduceEq, String.reduceBEq, rg1_ap, rg2_ap, eListRg_ap, iRevRg_ap, iZip3D_ap, iEnum_ap, sSetAt_ap, rg_ok, rg_ok2, rgl_ok, mul_r, mul_l, mod_d, at_int', at_bl', p6, p9, p10, p11, p12, p60, dAdd_lst, Int.toNat_natCast, Int.zero_add, Int.sub_zero, bInt_bl, bInt_int, bList_f, dSl_lst, dSl_tup, dSl_scr, List.getElem?_cons_zero, List.getElem?_cons_succ, beq_self_eq_true, Bool.true_or, Bool.or_false, Bool.or_true, Bool.false_or, Nat.reduceSub, ne_scr_nil, at_zero, Int.reduceAdd, Int.reduceSub, Int.reduceMul, sz_lt, dIx_r, bLen_r, isTy_r, app_r, pop_r, clear_r, frz_r, frz_lst, isNone_non, isNone_int, List.lookup_cons, List.lookup_nil, and_self, and_true, true_and, setAt_r, ixN_ok, Option.map_some, List.map_set, List.length_set, snoc_get, snoc_set, setF_r, putFD_nil, putFD_cons]; rfl
  | some n => simp (disch := first | omega | (simp only [List.length_map, List.length_cons, List.length_nil, List.length_append]; omega)) only [List.map_cons, List.map_nil, List.length_cons, List.length_nil, List.length_map, List.replicate, List.cons_append, List.nil_append, List.append_eq, sSeq_ap, sSet_ap, sIf_ap, sRet_ap, sRetN_ap, sExpr_ap, sNext_ap, sBreak_ap, sCont_ap, sPar_ap, sAsg_ap, sFor_ap, gName_ap, eVar_0, eVar_s, eC_ap, aNil_ap, aCons_ap, e2_ap, e3_ap, toB_bl, toB_stuck, tV_ap, tAnd_ap, tOr_ap, tNot_ap, eAnd_ap, eOr_ap, eNot_ap, eIf_ap, eNeg_ap, eTup_ap, eLst_ap, eLstL_ap, eB_ap, eIsi_ap, eCall_ap, eM_ap, eM0_ap, eIsN_ap, eNotN_ap, oNone_ap, oSome_ap, eSl_ap, iTup_ap, iStr_ap, iRange1_ap, iRange2_ap, iLst_ap, iZipD_ap, setAll_nil, setAll_cons, wipeD_nil, wipeD_cons, dAdd_int, dSub_int, dLt_int, dLe_int, dGt_int, dGe_int, dEqX_int, dEqX_str, dNeX_int, dNeX_str, dEqX_nil, dNeX_nil, dIs_bl, dMod_int, div_lit, bind_ok, bind_exc, toS_ok, toS_exc, then_nx, then_rt, then_exc, endD_nx, endD_rt, endD_exc, List.set_cons_succ, List.set_cons_zero, if_true, if_false, Bool.false_eq_true, Bool.not_true, Bool.not_false, decide_true, decide_false, Nat.zero_add, Nat.reduceAdd, lcEnd_f, eLc_ap, eRev_ap, eFld_ap, sFldD_ap, eMeth_ap, sRaise_ap, eFrz_ap, insOf_ins, bTuple_lst, bTuple_tup, bMin2_int, bMax2_int, bAbs_int, bLen_lst, bLen_tup, bLen_scr, bAll_lst, bAny_lst, bSum_lst, dIx_lst, dIx_tup, dIx_scr, bRepr_bl, sz_lit, Int.reduceLT, Int.reduceLE, Int.reducePow, Nat.reduceLT, Nat.reduceLeDiff, Nat.reducePow, gTup_tup, gCons_c, gNil_n, cast_lit, eq_self, Int.reduceEq, Int.reduceNeg, eDic0_f, sTry_ap, eMake_f, ofS_inj, ofS_beq, String.reduceEq, String.reduceBEq, rg1_ap, rg2_ap, eListRg_ap, iRevRg_ap, iZip3D_ap, iEnum_ap, sSetAt_ap, rg_ok, rg_ok2, rgl_ok, mul_r, mul_l, mod_d, at_int', at_bl', p6, p9, p10, p11, p12, p60, dAdd_lst, Int.toNat_natCast, Int.zero_add, Int.sub_zero, bInt_bl, bInt_int, bList_f, dSl_lst, dSl_tup, dSl_scr, List.getElem?_cons_zero, List.getElem?_cons_succ, beq_self_eq_true, Bool.true_or, Bool.or_false, Bool.or_true, Bool.false_or, Nat.reduceSub, ne_scr_nil, at_zero, Int.reduceAdd, Int.reduceSub, Int.reduceMul, sz_lt, dIx_r, bLen_r, isTy_r, app_r, pop_r, clear_r, frz_r, frz_lst, isNone_non, isNone_int, List.lookup_cons, List.lookup_nil, and_self, and_true, true_and, setAt_r, ixN_ok, Option.map_some, List.map_set, List.length_set, snoc_get, snoc_set, setF_r, putFD_nil, putFD_cons]; rfl
end Q
namespace Q
open PySem L2 Mi
/-! copies -/
theorem keyD_nm (t : TR) : keyD (nmK t) = .str (sL t.nm) := rfl
/-- what stands at the places of a list of piles -/
def cont (S : Store) (l : Nat) : O := match S[l]? with
  | some (some (O.lst xs)) => O.lst xs
  | _ => O.lst []
def conts (S : Store) (pl : List Nat) : Store := pl.map fun l => some (cont S l)
theorem cont_at {S : Store} {l : Nat} {xs : List D} (h : S[l]? = some (some (O.lst xs))) : cont S l = O.lst xs := by unfold cont; rw [h]
theorem conts_at {S : Store} {P : List (List Bx)} {pl : List Nat} (h : Pil S P pl) : conts S pl = P.map fun p => some (.lst (p.map bxD)) := by
  unfold conts
  apply List.ext_getElem?
  intro i
  rw [List.getElem?_map, List.getElem?_map]
  by_cases hi : i < pl.length
  · have hP : i < P.length := by rw [← h.n]; exact hi
    rw [List.getElem?_eq_getElem hi, List.getElem?_eq_getElem hP]
    have := h.at_ i _ _ (List.getElem?_eq_getElem hi) (List.getElem?_eq_getElem hP)
    simp only [Option.map_some, cont_at this]
  · rw [List.getElem?_eq_none (by omega), List.getElem?_eq_none (by rw [← h.n]; omega)]; rfl
theorem comp_copy {ts : List TR} {P : List (List Bx)} {pl : List Nat} {S0 S : Store} {δ : Mi.Env} {g : DG} {f : DE} (hl : pl.length = ts.length) (hp : Pil S0 P pl) (he : ExtS S0 S)
    (h : ∀ (t : TR) (l : Nat) (xs : List D) (S' : Store), ExtS S0 S' → S'[l]? = some (some (.lst xs)) → ∃ da, g (.tup [.str (sL t.nm), .ref l]) S' = some da ∧ f (setAll δ da) S' = .ok (.tup [.str (sL t.nm), .ref S'.length]) (S' ++ [some (.lst xs)])) :
    compD g tYesD f none δ ((pilL ts pl).map fun kd => .tup [keyD kd.1, kd.2]) S = .ok (ts.zipIdx.map fun p : TR × Nat => .tup [.str (sL p.1.nm), .ref (S.length + p.2)]) (S ++ P.map fun p => some (.lst (p.map bxD))) := by
  have e : ((pilL ts pl).map fun kd => D.tup [keyD kd.1, kd.2]) = (ts.zip pl).map fun p => D.tup [.str (sL p.1.nm), .ref p.2] := by
    unfold pilL; rw [List.map_map]; rfl
  have cn := comp_new (enc := fun p : TR × Nat => D.tup [.str (sL p.1.nm), .ref p.2]) (g := g) (t := tYesD) (f := f) (δ := δ) (ck := none) (S0 := S0)
    (fun p n => .tup [.str (sL p.1.nm), .ref n]) (fun p => cont S0 p.2) trivial (l := ts.zip pl) (S := S) he fun p hm S' hS' => by
      obtain ⟨i, hi⟩ := List.getElem?_of_mem hm
      rw [List.zip, List.getElem?_zipWith] at hi
      cases z1 : ts[i]? with
      | none => rw [z1] at hi; cases hi
      | some t =>
        cases z2 : pl[i]? with
        | none => rw [z1, z2] at hi; cases hi
        | some l =>
          rw [z1, z2] at hi
          cases hi
          have hP : i < P.length := by rw [← hp.n]; exact (List.getElem?_eq_some_iff.mp z2).1
          have a := hp.at_ i l _ z2 (List.getElem?_eq_getElem hP)
          obtain ⟨da, h1, h2⟩ := h t l _ S' hS' (hS' _ _ a)
          refine ⟨da, h1, rfl, ?_⟩
          simp only [cont_at a]
          exact h2
  rw [e, cn]
  congr 1
  · apply List.ext_getElem?
    intro i
    rw [List.getElem?_map, List.getElem?_map, List.getElem?_zipIdx, List.getElem?_zipIdx, List.zip, List.getElem?_zipWith]
    by_cases h : i < ts.length
    · rw [List.getElem?_eq_getElem h, List.getElem?_eq_getElem (by omega)]; rfl
    · rw [List.getElem?_eq_none (by omega)]; rfl
  · congr 1
    rw [← conts_at hp]
    unfold conts
    apply List.ext_getElem?
    intro i
    rw [List.getElem?_map, List.getElem?_map, List.zip, List.getElem?_zipWith]
    by_cases h : i < ts.length
    · rw [List.getElem?_eq_getElem h, List.getElem?_eq_getElem (show i < pl.length by omega)]
      rfl
    · rw [List.getElem?_eq_none (show ts.length ≤ i by omega), List.getElem?_eq_none (show pl.length ≤ i by omega)]; rfl
theorem d2_piles {ts : List TR} (h : Told ts) (n : Nat) (S' : Store) : bDict false [.lst (ts.zipIdx.map fun p : TR × Nat => .tup [.str (sL p.1.nm), .ref (n + p.2)])] S' = .ok (.dic (pilL ts (plR n ts.length))) S' := by
  unfold bDict
  simp only [pairs_kn (fun p : TR × Nat => .tup [.str (sL p.1.nm), .ref (n + p.2)]) (fun p => nmK p.1) (fun p => .ref (n + p.2)) (fun _ => rfl)]
  rw [zip_range, mergeD_nil (by rw [pilL_keys (by simp)]; exact nmK_nodup h.nms)]
  rfl
theorem pil_len {ts : List TR} {pl : List Nat} (h : pl.length = ts.length) : (pilL ts pl).length = ts.length := by
  unfold pilL
  rw [List.length_map, List.length_zip]; omega
theorem bl_copy {l : Nat} {xs : List D} {S : Store} (h : S[l]? = some (some (.lst xs))) : bList true [.ref l] S = .ok (.ref S.length) (S ++ [some (.lst xs)]) := by
  unfold bList
  simp only [anyOf, seqOf, lstOf, h, if_true]
end Q
namespace Q
open PySem L2 Mi
/-- what is there behind a copy -/
def cpS (S : Store) (n : Nat) (P : List (List Bx)) (kds : List (Key × D)) : Store := S ++ none :: (repO n ++ [some (.dic [])] ++ (P.map fun p => some (.lst (p.map bxD))) ++ [some (.dic kds)])
theorem v_copied {c : Nat} {S : Store} {ts : List TR} {P : List (List Bx)} {pl : List Nat} {s : Nat} (h : StI c S ts P pl s) : ∃ kds, S[s]? = some (some (.dic kds)) ∧
    callD 1 m_Stacks__copied [] [stV ts pl s] S = .ok (stV ts (plR (S.length + ts.length + 2) ts.length) (S.length + ts.length + 2 + ts.length)) (cpS S ts.length P kds) := by
  obtain ⟨kds, k1, k2, k3⟩ := h.sp
  refine ⟨kds, k1, ?_⟩
  have hi := h.told.hi
  have hl := h.pil.n.trans h.Pn
  have e1 := v_told (ts := ts) S pl s
  have ini := v_init h.told (S := S) (x := .lst (ts.map trD)) (ck := none) (.inl ⟨rfl, rfl⟩)
  have ci : callD 2 m_Stacks____init__ [] [.ref S.length, .lst (ts.map trD)] (S ++ [some (.ins "Stacks" [])]) = _ := (call_mut rfl).trans ini
  have it : ∀ (o : Option D) (S' : Store), iItemsD (eFld flT "piles" (eVar 0)) [some (stV ts pl s), o, none, none] S' = .ok ((pilL ts pl).map (fun kd => .tup [keyD kd.1, kd.2]), none) S' := fun o S' => by
    unfold iItemsD stV
    simp (disch := first | omega | (simp only [List.length_map, List.length_cons, List.length_nil, List.length_append]; omega)) only [List.map_cons, List.map_nil, List.length_cons, List.length_nil, List.length_map, List.replicate, List.cons_append, List.nil_append, List.append_eq, sSeq_ap, sSet_ap, sIf_ap, sRet_ap, sRetN_ap, sExpr_ap, sNext_ap, sBreak_ap, sCont_ap, sPar_ap, sAsg_ap, sFor_ap, gName_ap, eVar_0, eVar_s, eC_ap, aNil_ap, aCons_ap, e2_ap, e3_ap, toB_bl, toB_stuck, tV_ap, tAnd_ap, tOr_ap, tNot_ap, eAnd_ap, eOr_ap, eNot_ap, eIf_ap, eNeg_ap, eTup_ap, eLst_ap, eLstL_ap, eB_ap, eIsi_ap, eCall_ap, eM_ap, eM0_ap, eIsN_ap, eNotN_ap, oNone_ap, oSome_ap, eSl_ap, iTup_ap, iStr_ap, iRange1_ap, iRange2_ap, iLst_ap, iZipD_ap, setAll_nil, setAll_cons, wipeD_nil, wipeD_cons, dAdd_int, dSub_int, dLt_int, dLe_int, dGt_int, dGe_int, dEqX_int, dEqX_str, dNeX_int, dNeX_str, dEqX_nil, dNeX_nil, dIs_bl, dMod_int, div_lit, bind_ok, bind_exc, toS_ok, toS_exc, then_nx, then_rt, then_exc, endD_nx, endD_rt, endD_exc, List.set_cons_succ, List.set_cons_zero, if_true, if_false, Bool.false_eq_true, Bool.not_true, Bool.not_false, decide_true, decide_false, Nat.zero_add, Nat.reduceAdd, lcEnd_f, eLc_ap, eRev_ap, eFld_ap, sFldD_ap, eMeth_ap, sRaise_ap, eFrz_ap, insOf_ins, bTuple_lst, bTuple_tup, bMin2_int, bMax2_int, bAbs_int, bLen_lst, bLen_tup, bLen_scr, bAll_lst, bAny_lst, bSum_lst, dIx_lst, dIx_tup, dIx_scr, bRepr_bl, sz_lit, Int.reduceLT, Int.reduceLE, Int.reducePow, Nat.reduceLT, Nat.reduceLeDiff, Nat.reducePow, gTup_tup, gCons_c, gNil_n, cast_lit, eq_self, Int.reduceEq, Int.reduceNeg, eDic0_f, sTry_ap, eMake_f, ofS_inj, ofS_beq, String.reduceEq, String.reduceBEq, rg1_ap, rg2_ap, eListRg_ap, iRevRg_ap, iZip3D_ap, iEnum_ap, sSetAt_ap, rg_ok, rg_ok2, rgl_ok, mul_r, mul_l, mod_d, at_int', at_bl', p6, p9, p10, p11, p12, p60, dAdd_lst, Int.toNat_natCast, Int.zero_add, Int.sub_zero, bInt_bl, bInt_int, bList_f, dSl_lst, dSl_tup, dSl_scr, List.getElem?_cons_zero, List.getElem?_cons_succ, beq_self_eq_true, Bool.true_or, Bool.or_false, Bool.or_true, Bool.false_or, Nat.reduceSub, ne_scr_nil, at_zero, Int.reduceAdd, Int.reduceSub, Int.reduceMul, sz_lt, dIx_r, bLen_r, isTy_r, app_r, pop_r, clear_r, frz_r, frz_lst, isNone_non, isNone_int, List.lookup_cons, List.lookup_nil, and_self, and_true, true_and, setAt_r, ixN_ok, Option.map_some, List.map_set, List.length_set, snoc_get, snoc_set, setF_r, putFD_nil, putFD_cons, okF_piles]
  have cc := fun (T : Store) => comp_copy (S := S ++ T) (δ := [some (stV ts pl s), some (.ref S.length), none, none]) (g := gTup 2 (gCons (gName 2) (gCons (gName 3) gNil))) (f := k_Stacks__copied_1) hl h.pil ((ExtS.refl S).app T) fun t l xs S' hS' hx => ⟨[(2, .str (sL t.nm)), (3, .ref l)], by simp (disch := first | omega | (simp only [List.length_map, List.length_cons, List.length_nil, List.length_append]; omega)) only [List.map_cons, List.map_nil, List.length_cons, List.length_nil, List.length_map, List.replicate, List.cons_append, List.nil_append, List.append_eq, sSeq_ap, sSet_ap, sIf_ap, sRet_ap, sRetN_ap, sExpr_ap, sNext_ap, sBreak_ap, sCont_ap, sPar_ap, sAsg_ap, sFor_ap, gName_ap, eVar_0, eVar_s, eC_ap, aNil_ap, aCons_ap, e2_ap, e3_ap, toB_bl, toB_stuck, tV_ap, tAnd_ap, tOr_ap, tNot_ap, eAnd_ap, eOr_ap, eNot_ap, eIf_ap, eNeg_ap, eTup_ap, eLst_ap, eLstL_ap, eB_ap, eIsi_ap, eCall_ap, eM_ap, eM0_ap, eIsN_ap, eNotN_ap, oNone_ap, oSome_ap, eSl_ap, iTup_ap, iStr_ap, iRange1_ap, iRange2_ap, iLst_ap, iZipD_ap, setAll_nil, setAll_cons, wipeD_nil, wipeD_cons, dAdd_int, dSub_int, dLt_int, dLe_int, dGt_int, dGe_int, dEqX_int, dEqX_str, dNeX_int, dNeX_str, dEqX_nil, dNeX_nil, dIs_bl, dMod_int, div_lit, bind_ok, bind_exc, toS_ok, toS_exc, then_nx, then_rt, then_exc, endD_nx, endD_rt, endD_exc, List.set_cons_succ, List.set_cons_zero, if_true, if_false, Bool.false_eq_true, Bool.not_true, Bool.not_false, decide_true, decide_false, Nat.zero_add, Nat.reduceAdd, lcEnd_f, eLc_ap, eRev_ap, eFld_ap, sFldD_ap, eMeth_ap, sRaise_ap, eFrz_ap, insOf_ins, bTuple_lst, bTuple_tup, bMin2_int, bMax2_int, bAbs_int, bLen_lst, bLen_tup, bLen_scr, bAll_lst, bAny_lst, bSum_lst, dIx_lst, dIx_tup, dIx_scr, bRepr_bl, sz_lit, Int.reduceLT, Int.reduceLE, Int.reducePow, Nat.reduceLT, Nat.reduceLeDiff, Nat.reducePow, gTup_tup, gCons_c, gNil_n, cast_lit, eq_self, Int.reduceEq, Int.reduceNeg, eDic0_f, sTry_ap, eMake_f, ofS_inj, ofS_beq, String.reduceEq, String.reduceBEq, rg1_ap, rg2_ap, eListRg_ap, iRevRg_ap, iZip3D_ap, iEnum_ap, sSetAt_ap, rg_ok, rg_ok2, rgl_ok, mul_r, mul_l, mod_d, at_int', at_bl', p6, p9, p10, p11, p12, p60, dAdd_lst, Int.toNat_natCast, Int.zero_add, Int.sub_zero, bInt_bl, bInt_int, bList_f, dSl_lst, dSl_tup, dSl_scr, List.getElem?_cons_zero, List.getElem?_cons_succ, beq_self_eq_true, Bool.true_or, Bool.or_false, Bool.or_true, Bool.false_or, Nat.reduceSub, ne_scr_nil, at_zero, Int.reduceAdd, Int.reduceSub, Int.reduceMul, sz_lt, dIx_r, bLen_r, isTy_r, app_r, pop_r, clear_r, frz_r, frz_lst, isNone_non, isNone_int, List.lookup_cons, List.lookup_nil, and_self, and_true, true_and, setAt_r, ixN_ok, Option.map_some, List.map_set, List.length_set, snoc_get, snoc_set, setF_r, putFD_nil, putFD_cons], by
    have b := bl_copy hx
    unfold k_Stacks__copied_1
    simp (disch := first | omega | (simp only [List.length_map, List.length_cons, List.length_nil, List.length_append]; omega)) only [List.map_cons, List.map_nil, List.length_cons, List.length_nil, List.length_map, List.replicate, List.cons_append, List.nil_append, List.append_eq, sSeq_ap, sSet_ap, sIf_ap, sRet_ap, sRetN_ap, sExpr_ap, sNext_ap, sBreak_ap, sCont_ap, sPar_ap, sAsg_ap, sFor_ap, gName_ap, eVar_0, eVar_s, eC_ap, aNil_ap, aCons_ap, e2_ap, e3_ap, toB_bl, toB_stuck, tV_ap, tAnd_ap, tOr_ap, tNot_ap, eAnd_ap, eOr_ap, eNot_ap, eIf_ap, eNeg_ap, eTup_ap, eLst_ap, eLstL_ap, eB_ap, eIsi_ap, eCall_ap, eM_ap, eM0_ap, eIsN_ap, eNotN_ap, oNone_ap, oSome_ap, eSl_ap, iTup_ap, iStr_ap, iRange1_ap, iRange2_ap, iLst_ap, iZipD_ap, setAll_nil, setAll_cons, wipeD_nil, wipeD_cons, dAdd_int, dSub_int, dLt_int, dLe_int, dGt_int, dGe_int, dEqX_int, dEqX_str, dNeX_int, dNeX_str, dEqX_nil, dNeX_nil, dIs_bl, dMod_int, div_lit, bind_ok, bind_exc, toS_ok, toS_exc, then_nx, then_rt, then_exc, endD_nx, endD_rt, endD_exc, List.set_cons_succ, List.set_cons_zero, if_true, if_false, Bool.false_eq_true, Bool.not_true, Bool.not_false, decide_true, decide_false, Nat.zero_add, Nat.reduceAdd, lcEnd_f, eLc_ap, eRev_ap, eFld_ap, sFldD_ap, eMeth_ap, sRaise_ap, eFrz_ap, insOf_ins, bTuple_lst, bTuple_tup, bMin2_int, bMax2_int, bAbs_int, bLen_lst, bLen_tup, bLen_scr, bAll_lst, bAny_lst, bSum_lst, dIx_lst, dIx_tup, dIx_scr, bRepr_bl, sz_lit, Int.reduceLT, Int.reduceLE, Int.reducePow, Nat.reduceLT, Nat.reduceLeDiff, Nat.reducePow, gTup_tup, gCons_c, gNil_n, cast_lit, eq_self, Int.reduceEq, Int.reduceNeg, eDic0_f, sTry_ap, eMake_f, ofS_inj, ofS_beq, String.reduceEq, String.reduceBEq, rg1_ap, rg2_ap, eListRg_ap, iRevRg_ap, iZip3D_ap, iEnum_ap, sSetAt_ap, rg_ok, rg_ok2, rgl_ok, mul_r, mul_l, mod_d, at_int', at_bl', p6, p9, p10, p11, p12, p60, dAdd_lst, Int.toNat_natCast, Int.zero_add, Int.sub_zero, bInt_bl, bInt_int, bList_f, dSl_lst, dSl_tup, dSl_scr, List.getElem?_cons_zero, List.getElem?_cons_succ, beq_self_eq_true, Bool.true_or, Bool.or_false, Bool.or_true, Bool.false_or, Nat.reduceSub, ne_scr_nil, at_zero, Int.reduceAdd, Int.reduceSub, Int.reduceMul, sz_lt, dIx_r, bLen_r, isTy_r, app_r, pop_r, clear_r, frz_r, frz_lst, isNone_non, isNone_int, List.lookup_cons, List.lookup_nil, and_self, and_true, true_and, setAt_r, ixN_ok, Option.map_some, List.map_set, List.length_set, snoc_get, snoc_set, setF_r, putFD_nil, putFD_cons, b]⟩
  have sz : ((pilL ts pl).length ≤ sizeLine) = True := eq_true (by rw [pil_len hl]; exact sz_16 (by omega))
  have d2 := d2_piles h.told
  have kk : ∀ T : Store, (S ++ T)[s]? = some (some (.dic kds)) := fun T => (ExtS.refl S).app T _ _ k1
  have dd : ∀ T : Store, bDict true [.ref s] (S ++ T) = .ok (.ref (S ++ T).length) ((S ++ T) ++ [some (.dic kds)]) := fun T => by
    unfold bDict
    simp only [dicOf, kk]
    rfl
  have len1 : ∀ o : Option O, (S ++ o :: (repO ts.length ++ [some (.dic [])])).length = S.length + ts.length + 2 := fun o => by
    rw [List.length_append, List.length_cons, List.length_append]; unfold repO; rw [List.length_replicate, List.length_singleton]; omega
  have len2 : ∀ o : Option O, (S ++ o :: (repO ts.length ++ [some (.dic [])] ++ P.map fun p => some (.lst (p.map bxD)))).length = S.length + ts.length + 2 + ts.length := fun o => by
    rw [List.length_append, List.length_cons, List.length_append, List.length_append, List.length_map, h.Pn]; unfold repO; rw [List.length_replicate, List.length_singleton]; omega
  have as : ∀ (o : Option O) (R M : Store), S ++ o :: R ++ M = S ++ o :: (R ++ M) := fun o R M => by rw [List.append_assoc]; rfl
  have cc' := fun (o : Option O) (R : Store) => (cc (o :: R)).trans (by rw [as])
  have dd' := fun (o : Option O) (R : Store) => (dd (o :: R)).trans (by rw [as])
  refine (call_mut rfl).trans ?_
  rw [m_Stacks__copied, runD_ap, z_Stacks__copied]
  unfold stV at *
  simp (disch := first | omega | (simp only [List.length_map, List.length_cons, List.length_nil, List.length_append]; omega)) only [List.map_cons, List.map_nil, List.length_cons, List.length_nil, List.length_map, List.replicate, List.cons_append, List.nil_append, List.append_eq, sSeq_ap, sSet_ap, sIf_ap, sRet_ap, sRetN_ap, sExpr_ap, sNext_ap, sBreak_ap, sCont_ap, sPar_ap, sAsg_ap, sFor_ap, gName_ap, eVar_0, eVar_s, eC_ap, aNil_ap, aCons_ap, e2_ap, e3_ap, toB_bl, toB_stuck, tV_ap, tAnd_ap, tOr_ap, tNot_ap, eAnd_ap, eOr_ap, eNot_ap, eIf_ap, eNeg_ap, eTup_ap, eLst_ap, eLstL_ap, eB_ap, eIsi_ap, eCall_ap, eM_ap, eM0_ap, eIsN_ap, eNotN_ap, oNone_ap, oSome_ap, eSl_ap, iTup_ap, iStr_ap, iRange1_ap, iRange2_ap, iLst_ap, iZipD_ap, setAll_nil, setAll_cons, wipeD_nil, wipeD_cons, dAdd_int, dSub_int, dLt_int, dLe_int, dGt_int, dGe_int, dEqX_int, dEqX_str, dNeX_int, dNeX_str, dEqX_nil, dNeX_nil, dIs_bl, dMod_int, div_lit, bind_ok, bind_exc, toS_ok, toS_exc, then_nx, then_rt, then_exc, endD_nx, endD_rt, endD_exc, List.set_cons_succ, List.set_cons_zero, if_true, if_false, Bool.false_eq_true, Bool.not_true, Bool.not_false, decide_true, decide_false, Nat.zero_add, Nat.reduceAdd, lcEnd_f, eLc_ap, eRev_ap, eFld_ap, sFldD_ap, eMeth_ap, sRaise_ap, eFrz_ap, insOf_ins, bTuple_lst, bTuple_tup, bMin2_int, bMax2_int, bAbs_int, bLen_lst, bLen_tup, bLen_scr, bAll_lst, bAny_lst, bSum_lst, dIx_lst, dIx_tup, dIx_scr, bRepr_bl, sz_lit, Int.reduceLT, Int.reduceLE, Int.reducePow, Nat.reduceLT, Nat.reduceLeDiff, Nat.reducePow, gTup_tup, gCons_c, gNil_n, cast_lit, eq_self, Int.reduceEq, Int.reduceNeg, eDic0_f, sTry_ap, eMake_f, ofS_inj, ofS_beq, String.reduceEq, String.reduceBEq, rg1_ap, rg2_ap, eListRg_ap, iRevRg_ap, iZip3D_ap, iEnum_ap, sSetAt_ap, rg_ok, rg_ok2, rgl_ok, mul_r, mul_l, mod_d, at_int', at_bl', p6, p9, p10, p11, p12, p60, dAdd_lst, Int.toNat_natCast, Int.zero_add, Int.sub_zero, bInt_bl, bInt_int, bList_f, dSl_lst, dSl_tup, dSl_scr, List.getElem?_cons_zero, List.getElem?_cons_succ, beq_self_eq_true, Bool.true_or, Bool.or_false, Bool.or_true, Bool.false_or, Nat.reduceSub, ne_scr_nil, at_zero, Int.reduceAdd, Int.reduceSub, Int.reduceMul, sz_lt, dIx_r, bLen_r, isTy_r, app_r, pop_r, clear_r, frz_r, frz_lst, isNone_non, isNone_int, List.lookup_cons, List.lookup_nil, and_self, and_true, true_and, setAt_r, ixN_ok, Option.map_some, List.map_set, List.length_set, snoc_get, snoc_set, setF_r, putFD_nil, putFD_cons, e1, ci, it, cc', sz, d2, dd', okF_piles, okF_spots, mid_get, mid_set, len1, len2]
  rfl
end Q
namespace Q
open PySem L2 Mi
theorem isNone_str {x : Str} : isNone (.str x) = some false := rfl
structure OwI (S : Store) (ts : List TR) (P : List (List Bx)) (ql : List Nat) : Prop where
  told : Told ts
  Pn : P.length = ts.length
  pil : Pil S P ql
  nd : ql.Nodup
  sz : ∀ p ∈ P, p.length ≤ 100
section
variable {S : Store} {ts : List TR} {P : List (List Bx)} {ql : List Nat} {i l : Nat} {t : TR} {p q : List Bx} {x : Bx} {b : List Nat} {w : Int}
theorem OwI.ix (h : OwI S ts P ql) (ht : ts[i]? = some t) (hl : ql[i]? = some l) (S' : Store) : dIx (.dic (pilL ts ql)) (.str (sL t.nm)) S' = .ok (.ref l) S' := dIx_dic (pil_get h.told.nms (h.pil.n.trans h.Pn) ht hl)
end
theorem ne_ref_nil {l : Nat} {xs : List D} {S : Store} (h : S[l]? = some (some (.lst xs))) : dNeX 1 (.ref l) (.lst []) S = .ok (.bl (!xs.isEmpty)) S := by
  have e := eq_ref_nil h
  unfold dEqX at e
  unfold dNeX
  split at e
  · rename_i z
    rw [if_pos z]
    injection e with e _
    injection e with e
    rw [← e]; rfl
  · rename_i z
    rw [if_neg z]
    unfold dEq at e
    unfold dNe
    split at e
    · rename_i b hb
      injection e with e _
      injection e with e
      have e' : b = xs.isEmpty := e
      first | rw [hb] | skip
      simp only [e']
    · cases e
def BndI (ts : List TR) (P : List (List Bx)) : Prop := ∀ (i : Nat) (t : TR) (p : List Bx), ts[i]? = some t → P[i]? = some p → (p.length : Int) ≤ t.hi ∧ wtS p ≤ t.wt
theorem BndI.set {ts : List TR} {P : List (List Bx)} {i : Nat} {t : TR} {q : List Bx} (h : BndI ts P) (ht : ts[i]? = some t) (hq : (q.length : Int) ≤ t.hi ∧ wtS q ≤ t.wt) : BndI ts (P.set i q) := fun j u p hu hp => by
  rw [List.getElem?_set] at hp
  split at hp
  · rename_i e
    subst e
    rw [ht] at hu
    cases hu
    split at hp
    · cases hp; exact hq
    · cases hp
  · exact h j u p hu hp
theorem wtS_snoc {q : List Bx} {x : Bx} : wtS (q ++ [x]) = wtS q + x.2 := by
  unfold wtS
  rw [List.map_append, List.sum_append]
  simp
def dueS (ts : List TR) (P : List (List Bx)) (p : List Bx) (t : TR) (b : List Nat) (w : Int) : Str :=
  if (wh ts P b).isSome = true then "twice" else if t.hi ≤ (p.length : Int) then "high" else if wtS p + w > t.wt then "heavy" else ""
section
variable {S : Store} {ts : List TR} {P : List (List Bx)} {ql : List Nat} {i l : Nat} {t : TR} {p q : List Bx} {x : Bx} {b : List Nat} {w : Int}
theorem v_due (h : OwI S ts P ql) (ht : ts[i]? = some t) (hl : ql[i]? = some l) (hp : P[i]? = some p) : callD 4 m__law_due [] [ownV ts ql, .str (sL b), .int w, .str (sL t.nm)] S = .ok (.str (dueS ts P p t b w)) S := by
  have tm := List.mem_of_getElem? ht
  have at0 := h.pil.at_ i l p hl hp
  have e1 := v_of h.told tm ql S
  have e2 := own_piles (ts := ts) (ql := ql) (S := S)
  have e3 := h.ix ht hl S
  have e4 := v_where_own (h.pil.n.trans h.Pn) h.sz h.pil h.Pn b
  have cm : ∀ o4 o5 o6 o7 : Option D, compD (gName 9) tYesD k__law_due_1 (some (l, p.map bxD)) [some (ownV ts ql), some (.str (sL b)), some (.int w), some (.str (sL t.nm)), o4, o5, o6, o7, some (.ref l), none] (p.map bxD) S = .ok (p.map fun y => .int y.2) S := fun o4 o5 o6 o7 =>
    comp_mm (ck := some (l, p.map bxD)) at0 (fun y : Bx => .int y.2) fun y hy => ⟨_, rfl, rfl, by unfold k__law_due_1 bxD; simp (disch := first | omega | (simp only [List.length_map, List.length_cons, List.length_nil, List.length_append]; omega)) only [List.map_cons, List.map_nil, List.length_cons, List.length_nil, List.length_map, List.replicate, List.cons_append, List.nil_append, List.append_eq, sSeq_ap, sSet_ap, sIf_ap, sRet_ap, sRetN_ap, sExpr_ap, sNext_ap, sBreak_ap, sCont_ap, sPar_ap, sAsg_ap, sFor_ap, gName_ap, eVar_0, eVar_s, eC_ap, aNil_ap, aCons_ap, e2_ap, e3_ap, toB_bl, toB_stuck, tV_ap, tAnd_ap, tOr_ap, tNot_ap, eAnd_ap, eOr_ap, eNot_ap, eIf_ap, eNeg_ap, eTup_ap, eLst_ap, eLstL_ap, eB_ap, eIsi_ap, eCall_ap, eM_ap, eM0_ap, eIsN_ap, eNotN_ap, oNone_ap, oSome_ap, eSl_ap, iTup_ap, iStr_ap, iRange1_ap, iRange2_ap, iLst_ap, iZipD_ap, setAll_nil, setAll_cons, wipeD_nil, wipeD_cons, dAdd_int, dSub_int, dLt_int, dLe_int, dGt_int, dGe_int, dEqX_int, dEqX_str, dNeX_int, dNeX_str, dEqX_nil, dNeX_nil, dIs_bl, dMod_int, div_lit, bind_ok, bind_exc, toS_ok, toS_exc, then_nx, then_rt, then_exc, endD_nx, endD_rt, endD_exc, List.set_cons_succ, List.set_cons_zero, if_true, if_false, Bool.false_eq_true, Bool.not_true, Bool.not_false, decide_true, decide_false, Nat.zero_add, Nat.reduceAdd, lcEnd_f, eLc_ap, eRev_ap, eFld_ap, sFldD_ap, eMeth_ap, sRaise_ap, eFrz_ap, insOf_ins, bTuple_lst, bTuple_tup, bMin2_int, bMax2_int, bAbs_int, bLen_lst, bLen_tup, bLen_scr, bAll_lst, bAny_lst, bSum_lst, dIx_lst, dIx_tup, dIx_scr, bRepr_bl, sz_lit, Int.reduceLT, Int.reduceLE, Int.reducePow, Nat.reduceLT, Nat.reduceLeDiff, Nat.reducePow, gTup_tup, gCons_c, gNil_n, cast_lit, eq_self, Int.reduceEq, Int.reduceNeg, eDic0_f, sTry_ap, eMake_f, ofS_inj, ofS_beq, String.reduceEq, String.reduceBEq, rg1_ap, rg2_ap, eListRg_ap, iRevRg_ap, iZip3D_ap, iEnum_ap, sSetAt_ap, rg_ok, rg_ok2, rgl_ok, mul_r, mul_l, mod_d, at_int', at_bl', p6, p9, p10, p11, p12, p60, dAdd_lst, Int.toNat_natCast, Int.zero_add, Int.sub_zero, bInt_bl, bInt_int, bList_f, dSl_lst, dSl_tup, dSl_scr, List.getElem?_cons_zero, List.getElem?_cons_succ, beq_self_eq_true, Bool.true_or, Bool.or_false, Bool.or_true, Bool.false_or, Nat.reduceSub, ne_scr_nil, at_zero, Int.reduceAdd, Int.reduceSub, Int.reduceMul, sz_lt, dIx_r, bLen_r, isTy_r, app_r, pop_r, clear_r, frz_r, frz_lst, isNone_non, isNone_int, List.lookup_cons, List.lookup_nil, and_self, and_true, true_and, setAt_r, ixN_ok, Option.map_some, List.map_set, List.length_set, snoc_get, snoc_set, setF_r, putFD_nil, putFD_cons, at_one]⟩
  have is : intsOf (p.map fun y : Bx => D.int y.2) = some (p.map (·.2)) := by
    have := intsOf_ints (p.map (·.2))
    rw [List.map_map] at this
    exact this
  have sz : (p.length ≤ sizeLine) = True := eq_true (sz_16 (by have := h.sz p (List.mem_of_getElem? hp); omega))
  refine (call_mut rfl).trans ?_
  rw [m__law_due, runD_ap, z__law_due]
  unfold dueS
  cases z : wh ts P b with
  | some n =>
    rw [z] at e4
    unfold whD at e4
    simp only at e4
    unfold trD at e1
    simp (disch := first | omega | (simp only [List.length_map, List.length_cons, List.length_nil, List.length_append]; omega)) only [List.map_cons, List.map_nil, List.length_cons, List.length_nil, List.length_map, List.replicate, List.cons_append, List.nil_append, List.append_eq, sSeq_ap, sSet_ap, sIf_ap, sRet_ap, sRetN_ap, sExpr_ap, sNext_ap, sBreak_ap, sCont_ap, sPar_ap, sAsg_ap, sFor_ap, gName_ap, eVar_0, eVar_s, eC_ap, aNil_ap, aCons_ap, e2_ap, e3_ap, toB_bl, toB_stuck, tV_ap, tAnd_ap, tOr_ap, tNot_ap, eAnd_ap, eOr_ap, eNot_ap, eIf_ap, eNeg_ap, eTup_ap, eLst_ap, eLstL_ap, eB_ap, eIsi_ap, eCall_ap, eM_ap, eM0_ap, eIsN_ap, eNotN_ap, oNone_ap, oSome_ap, eSl_ap, iTup_ap, iStr_ap, iRange1_ap, iRange2_ap, iLst_ap, iZipD_ap, setAll_nil, setAll_cons, wipeD_nil, wipeD_cons, dAdd_int, dSub_int, dLt_int, dLe_int, dGt_int, dGe_int, dEqX_int, dEqX_str, dNeX_int, dNeX_str, dEqX_nil, dNeX_nil, dIs_bl, dMod_int, div_lit, bind_ok, bind_exc, toS_ok, toS_exc, then_nx, then_rt, then_exc, endD_nx, endD_rt, endD_exc, List.set_cons_succ, List.set_cons_zero, if_true, if_false, Bool.false_eq_true, Bool.not_true, Bool.not_false, decide_true, decide_false, Nat.zero_add, Nat.reduceAdd, lcEnd_f, eLc_ap, eRev_ap, eFld_ap, sFldD_ap, eMeth_ap, sRaise_ap, eFrz_ap, insOf_ins, bTuple_lst, bTuple_tup, bMin2_int, bMax2_int, bAbs_int, bLen_lst, bLen_tup, bLen_scr, bAll_lst, bAny_lst, bSum_lst, dIx_lst, dIx_tup, dIx_scr, bRepr_bl, sz_lit, Int.reduceLT, Int.reduceLE, Int.reducePow, Nat.reduceLT, Nat.reduceLeDiff, Nat.reducePow, gTup_tup, gCons_c, gNil_n, cast_lit, eq_self, Int.reduceEq, Int.reduceNeg, eDic0_f, sTry_ap, eMake_f, ofS_inj, ofS_beq, String.reduceEq, String.reduceBEq, rg1_ap, rg2_ap, eListRg_ap, iRevRg_ap, iZip3D_ap, iEnum_ap, sSetAt_ap, rg_ok, rg_ok2, rgl_ok, mul_r, mul_l, mod_d, at_int', at_bl', p6, p9, p10, p11, p12, p60, dAdd_lst, Int.toNat_natCast, Int.zero_add, Int.sub_zero, bInt_bl, bInt_int, bList_f, dSl_lst, dSl_tup, dSl_scr, List.getElem?_cons_zero, List.getElem?_cons_succ, beq_self_eq_true, Bool.true_or, Bool.or_false, Bool.or_true, Bool.false_or, Nat.reduceSub, ne_scr_nil, at_zero, Int.reduceAdd, Int.reduceSub, Int.reduceMul, sz_lt, dIx_r, bLen_r, isTy_r, app_r, pop_r, clear_r, frz_r, frz_lst, isNone_non, isNone_int, List.lookup_cons, List.lookup_nil, and_self, and_true, true_and, setAt_r, ixN_ok, Option.map_some, List.map_set, List.length_set, snoc_get, snoc_set, setF_r, putFD_nil, putFD_cons, e1, e2, e3, e4, isNone_str]
    rfl
  | none =>
    rw [z] at e4
    unfold whD at e4
    simp only at e4
    unfold trD at e1
    rw [if_neg (by simp)]
    by_cases hh : t.hi ≤ (p.length : Int)
    · have q1' : decide ((p.length : Int) ≥ t.hi) = true := decide_eq_true (by omega)
      simp (disch := first | omega | (simp only [List.length_map, List.length_cons, List.length_nil, List.length_append]; omega)) only [List.map_cons, List.map_nil, List.length_cons, List.length_nil, List.length_map, List.replicate, List.cons_append, List.nil_append, List.append_eq, sSeq_ap, sSet_ap, sIf_ap, sRet_ap, sRetN_ap, sExpr_ap, sNext_ap, sBreak_ap, sCont_ap, sPar_ap, sAsg_ap, sFor_ap, gName_ap, eVar_0, eVar_s, eC_ap, aNil_ap, aCons_ap, e2_ap, e3_ap, toB_bl, toB_stuck, tV_ap, tAnd_ap, tOr_ap, tNot_ap, eAnd_ap, eOr_ap, eNot_ap, eIf_ap, eNeg_ap, eTup_ap, eLst_ap, eLstL_ap, eB_ap, eIsi_ap, eCall_ap, eM_ap, eM0_ap, eIsN_ap, eNotN_ap, oNone_ap, oSome_ap, eSl_ap, iTup_ap, iStr_ap, iRange1_ap, iRange2_ap, iLst_ap, iZipD_ap, setAll_nil, setAll_cons, wipeD_nil, wipeD_cons, dAdd_int, dSub_int, dLt_int, dLe_int, dGt_int, dGe_int, dEqX_int, dEqX_str, dNeX_int, dNeX_str, dEqX_nil, dNeX_nil, dIs_bl, dMod_int, div_lit, bind_ok, bind_exc, toS_ok, toS_exc, then_nx, then_rt, then_exc, endD_nx, endD_rt, endD_exc, List.set_cons_succ, List.set_cons_zero, if_true, if_false, Bool.false_eq_true, Bool.not_true, Bool.not_false, decide_true, decide_false, Nat.zero_add, Nat.reduceAdd, lcEnd_f, eLc_ap, eRev_ap, eFld_ap, sFldD_ap, eMeth_ap, sRaise_ap, eFrz_ap, insOf_ins, bTuple_lst, bTuple_tup, bMin2_int, bMax2_int, bAbs_int, bLen_lst, bLen_tup, bLen_scr, bAll_lst, bAny_lst, bSum_lst, dIx_lst, dIx_tup, dIx_scr, bRepr_bl, sz_lit, Int.reduceLT, Int.reduceLE, Int.reducePow, Nat.reduceLT, Nat.reduceLeDiff, Nat.reducePow, gTup_tup, gCons_c, gNil_n, cast_lit, eq_self, Int.reduceEq, Int.reduceNeg, eDic0_f, sTry_ap, eMake_f, ofS_inj, ofS_beq, String.reduceEq, String.reduceBEq, rg1_ap, rg2_ap, eListRg_ap, iRevRg_ap, iZip3D_ap, iEnum_ap, sSetAt_ap, rg_ok, rg_ok2, rgl_ok, mul_r, mul_l, mod_d, at_int', at_bl', p6, p9, p10, p11, p12, p60, dAdd_lst, Int.toNat_natCast, Int.zero_add, Int.sub_zero, bInt_bl, bInt_int, bList_f, dSl_lst, dSl_tup, dSl_scr, List.getElem?_cons_zero, List.getElem?_cons_succ, beq_self_eq_true, Bool.true_or, Bool.or_false, Bool.or_true, Bool.false_or, Nat.reduceSub, ne_scr_nil, at_zero, Int.reduceAdd, Int.reduceSub, Int.reduceMul, sz_lt, dIx_r, bLen_r, isTy_r, app_r, pop_r, clear_r, frz_r, frz_lst, isNone_non, isNone_int, List.lookup_cons, List.lookup_nil, and_self, and_true, true_and, setAt_r, ixN_ok, Option.map_some, List.map_set, List.length_set, snoc_get, snoc_set, setF_r, putFD_nil, putFD_cons, e1, e2, e3, e4, isNone_non, at0, q1', sz, cm, is]
      rw [if_pos hh]
    · have q1' : decide ((p.length : Int) ≥ t.hi) = false := decide_eq_false (by omega)
      rw [if_neg hh]
      by_cases hs : wtS p + w > t.wt
      · have q2 : decide ((p.map (·.2)).sum + w > t.wt) = true := decide_eq_true (by unfold wtS at hs; omega)
        simp (disch := first | omega | (simp only [List.length_map, List.length_cons, List.length_nil, List.length_append]; omega)) only [List.map_cons, List.map_nil, List.length_cons, List.length_nil, List.length_map, List.replicate, List.cons_append, List.nil_append, List.append_eq, sSeq_ap, sSet_ap, sIf_ap, sRet_ap, sRetN_ap, sExpr_ap, sNext_ap, sBreak_ap, sCont_ap, sPar_ap, sAsg_ap, sFor_ap, gName_ap, eVar_0, eVar_s, eC_ap, aNil_ap, aCons_ap, e2_ap, e3_ap, toB_bl, toB_stuck, tV_ap, tAnd_ap, tOr_ap, tNot_ap, eAnd_ap, eOr_ap, eNot_ap, eIf_ap, eNeg_ap, eTup_ap, eLst_ap, eLstL_ap, eB_ap, eIsi_ap, eCall_ap, eM_ap, eM0_ap, eIsN_ap, eNotN_ap, oNone_ap, oSome_ap, eSl_ap, iTup_ap, iStr_ap, iRange1_ap, iRange2_ap, iLst_ap, iZipD_ap, setAll_nil, setAll_cons, wipeD_nil, wipeD_cons, dAdd_int, dSub_int, dLt_int, dLe_int, dGt_int, dGe_int, dEqX_int, dEqX_str, dNeX_int, dNeX_str, dEqX_nil, dNeX_nil, dIs_bl, dMod_int, div_lit, bind_ok, bind_exc, toS_ok, toS_exc, then_nx, then_rt, then_exc, endD_nx, endD_rt, endD_exc, List.set_cons_succ, List.set_cons_zero, if_true, if_false, Bool.false_eq_true, Bool.not_true, Bool.not_false, decide_true, decide_false, Nat.zero_add, Nat.reduceAdd, lcEnd_f, eLc_ap, eRev_ap, eFld_ap, sFldD_ap, eMeth_ap, sRaise_ap, eFrz_ap, insOf_ins, bTuple_lst, bTuple_tup, bMin2_int, bMax2_int, bAbs_int, bLen_lst, bLen_tup, bLen_scr, bAll_lst, bAny_lst, bSum_lst, dIx_lst, dIx_tup, dIx_scr, bRepr_bl, sz_lit, Int.reduceLT, Int.reduceLE, Int.reducePow, Nat.reduceLT, Nat.reduceLeDiff, Nat.reducePow, gTup_tup, gCons_c, gNil_n, cast_lit, eq_self, Int.reduceEq, Int.reduceNeg, eDic0_f, sTry_ap, eMake_f, ofS_inj, ofS_beq, String.reduceEq, String.reduceBEq, rg1_ap, rg2_ap, eListRg_ap, iRevRg_ap, iZip3D_ap, iEnum_ap, sSetAt_ap, rg_ok, rg_ok2, rgl_ok, mul_r, mul_l, mod_d, at_int', at_bl', p6, p9, p10, p11, p12, p60, dAdd_lst, Int.toNat_natCast, Int.zero_add, Int.sub_zero, bInt_bl, bInt_int, bList_f, dSl_lst, dSl_tup, dSl_scr, List.getElem?_cons_zero, List.getElem?_cons_succ, beq_self_eq_true, Bool.true_or, Bool.or_false, Bool.or_true, Bool.false_or, Nat.reduceSub, ne_scr_nil, at_zero, Int.reduceAdd, Int.reduceSub, Int.reduceMul, sz_lt, dIx_r, bLen_r, isTy_r, app_r, pop_r, clear_r, frz_r, frz_lst, isNone_non, isNone_int, List.lookup_cons, List.lookup_nil, and_self, and_true, true_and, setAt_r, ixN_ok, Option.map_some, List.map_set, List.length_set, snoc_get, snoc_set, setF_r, putFD_nil, putFD_cons, e1, e2, e3, e4, isNone_non, at0, q1', q2, sz, cm, is]
        rw [if_pos hs]
      · have q2 : decide ((p.map (·.2)).sum + w > t.wt) = false := decide_eq_false (by unfold wtS at hs; omega)
        simp (disch := first | omega | (simp only [List.length_map, List.length_cons, List.length_nil, List.length_append]; omega)) only [List.map_cons, List.map_nil, List.length_cons, List.length_nil, List.length_map, List.replicate, List.cons_append, List.nil_append, List.append_eq, sSeq_ap, sSet_ap, sIf_ap, sRet_ap, sRetN_ap, sExpr_ap, sNext_ap, sBreak_ap, sCont_ap, sPar_ap, sAsg_ap, sFor_ap, gName_ap, eVar_0, eVar_s, eC_ap, aNil_ap, aCons_ap, e2_ap, e3_ap, toB_bl, toB_stuck, tV_ap, tAnd_ap, tOr_ap, tNot_ap, eAnd_ap, eOr_ap, eNot_ap, eIf_ap, eNeg_ap, eTup_ap, eLst_ap, eLstL_ap, eB_ap, eIsi_ap, eCall_ap, eM_ap, eM0_ap, eIsN_ap, eNotN_ap, oNone_ap, oSome_ap, eSl_ap, iTup_ap, iStr_ap, iRange1_ap, iRange2_ap, iLst_ap, iZipD_ap, setAll_nil, setAll_cons, wipeD_nil, wipeD_cons, dAdd_int, dSub_int, dLt_int, dLe_int, dGt_int, dGe_int, dEqX_int, dEqX_str, dNeX_int, dNeX_str, dEqX_nil, dNeX_nil, dIs_bl, dMod_int, div_lit, bind_ok, bind_exc, toS_ok, toS_exc, then_nx, then_rt, then_exc, endD_nx, endD_rt, endD_exc, List.set_cons_succ, List.set_cons_zero, if_true, if_false, Bool.false_eq_true, Bool.not_true, Bool.not_false, decide_true, decide_false, Nat.zero_add, Nat.reduceAdd, lcEnd_f, eLc_ap, eRev_ap, eFld_ap, sFldD_ap, eMeth_ap, sRaise_ap, eFrz_ap, insOf_ins, bTuple_lst, bTuple_tup, bMin2_int, bMax2_int, bAbs_int, bLen_lst, bLen_tup, bLen_scr, bAll_lst, bAny_lst, bSum_lst, dIx_lst, dIx_tup, dIx_scr, bRepr_bl, sz_lit, Int.reduceLT, Int.reduceLE, Int.reducePow, Nat.reduceLT, Nat.reduceLeDiff, Nat.reducePow, gTup_tup, gCons_c, gNil_n, cast_lit, eq_self, Int.reduceEq, Int.reduceNeg, eDic0_f, sTry_ap, eMake_f, ofS_inj, ofS_beq, String.reduceEq, String.reduceBEq, rg1_ap, rg2_ap, eListRg_ap, iRevRg_ap, iZip3D_ap, iEnum_ap, sSetAt_ap, rg_ok, rg_ok2, rgl_ok, mul_r, mul_l, mod_d, at_int', at_bl', p6, p9, p10, p11, p12, p60, dAdd_lst, Int.toNat_natCast, Int.zero_add, Int.sub_zero, bInt_bl, bInt_int, bList_f, dSl_lst, dSl_tup, dSl_scr, List.getElem?_cons_zero, List.getElem?_cons_succ, beq_self_eq_true, Bool.true_or, Bool.or_false, Bool.or_true, Bool.false_or, Nat.reduceSub, ne_scr_nil, at_zero, Int.reduceAdd, Int.reduceSub, Int.reduceMul, sz_lt, dIx_r, bLen_r, isTy_r, app_r, pop_r, clear_r, frz_r, frz_lst, isNone_non, isNone_int, List.lookup_cons, List.lookup_nil, and_self, and_true, true_and, setAt_r, ixN_ok, Option.map_some, List.map_set, List.length_set, snoc_get, snoc_set, setF_r, putFD_nil, putFD_cons, e1, e2, e3, e4, isNone_non, at0, q1', q2, sz, cm, is]
        rw [if_neg hs]
end
end Q
namespace Q
open PySem L2 Mi
theorem Pil.same {S S' : Store} {P : List (List Bx)} {pl : List Nat} (h : Pil S P pl) (e : ∀ m ∈ pl, S'[m]? = S[m]?) : Pil S' P pl where
  n := h.n
  at_ := fun j m r hm hr => by rw [e m (List.mem_of_getElem? hm)]; exact h.at_ j m r hm hr
theorem StI.same {c : Nat} {S S' : Store} {ts : List TR} {P : List (List Bx)} {pl : List Nat} {s : Nat} (h : StI c S ts P pl s) (e : ∀ m ∈ s :: pl, S'[m]? = S[m]?) : StI c S' ts P pl s where
  told := h.told
  Pn := h.Pn
  pil := h.pil.same fun m hm => e m (List.mem_cons_of_mem _ hm)
  nd := h.nd
  sp := by
    obtain ⟨kds, k1, k2⟩ := h.sp
    exact ⟨kds, by rw [e s List.mem_cons_self]; exact k1, k2⟩
theorem OwI.same {S S' : Store} {ts : List TR} {P : List (List Bx)} {ql : List Nat} (h : OwI S ts P ql) (e : ∀ m ∈ ql, S'[m]? = S[m]?) : OwI S' ts P ql := ⟨h.told, h.Pn, h.pil.same e, h.nd, h.sz⟩
def BxOk (x : Bx) : Prop := NmOk x.1 ∧ 1 ≤ x.2 ∧ x.2 ≤ 1000000000000
/-- the program's stacks and the law's own, side by side -/
structure Twin (c : Nat) (S : Store) (ts : List TR) (P : List (List Bx)) (pl : List Nat) (s : Nat) (ql : List Nat) : Prop where
  st : StI c S ts P pl s
  ow : OwI S ts P ql
  dj : ∀ m ∈ ql, m ∉ s :: pl
  nn : (names P).Nodup
  bx : ∀ p ∈ P, ∀ x ∈ p, BxOk x
theorem Twin.same {c : Nat} {S S' : Store} {ts : List TR} {P : List (List Bx)} {pl ql : List Nat} {s : Nat} (h : Twin c S ts P pl s ql) (e : ∀ m, m ∈ s :: pl ∨ m ∈ ql → S'[m]? = S[m]?) : Twin c S' ts P pl s ql :=
  ⟨h.st.same fun m hm => e m (.inl hm), h.ow.same fun m hm => e m (.inr hm), h.dj, h.nn, h.bx⟩
theorem set_all {P : List (List Bx)} {i : Nat} {q : List Bx} {Q : List Bx → Prop} (h : ∀ p ∈ P, Q p) (hq : Q q) : ∀ p ∈ P.set i q, Q p := fun p hp => by
  rcases List.mem_or_eq_of_mem_set hp with h1 | rfl
  · exact h p h1
  · exact hq
theorem bx_rp {x : Bx} (h : BxOk x) : Rp 400 1 (bxD x) := by
  obtain ⟨⟨h1, h2, h3⟩, h4, h5⟩ := h
  refine (Rp.tup (n := 103) (m := 0) fun d hd => ?_).le (by simp) (Nat.le_refl _)
  simp only [List.mem_cons, List.not_mem_nil, or_false] at hd
  rcases hd with rfl | rfl
  · have := Rp.str (sL_ok (l := x.1) fun c hc => by have := h3 c hc; omega)
    exact this.le (by omega) (Nat.le_refl _)
  · exact Rp.int (by omega)
theorem has_idx {α : Type} {l : List α} {i : Nat} {k : Nat} (h : i < k) (e : l.length = k) : ∃ x, l[i]? = some x := ⟨l[i], List.getElem?_eq_getElem (by omega)⟩
end Q
namespace Q
open PySem L2 Mi
theorem nm_rp {l : List Nat} (h : NmOk l) : Rp 100 0 (.str (sL l)) :=
  (Rp.str (sL_ok (l := l) fun c hc => by have := h.2.2 c hc; omega)).le (by have := h.2.1; omega) (Nat.le_refl _)
theorem srt_rp {ts : List TR} (h : Told ts) : Rp 3000 1 (.lst ((sortStr (ts.map fun t => sL t.nm)).map .str)) := by
  have hi := h.hi
  refine (Rp.lst (n := 100) (m := 0) fun d hd => ?_).le ?_ (Nat.le_refl _)
  · obtain ⟨z, hz, rfl⟩ := List.mem_map.mp hd
    have := (sortStr_perm _).subset hz
    obtain ⟨t, ht, rfl⟩ := List.mem_map.mp this
    exact nm_rp (h.ok t ht).nm
  · rw [List.length_map, (sortStr_perm _).length_eq, List.length_map]; omega
theorem pile_rp {p : List Bx} (h : ∀ x ∈ p, BxOk x) (hl : p.length ≤ 100) : Rp 41000 2 (.lst (p.map bxD)) := by
  refine (Rp.lst (n := 400) (m := 1) fun d hd => ?_).le ?_ (Nat.le_refl _)
  · obtain ⟨x, hx, rfl⟩ := List.mem_map.mp hd
    exact bx_rp (h x hx)
  · rw [List.length_map]; omega
theorem snoc2 {S : Store} {a b : Option O} : (S ++ [a] ++ [b])[S.length]? = some a := by
  rw [List.append_assoc]; exact mid_get
theorem snoc2' {S : Store} {a b : Option O} : (S ++ [a] ++ [b])[S.length + 1]? = some b := by
  have : S.length + 1 = (S ++ [a]).length := by simp
  rw [this]; exact snoc_get
end Q
namespace Q
open PySem L2 Mi
theorem Pil.lt {S : Store} {P : List (List Bx)} {pl : List Nat} (h : Pil S P pl) {m : Nat} (hm : m ∈ pl) : m < S.length := by
  obtain ⟨i, hi⟩ := List.getElem?_of_mem hm
  have : i < P.length := by rw [← h.n]; exact (List.getElem?_eq_some_iff.mp hi).1
  exact (List.getElem?_eq_some_iff.mp (h.at_ i m _ hi (List.getElem?_eq_getElem this))).1
theorem StI.lt {c : Nat} {S : Store} {ts : List TR} {P : List (List Bx)} {pl : List Nat} {s : Nat} (h : StI c S ts P pl s) {m : Nat} (hm : m ∈ s :: pl) : m < S.length := by
  rcases List.mem_cons.mp hm with rfl | hm
  · obtain ⟨kds, k1, _⟩ := h.sp
    exact (List.getElem?_eq_some_iff.mp k1).1
  · exact h.pil.lt hm
theorem StI.app {c : Nat} {S : Store} {ts : List TR} {P : List (List Bx)} {pl : List Nat} {s : Nat} (h : StI c S ts P pl s) (T : Store) : StI c (S ++ T) ts P pl s := h.same fun m hm => List.getElem?_append_left (h.lt hm)
theorem OwI.app {S : Store} {ts : List TR} {P : List (List Bx)} {ql : List Nat} (h : OwI S ts P ql) (T : Store) : OwI (S ++ T) ts P ql := h.same fun m hm => List.getElem?_append_left (h.pil.lt hm)
theorem Twin.app {c : Nat} {S : Store} {ts : List TR} {P : List (List Bx)} {pl ql : List Nat} {s : Nat} (h : Twin c S ts P pl s ql) (T : Store) : Twin c (S ++ T) ts P pl s ql := ⟨h.st.app T, h.ow.app T, h.dj, h.nn, h.bx⟩
theorem norefs_app {xs ys : List D} : norefs (xs ++ ys) = (norefs xs && norefs ys) := by
  induction xs with
  | nil => simp [norefs]
  | cons x xs ih => simp [norefs, ih, Bool.and_assoc]
theorem strs_tr : ∀ ts : List TR, strsOf (ts.map fun t => D.str (sL t.nm)) = some (ts.map fun t => sL t.nm)
  | [] => rfl
  | t :: ts => by rw [List.map_cons, List.map_cons]; show (strsOf _).map _ = _; rw [strs_tr ts]; rfl
theorem mid_set' {S T : Store} {x y : Option O} : (S ++ ([x] ++ T)).set S.length y = S ++ ([y] ++ T) := mid_set
theorem big4 : 41000 ≤ sizeLine := by decide
theorem big3 : 3000 ≤ sizeLine := by decide
end Q
namespace Q
open PySem L2 Mi
theorem gc_app {n : Nat} {m : GD} {ds : List D} {d : D} {S T : Store} (hn : ds.length = n) (h : m ds S = .ok d (S ++ T)) (hd : ltR S.length d = true) (hc : clSt S.length S = true) : callD n (gcD m) [] ds S = .ok d S := by
  refine (call_mut hn).trans ?_
  unfold gcD
  rw [h]
  have e : (S ++ T).take S.length = S := by rw [List.take_append_of_le_length (Nat.le_refl _), List.take_length]
  simp only [e]
  rw [if_pos ⟨hd, hc⟩]
/-! the law's own loop: what stands -/
mutual
theorem ltR_mono {n m : Nat} (h : n ≤ m) : ∀ {d : D}, ltR n d = true → ltR m d = true
  | .non, _ => rfl
  | .bl _, _ => rfl
  | .int _, _ => rfl
  | .str _, _ => rfl
  | .ty _, _ => rfl
  | .cls _, _ => rfl
  | .ref _, e => by simp only [ltR, decide_eq_true_eq] at *; omega
  | .tup xs, e => by simp only [ltR] at *; exact ltRs_mono h e
  | .lst xs, e => by simp only [ltR] at *; exact ltRs_mono h e
  | .scr xs, e => by simp only [ltR] at *; exact ltRs_mono h e
  | .dic kvs, e => by simp only [ltR] at *; exact ltK_mono h e
  | .ins _ fs, e => by simp only [ltR] at *; exact ltF_mono h e
  | .exc _ fs, e => by simp only [ltR] at *; exact ltF_mono h e
theorem ltRs_mono {n m : Nat} (h : n ≤ m) : ∀ {ds : List D}, ltRs n ds = true → ltRs m ds = true
  | [], _ => rfl
  | d :: ds, e => by
    simp only [ltRs, Bool.and_eq_true] at *
    exact ⟨ltR_mono h e.1, ltRs_mono h e.2⟩
theorem ltK_mono {n m : Nat} (h : n ≤ m) : ∀ {ds : List (Key × D)}, ltK n ds = true → ltK m ds = true
  | [], _ => rfl
  | (_, d) :: ds, e => by
    simp only [ltK, Bool.and_eq_true] at *
    exact ⟨ltR_mono h e.1, ltK_mono h e.2⟩
theorem ltF_mono {n m : Nat} (h : n ≤ m) : ∀ {ds : List (Str × D)}, ltF n ds = true → ltF m ds = true
  | [], _ => rfl
  | (_, d) :: ds, e => by
    simp only [ltF, Bool.and_eq_true] at *
    exact ⟨ltR_mono h e.1, ltF_mono h e.2⟩
end
theorem ltO_mono {n m : Nat} (h : n ≤ m) : ∀ {o : O}, ltO n o = true → ltO m o = true
  | .lst _, e => ltRs_mono h e
  | .dic _, e => ltK_mono h e
  | .ins _ _, e => ltF_mono h e
theorem cl_iff {n : Nat} {S : Store} : clSt n S = true ↔ ∀ (m : Nat) (o : O), S[m]? = some (some o) → ltO n o = true := by
  unfold clSt
  rw [List.all_eq_true]
  refine ⟨fun h m o hm => ?_, fun h o ho => ?_⟩
  · exact h (some o) (List.mem_of_getElem? hm)
  · obtain ⟨m, hm⟩ := List.getElem?_of_mem ho
    cases o with
    | none => rfl
    | some o => exact h m o hm
/-- a store whose things know of nothing beyond it -/
def Cl (S : Store) : Prop := clSt S.length S = true
theorem Cl.app {S T : Store} (h : Cl S) (hT : ∀ o, some o ∈ T → ltO (S.length + T.length) o = true) : Cl (S ++ T) := by
  unfold Cl at *
  rw [clSt_app, Bool.and_eq_true, List.length_append]
  refine ⟨cl_iff.mpr fun m o hm => ltO_mono (Nat.le_add_right _ _) (cl_iff.mp h m o hm), cl_iff.mpr fun m o hm => hT o (List.mem_of_getElem? hm)⟩
theorem Cl.set {S : Store} (h : Cl S) {l : Nat} {x : Option O} (hx : ∀ o, x = some o → ltO S.length o = true) : Cl (S.set l x) := by
  unfold Cl at *
  rw [List.length_set]
  refine cl_iff.mpr fun m o hm => ?_
  rw [List.getElem?_set] at hm
  split at hm
  · split at hm
    · exact hx o (by cases hm; rfl)
    · cases hm
  · exact cl_iff.mp h m o hm
theorem bx_nr (p : List Bx) : norefs (p.map bxD) = true := nr_map fun _ _ => rfl
theorem Pil.cl {S : Store} {P : List (List Bx)} {pl : List Nat} (h : Pil S P pl) {m n : Nat} {o : O} (hm : m ∈ pl) (e : S[m]? = some (some o)) : ltO n o = true := by
  obtain ⟨i, hi⟩ := List.getElem?_of_mem hm
  have : i < P.length := by rw [← h.n]; exact (List.getElem?_eq_some_iff.mp hi).1
  have a := h.at_ i m _ hi (List.getElem?_eq_getElem this)
  rw [a] at e
  cases e
  exact nrs_lt (bx_nr _)
/-- a deed changes the piles and the spots only -/
theorem Twin.cl {c' : Nat} {S S' : Store} {ts : List TR} {P' : List (List Bx)} {pl ql : List Nat} {s : Nat} (h : Cl S) (e : S'.length = S.length) (same : ∀ m, m ∉ ql → m ∉ s :: pl → S'[m]? = S[m]?) (t : Twin c' S' ts P' pl s ql) : Cl S' := by
  unfold Cl
  rw [e]
  refine cl_iff.mpr fun m o hm => ?_
  by_cases m1 : m ∈ ql
  · exact t.ow.pil.cl m1 hm
  · by_cases m2 : m ∈ s :: pl
    · rcases List.mem_cons.mp m2 with rfl | m2
      · obtain ⟨kds, k1, k2, k3⟩ := t.st.sp
        rw [k1] at hm
        cases hm
        exact nrk_lt k2.2
      · exact t.st.pil.cl m2 hm
    · rw [same m m1 m2] at hm
      exact cl_iff.mp h m o hm
theorem StI.mono {c c' : Nat} {S : Store} {ts : List TR} {P : List (List Bx)} {pl : List Nat} {s : Nat} (h : StI c S ts P pl s) (hc : c ≤ c') : StI c' S ts P pl s where
  told := h.told
  Pn := h.Pn
  pil := h.pil
  nd := h.nd
  sp := by
    obtain ⟨kds, k1, k2, k3⟩ := h.sp
    exact ⟨kds, k1, ⟨by omega, k2.2⟩, k3⟩
theorem Twin.mono {c c' : Nat} {S : Store} {ts : List TR} {P : List (List Bx)} {pl ql : List Nat} {s : Nat} (h : Twin c S ts P pl s ql) (hc : c ≤ c') : Twin c' S ts P pl s ql := ⟨h.st.mono hc, h.ow, h.dj, h.nn, h.bx⟩
/-- what the past keeps -/
structure Ent where
  P : List (List Bx)
  pl : List Nat
  s : Nat
  ql : List Nat
def Ent.has (e : Ent) (m : Nat) : Prop := m ∈ e.s :: e.pl ∨ m ∈ e.ql
def entD (ts : List TR) (e : Ent) : D := .tup [stV ts e.pl e.s, ownV ts e.ql]
structure LawI (c : Nat) (S : Store) (ts : List TR) (pp : Nat) (L : List Ent) (e : Ent) : Prop where
  tw : Twin c S ts e.P e.pl e.s e.ql
  pa : S[pp]? = some (some (.lst (L.map (entD ts))))
  pn : ¬ e.has pp
  es : ∀ x ∈ L, Twin 1000 S ts x.P x.pl x.s x.ql ∧ ¬ x.has pp ∧ ∀ m, x.has m → ¬ e.has m
  cl : Cl S
theorem LawI.deed {c : Nat} {S S' : Store} {ts : List TR} {pp : Nat} {L : List Ent} {e : Ent} {P' : List (List Bx)} (h : LawI c S ts pp L e) (hl : S'.length = S.length) (same : ∀ m, m ∉ e.ql → m ∉ e.s :: e.pl → S'[m]? = S[m]?) (t : Twin (c + 1) S' ts P' e.pl e.s e.ql) : LawI (c + 1) S' ts pp L ⟨P', e.pl, e.s, e.ql⟩ where
  tw := t
  pa := by rw [same pp (fun z => h.pn (.inr z)) (fun z => h.pn (.inl z))]; exact h.pa
  pn := h.pn
  es := fun x hx => by
    obtain ⟨h1, h2, h3⟩ := h.es x hx
    exact ⟨h1.same fun m hm => same m (fun z => h3 m hm (.inr z)) (fun z => h3 m hm (.inl z)), h2, h3⟩
  cl := t.cl h.cl hl same
theorem plR_len {n m : Nat} : (plR n m).length = m := by unfold plR; rw [List.length_map, List.length_range]
theorem mem_plR {n m x : Nat} (h : x ∈ plR n m) : n ≤ x ∧ x < n + m := by
  unfold plR at h
  obtain ⟨i, hi, rfl⟩ := List.mem_map.mp h
  have := List.mem_range.mp hi
  omega
theorem plR_get {n m i l : Nat} (h : (plR n m)[i]? = some l) : l = n + i := by
  unfold plR at h
  rw [List.getElem?_map] at h
  by_cases hi : i < m
  · rw [List.getElem?_range hi] at h; cases h; rfl
  · rw [List.getElem?_eq_none (by simp; omega)] at h; cases h
theorem plR_nodup {n m : Nat} : (plR n m).Nodup := by
  unfold plR
  rw [List.nodup_iff_pairwise_ne, List.pairwise_map]
  exact List.Pairwise.imp (fun h e => h (by omega)) List.nodup_range
/-- piles laid one behind another -/
theorem pil_new {S T : Store} {P : List (List Bx)} {n k : Nat} (hn : n = S.length) (hk : k = P.length) : Pil (S ++ ((P.map fun p => some (O.lst (p.map bxD))) ++ T)) P (plR n k) where
  n := by rw [plR_len, hk]
  at_ := fun i l p hl hp => by
    rw [plR_get hl, hn, List.getElem?_append_right (by omega), Nat.add_sub_cancel_left, List.getElem?_append_left (by rw [List.length_map]; exact (List.getElem?_eq_some_iff.mp hp).1), List.getElem?_map, hp]; rfl
theorem StI.copied {c : Nat} {S : Store} {ts : List TR} {P : List (List Bx)} {pl : List Nat} {s : Nat} (h : StI c S ts P pl s) {kds : List (Key × D)} (hk : S[s]? = some (some (.dic kds))) : StI c (cpS S ts.length P kds) ts P (plR (S.length + ts.length + 2) ts.length) (S.length + ts.length + 2 + ts.length) := by
  have e : cpS S ts.length P kds = (S ++ none :: (repO ts.length ++ [some (O.dic [])])) ++ ((P.map fun p => some (O.lst (p.map bxD))) ++ [some (O.dic kds)]) := by
    unfold cpS
    simp only [List.append_assoc, List.cons_append]
  have len : (S ++ none :: (repO ts.length ++ [some (O.dic [])])).length = S.length + ts.length + 2 := by
    rw [List.length_append, List.length_cons, List.length_append]; unfold repO; rw [List.length_replicate, List.length_singleton]; omega
  rw [e]
  refine ⟨h.told, h.Pn, pil_new len.symm h.Pn.symm, ?_, ?_⟩
  · refine List.nodup_cons.mpr ⟨fun z => ?_, plR_nodup⟩
    have := mem_plR z
    omega
  · obtain ⟨kd, k1, k2, k3⟩ := h.sp
    rw [hk] at k1
    cases k1
    refine ⟨kds, ?_, k2, k3⟩
    rw [← List.append_assoc, List.getElem?_append_right (by rw [List.length_append, len, List.length_map, h.Pn]; omega), List.length_append, len, List.length_map, h.Pn, Nat.sub_self]; rfl
theorem cpS_app {S : Store} {n : Nat} {P : List (List Bx)} {kds : List (Key × D)} : cpS S n P kds = S ++ (none :: (repO n ++ [some (.dic [])] ++ (P.map fun p => some (.lst (p.map bxD))) ++ [some (.dic kds)])) := rfl
theorem rep_cl {n k : Nat} {o : O} (h : some o ∈ repO n) : ltO k o = true := by
  unfold repO at h
  have := (List.mem_replicate.mp h).2
  cases this; rfl
theorem pil_cl {k : Nat} {o : O} {P : List (List Bx)} (h : some o ∈ P.map fun p => some (O.lst (p.map bxD))) : ltO k o = true := by
  obtain ⟨p, _, e⟩ := List.mem_map.mp h
  cases e
  exact nrs_lt (bx_nr p)
theorem cpS_cl {S : Store} {n : Nat} {P : List (List Bx)} {kds : List (Key × D)} (h : Cl S) (hk : norefK kds = true) : Cl (cpS S n P kds) := by
  rw [cpS_app]
  refine h.app fun o ho => ?_
  simp only [List.mem_cons, List.mem_append, List.not_mem_nil, or_false, reduceCtorEq, false_or, Option.some.injEq] at ho
  rcases ho with ((ho | rfl) | ho) | rfl
  · exact rep_cl ho
  · rfl
  · exact pil_cl ho
  · exact nrk_lt hk
theorem cpS_len {S : Store} {n : Nat} {P : List (List Bx)} {kds : List (Key × D)} (hP : P.length = n) : (cpS S n P kds).length = S.length + n + 2 + n + 1 := by
  rw [cpS_app]
  unfold repO
  simp only [List.length_append, List.length_cons, List.length_replicate, List.length_map, List.length_nil]
  omega
theorem lt_pilL {n : Nat} : ∀ {ts : List TR} {pl : List Nat}, (∀ m ∈ pl, m < n) → ltK n (pilL ts pl) = true
  | [], pl, _ => by unfold pilL; rw [List.zip_nil_left]; rfl
  | t :: ts, [], _ => rfl
  | t :: ts, m :: pl, h => by
    have e : pilL (t :: ts) (m :: pl) = (nmK t, .ref m) :: pilL ts pl := rfl
    rw [e]
    simp only [ltK, ltR, Bool.and_eq_true, decide_eq_true_eq]
    exact ⟨h m List.mem_cons_self, lt_pilL fun x hx => h x (List.mem_cons_of_mem _ hx)⟩
theorem knL_nr (ts : List TR) : norefK (knL ts) = true := by
  unfold knL
  induction ts with
  | nil => rfl
  | cons t ts ih => rw [List.map_cons]; simp only [norefK, Bool.and_eq_true]; exact ⟨rfl, ih⟩
theorem lt_stV {n : Nat} {ts : List TR} {pl : List Nat} {s : Nat} (h : ∀ m ∈ s :: pl, m < n) : ltR n (stV ts pl s) = true := by
  unfold stV
  simp only [ltR, ltF, Bool.and_eq_true, decide_eq_true_eq]
  exact ⟨nrk_lt (knL_nr ts), lt_pilL fun m hm => h m (List.mem_cons_of_mem _ hm), h s List.mem_cons_self, trivial⟩
theorem lt_ownV {n : Nat} {ts : List TR} {ql : List Nat} (h : ∀ m ∈ ql, m < n) : ltR n (ownV ts ql) = true := by
  unfold ownV
  simp only [ltR, ltK, Bool.and_eq_true]
  exact ⟨nrs_lt (tr_nr ts), lt_pilL h, trivial⟩
theorem lt_entD {n : Nat} {ts : List TR} {e : Ent} (h : ∀ m, e.has m → m < n) : ltR n (entD ts e) = true := by
  unfold entD
  simp only [ltR, ltRs, Bool.and_eq_true]
  exact ⟨lt_stV fun m hm => h m (.inl hm), lt_ownV fun m hm => h m (.inr hm), trivial⟩
theorem Twin.lt {c : Nat} {S : Store} {ts : List TR} {P : List (List Bx)} {pl ql : List Nat} {s : Nat} (h : Twin c S ts P pl s ql) {m : Nat} (hm : m ∈ s :: pl ∨ m ∈ ql) : m < S.length := by
  rcases hm with hm | hm
  · exact h.st.lt hm
  · exact h.ow.pil.lt hm
theorem lts_ents {n : Nat} {ts : List TR} {L : List Ent} (h : ∀ x ∈ L, ∀ m, x.has m → m < n) : ltRs n (L.map (entD ts)) = true := by
  induction L with
  | nil => rfl
  | cons x L ih =>
    rw [List.map_cons]
    simp only [ltRs, Bool.and_eq_true]
    exact ⟨lt_entD (h x List.mem_cons_self), ih fun y hy => h y (List.mem_cons_of_mem _ hy)⟩
/-- a copy made, and the old one put by -/
theorem LawI.copy {c : Nat} {S : Store} {ts : List TR} {pp : Nat} {L : List Ent} {e : Ent} (h : LawI c S ts pp L e) (hc : c ≤ 1000) {kds : List (Key × D)} (hk : S[e.s]? = some (some (.dic kds))) :
    LawI c (((cpS S ts.length e.P kds) ++ e.P.map fun p => some (O.lst (p.map bxD))).set pp (some (O.lst ((L ++ [Ent.mk e.P e.pl e.s (plR (cpS S ts.length e.P kds).length ts.length)]).map (entD ts))))) ts pp
      (L ++ [⟨e.P, e.pl, e.s, plR (cpS S ts.length e.P kds).length ts.length⟩]) ⟨e.P, plR (S.length + ts.length + 2) ts.length, S.length + ts.length + 2 + ts.length, e.ql⟩ := by
  have hP := h.tw.st.Pn
  let S2 : Store := cpS S ts.length e.P kds
  have len2 : S2.length = S.length + ts.length + 2 + ts.length + 1 := cpS_len hP
  let T : Store := e.P.map fun p => some (O.lst (p.map bxD))
  have Tl : T.length = ts.length := by show (List.map _ _).length = _; rw [List.length_map, hP]
  have ppl : pp < S.length := (List.getElem?_eq_some_iff.mp h.pa).1
  have tw2 : Twin c (S2 ++ T) ts e.P e.pl e.s e.ql := (h.tw.app _).app T
  have cp2 : StI c (S2 ++ T) ts e.P (plR (S.length + ts.length + 2) ts.length) (S.length + ts.length + 2 + ts.length) := (h.tw.st.copied hk).app T
  have kp2 : Pil (S2 ++ T) e.P (plR S2.length ts.length) := by
    have := pil_new (S := S2) (T := []) (P := e.P) rfl hP.symm
    rwa [List.append_nil] at this
  have nS : ∀ m, m ∈ (S.length + ts.length + 2 + ts.length) :: plR (S.length + ts.length + 2) ts.length → S.length ≤ m ∧ m < S2.length := fun m hm => by
    rcases List.mem_cons.mp hm with rfl | hm
    · omega
    · have := mem_plR hm; omega
  have nK : ∀ m, m ∈ plR S2.length ts.length → S2.length ≤ m ∧ m < S2.length + ts.length := fun m hm => mem_plR hm
  let d : O := .lst ((L ++ [Ent.mk e.P e.pl e.s (plR S2.length ts.length)]).map (entD ts))
  have st : ∀ m, m ≠ pp → ((S2 ++ T).set pp (some d))[m]? = (S2 ++ T)[m]? := fun m hm => List.getElem?_set_ne fun z => hm z.symm
  have eS : ∀ m, e.has m → m < S.length := fun m hm => h.tw.lt hm
  have clc : Cl (S2 ++ T) := (cpS_cl h.cl (by obtain ⟨kd, k1, k2, k3⟩ := h.tw.st.sp; rw [hk] at k1; cases k1; exact k2.2)).app fun o ho => pil_cl ho
  have ne1 : ∀ m ∈ (S.length + ts.length + 2 + ts.length) :: plR (S.length + ts.length + 2) ts.length, m ≠ pp := fun m hm z => by have := nS m hm; omega
  have nk1 : ∀ m ∈ plR S2.length ts.length, m ≠ pp := fun m hm z => by have := nK m hm; omega
  have keep : Twin c ((S2 ++ T).set pp (some d)) ts e.P e.pl e.s (plR S2.length ts.length) := by
    refine ⟨tw2.st.same fun m hm => st m fun z => h.pn (.inl (z ▸ hm)), ⟨h.tw.ow.told, h.tw.ow.Pn, kp2.same fun m hm => st m (nk1 m hm), plR_nodup, h.tw.ow.sz⟩, fun m hm z => ?_, h.tw.nn, h.tw.bx⟩
    have a := eS m (.inl z)
    have b := nK m hm
    omega
  refine ⟨⟨cp2.same fun m hm => st m (ne1 m hm), tw2.ow.same fun m hm => st m fun z => h.pn (.inr (z ▸ hm)), fun m hm z => ?_, h.tw.nn, h.tw.bx⟩, ?_, ?_, ?_, ?_⟩
  · have a := eS m (.inr hm)
    have b := nS m z
    omega
  · show ((S2 ++ T).set pp (some d))[pp]? = _
    rw [List.getElem?_set_self (by rw [List.length_append]; omega)]
  · rintro (z | z)
    · exact ne1 pp z rfl
    · exact h.pn (.inr z)
  · intro x hx
    rcases List.mem_append.mp hx with hx | hx
    · obtain ⟨h1, h2, h3⟩ := h.es x hx
      refine ⟨((h1.app _).app T).same fun m hm => st m fun z => h2 (z ▸ hm), h2, fun m hm => ?_⟩
      rintro (z | z)
      · have a := h1.lt hm
        have b := nS m z
        omega
      · exact h3 m hm (.inr z)
    · rw [List.mem_singleton.mp hx]
      refine ⟨keep.mono hc, ?_, fun m hm => ?_⟩
      · rintro (z | z)
        · exact h.pn (.inl z)
        · exact nk1 pp z rfl
      · rintro (z | z)
        · have b := nS m z
          rcases hm with hm | hm
          · have a := eS m (.inl hm); omega
          · have a := nK m hm; omega
        · rcases hm with hm | hm
          · exact h.tw.dj m z hm
          · have a := nK m hm
            have b := eS m (.inr z)
            omega
  · refine clc.set fun o ho => ?_
    cases ho
    refine lts_ents fun x hx m hm => ?_
    rw [List.length_append, Tl]
    show m < S2.length + _
    rcases List.mem_append.mp hx with hx | hx
    · have := (h.es x hx).1.lt hm
      omega
    · rw [List.mem_singleton.mp hx] at hm
      rcases hm with hm | hm
      · have := eS m (.inl hm); omega
      · have := nK m hm; omega
end Q
namespace Q
open PySem L2 Mi
/-! what is refused -/
section
variable {c : Nat} {S : Store} {ts : List TR} {P : List (List Bx)} {pl : List Nat} {s i l : Nat} {t : TR} {p q : List Bx} {x : Bx} {b : List Nat} {w : Int}
theorem v_put_twice (h : StI c S ts P pl s) (tm : t ∈ ts) (nb : NmOk b) (w0 : 1 ≤ w) (w1 : w ≤ 1000000000000) {n : List Nat} (hw : wh ts P b = some n) : callD 4 m_Stacks__put [] [stV ts pl s, .str (sL b), .int w, .str (sL t.nm)] S = .exc "Twice" [] S := by
  obtain ⟨kds, k1, ⟨k2, kn⟩, k3⟩ := h.sp
  have e1 := c_is_name nb S
  have e2 := c_in w0 w1 S
  have e3 := c_need h.told tm S pl s
  have kb : getK kds (.inr (sL b)) = some (.str (sL n)) := by rw [k3, hw]; rfl
  have e4 : dIn (.str (sL b)) (.ref s) S = .ok (.bl true) S := by rw [dIn_of (in_rdic k1), kb]; rfl
  refine (call_mut rfl).trans ?_
  rw [m_Stacks__put, runD_ap, z_Stacks__put]
  unfold stV at *
  simp (disch := first | omega | (simp only [List.length_map, List.length_cons, List.length_nil, List.length_append]; omega)) only [List.map_cons, List.map_nil, List.length_cons, List.length_nil, List.length_map, List.replicate, List.cons_append, List.nil_append, List.append_eq, sSeq_ap, sSet_ap, sIf_ap, sRet_ap, sRetN_ap, sExpr_ap, sNext_ap, sBreak_ap, sCont_ap, sPar_ap, sAsg_ap, sFor_ap, gName_ap, eVar_0, eVar_s, eC_ap, aNil_ap, aCons_ap, e2_ap, e3_ap, toB_bl, toB_stuck, tV_ap, tAnd_ap, tOr_ap, tNot_ap, eAnd_ap, eOr_ap, eNot_ap, eIf_ap, eNeg_ap, eTup_ap, eLst_ap, eLstL_ap, eB_ap, eIsi_ap, eCall_ap, eM_ap, eM0_ap, eIsN_ap, eNotN_ap, oNone_ap, oSome_ap, eSl_ap, iTup_ap, iStr_ap, iRange1_ap, iRange2_ap, iLst_ap, iZipD_ap, setAll_nil, setAll_cons, wipeD_nil, wipeD_cons, dAdd_int, dSub_int, dLt_int, dLe_int, dGt_int, dGe_int, dEqX_int, dEqX_str, dNeX_int, dNeX_str, dEqX_nil, dNeX_nil, dIs_bl, dMod_int, div_lit, bind_ok, bind_exc, toS_ok, toS_exc, then_nx, then_rt, then_exc, endD_nx, endD_rt, endD_exc, List.set_cons_succ, List.set_cons_zero, if_true, if_false, Bool.false_eq_true, Bool.not_true, Bool.not_false, decide_true, decide_false, Nat.zero_add, Nat.reduceAdd, lcEnd_f, eLc_ap, eRev_ap, eFld_ap, sFldD_ap, eMeth_ap, sRaise_ap, eFrz_ap, insOf_ins, bTuple_lst, bTuple_tup, bMin2_int, bMax2_int, bAbs_int, bLen_lst, bLen_tup, bLen_scr, bAll_lst, bAny_lst, bSum_lst, dIx_lst, dIx_tup, dIx_scr, bRepr_bl, sz_lit, Int.reduceLT, Int.reduceLE, Int.reducePow, Nat.reduceLT, Nat.reduceLeDiff, Nat.reducePow, gTup_tup, gCons_c, gNil_n, cast_lit, eq_self, Int.reduceEq, Int.reduceNeg, eDic0_f, sTry_ap, eMake_f, ofS_inj, ofS_beq, String.reduceEq, String.reduceBEq, rg1_ap, rg2_ap, eListRg_ap, iRevRg_ap, iZip3D_ap, iEnum_ap, sSetAt_ap, rg_ok, rg_ok2, rgl_ok, mul_r, mul_l, mod_d, at_int', at_bl', p6, p9, p10, p11, p12, p60, dAdd_lst, Int.toNat_natCast, Int.zero_add, Int.sub_zero, bInt_bl, bInt_int, bList_f, dSl_lst, dSl_tup, dSl_scr, List.getElem?_cons_zero, List.getElem?_cons_succ, beq_self_eq_true, Bool.true_or, Bool.or_false, Bool.or_true, Bool.false_or, Nat.reduceSub, ne_scr_nil, at_zero, Int.reduceAdd, Int.reduceSub, Int.reduceMul, sz_lt, dIx_r, bLen_r, isTy_r, app_r, pop_r, clear_r, frz_r, frz_lst, isNone_non, isNone_int, List.lookup_cons, List.lookup_nil, and_self, and_true, true_and, setAt_r, ixN_ok, Option.map_some, List.map_set, List.length_set, snoc_get, snoc_set, setF_r, putFD_nil, putFD_cons, okF_known, okF_piles, okF_spots, e1, e2, e3, e4]
theorem v_put_high (h : StI c S ts P pl s) (ht : ts[i]? = some t) (hl : pl[i]? = some l) (hp : P[i]? = some p) (nb : NmOk b) (w0 : 1 ≤ w) (w1 : w ≤ 1000000000000) (hw : wh ts P b = none) (hh : (p.length : Int) = t.hi) : callD 4 m_Stacks__put [] [stV ts pl s, .str (sL b), .int w, .str (sL t.nm)] S = .exc "TooHigh" [] S := by
  obtain ⟨kds, k1, ⟨k2, kn⟩, k3⟩ := h.sp
  have tm := List.mem_of_getElem? ht
  have at0 := h.pil.at_ i l p hl hp
  have e1 := c_is_name nb S
  have e2 := c_in w0 w1 S
  have e3 := c_need h.told tm S pl s
  have kb : getK kds (.inr (sL b)) = none := by rw [k3, hw]; rfl
  have e4 : dIn (.str (sL b)) (.ref s) S = .ok (.bl false) S := by rw [dIn_of (in_rdic k1), kb]; rfl
  have e5 := h.ix ht hl S
  have e6 := v_high h.told tm S pl s
  have q1 : decide ((p.length : Int) = t.hi) = true := decide_eq_true hh
  refine (call_mut rfl).trans ?_
  rw [m_Stacks__put, runD_ap, z_Stacks__put]
  unfold stV at *
  simp (disch := first | omega | (simp only [List.length_map, List.length_cons, List.length_nil, List.length_append]; omega)) only [List.map_cons, List.map_nil, List.length_cons, List.length_nil, List.length_map, List.replicate, List.cons_append, List.nil_append, List.append_eq, sSeq_ap, sSet_ap, sIf_ap, sRet_ap, sRetN_ap, sExpr_ap, sNext_ap, sBreak_ap, sCont_ap, sPar_ap, sAsg_ap, sFor_ap, gName_ap, eVar_0, eVar_s, eC_ap, aNil_ap, aCons_ap, e2_ap, e3_ap, toB_bl, toB_stuck, tV_ap, tAnd_ap, tOr_ap, tNot_ap, eAnd_ap, eOr_ap, eNot_ap, eIf_ap, eNeg_ap, eTup_ap, eLst_ap, eLstL_ap, eB_ap, eIsi_ap, eCall_ap, eM_ap, eM0_ap, eIsN_ap, eNotN_ap, oNone_ap, oSome_ap, eSl_ap, iTup_ap, iStr_ap, iRange1_ap, iRange2_ap, iLst_ap, iZipD_ap, setAll_nil, setAll_cons, wipeD_nil, wipeD_cons, dAdd_int, dSub_int, dLt_int, dLe_int, dGt_int, dGe_int, dEqX_int, dEqX_str, dNeX_int, dNeX_str, dEqX_nil, dNeX_nil, dIs_bl, dMod_int, div_lit, bind_ok, bind_exc, toS_ok, toS_exc, then_nx, then_rt, then_exc, endD_nx, endD_rt, endD_exc, List.set_cons_succ, List.set_cons_zero, if_true, if_false, Bool.false_eq_true, Bool.not_true, Bool.not_false, decide_true, decide_false, Nat.zero_add, Nat.reduceAdd, lcEnd_f, eLc_ap, eRev_ap, eFld_ap, sFldD_ap, eMeth_ap, sRaise_ap, eFrz_ap, insOf_ins, bTuple_lst, bTuple_tup, bMin2_int, bMax2_int, bAbs_int, bLen_lst, bLen_tup, bLen_scr, bAll_lst, bAny_lst, bSum_lst, dIx_lst, dIx_tup, dIx_scr, bRepr_bl, sz_lit, Int.reduceLT, Int.reduceLE, Int.reducePow, Nat.reduceLT, Nat.reduceLeDiff, Nat.reducePow, gTup_tup, gCons_c, gNil_n, cast_lit, eq_self, Int.reduceEq, Int.reduceNeg, eDic0_f, sTry_ap, eMake_f, ofS_inj, ofS_beq, String.reduceEq, String.reduceBEq, rg1_ap, rg2_ap, eListRg_ap, iRevRg_ap, iZip3D_ap, iEnum_ap, sSetAt_ap, rg_ok, rg_ok2, rgl_ok, mul_r, mul_l, mod_d, at_int', at_bl', p6, p9, p10, p11, p12, p60, dAdd_lst, Int.toNat_natCast, Int.zero_add, Int.sub_zero, bInt_bl, bInt_int, bList_f, dSl_lst, dSl_tup, dSl_scr, List.getElem?_cons_zero, List.getElem?_cons_succ, beq_self_eq_true, Bool.true_or, Bool.or_false, Bool.or_true, Bool.false_or, Nat.reduceSub, ne_scr_nil, at_zero, Int.reduceAdd, Int.reduceSub, Int.reduceMul, sz_lt, dIx_r, bLen_r, isTy_r, app_r, pop_r, clear_r, frz_r, frz_lst, isNone_non, isNone_int, List.lookup_cons, List.lookup_nil, and_self, and_true, true_and, setAt_r, ixN_ok, Option.map_some, List.map_set, List.length_set, snoc_get, snoc_set, setF_r, putFD_nil, putFD_cons, okF_known, okF_piles, okF_spots, e1, e2, e3, e4, e5, e6, at0, q1]
theorem v_put_heavy (h : StI c S ts P pl s) (ht : ts[i]? = some t) (hl : pl[i]? = some l) (hp : P[i]? = some p) (nb : NmOk b) (w0 : 1 ≤ w) (w1 : w ≤ 1000000000000) (hw : wh ts P b = none) (hh : (p.length : Int) < t.hi) (hs : wtS p + w > t.wt) : callD 4 m_Stacks__put [] [stV ts pl s, .str (sL b), .int w, .str (sL t.nm)] S = .exc "TooHeavy" [] S := by
  obtain ⟨kds, k1, ⟨k2, kn⟩, k3⟩ := h.sp
  have tm := List.mem_of_getElem? ht
  have tok := h.told.ok t tm
  have at0 := h.pil.at_ i l p hl hp
  have e1 := c_is_name nb S
  have e2 := c_in w0 w1 S
  have e3 := c_need h.told tm S pl s
  have kb : getK kds (.inr (sL b)) = none := by rw [k3, hw]; rfl
  have e4 : dIn (.str (sL b)) (.ref s) S = .ok (.bl false) S := by rw [dIn_of (in_rdic k1), kb]; rfl
  have e5 := h.ix ht hl S
  have e6 := v_high h.told tm S pl s
  have e7 := v_weight h.told tm S pl s
  have cm : compD (gName 5) tYesD k_Stacks__put_1 (some (l, p.map bxD)) [some (stV ts pl s), some (.str (sL b)), some (.int w), some (.str (sL t.nm)), some (.ref l), none] (p.map bxD) S = .ok (p.map fun y => .int y.2) S :=
    comp_mm (ck := some (l, p.map bxD)) at0 (fun y : Bx => .int y.2) fun y hy => ⟨_, rfl, rfl, by unfold k_Stacks__put_1 bxD; simp (disch := first | omega | (simp only [List.length_map, List.length_cons, List.length_nil, List.length_append]; omega)) only [List.map_cons, List.map_nil, List.length_cons, List.length_nil, List.length_map, List.replicate, List.cons_append, List.nil_append, List.append_eq, sSeq_ap, sSet_ap, sIf_ap, sRet_ap, sRetN_ap, sExpr_ap, sNext_ap, sBreak_ap, sCont_ap, sPar_ap, sAsg_ap, sFor_ap, gName_ap, eVar_0, eVar_s, eC_ap, aNil_ap, aCons_ap, e2_ap, e3_ap, toB_bl, toB_stuck, tV_ap, tAnd_ap, tOr_ap, tNot_ap, eAnd_ap, eOr_ap, eNot_ap, eIf_ap, eNeg_ap, eTup_ap, eLst_ap, eLstL_ap, eB_ap, eIsi_ap, eCall_ap, eM_ap, eM0_ap, eIsN_ap, eNotN_ap, oNone_ap, oSome_ap, eSl_ap, iTup_ap, iStr_ap, iRange1_ap, iRange2_ap, iLst_ap, iZipD_ap, setAll_nil, setAll_cons, wipeD_nil, wipeD_cons, dAdd_int, dSub_int, dLt_int, dLe_int, dGt_int, dGe_int, dEqX_int, dEqX_str, dNeX_int, dNeX_str, dEqX_nil, dNeX_nil, dIs_bl, dMod_int, div_lit, bind_ok, bind_exc, toS_ok, toS_exc, then_nx, then_rt, then_exc, endD_nx, endD_rt, endD_exc, List.set_cons_succ, List.set_cons_zero, if_true, if_false, Bool.false_eq_true, Bool.not_true, Bool.not_false, decide_true, decide_false, Nat.zero_add, Nat.reduceAdd, lcEnd_f, eLc_ap, eRev_ap, eFld_ap, sFldD_ap, eMeth_ap, sRaise_ap, eFrz_ap, insOf_ins, bTuple_lst, bTuple_tup, bMin2_int, bMax2_int, bAbs_int, bLen_lst, bLen_tup, bLen_scr, bAll_lst, bAny_lst, bSum_lst, dIx_lst, dIx_tup, dIx_scr, bRepr_bl, sz_lit, Int.reduceLT, Int.reduceLE, Int.reducePow, Nat.reduceLT, Nat.reduceLeDiff, Nat.reducePow, gTup_tup, gCons_c, gNil_n, cast_lit, eq_self, Int.reduceEq, Int.reduceNeg, eDic0_f, sTry_ap, eMake_f, ofS_inj, ofS_beq, String.reduceEq, String.reduceBEq, rg1_ap, rg2_ap, eListRg_ap, iRevRg_ap, iZip3D_ap, iEnum_ap, sSetAt_ap, rg_ok, rg_ok2, rgl_ok, mul_r, mul_l, mod_d, at_int', at_bl', p6, p9, p10, p11, p12, p60, dAdd_lst, Int.toNat_natCast, Int.zero_add, Int.sub_zero, bInt_bl, bInt_int, bList_f, dSl_lst, dSl_tup, dSl_scr, List.getElem?_cons_zero, List.getElem?_cons_succ, beq_self_eq_true, Bool.true_or, Bool.or_false, Bool.or_true, Bool.false_or, Nat.reduceSub, ne_scr_nil, at_zero, Int.reduceAdd, Int.reduceSub, Int.reduceMul, sz_lt, dIx_r, bLen_r, isTy_r, app_r, pop_r, clear_r, frz_r, frz_lst, isNone_non, isNone_int, List.lookup_cons, List.lookup_nil, and_self, and_true, true_and, setAt_r, ixN_ok, Option.map_some, List.map_set, List.length_set, snoc_get, snoc_set, setF_r, putFD_nil, putFD_cons, at_one]⟩
  have is : intsOf (p.map fun y : Bx => D.int y.2) = some (p.map (·.2)) := by
    have := intsOf_ints (p.map (·.2))
    rw [List.map_map] at this
    exact this
  have hn : (p.length : Int) ≠ t.hi := by omega
  have q1 : decide ((p.length : Int) = t.hi) = false := decide_eq_false hn
  have q2 : decide ((p.map (·.2)).sum + w > t.wt) = true := decide_eq_true (by unfold wtS at hs; omega)
  have sz : (p.length ≤ sizeLine) = True := eq_true (sz_16 (by have := tok.hi1; omega))
  refine (call_mut rfl).trans ?_
  rw [m_Stacks__put, runD_ap, z_Stacks__put]
  unfold stV at *
  simp (disch := first | omega | (simp only [List.length_map, List.length_cons, List.length_nil, List.length_append]; omega)) only [List.map_cons, List.map_nil, List.length_cons, List.length_nil, List.length_map, List.replicate, List.cons_append, List.nil_append, List.append_eq, sSeq_ap, sSet_ap, sIf_ap, sRet_ap, sRetN_ap, sExpr_ap, sNext_ap, sBreak_ap, sCont_ap, sPar_ap, sAsg_ap, sFor_ap, gName_ap, eVar_0, eVar_s, eC_ap, aNil_ap, aCons_ap, e2_ap, e3_ap, toB_bl, toB_stuck, tV_ap, tAnd_ap, tOr_ap, tNot_ap, eAnd_ap, eOr_ap, eNot_ap, eIf_ap, eNeg_ap, eTup_ap, eLst_ap, eLstL_ap, eB_ap, eIsi_ap, eCall_ap, eM_ap, eM0_ap, eIsN_ap, eNotN_ap, oNone_ap, oSome_ap, eSl_ap, iTup_ap, iStr_ap, iRange1_ap, iRange2_ap, iLst_ap, iZipD_ap, setAll_nil, setAll_cons, wipeD_nil, wipeD_cons, dAdd_int, dSub_int, dLt_int, dLe_int, dGt_int, dGe_int, dEqX_int, dEqX_str, dNeX_int, dNeX_str, dEqX_nil, dNeX_nil, dIs_bl, dMod_int, div_lit, bind_ok, bind_exc, toS_ok, toS_exc, then_nx, then_rt, then_exc, endD_nx, endD_rt, endD_exc, List.set_cons_succ, List.set_cons_zero, if_true, if_false, Bool.false_eq_true, Bool.not_true, Bool.not_false, decide_true, decide_false, Nat.zero_add, Nat.reduceAdd, lcEnd_f, eLc_ap, eRev_ap, eFld_ap, sFldD_ap, eMeth_ap, sRaise_ap, eFrz_ap, insOf_ins, bTuple_lst, bTuple_tup, bMin2_int, bMax2_int, bAbs_int, bLen_lst, bLen_tup, bLen_scr, bAll_lst, bAny_lst, bSum_lst, dIx_lst, dIx_tup, dIx_scr, bRepr_bl, sz_lit, Int.reduceLT, Int.reduceLE, Int.reducePow, Nat.reduceLT, Nat.reduceLeDiff, Nat.reducePow, gTup_tup, gCons_c, gNil_n, cast_lit, eq_self, Int.reduceEq, Int.reduceNeg, eDic0_f, sTry_ap, eMake_f, ofS_inj, ofS_beq, String.reduceEq, String.reduceBEq, rg1_ap, rg2_ap, eListRg_ap, iRevRg_ap, iZip3D_ap, iEnum_ap, sSetAt_ap, rg_ok, rg_ok2, rgl_ok, mul_r, mul_l, mod_d, at_int', at_bl', p6, p9, p10, p11, p12, p60, dAdd_lst, Int.toNat_natCast, Int.zero_add, Int.sub_zero, bInt_bl, bInt_int, bList_f, dSl_lst, dSl_tup, dSl_scr, List.getElem?_cons_zero, List.getElem?_cons_succ, beq_self_eq_true, Bool.true_or, Bool.or_false, Bool.or_true, Bool.false_or, Nat.reduceSub, ne_scr_nil, at_zero, Int.reduceAdd, Int.reduceSub, Int.reduceMul, sz_lt, dIx_r, bLen_r, isTy_r, app_r, pop_r, clear_r, frz_r, frz_lst, isNone_non, isNone_int, List.lookup_cons, List.lookup_nil, and_self, and_true, true_and, setAt_r, ixN_ok, Option.map_some, List.map_set, List.length_set, snoc_get, snoc_set, setF_r, putFD_nil, putFD_cons, okF_known, okF_piles, okF_spots, e1, e2, e3, e4, e5, e6, e7, at0, cm, is, q1, q2, sz]
theorem v_take_empty (h : StI c S ts P pl s) (ht : ts[i]? = some t) (hl : pl[i]? = some l) (hp : P[i]? = some []) : callD 2 m_Stacks__take [] [stV ts pl s, .str (sL t.nm)] S = .exc "Empty" [] S := by
  have tm := List.mem_of_getElem? ht
  have at0 := h.pil.at_ i l _ hl hp
  have e3 := c_need h.told tm S pl s
  have e5 := fun S' => h.ix ht hl S'
  have e6 : dEqX 1 (.ref l) (.lst []) S = .ok (.bl true) S := by rw [eq_ref_nil at0]; simp
  refine (call_mut rfl).trans ?_
  rw [m_Stacks__take, runD_ap, z_Stacks__take]
  unfold stV at *
  simp (disch := first | omega | (simp only [List.length_map, List.length_cons, List.length_nil, List.length_append]; omega)) only [List.map_cons, List.map_nil, List.length_cons, List.length_nil, List.length_map, List.replicate, List.cons_append, List.nil_append, List.append_eq, sSeq_ap, sSet_ap, sIf_ap, sRet_ap, sRetN_ap, sExpr_ap, sNext_ap, sBreak_ap, sCont_ap, sPar_ap, sAsg_ap, sFor_ap, gName_ap, eVar_0, eVar_s, eC_ap, aNil_ap, aCons_ap, e2_ap, e3_ap, toB_bl, toB_stuck, tV_ap, tAnd_ap, tOr_ap, tNot_ap, eAnd_ap, eOr_ap, eNot_ap, eIf_ap, eNeg_ap, eTup_ap, eLst_ap, eLstL_ap, eB_ap, eIsi_ap, eCall_ap, eM_ap, eM0_ap, eIsN_ap, eNotN_ap, oNone_ap, oSome_ap, eSl_ap, iTup_ap, iStr_ap, iRange1_ap, iRange2_ap, iLst_ap, iZipD_ap, setAll_nil, setAll_cons, wipeD_nil, wipeD_cons, dAdd_int, dSub_int, dLt_int, dLe_int, dGt_int, dGe_int, dEqX_int, dEqX_str, dNeX_int, dNeX_str, dEqX_nil, dNeX_nil, dIs_bl, dMod_int, div_lit, bind_ok, bind_exc, toS_ok, toS_exc, then_nx, then_rt, then_exc, endD_nx, endD_rt, endD_exc, List.set_cons_succ, List.set_cons_zero, if_true, if_false, Bool.false_eq_true, Bool.not_true, Bool.not_false, decide_true, decide_false, Nat.zero_add, Nat.reduceAdd, lcEnd_f, eLc_ap, eRev_ap, eFld_ap, sFldD_ap, eMeth_ap, sRaise_ap, eFrz_ap, insOf_ins, bTuple_lst, bTuple_tup, bMin2_int, bMax2_int, bAbs_int, bLen_lst, bLen_tup, bLen_scr, bAll_lst, bAny_lst, bSum_lst, dIx_lst, dIx_tup, dIx_scr, bRepr_bl, sz_lit, Int.reduceLT, Int.reduceLE, Int.reducePow, Nat.reduceLT, Nat.reduceLeDiff, Nat.reducePow, gTup_tup, gCons_c, gNil_n, cast_lit, eq_self, Int.reduceEq, Int.reduceNeg, eDic0_f, sTry_ap, eMake_f, ofS_inj, ofS_beq, String.reduceEq, String.reduceBEq, rg1_ap, rg2_ap, eListRg_ap, iRevRg_ap, iZip3D_ap, iEnum_ap, sSetAt_ap, rg_ok, rg_ok2, rgl_ok, mul_r, mul_l, mod_d, at_int', at_bl', p6, p9, p10, p11, p12, p60, dAdd_lst, Int.toNat_natCast, Int.zero_add, Int.sub_zero, bInt_bl, bInt_int, bList_f, dSl_lst, dSl_tup, dSl_scr, List.getElem?_cons_zero, List.getElem?_cons_succ, beq_self_eq_true, Bool.true_or, Bool.or_false, Bool.or_true, Bool.false_or, Nat.reduceSub, ne_scr_nil, at_zero, Int.reduceAdd, Int.reduceSub, Int.reduceMul, sz_lt, dIx_r, bLen_r, isTy_r, app_r, pop_r, clear_r, frz_r, frz_lst, isNone_non, isNone_int, List.lookup_cons, List.lookup_nil, and_self, and_true, true_and, setAt_r, ixN_ok, Option.map_some, List.map_set, List.length_set, snoc_get, snoc_set, setF_r, putFD_nil, putFD_cons, okF_known, okF_piles, okF_spots, e3, e5, e6]
theorem c_nobox (h : StI c S ts P pl s) (hw : wh ts P b = none) : callD 2 m_Stacks__need_box [] [stV ts pl s, .str (sL b)] S = .exc "NoBox" [] S := by
  obtain ⟨kds, k1, ⟨k2, kn⟩, k3⟩ := h.sp
  have kb : getK kds (.inr (sL b)) = none := by rw [k3, hw]; rfl
  have e : dNotIn (.str (sL b)) (.ref s) S = .ok (.bl true) S := by rw [dNotIn_of (in_rdic k1), kb]; rfl
  refine (call_mut rfl).trans ?_
  rw [m_Stacks__need_box, runD_ap, z_Stacks__need_box]
  unfold stV
  simp (disch := first | omega | (simp only [List.length_map, List.length_cons, List.length_nil, List.length_append]; omega)) only [List.map_cons, List.map_nil, List.length_cons, List.length_nil, List.length_map, List.replicate, List.cons_append, List.nil_append, List.append_eq, sSeq_ap, sSet_ap, sIf_ap, sRet_ap, sRetN_ap, sExpr_ap, sNext_ap, sBreak_ap, sCont_ap, sPar_ap, sAsg_ap, sFor_ap, gName_ap, eVar_0, eVar_s, eC_ap, aNil_ap, aCons_ap, e2_ap, e3_ap, toB_bl, toB_stuck, tV_ap, tAnd_ap, tOr_ap, tNot_ap, eAnd_ap, eOr_ap, eNot_ap, eIf_ap, eNeg_ap, eTup_ap, eLst_ap, eLstL_ap, eB_ap, eIsi_ap, eCall_ap, eM_ap, eM0_ap, eIsN_ap, eNotN_ap, oNone_ap, oSome_ap, eSl_ap, iTup_ap, iStr_ap, iRange1_ap, iRange2_ap, iLst_ap, iZipD_ap, setAll_nil, setAll_cons, wipeD_nil, wipeD_cons, dAdd_int, dSub_int, dLt_int, dLe_int, dGt_int, dGe_int, dEqX_int, dEqX_str, dNeX_int, dNeX_str, dEqX_nil, dNeX_nil, dIs_bl, dMod_int, div_lit, bind_ok, bind_exc, toS_ok, toS_exc, then_nx, then_rt, then_exc, endD_nx, endD_rt, endD_exc, List.set_cons_succ, List.set_cons_zero, if_true, if_false, Bool.false_eq_true, Bool.not_true, Bool.not_false, decide_true, decide_false, Nat.zero_add, Nat.reduceAdd, lcEnd_f, eLc_ap, eRev_ap, eFld_ap, sFldD_ap, eMeth_ap, sRaise_ap, eFrz_ap, insOf_ins, bTuple_lst, bTuple_tup, bMin2_int, bMax2_int, bAbs_int, bLen_lst, bLen_tup, bLen_scr, bAll_lst, bAny_lst, bSum_lst, dIx_lst, dIx_tup, dIx_scr, bRepr_bl, sz_lit, Int.reduceLT, Int.reduceLE, Int.reducePow, Nat.reduceLT, Nat.reduceLeDiff, Nat.reducePow, gTup_tup, gCons_c, gNil_n, cast_lit, eq_self, Int.reduceEq, Int.reduceNeg, eDic0_f, sTry_ap, eMake_f, ofS_inj, ofS_beq, String.reduceEq, String.reduceBEq, rg1_ap, rg2_ap, eListRg_ap, iRevRg_ap, iZip3D_ap, iEnum_ap, sSetAt_ap, rg_ok, rg_ok2, rgl_ok, mul_r, mul_l, mod_d, at_int', at_bl', p6, p9, p10, p11, p12, p60, dAdd_lst, Int.toNat_natCast, Int.zero_add, Int.sub_zero, bInt_bl, bInt_int, bList_f, dSl_lst, dSl_tup, dSl_scr, List.getElem?_cons_zero, List.getElem?_cons_succ, beq_self_eq_true, Bool.true_or, Bool.or_false, Bool.or_true, Bool.false_or, Nat.reduceSub, ne_scr_nil, at_zero, Int.reduceAdd, Int.reduceSub, Int.reduceMul, sz_lt, dIx_r, bLen_r, isTy_r, app_r, pop_r, clear_r, frz_r, frz_lst, isNone_non, isNone_int, List.lookup_cons, List.lookup_nil, and_self, and_true, true_and, setAt_r, ixN_ok, Option.map_some, List.map_set, List.length_set, snoc_get, snoc_set, setF_r, putFD_nil, putFD_cons, tyName, isT, e, okF_spots]
theorem v_where_no (h : StI c S ts P pl s) (hw : wh ts P b = none) : callD 2 m_Stacks__where [] [stV ts pl s, .str (sL b)] S = .exc "NoBox" [] S := by
  have a := c_nobox h hw
  refine (call_mut rfl).trans ?_
  rw [m_Stacks__where, runD_ap, z_Stacks__where]
  unfold stV at *
  simp (disch := first | omega | (simp only [List.length_map, List.length_cons, List.length_nil, List.length_append]; omega)) only [List.map_cons, List.map_nil, List.length_cons, List.length_nil, List.length_map, List.replicate, List.cons_append, List.nil_append, List.append_eq, sSeq_ap, sSet_ap, sIf_ap, sRet_ap, sRetN_ap, sExpr_ap, sNext_ap, sBreak_ap, sCont_ap, sPar_ap, sAsg_ap, sFor_ap, gName_ap, eVar_0, eVar_s, eC_ap, aNil_ap, aCons_ap, e2_ap, e3_ap, toB_bl, toB_stuck, tV_ap, tAnd_ap, tOr_ap, tNot_ap, eAnd_ap, eOr_ap, eNot_ap, eIf_ap, eNeg_ap, eTup_ap, eLst_ap, eLstL_ap, eB_ap, eIsi_ap, eCall_ap, eM_ap, eM0_ap, eIsN_ap, eNotN_ap, oNone_ap, oSome_ap, eSl_ap, iTup_ap, iStr_ap, iRange1_ap, iRange2_ap, iLst_ap, iZipD_ap, setAll_nil, setAll_cons, wipeD_nil, wipeD_cons, dAdd_int, dSub_int, dLt_int, dLe_int, dGt_int, dGe_int, dEqX_int, dEqX_str, dNeX_int, dNeX_str, dEqX_nil, dNeX_nil, dIs_bl, dMod_int, div_lit, bind_ok, bind_exc, toS_ok, toS_exc, then_nx, then_rt, then_exc, endD_nx, endD_rt, endD_exc, List.set_cons_succ, List.set_cons_zero, if_true, if_false, Bool.false_eq_true, Bool.not_true, Bool.not_false, decide_true, decide_false, Nat.zero_add, Nat.reduceAdd, lcEnd_f, eLc_ap, eRev_ap, eFld_ap, sFldD_ap, eMeth_ap, sRaise_ap, eFrz_ap, insOf_ins, bTuple_lst, bTuple_tup, bMin2_int, bMax2_int, bAbs_int, bLen_lst, bLen_tup, bLen_scr, bAll_lst, bAny_lst, bSum_lst, dIx_lst, dIx_tup, dIx_scr, bRepr_bl, sz_lit, Int.reduceLT, Int.reduceLE, Int.reducePow, Nat.reduceLT, Nat.reduceLeDiff, Nat.reducePow, gTup_tup, gCons_c, gNil_n, cast_lit, eq_self, Int.reduceEq, Int.reduceNeg, eDic0_f, sTry_ap, eMake_f, ofS_inj, ofS_beq, String.reduceEq, String.reduceBEq, rg1_ap, rg2_ap, eListRg_ap, iRevRg_ap, iZip3D_ap, iEnum_ap, sSetAt_ap, rg_ok, rg_ok2, rgl_ok, mul_r, mul_l, mod_d, at_int', at_bl', p6, p9, p10, p11, p12, p60, dAdd_lst, Int.toNat_natCast, Int.zero_add, Int.sub_zero, bInt_bl, bInt_int, bList_f, dSl_lst, dSl_tup, dSl_scr, List.getElem?_cons_zero, List.getElem?_cons_succ, beq_self_eq_true, Bool.true_or, Bool.or_false, Bool.or_true, Bool.false_or, Nat.reduceSub, ne_scr_nil, at_zero, Int.reduceAdd, Int.reduceSub, Int.reduceMul, sz_lt, dIx_r, bLen_r, isTy_r, app_r, pop_r, clear_r, frz_r, frz_lst, isNone_non, isNone_int, List.lookup_cons, List.lookup_nil, and_self, and_true, true_and, setAt_r, ixN_ok, Option.map_some, List.map_set, List.length_set, snoc_get, snoc_set, setF_r, putFD_nil, putFD_cons, a, okF_spots]
end
end Q
namespace Q
open PySem L2 Mi
/-! a deed, as the law does it -/
def exOk (C wd : Str) : Prop := (∀ S, callD 1 (pureD m__law_kind) [] [.exc C []] S = .ok (.str wd) S) ∧ C ∈ exT ∧ subE C "CraneError" = true
theorem crane_in : ((Str.ofString "CraneError") ∈ exT) = True := eq_true (by decide +kernel)
theorem ex_twice : exOk "Twice" "twice" := ⟨fun S => call_pure (n := 1) (ds := [.exc "Twice" []]) rfl rfl ⟨[], by kernel_rfl⟩ rfl, by decide +kernel, by decide +kernel⟩
theorem ex_high : exOk "TooHigh" "high" := ⟨fun S => call_pure (n := 1) (ds := [.exc "TooHigh" []]) rfl rfl ⟨[], by kernel_rfl⟩ rfl, by decide +kernel, by decide +kernel⟩
theorem ex_heavy : exOk "TooHeavy" "heavy" := ⟨fun S => call_pure (n := 1) (ds := [.exc "TooHeavy" []]) rfl rfl ⟨[], by kernel_rfl⟩ rfl, by decide +kernel, by decide +kernel⟩
theorem ex_empty : exOk "Empty" "empty" := ⟨fun S => call_pure (n := 1) (ds := [.exc "Empty" []]) rfl rfl ⟨[], by kernel_rfl⟩ rfl, by decide +kernel, by decide +kernel⟩
theorem ex_nobox : exOk "NoBox" "no box" := ⟨fun S => call_pure (n := 1) (ds := [.exc "NoBox" []]) rfl rfl ⟨[], by kernel_rfl⟩ rfl, by decide +kernel, by decide +kernel⟩
section
variable {S S' : Store} {ts : List TR} {pl : List Nat} {s : Nat} {b w n r : D} {C wd : Str}
theorem done_put_ok (h : callD 4 m_Stacks__put [] [stV ts pl s, b, w, n] S = .ok r S') : callD 5 m__law_done [] [stV ts pl s, .bl true, b, w, n] S = .ok r S' := by
  refine (call_mut rfl).trans ?_
  rw [m__law_done, runD_ap, z__law_done]
  unfold stV at *
  simp (disch := first | omega | (simp only [List.length_map, List.length_cons, List.length_nil, List.length_append]; omega)) only [List.map_cons, List.map_nil, List.length_cons, List.length_nil, List.length_map, List.replicate, List.cons_append, List.nil_append, List.append_eq, sSeq_ap, sSet_ap, sIf_ap, sRet_ap, sRetN_ap, sExpr_ap, sNext_ap, sBreak_ap, sCont_ap, sPar_ap, sAsg_ap, sFor_ap, gName_ap, eVar_0, eVar_s, eC_ap, aNil_ap, aCons_ap, e2_ap, e3_ap, toB_bl, toB_stuck, tV_ap, tAnd_ap, tOr_ap, tNot_ap, eAnd_ap, eOr_ap, eNot_ap, eIf_ap, eNeg_ap, eTup_ap, eLst_ap, eLstL_ap, eB_ap, eIsi_ap, eCall_ap, eM_ap, eM0_ap, eIsN_ap, eNotN_ap, oNone_ap, oSome_ap, eSl_ap, iTup_ap, iStr_ap, iRange1_ap, iRange2_ap, iLst_ap, iZipD_ap, setAll_nil, setAll_cons, wipeD_nil, wipeD_cons, dAdd_int, dSub_int, dLt_int, dLe_int, dGt_int, dGe_int, dEqX_int, dEqX_str, dNeX_int, dNeX_str, dEqX_nil, dNeX_nil, dIs_bl, dMod_int, div_lit, bind_ok, bind_exc, toS_ok, toS_exc, then_nx, then_rt, then_exc, endD_nx, endD_rt, endD_exc, List.set_cons_succ, List.set_cons_zero, if_true, if_false, Bool.false_eq_true, Bool.not_true, Bool.not_false, decide_true, decide_false, Nat.zero_add, Nat.reduceAdd, lcEnd_f, eLc_ap, eRev_ap, eFld_ap, sFldD_ap, eMeth_ap, sRaise_ap, eFrz_ap, insOf_ins, bTuple_lst, bTuple_tup, bMin2_int, bMax2_int, bAbs_int, bLen_lst, bLen_tup, bLen_scr, bAll_lst, bAny_lst, bSum_lst, dIx_lst, dIx_tup, dIx_scr, bRepr_bl, sz_lit, Int.reduceLT, Int.reduceLE, Int.reducePow, Nat.reduceLT, Nat.reduceLeDiff, Nat.reducePow, gTup_tup, gCons_c, gNil_n, cast_lit, eq_self, Int.reduceEq, Int.reduceNeg, eDic0_f, sTry_ap, eMake_f, ofS_inj, ofS_beq, String.reduceEq, String.reduceBEq, rg1_ap, rg2_ap, eListRg_ap, iRevRg_ap, iZip3D_ap, iEnum_ap, sSetAt_ap, rg_ok, rg_ok2, rgl_ok, mul_r, mul_l, mod_d, at_int', at_bl', p6, p9, p10, p11, p12, p60, dAdd_lst, Int.toNat_natCast, Int.zero_add, Int.sub_zero, bInt_bl, bInt_int, bList_f, dSl_lst, dSl_tup, dSl_scr, List.getElem?_cons_zero, List.getElem?_cons_succ, beq_self_eq_true, Bool.true_or, Bool.or_false, Bool.or_true, Bool.false_or, Nat.reduceSub, ne_scr_nil, at_zero, Int.reduceAdd, Int.reduceSub, Int.reduceMul, sz_lt, dIx_r, bLen_r, isTy_r, app_r, pop_r, clear_r, frz_r, frz_lst, isNone_non, isNone_int, List.lookup_cons, List.lookup_nil, and_self, and_true, true_and, setAt_r, ixN_ok, Option.map_some, List.map_set, List.length_set, snoc_get, snoc_set, setF_r, putFD_nil, putFD_cons, sTry_ap, h, isNone_non]
theorem done_take_ok (h : callD 2 m_Stacks__take [] [stV ts pl s, n] S = .ok r S') : callD 5 m__law_done [] [stV ts pl s, .bl false, b, w, n] S = .ok r S' := by
  refine (call_mut rfl).trans ?_
  rw [m__law_done, runD_ap, z__law_done]
  unfold stV at *
  simp (disch := first | omega | (simp only [List.length_map, List.length_cons, List.length_nil, List.length_append]; omega)) only [List.map_cons, List.map_nil, List.length_cons, List.length_nil, List.length_map, List.replicate, List.cons_append, List.nil_append, List.append_eq, sSeq_ap, sSet_ap, sIf_ap, sRet_ap, sRetN_ap, sExpr_ap, sNext_ap, sBreak_ap, sCont_ap, sPar_ap, sAsg_ap, sFor_ap, gName_ap, eVar_0, eVar_s, eC_ap, aNil_ap, aCons_ap, e2_ap, e3_ap, toB_bl, toB_stuck, tV_ap, tAnd_ap, tOr_ap, tNot_ap, eAnd_ap, eOr_ap, eNot_ap, eIf_ap, eNeg_ap, eTup_ap, eLst_ap, eLstL_ap, eB_ap, eIsi_ap, eCall_ap, eM_ap, eM0_ap, eIsN_ap, eNotN_ap, oNone_ap, oSome_ap, eSl_ap, iTup_ap, iStr_ap, iRange1_ap, iRange2_ap, iLst_ap, iZipD_ap, setAll_nil, setAll_cons, wipeD_nil, wipeD_cons, dAdd_int, dSub_int, dLt_int, dLe_int, dGt_int, dGe_int, dEqX_int, dEqX_str, dNeX_int, dNeX_str, dEqX_nil, dNeX_nil, dIs_bl, dMod_int, div_lit, bind_ok, bind_exc, toS_ok, toS_exc, then_nx, then_rt, then_exc, endD_nx, endD_rt, endD_exc, List.set_cons_succ, List.set_cons_zero, if_true, if_false, Bool.false_eq_true, Bool.not_true, Bool.not_false, decide_true, decide_false, Nat.zero_add, Nat.reduceAdd, lcEnd_f, eLc_ap, eRev_ap, eFld_ap, sFldD_ap, eMeth_ap, sRaise_ap, eFrz_ap, insOf_ins, bTuple_lst, bTuple_tup, bMin2_int, bMax2_int, bAbs_int, bLen_lst, bLen_tup, bLen_scr, bAll_lst, bAny_lst, bSum_lst, dIx_lst, dIx_tup, dIx_scr, bRepr_bl, sz_lit, Int.reduceLT, Int.reduceLE, Int.reducePow, Nat.reduceLT, Nat.reduceLeDiff, Nat.reducePow, gTup_tup, gCons_c, gNil_n, cast_lit, eq_self, Int.reduceEq, Int.reduceNeg, eDic0_f, sTry_ap, eMake_f, ofS_inj, ofS_beq, String.reduceEq, String.reduceBEq, rg1_ap, rg2_ap, eListRg_ap, iRevRg_ap, iZip3D_ap, iEnum_ap, sSetAt_ap, rg_ok, rg_ok2, rgl_ok, mul_r, mul_l, mod_d, at_int', at_bl', p6, p9, p10, p11, p12, p60, dAdd_lst, Int.toNat_natCast, Int.zero_add, Int.sub_zero, bInt_bl, bInt_int, bList_f, dSl_lst, dSl_tup, dSl_scr, List.getElem?_cons_zero, List.getElem?_cons_succ, beq_self_eq_true, Bool.true_or, Bool.or_false, Bool.or_true, Bool.false_or, Nat.reduceSub, ne_scr_nil, at_zero, Int.reduceAdd, Int.reduceSub, Int.reduceMul, sz_lt, dIx_r, bLen_r, isTy_r, app_r, pop_r, clear_r, frz_r, frz_lst, isNone_non, isNone_int, List.lookup_cons, List.lookup_nil, and_self, and_true, true_and, setAt_r, ixN_ok, Option.map_some, List.map_set, List.length_set, snoc_get, snoc_set, setF_r, putFD_nil, putFD_cons, sTry_ap, h, isNone_non]
theorem done_put_exc (h : callD 4 m_Stacks__put [] [stV ts pl s, b, w, n] S = .exc C [] S) (e : exOk C wd) : callD 5 m__law_done [] [stV ts pl s, .bl true, b, w, n] S = .ok (.str wd) S := by
  obtain ⟨kd, t1, t3⟩ := e
  have t2 := crane_in
  have ne : isNone (.exc C []) = some false := rfl
  have t1' : (C ∈ exT) = True := eq_true t1
  refine (call_mut rfl).trans ?_
  rw [m__law_done, runD_ap, z__law_done]
  unfold stV at *
  simp (disch := first | omega | (simp only [List.length_map, List.length_cons, List.length_nil, List.length_append]; omega)) only [List.map_cons, List.map_nil, List.length_cons, List.length_nil, List.length_map, List.replicate, List.cons_append, List.nil_append, List.append_eq, sSeq_ap, sSet_ap, sIf_ap, sRet_ap, sRetN_ap, sExpr_ap, sNext_ap, sBreak_ap, sCont_ap, sPar_ap, sAsg_ap, sFor_ap, gName_ap, eVar_0, eVar_s, eC_ap, aNil_ap, aCons_ap, e2_ap, e3_ap, toB_bl, toB_stuck, tV_ap, tAnd_ap, tOr_ap, tNot_ap, eAnd_ap, eOr_ap, eNot_ap, eIf_ap, eNeg_ap, eTup_ap, eLst_ap, eLstL_ap, eB_ap, eIsi_ap, eCall_ap, eM_ap, eM0_ap, eIsN_ap, eNotN_ap, oNone_ap, oSome_ap, eSl_ap, iTup_ap, iStr_ap, iRange1_ap, iRange2_ap, iLst_ap, iZipD_ap, setAll_nil, setAll_cons, wipeD_nil, wipeD_cons, dAdd_int, dSub_int, dLt_int, dLe_int, dGt_int, dGe_int, dEqX_int, dEqX_str, dNeX_int, dNeX_str, dEqX_nil, dNeX_nil, dIs_bl, dMod_int, div_lit, bind_ok, bind_exc, toS_ok, toS_exc, then_nx, then_rt, then_exc, endD_nx, endD_rt, endD_exc, List.set_cons_succ, List.set_cons_zero, if_true, if_false, Bool.false_eq_true, Bool.not_true, Bool.not_false, decide_true, decide_false, Nat.zero_add, Nat.reduceAdd, lcEnd_f, eLc_ap, eRev_ap, eFld_ap, sFldD_ap, eMeth_ap, sRaise_ap, eFrz_ap, insOf_ins, bTuple_lst, bTuple_tup, bMin2_int, bMax2_int, bAbs_int, bLen_lst, bLen_tup, bLen_scr, bAll_lst, bAny_lst, bSum_lst, dIx_lst, dIx_tup, dIx_scr, bRepr_bl, sz_lit, Int.reduceLT, Int.reduceLE, Int.reducePow, Nat.reduceLT, Nat.reduceLeDiff, Nat.reducePow, gTup_tup, gCons_c, gNil_n, cast_lit, eq_self, Int.reduceEq, Int.reduceNeg, eDic0_f, sTry_ap, eMake_f, ofS_inj, ofS_beq, String.reduceEq, String.reduceBEq, rg1_ap, rg2_ap, eListRg_ap, iRevRg_ap, iZip3D_ap, iEnum_ap, sSetAt_ap, rg_ok, rg_ok2, rgl_ok, mul_r, mul_l, mod_d, at_int', at_bl', p6, p9, p10, p11, p12, p60, dAdd_lst, Int.toNat_natCast, Int.zero_add, Int.sub_zero, bInt_bl, bInt_int, bList_f, dSl_lst, dSl_tup, dSl_scr, List.getElem?_cons_zero, List.getElem?_cons_succ, beq_self_eq_true, Bool.true_or, Bool.or_false, Bool.or_true, Bool.false_or, Nat.reduceSub, ne_scr_nil, at_zero, Int.reduceAdd, Int.reduceSub, Int.reduceMul, sz_lt, dIx_r, bLen_r, isTy_r, app_r, pop_r, clear_r, frz_r, frz_lst, isNone_non, isNone_int, List.lookup_cons, List.lookup_nil, and_self, and_true, true_and, setAt_r, ixN_ok, Option.map_some, List.map_set, List.length_set, snoc_get, snoc_set, setF_r, putFD_nil, putFD_cons, sTry_ap, h, ne, t1', t2, t3, and_self, kd]
theorem done_take_exc (h : callD 2 m_Stacks__take [] [stV ts pl s, n] S = .exc C [] S) (e : exOk C wd) : callD 5 m__law_done [] [stV ts pl s, .bl false, b, w, n] S = .ok (.str wd) S := by
  obtain ⟨kd, t1, t3⟩ := e
  have t2 := crane_in
  have ne : isNone (.exc C []) = some false := rfl
  have t1' : (C ∈ exT) = True := eq_true t1
  refine (call_mut rfl).trans ?_
  rw [m__law_done, runD_ap, z__law_done]
  unfold stV at *
  simp (disch := first | omega | (simp only [List.length_map, List.length_cons, List.length_nil, List.length_append]; omega)) only [List.map_cons, List.map_nil, List.length_cons, List.length_nil, List.length_map, List.replicate, List.cons_append, List.nil_append, List.append_eq, sSeq_ap, sSet_ap, sIf_ap, sRet_ap, sRetN_ap, sExpr_ap, sNext_ap, sBreak_ap, sCont_ap, sPar_ap, sAsg_ap, sFor_ap, gName_ap, eVar_0, eVar_s, eC_ap, aNil_ap, aCons_ap, e2_ap, e3_ap, toB_bl, toB_stuck, tV_ap, tAnd_ap, tOr_ap, tNot_ap, eAnd_ap, eOr_ap, eNot_ap, eIf_ap, eNeg_ap, eTup_ap, eLst_ap, eLstL_ap, eB_ap, eIsi_ap, eCall_ap, eM_ap, eM0_ap, eIsN_ap, eNotN_ap, oNone_ap, oSome_ap, eSl_ap, iTup_ap, iStr_ap, iRange1_ap, iRange2_ap, iLst_ap, iZipD_ap, setAll_nil, setAll_cons, wipeD_nil, wipeD_cons, dAdd_int, dSub_int, dLt_int, dLe_int, dGt_int, dGe_int, dEqX_int, dEqX_str, dNeX_int, dNeX_str, dEqX_nil, dNeX_nil, dIs_bl, dMod_int, div_lit, bind_ok, bind_exc, toS_ok, toS_exc, then_nx, then_rt, then_exc, endD_nx, endD_rt, endD_exc, List.set_cons_succ, List.set_cons_zero, if_true, if_false, Bool.false_eq_true, Bool.not_true, Bool.not_false, decide_true, decide_false, Nat.zero_add, Nat.reduceAdd, lcEnd_f, eLc_ap, eRev_ap, eFld_ap, sFldD_ap, eMeth_ap, sRaise_ap, eFrz_ap, insOf_ins, bTuple_lst, bTuple_tup, bMin2_int, bMax2_int, bAbs_int, bLen_lst, bLen_tup, bLen_scr, bAll_lst, bAny_lst, bSum_lst, dIx_lst, dIx_tup, dIx_scr, bRepr_bl, sz_lit, Int.reduceLT, Int.reduceLE, Int.reducePow, Nat.reduceLT, Nat.reduceLeDiff, Nat.reducePow, gTup_tup, gCons_c, gNil_n, cast_lit, eq_self, Int.reduceEq, Int.reduceNeg, eDic0_f, sTry_ap, eMake_f, ofS_inj, ofS_beq, String.reduceEq, String.reduceBEq, rg1_ap, rg2_ap, eListRg_ap, iRevRg_ap, iZip3D_ap, iEnum_ap, sSetAt_ap, rg_ok, rg_ok2, rgl_ok, mul_r, mul_l, mod_d, at_int', at_bl', p6, p9, p10, p11, p12, p60, dAdd_lst, Int.toNat_natCast, Int.zero_add, Int.sub_zero, bInt_bl, bInt_int, bList_f, dSl_lst, dSl_tup, dSl_scr, List.getElem?_cons_zero, List.getElem?_cons_succ, beq_self_eq_true, Bool.true_or, Bool.or_false, Bool.or_true, Bool.false_or, Nat.reduceSub, ne_scr_nil, at_zero, Int.reduceAdd, Int.reduceSub, Int.reduceMul, sz_lt, dIx_r, bLen_r, isTy_r, app_r, pop_r, clear_r, frz_r, frz_lst, isNone_non, isNone_int, List.lookup_cons, List.lookup_nil, and_self, and_true, true_and, setAt_r, ixN_ok, Option.map_some, List.map_set, List.length_set, snoc_get, snoc_set, setF_r, putFD_nil, putFD_cons, sTry_ap, h, ne, t1', t2, t3, and_self, kd]
end
theorem rp_word {s : Str} (h : s = "twice" ∨ s = "high" ∨ s = "heavy" ∨ s = "empty") (S : Store) : bRepX 0 [.str s] S = .ok (.str (shD (.str s))) S := by
  have t : TX 10 s := by
    rcases h with rfl | rfl | rfl | rfl <;> exact ⟨by decide +kernel, by decide +kernel⟩
  exact (Rp.str t).rep (sz_16 (by decide)) (by decide) S
theorem v_deed {c : Nat} {S : Store} {ts : List TR} {P : List (List Bx)} {pl ql : List Nat} {s : Nat} (h : Twin c S ts P pl s ql) (bn : BndI ts P) (hc : c ≤ 1000) (nb cell : Int) (c0 : 0 ≤ cell) :
    ∃ S' P', callD 4 m__law_deed [] [stV ts pl s, ownV ts ql, .lst ((List.range 12).map fun k => .str (sL (nmL nb k))), .int cell] S = .ok (.bl true) S' ∧ S'.length = S.length ∧ (∀ m, m ∉ ql → m ∉ s :: pl → S'[m]? = S[m]?) ∧ Twin (c + 1) S' ts P' pl s ql ∧ BndI ts P' := by
  have lo := h.st.told.lo
  have hi := h.st.told.hi
  obtain ⟨i, hi'⟩ : ∃ i : Nat, cell / 4 % (ts.length : Int) = i := ⟨(cell / 4 % (ts.length : Int)).toNat, by have := Int.emod_nonneg (cell / 4) (b := (ts.length : Int)) (by omega); omega⟩
  have il : i < ts.length := by have := Int.emod_lt_of_pos (cell / 4) (b := (ts.length : Int)) (by omega); omega
  obtain ⟨t, ht⟩ := has_idx il rfl
  obtain ⟨l, hl⟩ := has_idx il (h.st.pil.n.trans h.st.Pn)
  obtain ⟨l2, hl2⟩ := has_idx il (h.ow.pil.n.trans h.ow.Pn)
  obtain ⟨p, hp⟩ := has_idx il h.st.Pn
  obtain ⟨k, hk⟩ : ∃ k : Nat, cell / 100 % 12 = k := ⟨(cell / 100 % 12).toNat, by omega⟩
  have k12 : k < 12 := by omega
  obtain ⟨w, w0, w1, ew⟩ := c_weight (c := cell / 2000) (by omega)
  have tm := List.mem_of_getElem? ht
  have tok := h.st.told.ok t tm
  have pm := List.mem_of_getElem? hp
  have e1 := fun S' => own_told (ts := ts) (ql := ql) (S := S')
  have e2 := fun S' => own_piles (ts := ts) (ql := ql) (S := S')
  have md : ∀ S', dMod (.int (cell / 4)) (.int ts.length) S' = .ok (.int i) S' := fun S' => by rw [dMod_int (by omega), hi']
  have at1 : atD (ts.map trD) (i : Int) = some (trD t) := atD_nat (by rw [List.getElem?_map, ht]; rfl)
  have at2 : atD ((List.range 12).map fun k => D.str (sL (nmL nb k))) (k : Int) = some (.str (sL (nmL nb k))) := atD_nat (by rw [List.getElem?_map, List.getElem?_range k12]; rfl)
  have e3 := fun S' => h.ow.ix ht hl2 S'
  have at0 := h.ow.pil.at_ i l2 p hl2 hp
  have ed := v_due (b := nmL nb k) (w := w) h.ow ht hl2 hp
  have tt : trD t = .tup [.str (sL t.nm), .int t.pl, .int t.hi, .int t.wt] := rfl
  have bt := bn i t p ht hp
  have nok := nm_ok nb k
  have up : Twin (c + 1) S ts P pl s ql := by
    refine ⟨⟨h.st.told, h.st.Pn, h.st.pil, h.st.nd, ?_⟩, h.ow, h.dj, h.nn, h.bx⟩
    obtain ⟨kds, k1, k2, k3⟩ := h.st.sp
    exact ⟨kds, k1, ⟨by omega, k2.2⟩, k3⟩
  by_cases m1 : cell % 4 > 0
  · have q0 : decide (cell % 4 > 0) = true := decide_eq_true m1
    by_cases due : wh ts P (nmL nb k) = none ∧ (p.length : Int) < t.hi ∧ wtS p + w ≤ t.wt
    · obtain ⟨hw, hh, hs⟩ := due
      have dd : dueS ts P p t (nmL nb k) w = "" := by
        unfold dueS
        rw [hw, if_neg (by simp), if_neg (by omega), if_neg (by omega)]
      rw [dd] at ed
      have ty : isTy "list" S (.ref l2) = true := by rw [isTy_r, at0]; rfl
      have a1 : mAppend (.ref l2) [.tup [.str (sL (nmL nb k)), .int w]] S = .ok .non (S.set l2 (some (.lst ((p ++ [(nmL nb k, w)]).map bxD)))) := by
        rw [app_ok at0 (by rw [List.length_map]; have := tok.hi1; omega), List.map_append]; rfl
      have dl : ∀ m ∈ s :: pl, (S.set l2 (some (.lst ((p ++ [(nmL nb k, w)]).map bxD))))[m]? = S[m]? := fun m hm => List.getElem?_set_ne fun z => h.dj l2 (List.mem_of_getElem? hl2) (by rw [z]; exact hm)
      obtain ⟨S', r1, r2, r3, r4, r5⟩ := v_put (h.st.same dl) h.nn ht hl hp nok w0 w1 hw hh hs hc
      have r1' := done_put_ok r1
      have ow' := h.ow.pil.set (q := p ++ [(nmL nb k, w)]) h.ow.nd hl2 hp
      refine ⟨S', P.set i (p ++ [(nmL nb k, w)]), ?_, by rw [r2, List.length_set], fun m hm1 hm2 => ?_, ⟨r4, ⟨h.ow.told, by rw [List.length_set]; exact h.ow.Pn, ow'.same fun m hm => r3 m (h.dj m hm), h.ow.nd, set_all h.ow.sz ?_⟩, h.dj, r5, set_all h.bx ?_⟩, bn.set ht ⟨?_, ?_⟩⟩
      · have rn : ∀ S, bRepX 0 [.non] S = .ok (.str (shD .non)) S := fun S => Rp.non.rep (sz_16 (by decide)) (by decide) S
        refine (call_mut rfl).trans ?_
        rw [m__law_deed, runD_ap, z__law_deed]
        clear h
        unfold stV at *
        simp (disch := first | omega | (simp only [List.length_map, List.length_cons, List.length_nil, List.length_append]; omega)) only [List.map_cons, List.map_nil, List.length_cons, List.length_nil, List.length_map, List.replicate, List.cons_append, List.nil_append, List.append_eq, sSeq_ap, sSet_ap, sIf_ap, sRet_ap, sRetN_ap, sExpr_ap, sNext_ap, sBreak_ap, sCont_ap, sPar_ap, sAsg_ap, sFor_ap, gName_ap, eVar_0, eVar_s, eC_ap, aNil_ap, aCons_ap, e2_ap, e3_ap, toB_bl, toB_stuck, tV_ap, tAnd_ap, tOr_ap, tNot_ap, eAnd_ap, eOr_ap, eNot_ap, eIf_ap, eNeg_ap, eTup_ap, eLst_ap, eLstL_ap, eB_ap, eIsi_ap, eCall_ap, eM_ap, eM0_ap, eIsN_ap, eNotN_ap, oNone_ap, oSome_ap, eSl_ap, iTup_ap, iStr_ap, iRange1_ap, iRange2_ap, iLst_ap, iZipD_ap, setAll_nil, setAll_cons, wipeD_nil, wipeD_cons, dAdd_int, dSub_int, dLt_int, dLe_int, dGt_int, dGe_int, dEqX_int, dEqX_str, dNeX_int, dNeX_str, dEqX_nil, dNeX_nil, dIs_bl, dMod_int, div_lit, bind_ok, bind_exc, toS_ok, toS_exc, then_nx, then_rt, then_exc, endD_nx, endD_rt, endD_exc, List.set_cons_succ, List.set_cons_zero, if_true, if_false, Bool.false_eq_true, Bool.not_true, Bool.not_false, decide_true, decide_false, Nat.zero_add, Nat.reduceAdd, lcEnd_f, eLc_ap, eRev_ap, eFld_ap, sFldD_ap, eMeth_ap, sRaise_ap, eFrz_ap, insOf_ins, bTuple_lst, bTuple_tup, bMin2_int, bMax2_int, bAbs_int, bLen_lst, bLen_tup, bLen_scr, bAll_lst, bAny_lst, bSum_lst, dIx_lst, dIx_tup, dIx_scr, bRepr_bl, sz_lit, Int.reduceLT, Int.reduceLE, Int.reducePow, Nat.reduceLT, Nat.reduceLeDiff, Nat.reducePow, gTup_tup, gCons_c, gNil_n, cast_lit, eq_self, Int.reduceEq, Int.reduceNeg, eDic0_f, sTry_ap, eMake_f, ofS_inj, ofS_beq, String.reduceEq, String.reduceBEq, rg1_ap, rg2_ap, eListRg_ap, iRevRg_ap, iZip3D_ap, iEnum_ap, sSetAt_ap, rg_ok, rg_ok2, rgl_ok, mul_r, mul_l, mod_d, at_int', at_bl', p6, p9, p10, p11, p12, p60, dAdd_lst, Int.toNat_natCast, Int.zero_add, Int.sub_zero, bInt_bl, bInt_int, bList_f, dSl_lst, dSl_tup, dSl_scr, List.getElem?_cons_zero, List.getElem?_cons_succ, beq_self_eq_true, Bool.true_or, Bool.or_false, Bool.or_true, Bool.false_or, Nat.reduceSub, ne_scr_nil, at_zero, Int.reduceAdd, Int.reduceSub, Int.reduceMul, sz_lt, dIx_r, bLen_r, isTy_r, app_r, pop_r, clear_r, frz_r, frz_lst, isNone_non, isNone_int, List.lookup_cons, List.lookup_nil, and_self, and_true, true_and, setAt_r, ixN_ok, Option.map_some, List.map_set, List.length_set, snoc_get, snoc_set, setF_r, putFD_nil, putFD_cons, e1, e2, md, at1, tt, hk, at2, ew, q0, ed, e3, ty, a1, r1', rn, -isTy_r, -app_r]
      · rw [r3 m hm2, List.getElem?_set_ne fun z => hm1 (by rw [← z]; exact List.mem_of_getElem? hl2)]
      · rw [List.length_append, List.length_singleton]; have := tok.hi1; omega
      · intro x hx
        rcases List.mem_append.mp hx with hx | hx
        · exact h.bx p pm x hx
        · rw [List.mem_singleton.mp hx]
          exact ⟨nok, w0, w1⟩
      · rw [List.length_append, List.length_singleton]; push_cast; omega
      · rw [wtS_snoc]; exact hs
    · obtain ⟨C, wd, hput, ex, dd, hwd⟩ : ∃ C wd, callD 4 m_Stacks__put [] [stV ts pl s, .str (sL (nmL nb k)), .int w, .str (sL t.nm)] S = .exc C [] S ∧ exOk C wd ∧ dueS ts P p t (nmL nb k) w = wd ∧ (wd = "twice" ∨ wd = "high" ∨ wd = "heavy" ∨ wd = "empty") := by
        unfold dueS
        cases z : wh ts P (nmL nb k) with
        | some n => exact ⟨_, _, v_put_twice h.st tm nok w0 w1 z, ex_twice, if_pos rfl, .inl rfl⟩
        | none =>
          rw [if_neg (by simp)]
          by_cases hh : t.hi ≤ (p.length : Int)
          · exact ⟨_, _, v_put_high h.st ht hl hp nok w0 w1 z (by omega), ex_high, by rw [if_pos hh], .inr (.inl rfl)⟩
          · by_cases hs : wtS p + w > t.wt
            · exact ⟨_, _, v_put_heavy h.st ht hl hp nok w0 w1 z (by omega) hs, ex_heavy, by rw [if_neg hh, if_pos hs], .inr (.inr (.inl rfl))⟩
            · exact absurd ⟨z, by omega, by omega⟩ due
      rw [dd] at ed
      have r1' := done_put_exc hput ex
      have rw' := fun S => rp_word hwd S
      have ne : decide (wd = (Str.ofString "")) = false := by rcases hwd with rfl | rfl | rfl | rfl <;> decide +kernel
      refine ⟨S, P, ?_, rfl, fun _ _ _ => rfl, up, bn⟩
      refine (call_mut rfl).trans ?_
      rw [m__law_deed, runD_ap, z__law_deed]
      clear h up
      unfold stV at *
      simp (disch := first | omega | (simp only [List.length_map, List.length_cons, List.length_nil, List.length_append]; omega)) only [List.map_cons, List.map_nil, List.length_cons, List.length_nil, List.length_map, List.replicate, List.cons_append, List.nil_append, List.append_eq, sSeq_ap, sSet_ap, sIf_ap, sRet_ap, sRetN_ap, sExpr_ap, sNext_ap, sBreak_ap, sCont_ap, sPar_ap, sAsg_ap, sFor_ap, gName_ap, eVar_0, eVar_s, eC_ap, aNil_ap, aCons_ap, e2_ap, e3_ap, toB_bl, toB_stuck, tV_ap, tAnd_ap, tOr_ap, tNot_ap, eAnd_ap, eOr_ap, eNot_ap, eIf_ap, eNeg_ap, eTup_ap, eLst_ap, eLstL_ap, eB_ap, eIsi_ap, eCall_ap, eM_ap, eM0_ap, eIsN_ap, eNotN_ap, oNone_ap, oSome_ap, eSl_ap, iTup_ap, iStr_ap, iRange1_ap, iRange2_ap, iLst_ap, iZipD_ap, setAll_nil, setAll_cons, wipeD_nil, wipeD_cons, dAdd_int, dSub_int, dLt_int, dLe_int, dGt_int, dGe_int, dEqX_int, dEqX_str, dNeX_int, dNeX_str, dEqX_nil, dNeX_nil, dIs_bl, dMod_int, div_lit, bind_ok, bind_exc, toS_ok, toS_exc, then_nx, then_rt, then_exc, endD_nx, endD_rt, endD_exc, List.set_cons_succ, List.set_cons_zero, if_true, if_false, Bool.false_eq_true, Bool.not_true, Bool.not_false, decide_true, decide_false, Nat.zero_add, Nat.reduceAdd, lcEnd_f, eLc_ap, eRev_ap, eFld_ap, sFldD_ap, eMeth_ap, sRaise_ap, eFrz_ap, insOf_ins, bTuple_lst, bTuple_tup, bMin2_int, bMax2_int, bAbs_int, bLen_lst, bLen_tup, bLen_scr, bAll_lst, bAny_lst, bSum_lst, dIx_lst, dIx_tup, dIx_scr, bRepr_bl, sz_lit, Int.reduceLT, Int.reduceLE, Int.reducePow, Nat.reduceLT, Nat.reduceLeDiff, Nat.reducePow, gTup_tup, gCons_c, gNil_n, cast_lit, eq_self, Int.reduceEq, Int.reduceNeg, eDic0_f, sTry_ap, eMake_f, ofS_inj, ofS_beq, String.reduceEq, String.reduceBEq, rg1_ap, rg2_ap, eListRg_ap, iRevRg_ap, iZip3D_ap, iEnum_ap, sSetAt_ap, rg_ok, rg_ok2, rgl_ok, mul_r, mul_l, mod_d, at_int', at_bl', p6, p9, p10, p11, p12, p60, dAdd_lst, Int.toNat_natCast, Int.zero_add, Int.sub_zero, bInt_bl, bInt_int, bList_f, dSl_lst, dSl_tup, dSl_scr, List.getElem?_cons_zero, List.getElem?_cons_succ, beq_self_eq_true, Bool.true_or, Bool.or_false, Bool.or_true, Bool.false_or, Nat.reduceSub, ne_scr_nil, at_zero, Int.reduceAdd, Int.reduceSub, Int.reduceMul, sz_lt, dIx_r, bLen_r, isTy_r, app_r, pop_r, clear_r, frz_r, frz_lst, isNone_non, isNone_int, List.lookup_cons, List.lookup_nil, and_self, and_true, true_and, setAt_r, ixN_ok, Option.map_some, List.map_set, List.length_set, snoc_get, snoc_set, setF_r, putFD_nil, putFD_cons, e1, e2, md, at1, tt, hk, at2, ew, q0, ed, e3, ne, r1', rw']
  · have q0 : decide (cell % 4 > 0) = false := decide_eq_false m1
    have e6 := ne_ref_nil at0
    rcases List.eq_nil_or_concat p with rfl | ⟨q, x, rfl⟩
    · have e6' : dNeX 1 (.ref l2) (.lst []) S = .ok (.bl false) S := e6
      have r1' := done_take_exc (b := .str (sL (nmL nb k))) (w := .int w) (v_take_empty h.st ht hl hp) ex_empty
      have rw' := fun S => rp_word (s := "empty") (.inr (.inr (.inr rfl))) S
      refine ⟨S, P, ?_, rfl, fun _ _ _ => rfl, up, bn⟩
      refine (call_mut rfl).trans ?_
      rw [m__law_deed, runD_ap, z__law_deed]
      clear h up
      unfold stV at *
      simp (disch := first | omega | (simp only [List.length_map, List.length_cons, List.length_nil, List.length_append]; omega)) only [List.map_cons, List.map_nil, List.length_cons, List.length_nil, List.length_map, List.replicate, List.cons_append, List.nil_append, List.append_eq, sSeq_ap, sSet_ap, sIf_ap, sRet_ap, sRetN_ap, sExpr_ap, sNext_ap, sBreak_ap, sCont_ap, sPar_ap, sAsg_ap, sFor_ap, gName_ap, eVar_0, eVar_s, eC_ap, aNil_ap, aCons_ap, e2_ap, e3_ap, toB_bl, toB_stuck, tV_ap, tAnd_ap, tOr_ap, tNot_ap, eAnd_ap, eOr_ap, eNot_ap, eIf_ap, eNeg_ap, eTup_ap, eLst_ap, eLstL_ap, eB_ap, eIsi_ap, eCall_ap, eM_ap, eM0_ap, eIsN_ap, eNotN_ap, oNone_ap, oSome_ap, eSl_ap, iTup_ap, iStr_ap, iRange1_ap, iRange2_ap, iLst_ap, iZipD_ap, setAll_nil, setAll_cons, wipeD_nil, wipeD_cons, dAdd_int, dSub_int, dLt_int, dLe_int, dGt_int, dGe_int, dEqX_int, dEqX_str, dNeX_int, dNeX_str, dEqX_nil, dNeX_nil, dIs_bl, dMod_int, div_lit, bind_ok, bind_exc, toS_ok, toS_exc, then_nx, then_rt, then_exc, endD_nx, endD_rt, endD_exc, List.set_cons_succ, List.set_cons_zero, if_true, if_false, Bool.false_eq_true, Bool.not_true, Bool.not_false, decide_true, decide_false, Nat.zero_add, Nat.reduceAdd, lcEnd_f, eLc_ap, eRev_ap, eFld_ap, sFldD_ap, eMeth_ap, sRaise_ap, eFrz_ap, insOf_ins, bTuple_lst, bTuple_tup, bMin2_int, bMax2_int, bAbs_int, bLen_lst, bLen_tup, bLen_scr, bAll_lst, bAny_lst, bSum_lst, dIx_lst, dIx_tup, dIx_scr, bRepr_bl, sz_lit, Int.reduceLT, Int.reduceLE, Int.reducePow, Nat.reduceLT, Nat.reduceLeDiff, Nat.reducePow, gTup_tup, gCons_c, gNil_n, cast_lit, eq_self, Int.reduceEq, Int.reduceNeg, eDic0_f, sTry_ap, eMake_f, ofS_inj, ofS_beq, String.reduceEq, String.reduceBEq, rg1_ap, rg2_ap, eListRg_ap, iRevRg_ap, iZip3D_ap, iEnum_ap, sSetAt_ap, rg_ok, rg_ok2, rgl_ok, mul_r, mul_l, mod_d, at_int', at_bl', p6, p9, p10, p11, p12, p60, dAdd_lst, Int.toNat_natCast, Int.zero_add, Int.sub_zero, bInt_bl, bInt_int, bList_f, dSl_lst, dSl_tup, dSl_scr, List.getElem?_cons_zero, List.getElem?_cons_succ, beq_self_eq_true, Bool.true_or, Bool.or_false, Bool.or_true, Bool.false_or, Nat.reduceSub, ne_scr_nil, at_zero, Int.reduceAdd, Int.reduceSub, Int.reduceMul, sz_lt, dIx_r, bLen_r, isTy_r, app_r, pop_r, clear_r, frz_r, frz_lst, isNone_non, isNone_int, List.lookup_cons, List.lookup_nil, and_self, and_true, true_and, setAt_r, ixN_ok, Option.map_some, List.map_set, List.length_set, snoc_get, snoc_set, setF_r, putFD_nil, putFD_cons, e1, e2, md, at1, tt, hk, at2, ew, q0, e3, e6', r1', rw']
    · rw [List.concat_eq_append] at *
      have e6' : dNeX 1 (.ref l2) (.lst []) S = .ok (.bl true) S := by rw [e6]; simp
      have al2 : S[l2]? = some (some (.lst (q.map bxD ++ [bxD x]))) := by rw [at0, List.map_append]; rfl
      have pp := pop_ok al2
      have ty : isTy "list" S (.ref l2) = true := by rw [isTy_r, al2]; rfl
      have dl : ∀ m ∈ s :: pl, (S.set l2 (some (.lst (q.map bxD))))[m]? = S[m]? := fun m hm => List.getElem?_set_ne fun z => h.dj l2 (List.mem_of_getElem? hl2) (by rw [z]; exact hm)
      obtain ⟨S', r1, r2, r3, r4, r5⟩ := v_take (h.st.same dl) h.nn ht hl hp
      have r1' := done_take_ok (b := .str (sL (nmL nb k))) (w := .int w) r1
      have bxo := h.bx _ pm x (by simp)
      have rp := fun S' => (bx_rp bxo).rep (sz_16 (by decide)) (by decide) S'
      have ow' := h.ow.pil.set (q := q) h.ow.nd hl2 hp
      have hq : q.length ≤ 100 := by have := h.ow.sz _ pm; rw [List.length_append] at this; omega
      rw [wtS_snoc, List.length_append, List.length_singleton] at bt
      have x1 := bxo.2.1
      refine ⟨S', P.set i q, ?_, by rw [r2, List.length_set], fun m hm1 hm2 => ?_, ⟨?_, ⟨h.ow.told, r4.Pn, ow'.same fun m hm => r3 m (h.dj m hm), h.ow.nd, set_all h.ow.sz hq⟩, h.dj, r5, set_all h.bx fun y hy => h.bx _ pm y (by simp [hy])⟩, bn.set ht ⟨by push_cast at bt; omega, by omega⟩⟩
      · refine (call_mut rfl).trans ?_
        rw [m__law_deed, runD_ap, z__law_deed]
        clear h up
        unfold stV at *
        simp (disch := first | omega | (simp only [List.length_map, List.length_cons, List.length_nil, List.length_append]; omega)) only [List.map_cons, List.map_nil, List.length_cons, List.length_nil, List.length_map, List.replicate, List.cons_append, List.nil_append, List.append_eq, sSeq_ap, sSet_ap, sIf_ap, sRet_ap, sRetN_ap, sExpr_ap, sNext_ap, sBreak_ap, sCont_ap, sPar_ap, sAsg_ap, sFor_ap, gName_ap, eVar_0, eVar_s, eC_ap, aNil_ap, aCons_ap, e2_ap, e3_ap, toB_bl, toB_stuck, tV_ap, tAnd_ap, tOr_ap, tNot_ap, eAnd_ap, eOr_ap, eNot_ap, eIf_ap, eNeg_ap, eTup_ap, eLst_ap, eLstL_ap, eB_ap, eIsi_ap, eCall_ap, eM_ap, eM0_ap, eIsN_ap, eNotN_ap, oNone_ap, oSome_ap, eSl_ap, iTup_ap, iStr_ap, iRange1_ap, iRange2_ap, iLst_ap, iZipD_ap, setAll_nil, setAll_cons, wipeD_nil, wipeD_cons, dAdd_int, dSub_int, dLt_int, dLe_int, dGt_int, dGe_int, dEqX_int, dEqX_str, dNeX_int, dNeX_str, dEqX_nil, dNeX_nil, dIs_bl, dMod_int, div_lit, bind_ok, bind_exc, toS_ok, toS_exc, then_nx, then_rt, then_exc, endD_nx, endD_rt, endD_exc, List.set_cons_succ, List.set_cons_zero, if_true, if_false, Bool.false_eq_true, Bool.not_true, Bool.not_false, decide_true, decide_false, Nat.zero_add, Nat.reduceAdd, lcEnd_f, eLc_ap, eRev_ap, eFld_ap, sFldD_ap, eMeth_ap, sRaise_ap, eFrz_ap, insOf_ins, bTuple_lst, bTuple_tup, bMin2_int, bMax2_int, bAbs_int, bLen_lst, bLen_tup, bLen_scr, bAll_lst, bAny_lst, bSum_lst, dIx_lst, dIx_tup, dIx_scr, bRepr_bl, sz_lit, Int.reduceLT, Int.reduceLE, Int.reducePow, Nat.reduceLT, Nat.reduceLeDiff, Nat.reducePow, gTup_tup, gCons_c, gNil_n, cast_lit, eq_self, Int.reduceEq, Int.reduceNeg, eDic0_f, sTry_ap, eMake_f, ofS_inj, ofS_beq, String.reduceEq, String.reduceBEq, rg1_ap, rg2_ap, eListRg_ap, iRevRg_ap, iZip3D_ap, iEnum_ap, sSetAt_ap, rg_ok, rg_ok2, rgl_ok, mul_r, mul_l, mod_d, at_int', at_bl', p6, p9, p10, p11, p12, p60, dAdd_lst, Int.toNat_natCast, Int.zero_add, Int.sub_zero, bInt_bl, bInt_int, bList_f, dSl_lst, dSl_tup, dSl_scr, List.getElem?_cons_zero, List.getElem?_cons_succ, beq_self_eq_true, Bool.true_or, Bool.or_false, Bool.or_true, Bool.false_or, Nat.reduceSub, ne_scr_nil, at_zero, Int.reduceAdd, Int.reduceSub, Int.reduceMul, sz_lt, dIx_r, bLen_r, isTy_r, app_r, pop_r, clear_r, frz_r, frz_lst, isNone_non, isNone_int, List.lookup_cons, List.lookup_nil, and_self, and_true, true_and, setAt_r, ixN_ok, Option.map_some, List.map_set, List.length_set, snoc_get, snoc_set, setF_r, putFD_nil, putFD_cons, e1, e2, md, at1, tt, hk, at2, ew, q0, e3, e6', pp, ty, r1', rp, -isTy_r, -pop_r]
      · rw [r3 m hm2, List.getElem?_set_ne fun z => hm1 (by rw [← z]; exact List.mem_of_getElem? hl2)]
      · obtain ⟨kds, k1, k2, k3⟩ := r4.sp
        exact ⟨r4.told, r4.Pn, r4.pil, r4.nd, kds, k1, ⟨by omega, k2.2⟩, k3⟩
end Q
namespace Q
open PySem L2 Mi
/-! where a box lies, asked -/
theorem nobox_str : ((Str.ofString "no box") = (Str.ofString "no box")) = True := eq_true rfl
theorem v_box_right {c : Nat} {S : Store} {ts : List TR} {P : List (List Bx)} {pl ql : List Nat} {s : Nat} (h : Twin c S ts P pl s ql) (b : List Nat) : callD 3 m__law_box_right [] [stV ts pl s, ownV ts ql, .str (sL b)] S = .ok (.bl true) S := by
  have told := h.st.told
  have ew := v_where_own (h.ow.pil.n.trans h.ow.Pn) h.ow.sz h.ow.pil h.ow.Pn b
  have t2 := crane_in
  cases z : wh ts P b with
  | none =>
    rw [z] at ew
    have ew' : callD 2 m__law_where [] [ownV ts ql, .str (sL b)] S = .ok .non S := ew
    have w1 := v_where_no h.st z
    obtain ⟨kd, t1, t3⟩ := ex_nobox
    have ne : isNone (.exc "NoBox" []) = some false := rfl
    have t1' : ((Str.ofString "NoBox") ∈ exT) = True := eq_true t1
    refine (call_mut rfl).trans ?_
    rw [m__law_box_right, runD_ap, z__law_box_right]
    unfold stV at *
    simp (disch := first | omega | (simp only [List.length_map, List.length_cons, List.length_nil, List.length_append]; omega)) only [List.map_cons, List.map_nil, List.length_cons, List.length_nil, List.length_map, List.replicate, List.cons_append, List.nil_append, List.append_eq, sSeq_ap, sSet_ap, sIf_ap, sRet_ap, sRetN_ap, sExpr_ap, sNext_ap, sBreak_ap, sCont_ap, sPar_ap, sAsg_ap, sFor_ap, gName_ap, eVar_0, eVar_s, eC_ap, aNil_ap, aCons_ap, e2_ap, e3_ap, toB_bl, toB_stuck, tV_ap, tAnd_ap, tOr_ap, tNot_ap, eAnd_ap, eOr_ap, eNot_ap, eIf_ap, eNeg_ap, eTup_ap, eLst_ap, eLstL_ap, eB_ap, eIsi_ap, eCall_ap, eM_ap, eM0_ap, eIsN_ap, eNotN_ap, oNone_ap, oSome_ap, eSl_ap, iTup_ap, iStr_ap, iRange1_ap, iRange2_ap, iLst_ap, iZipD_ap, setAll_nil, setAll_cons, wipeD_nil, wipeD_cons, dAdd_int, dSub_int, dLt_int, dLe_int, dGt_int, dGe_int, dEqX_int, dEqX_str, dNeX_int, dNeX_str, dEqX_nil, dNeX_nil, dIs_bl, dMod_int, div_lit, bind_ok, bind_exc, toS_ok, toS_exc, then_nx, then_rt, then_exc, endD_nx, endD_rt, endD_exc, List.set_cons_succ, List.set_cons_zero, if_true, if_false, Bool.false_eq_true, Bool.not_true, Bool.not_false, decide_true, decide_false, Nat.zero_add, Nat.reduceAdd, lcEnd_f, eLc_ap, eRev_ap, eFld_ap, sFldD_ap, eMeth_ap, sRaise_ap, eFrz_ap, insOf_ins, bTuple_lst, bTuple_tup, bMin2_int, bMax2_int, bAbs_int, bLen_lst, bLen_tup, bLen_scr, bAll_lst, bAny_lst, bSum_lst, dIx_lst, dIx_tup, dIx_scr, bRepr_bl, sz_lit, Int.reduceLT, Int.reduceLE, Int.reducePow, Nat.reduceLT, Nat.reduceLeDiff, Nat.reducePow, gTup_tup, gCons_c, gNil_n, cast_lit, eq_self, Int.reduceEq, Int.reduceNeg, eDic0_f, sTry_ap, eMake_f, ofS_inj, ofS_beq, String.reduceEq, String.reduceBEq, rg1_ap, rg2_ap, eListRg_ap, iRevRg_ap, iZip3D_ap, iEnum_ap, sSetAt_ap, rg_ok, rg_ok2, rgl_ok, mul_r, mul_l, mod_d, at_int', at_bl', p6, p9, p10, p11, p12, p60, dAdd_lst, Int.toNat_natCast, Int.zero_add, Int.sub_zero, bInt_bl, bInt_int, bList_f, dSl_lst, dSl_tup, dSl_scr, List.getElem?_cons_zero, List.getElem?_cons_succ, beq_self_eq_true, Bool.true_or, Bool.or_false, Bool.or_true, Bool.false_or, Nat.reduceSub, ne_scr_nil, at_zero, Int.reduceAdd, Int.reduceSub, Int.reduceMul, sz_lt, dIx_r, bLen_r, isTy_r, app_r, pop_r, clear_r, frz_r, frz_lst, isNone_non, isNone_int, List.lookup_cons, List.lookup_nil, and_self, and_true, true_and, setAt_r, ixN_ok, Option.map_some, List.map_set, List.length_set, snoc_get, snoc_set, setF_r, putFD_nil, putFD_cons, sTry_ap, ew', w1, isNone_non, ne, t1', t2, t3, and_self, kd]
  | some n =>
    rw [z] at ew
    obtain ⟨j, t', p', ht', hp', hb', rfl⟩ := wh_some z
    obtain ⟨q, x, rfl⟩ := has_snoc hb'
    have jl : j < ts.length := (List.getElem?_eq_some_iff.mp ht').1
    obtain ⟨l', hl'⟩ := has_idx jl (h.st.pil.n.trans h.st.Pn)
    obtain ⟨l2', hl2'⟩ := has_idx jl (h.ow.pil.n.trans h.ow.Pn)
    have ew' : callD 2 m__law_where [] [ownV ts ql, .str (sL b)] S = .ok (.str (sL t'.nm)) S := ew
    have w1 := v_where h.st z
    have w2 := v_is_top h.st z ht' hl' hp'
    have e5 := own_piles (ts := ts) (ql := ql) (S := S)
    have e6 := h.ow.ix ht' hl2' S
    have at0 := h.ow.pil.at_ j l2' _ hl2' hp'
    have lst : dIx (.ref l2') (.int (-1)) S = .ok (.tup [.str (sL x.1), .int x.2]) S := by
      rw [dIx_r, at0]
      have := at_last (f := bxD) (l := q ++ [x]) x (by simp)
      simp only [this]
      rw [List.length_append, List.length_singleton, Nat.add_sub_cancel, getD_app_r]
      rfl
    have rp2 : ∀ b : Bool, bRepX 0 [.lst [.str (sL t'.nm), .bl b]] S = .ok (.str (shD (.lst [.str (sL t'.nm), .bl b]))) S := fun b =>
      (Rp.lst (n := 100) (m := 0) fun d hd => by
        simp only [List.mem_cons, List.not_mem_nil, or_false] at hd
        rcases hd with rfl | rfl
        · exact nm_rp (told.ok t' (List.mem_of_getElem? ht')).nm
        · exact (Rp.bl b).le (by decide) (Nat.le_refl _)).rep (sz_16 (by simp)) (by decide) S
    refine (call_mut rfl).trans ?_
    rw [m__law_box_right, runD_ap, z__law_box_right]
    unfold stV at *
    simp (disch := first | omega | (simp only [List.length_map, List.length_cons, List.length_nil, List.length_append]; omega)) only [List.map_cons, List.map_nil, List.length_cons, List.length_nil, List.length_map, List.replicate, List.cons_append, List.nil_append, List.append_eq, sSeq_ap, sSet_ap, sIf_ap, sRet_ap, sRetN_ap, sExpr_ap, sNext_ap, sBreak_ap, sCont_ap, sPar_ap, sAsg_ap, sFor_ap, gName_ap, eVar_0, eVar_s, eC_ap, aNil_ap, aCons_ap, e2_ap, e3_ap, toB_bl, toB_stuck, tV_ap, tAnd_ap, tOr_ap, tNot_ap, eAnd_ap, eOr_ap, eNot_ap, eIf_ap, eNeg_ap, eTup_ap, eLst_ap, eLstL_ap, eB_ap, eIsi_ap, eCall_ap, eM_ap, eM0_ap, eIsN_ap, eNotN_ap, oNone_ap, oSome_ap, eSl_ap, iTup_ap, iStr_ap, iRange1_ap, iRange2_ap, iLst_ap, iZipD_ap, setAll_nil, setAll_cons, wipeD_nil, wipeD_cons, dAdd_int, dSub_int, dLt_int, dLe_int, dGt_int, dGe_int, dEqX_int, dEqX_str, dNeX_int, dNeX_str, dEqX_nil, dNeX_nil, dIs_bl, dMod_int, div_lit, bind_ok, bind_exc, toS_ok, toS_exc, then_nx, then_rt, then_exc, endD_nx, endD_rt, endD_exc, List.set_cons_succ, List.set_cons_zero, if_true, if_false, Bool.false_eq_true, Bool.not_true, Bool.not_false, decide_true, decide_false, Nat.zero_add, Nat.reduceAdd, lcEnd_f, eLc_ap, eRev_ap, eFld_ap, sFldD_ap, eMeth_ap, sRaise_ap, eFrz_ap, insOf_ins, bTuple_lst, bTuple_tup, bMin2_int, bMax2_int, bAbs_int, bLen_lst, bLen_tup, bLen_scr, bAll_lst, bAny_lst, bSum_lst, dIx_lst, dIx_tup, dIx_scr, bRepr_bl, sz_lit, Int.reduceLT, Int.reduceLE, Int.reducePow, Nat.reduceLT, Nat.reduceLeDiff, Nat.reducePow, gTup_tup, gCons_c, gNil_n, cast_lit, eq_self, Int.reduceEq, Int.reduceNeg, eDic0_f, sTry_ap, eMake_f, ofS_inj, ofS_beq, String.reduceEq, String.reduceBEq, rg1_ap, rg2_ap, eListRg_ap, iRevRg_ap, iZip3D_ap, iEnum_ap, sSetAt_ap, rg_ok, rg_ok2, rgl_ok, mul_r, mul_l, mod_d, at_int', at_bl', p6, p9, p10, p11, p12, p60, dAdd_lst, Int.toNat_natCast, Int.zero_add, Int.sub_zero, bInt_bl, bInt_int, bList_f, dSl_lst, dSl_tup, dSl_scr, List.getElem?_cons_zero, List.getElem?_cons_succ, beq_self_eq_true, Bool.true_or, Bool.or_false, Bool.or_true, Bool.false_or, Nat.reduceSub, ne_scr_nil, at_zero, Int.reduceAdd, Int.reduceSub, Int.reduceMul, sz_lt, dIx_r, bLen_r, isTy_r, app_r, pop_r, clear_r, frz_r, frz_lst, isNone_non, isNone_int, List.lookup_cons, List.lookup_nil, and_self, and_true, true_and, setAt_r, ixN_ok, Option.map_some, List.map_set, List.length_set, snoc_get, snoc_set, setF_r, putFD_nil, putFD_cons, sTry_ap, ew', isNone_str, w1, w2, e5, e6, lst, rp2, -dIx_r]
end Q
namespace Q
open PySem L2 Mi
/-! all stacks, asked -/
theorem names_app {P Q : List (List Bx)} : names (P ++ Q) = names P ++ names Q := by unfold names; rw [List.flatten_append, List.map_append]
theorem names_one {p : List Bx} : names [p] = p.map (·.1) := by unfold names; simp
theorem names_len {P : List (List Bx)} (h : ∀ p ∈ P, p.length ≤ 100) : (names P).length ≤ 100 * P.length := by
  induction P with
  | nil => simp [names]
  | cons p P ih =>
    have a := h p List.mem_cons_self
    have b := ih fun q hq => h q (List.mem_cons_of_mem _ hq)
    rw [names_cons, List.length_append, List.length_map, List.length_cons]
    omega
theorem all_body {c : Nat} {S : Store} {ts : List TR} {P : List (List Bx)} {pl ql : List Nat} {s i : Nat} {t : TR} {p : List Bx} (h : Twin c S ts P pl s ql) (bn : BndI ts P) (ht : ts[i]? = some t) (hp : P[i]? = some p) (bx : D) (acc : List D) (hacc : acc.length ≤ 3000) (o4 o5 o6 o7 o8 : Option D) :
    b__law_all_right_1 (setAll [some (stV ts pl s), some (ownV ts ql), some bx, some (.lst acc), o4, o5, o6, o7, o8, none, none] [(4, .str (sL t.nm)), (5, .int t.pl), (6, .int t.hi), (7, .int t.wt)]) S =
      .nx [some (stV ts pl s), some (ownV ts ql), some bx, some (.lst (acc ++ p.map fun x => .str (sL x.1))), some (.str (sL t.nm)), some (.int t.pl), some (.int t.hi), some (.int t.wt), some (.ref S.length), none, none] (S ++ [some (.lst (p.map bxD))]) := by
  have il : i < ts.length := (List.getElem?_eq_some_iff.mp ht).1
  obtain ⟨l, hl⟩ := has_idx il (h.st.pil.n.trans h.st.Pn)
  obtain ⟨l2, hl2⟩ := has_idx il (h.ow.pil.n.trans h.ow.Pn)
  have bt := bn i t p ht hp
  have pl100 := h.ow.sz p (List.mem_of_getElem? hp)
  let S2 : Store := S ++ [some (.lst (p.map bxD))]
  have vb : callD 2 m_Stacks__boxes [] [stV ts pl s, .str (sL t.nm)] S = .ok (.ref S.length) S2 := v_boxes h.st ht hl hp
  have h2 : Twin c S2 ts P pl s ql := h.app _
  have at0 : S2[S.length]? = some (some (.lst (p.map bxD))) := snoc_get
  have bxo : ∀ x ∈ p, BxOk x := h.bx p (List.mem_of_getElem? hp)
  have r3 : bRepX 1 [.ref S.length] S2 = .ok (.str (shD (.lst (p.map bxD)))) S2 := (pile_rp bxo pl100).ref at0 big4 (by decide)
  have r4 : bRepX 1 [.ref l2] S2 = .ok (.str (shD (.lst (p.map bxD)))) S2 := (pile_rp bxo pl100).ref (h2.ow.pil.at_ i l2 p hl2 hp) big4 (by decide)
  have e2 := own_piles (ts := ts) (ql := ql) (S := S2)
  have e3 := h2.ow.ix ht hl2 S2
  have cm1 : compD (gName 9) tYesD k__law_all_right_1 (some (S.length, p.map bxD)) [some (stV ts pl s), some (ownV ts ql), some bx, some (.lst acc), some (.str (sL t.nm)), some (.int t.pl), some (.int t.hi), some (.int t.wt), some (.ref S.length), none, none] (p.map bxD) S2 = .ok (p.map fun y => .int y.2) S2 :=
    comp_mm (ck := some (S.length, p.map bxD)) at0 (fun y : Bx => .int y.2) fun y hy => ⟨_, rfl, rfl, by unfold k__law_all_right_1 bxD; simp (disch := first | omega | (simp only [List.length_map, List.length_cons, List.length_nil, List.length_append]; omega)) only [List.map_cons, List.map_nil, List.length_cons, List.length_nil, List.length_map, List.replicate, List.cons_append, List.nil_append, List.append_eq, sSeq_ap, sSet_ap, sIf_ap, sRet_ap, sRetN_ap, sExpr_ap, sNext_ap, sBreak_ap, sCont_ap, sPar_ap, sAsg_ap, sFor_ap, gName_ap, eVar_0, eVar_s, eC_ap, aNil_ap, aCons_ap, e2_ap, e3_ap, toB_bl, toB_stuck, tV_ap, tAnd_ap, tOr_ap, tNot_ap, eAnd_ap, eOr_ap, eNot_ap, eIf_ap, eNeg_ap, eTup_ap, eLst_ap, eLstL_ap, eB_ap, eIsi_ap, eCall_ap, eM_ap, eM0_ap, eIsN_ap, eNotN_ap, oNone_ap, oSome_ap, eSl_ap, iTup_ap, iStr_ap, iRange1_ap, iRange2_ap, iLst_ap, iZipD_ap, setAll_nil, setAll_cons, wipeD_nil, wipeD_cons, dAdd_int, dSub_int, dLt_int, dLe_int, dGt_int, dGe_int, dEqX_int, dEqX_str, dNeX_int, dNeX_str, dEqX_nil, dNeX_nil, dIs_bl, dMod_int, div_lit, bind_ok, bind_exc, toS_ok, toS_exc, then_nx, then_rt, then_exc, endD_nx, endD_rt, endD_exc, List.set_cons_succ, List.set_cons_zero, if_true, if_false, Bool.false_eq_true, Bool.not_true, Bool.not_false, decide_true, decide_false, Nat.zero_add, Nat.reduceAdd, lcEnd_f, eLc_ap, eRev_ap, eFld_ap, sFldD_ap, eMeth_ap, sRaise_ap, eFrz_ap, insOf_ins, bTuple_lst, bTuple_tup, bMin2_int, bMax2_int, bAbs_int, bLen_lst, bLen_tup, bLen_scr, bAll_lst, bAny_lst, bSum_lst, dIx_lst, dIx_tup, dIx_scr, bRepr_bl, sz_lit, Int.reduceLT, Int.reduceLE, Int.reducePow, Nat.reduceLT, Nat.reduceLeDiff, Nat.reducePow, gTup_tup, gCons_c, gNil_n, cast_lit, eq_self, Int.reduceEq, Int.reduceNeg, eDic0_f, sTry_ap, eMake_f, ofS_inj, ofS_beq, String.reduceEq, String.reduceBEq, rg1_ap, rg2_ap, eListRg_ap, iRevRg_ap, iZip3D_ap, iEnum_ap, sSetAt_ap, rg_ok, rg_ok2, rgl_ok, mul_r, mul_l, mod_d, at_int', at_bl', p6, p9, p10, p11, p12, p60, dAdd_lst, Int.toNat_natCast, Int.zero_add, Int.sub_zero, bInt_bl, bInt_int, bList_f, dSl_lst, dSl_tup, dSl_scr, List.getElem?_cons_zero, List.getElem?_cons_succ, beq_self_eq_true, Bool.true_or, Bool.or_false, Bool.or_true, Bool.false_or, Nat.reduceSub, ne_scr_nil, at_zero, Int.reduceAdd, Int.reduceSub, Int.reduceMul, sz_lt, dIx_r, bLen_r, isTy_r, app_r, pop_r, clear_r, frz_r, frz_lst, isNone_non, isNone_int, List.lookup_cons, List.lookup_nil, and_self, and_true, true_and, setAt_r, ixN_ok, Option.map_some, List.map_set, List.length_set, snoc_get, snoc_set, setF_r, putFD_nil, putFD_cons, at_one]⟩
  have cm2 : compD (gName 9) tYesD k__law_all_right_2 (some (S.length, p.map bxD)) [some (stV ts pl s), some (ownV ts ql), some bx, some (.lst acc), some (.str (sL t.nm)), some (.int t.pl), some (.int t.hi), some (.int t.wt), some (.ref S.length), none, none] (p.map bxD) S2 = .ok (p.map fun y => .str (sL y.1)) S2 :=
    comp_mm (ck := some (S.length, p.map bxD)) at0 (fun y : Bx => .str (sL y.1)) fun y hy => ⟨_, rfl, rfl, by unfold k__law_all_right_2 bxD; simp (disch := first | omega | (simp only [List.length_map, List.length_cons, List.length_nil, List.length_append]; omega)) only [List.map_cons, List.map_nil, List.length_cons, List.length_nil, List.length_map, List.replicate, List.cons_append, List.nil_append, List.append_eq, sSeq_ap, sSet_ap, sIf_ap, sRet_ap, sRetN_ap, sExpr_ap, sNext_ap, sBreak_ap, sCont_ap, sPar_ap, sAsg_ap, sFor_ap, gName_ap, eVar_0, eVar_s, eC_ap, aNil_ap, aCons_ap, e2_ap, e3_ap, toB_bl, toB_stuck, tV_ap, tAnd_ap, tOr_ap, tNot_ap, eAnd_ap, eOr_ap, eNot_ap, eIf_ap, eNeg_ap, eTup_ap, eLst_ap, eLstL_ap, eB_ap, eIsi_ap, eCall_ap, eM_ap, eM0_ap, eIsN_ap, eNotN_ap, oNone_ap, oSome_ap, eSl_ap, iTup_ap, iStr_ap, iRange1_ap, iRange2_ap, iLst_ap, iZipD_ap, setAll_nil, setAll_cons, wipeD_nil, wipeD_cons, dAdd_int, dSub_int, dLt_int, dLe_int, dGt_int, dGe_int, dEqX_int, dEqX_str, dNeX_int, dNeX_str, dEqX_nil, dNeX_nil, dIs_bl, dMod_int, div_lit, bind_ok, bind_exc, toS_ok, toS_exc, then_nx, then_rt, then_exc, endD_nx, endD_rt, endD_exc, List.set_cons_succ, List.set_cons_zero, if_true, if_false, Bool.false_eq_true, Bool.not_true, Bool.not_false, decide_true, decide_false, Nat.zero_add, Nat.reduceAdd, lcEnd_f, eLc_ap, eRev_ap, eFld_ap, sFldD_ap, eMeth_ap, sRaise_ap, eFrz_ap, insOf_ins, bTuple_lst, bTuple_tup, bMin2_int, bMax2_int, bAbs_int, bLen_lst, bLen_tup, bLen_scr, bAll_lst, bAny_lst, bSum_lst, dIx_lst, dIx_tup, dIx_scr, bRepr_bl, sz_lit, Int.reduceLT, Int.reduceLE, Int.reducePow, Nat.reduceLT, Nat.reduceLeDiff, Nat.reducePow, gTup_tup, gCons_c, gNil_n, cast_lit, eq_self, Int.reduceEq, Int.reduceNeg, eDic0_f, sTry_ap, eMake_f, ofS_inj, ofS_beq, String.reduceEq, String.reduceBEq, rg1_ap, rg2_ap, eListRg_ap, iRevRg_ap, iZip3D_ap, iEnum_ap, sSetAt_ap, rg_ok, rg_ok2, rgl_ok, mul_r, mul_l, mod_d, at_int', at_bl', p6, p9, p10, p11, p12, p60, dAdd_lst, Int.toNat_natCast, Int.zero_add, Int.sub_zero, bInt_bl, bInt_int, bList_f, dSl_lst, dSl_tup, dSl_scr, List.getElem?_cons_zero, List.getElem?_cons_succ, beq_self_eq_true, Bool.true_or, Bool.or_false, Bool.or_true, Bool.false_or, Nat.reduceSub, ne_scr_nil, at_zero, Int.reduceAdd, Int.reduceSub, Int.reduceMul, sz_lt, dIx_r, bLen_r, isTy_r, app_r, pop_r, clear_r, frz_r, frz_lst, isNone_non, isNone_int, List.lookup_cons, List.lookup_nil, and_self, and_true, true_and, setAt_r, ixN_ok, Option.map_some, List.map_set, List.length_set, snoc_get, snoc_set, setF_r, putFD_nil, putFD_cons]⟩
  have is : intsOf (p.map fun y : Bx => D.int y.2) = some (p.map (·.2)) := by
    have := intsOf_ints (p.map (·.2))
    rw [List.map_map] at this
    exact this
  have sz : (p.length ≤ sizeLine) = True := eq_true (sz_16 (by omega))
  have q1 : decide ((p.length : Int) > t.hi) = false := decide_eq_false (by omega)
  have q2 : decide ((p.map (·.2)).sum > t.wt) = false := decide_eq_false (by have := bt.2; unfold wtS at this; omega)
  have ad : dAdd (.lst acc) (.lst (p.map fun y => .str (sL y.1))) S2 = .ok (.lst (acc ++ p.map fun y => .str (sL y.1))) S2 := by
    rw [dAdd_lst (by rw [List.length_map]; omega)]
  show b__law_all_right_1 _ S = .nx _ S2
  clear_value S2
  clear h h2
  unfold b__law_all_right_1
  unfold stV at *
  simp (disch := first | omega | (simp only [List.length_map, List.length_cons, List.length_nil, List.length_append]; omega)) only [List.map_cons, List.map_nil, List.length_cons, List.length_nil, List.length_map, List.replicate, List.cons_append, List.nil_append, List.append_eq, sSeq_ap, sSet_ap, sIf_ap, sRet_ap, sRetN_ap, sExpr_ap, sNext_ap, sBreak_ap, sCont_ap, sPar_ap, sAsg_ap, sFor_ap, gName_ap, eVar_0, eVar_s, eC_ap, aNil_ap, aCons_ap, e2_ap, e3_ap, toB_bl, toB_stuck, tV_ap, tAnd_ap, tOr_ap, tNot_ap, eAnd_ap, eOr_ap, eNot_ap, eIf_ap, eNeg_ap, eTup_ap, eLst_ap, eLstL_ap, eB_ap, eIsi_ap, eCall_ap, eM_ap, eM0_ap, eIsN_ap, eNotN_ap, oNone_ap, oSome_ap, eSl_ap, iTup_ap, iStr_ap, iRange1_ap, iRange2_ap, iLst_ap, iZipD_ap, setAll_nil, setAll_cons, wipeD_nil, wipeD_cons, dAdd_int, dSub_int, dLt_int, dLe_int, dGt_int, dGe_int, dEqX_int, dEqX_str, dNeX_int, dNeX_str, dEqX_nil, dNeX_nil, dIs_bl, dMod_int, div_lit, bind_ok, bind_exc, toS_ok, toS_exc, then_nx, then_rt, then_exc, endD_nx, endD_rt, endD_exc, List.set_cons_succ, List.set_cons_zero, if_true, if_false, Bool.false_eq_true, Bool.not_true, Bool.not_false, decide_true, decide_false, Nat.zero_add, Nat.reduceAdd, lcEnd_f, eLc_ap, eRev_ap, eFld_ap, sFldD_ap, eMeth_ap, sRaise_ap, eFrz_ap, insOf_ins, bTuple_lst, bTuple_tup, bMin2_int, bMax2_int, bAbs_int, bLen_lst, bLen_tup, bLen_scr, bAll_lst, bAny_lst, bSum_lst, dIx_lst, dIx_tup, dIx_scr, bRepr_bl, sz_lit, Int.reduceLT, Int.reduceLE, Int.reducePow, Nat.reduceLT, Nat.reduceLeDiff, Nat.reducePow, gTup_tup, gCons_c, gNil_n, cast_lit, eq_self, Int.reduceEq, Int.reduceNeg, eDic0_f, sTry_ap, eMake_f, ofS_inj, ofS_beq, String.reduceEq, String.reduceBEq, rg1_ap, rg2_ap, eListRg_ap, iRevRg_ap, iZip3D_ap, iEnum_ap, sSetAt_ap, rg_ok, rg_ok2, rgl_ok, mul_r, mul_l, mod_d, at_int', at_bl', p6, p9, p10, p11, p12, p60, dAdd_lst, Int.toNat_natCast, Int.zero_add, Int.sub_zero, bInt_bl, bInt_int, bList_f, dSl_lst, dSl_tup, dSl_scr, List.getElem?_cons_zero, List.getElem?_cons_succ, beq_self_eq_true, Bool.true_or, Bool.or_false, Bool.or_true, Bool.false_or, Nat.reduceSub, ne_scr_nil, at_zero, Int.reduceAdd, Int.reduceSub, Int.reduceMul, sz_lt, dIx_r, bLen_r, isTy_r, app_r, pop_r, clear_r, frz_r, frz_lst, isNone_non, isNone_int, List.lookup_cons, List.lookup_nil, and_self, and_true, true_and, setAt_r, ixN_ok, Option.map_some, List.map_set, List.length_set, snoc_get, snoc_set, setF_r, putFD_nil, putFD_cons, vb, at0, e2, e3, r3, r4, cm1, cm2, is, sz, q1, q2, ad]
theorem all_loop {c : Nat} {ts : List TR} {P : List (List Bx)} {pl ql : List Nat} {s : Nat} {S : Store} (h : Twin c S ts P pl s ql) (bn : BndI ts P) (bx : D) : ∀ (d j : Nat), j + d = ts.length → ∀ (T : Store) (o4 o5 o6 o7 o8 : Option D),
    ∃ T' b4 b5 b6 b7 b8, forD none (gTup 4 (gCons (gName 4) (gCons (gName 5) (gCons (gName 6) (gCons (gName 7) gNil))))) b__law_all_right_1 ((ts.drop j).map trD) [some (stV ts pl s), some (ownV ts ql), some bx, some (.lst ((names (P.take j)).map fun n => .str (sL n))), o4, o5, o6, o7, o8, none, none] (S ++ T) =
      .nx [some (stV ts pl s), some (ownV ts ql), some bx, some (.lst ((names P).map fun n => .str (sL n))), b4, b5, b6, b7, b8, none, none] (S ++ T') := by
  intro d
  induction d with
  | zero =>
    intro j hj T o4 o5 o6 o7 o8
    refine ⟨T, o4, o5, o6, o7, o8, ?_⟩
    rw [List.drop_eq_nil_of_le (by omega), List.map_nil, forD_nil, List.take_of_length_le (by rw [h.st.Pn]; omega)]
  | succ d ih =>
    intro j hj T o4 o5 o6 o7 o8
    have jl : j < ts.length := by omega
    have jP : j < P.length := by rw [h.st.Pn]; exact jl
    have ht : ts[j]? = some ts[j] := List.getElem?_eq_getElem jl
    have hp : P[j]? = some P[j] := List.getElem?_eq_getElem jP
    have hl : ((names (P.take j)).map fun n => D.str (sL n)).length ≤ 3000 := by
      have a := names_len (P := P.take j) fun p hp => h.ow.sz p (List.mem_of_mem_take hp)
      have b : (P.take j).length ≤ 20 := by rw [List.length_take, h.st.Pn]; have := h.st.told.hi; omega
      rw [List.length_map]; omega
    have bd := all_body (h.app T) bn ht hp bx _ hl o4 o5 o6 o7 o8
    obtain ⟨T', b4, b5, b6, b7, b8, ih⟩ := ih (j + 1) (by omega) (T ++ [some (.lst (P[j].map bxD))]) (some (.str (sL ts[j].nm))) (some (.int ts[j].pl)) (some (.int ts[j].hi)) (some (.int ts[j].wt)) (some (.ref (S ++ T).length))
    refine ⟨T', b4, b5, b6, b7, b8, ?_⟩
    rw [List.drop_eq_getElem_cons jl, List.map_cons]
    have g : gTup 4 (gCons (gName 4) (gCons (gName 5) (gCons (gName 6) (gCons (gName 7) gNil)))) (trD ts[j]) (S ++ T) = some [(4, .str (sL ts[j].nm)), (5, .int ts[j].pl), (6, .int ts[j].hi), (7, .int ts[j].wt)] := rfl
    rw [forD_cons g bd, List.append_assoc]
    have e : ((names (P.take j)).map fun n => D.str (sL n)) ++ (P[j].map fun x => D.str (sL x.1)) = (names (P.take (j + 1))).map fun n => .str (sL n) := by
      rw [List.take_succ_eq_append_getElem jP, names_app, names_one, List.map_append, List.map_map]; rfl
    rw [e]
    exact ih
theorem keys_nm : ∀ l : List (List Nat), keysOf (l.map fun n => D.str (sL n)) = some (l.map fun n => .inr (sL n))
  | [] => rfl
  | n :: l => by
    rw [List.map_cons, List.map_cons]
    unfold keysOf
    rw [keys_nm l]
    rfl
theorem nm_nodup {l : List (List Nat)} (h : l.Nodup) : (l.map fun n => (Sum.inr (sL n) : Key)).Nodup := by
  rw [List.nodup_iff_pairwise_ne, List.pairwise_map]
  rw [List.nodup_iff_pairwise_ne] at h
  exact h.imp fun hne e => hne (sL_inj.mp (Sum.inr.inj e))
theorem v_all {c : Nat} {ts : List TR} {P : List (List Bx)} {pl ql : List Nat} {s : Nat} {S : Store} (h : Twin c S ts P pl s ql) (bn : BndI ts P) (nb : Int) :
    ∃ T, m__law_all_right [stV ts pl s, ownV ts ql, .lst ((List.range 12).map fun k => .str (sL (nmL nb k)))] S = .ok (.bl true) (S ++ T) := by
  obtain ⟨T, b4, b5, b6, b7, b8, lp⟩ := all_loop h bn (.lst ((List.range 12).map fun k => .str (sL (nmL nb k)))) ts.length 0 (by omega) [] none none none none none
  rw [List.append_nil] at lp
  have h1 : Twin c (S ++ T) ts P pl s ql := h.app T
  have nl : (names P).length ≤ 2000 := by
    have a := names_len h.ow.sz
    have := h.st.told.hi
    rw [h.st.Pn] at a
    omega
  refine ⟨T, ?_⟩
  let S1 : Store := S ++ T
  have ot := own_told (ts := ts) (ql := ql) (S := S)
  have ls : ∀ S', bLenSet [.lst ((names P).map fun n => D.str (sL n))] S' = .ok (.int (names P).length) S' := fun S' => by
    unfold bLenSet
    simp only [keys_nm]
    rw [if_pos (by rw [List.length_map]; omega), uniqK_nodup (nm_nodup h.nn), List.length_map]
  have cm : compD (gName 10) tYesD k__law_all_right_3 none [some (stV ts pl s), some (ownV ts ql), some (.lst ((List.range 12).map fun k => .str (sL (nmL nb k)))), some (.lst ((names P).map fun n => .str (sL n))), b4, b5, b6, b7, b8, none, none] ((List.range 12).map fun k => .str (sL (nmL nb k))) S1 = .ok ((List.range 12).map fun _ => .bl true) S1 :=
    comp_mm (ck := none) trivial (fun _ => .bl true) fun k hk => ⟨_, rfl, rfl, by
      have e : callD 3 m__law_box_right [] [stV ts pl s, ownV ts ql, .str (sL (nmL nb k))] S1 = .ok (.bl true) S1 := v_box_right h1 (nmL nb k)
      unfold k__law_all_right_3
      simp (disch := first | omega | (simp only [List.length_map, List.length_cons, List.length_nil, List.length_append]; omega)) only [List.map_cons, List.map_nil, List.length_cons, List.length_nil, List.length_map, List.replicate, List.cons_append, List.nil_append, List.append_eq, sSeq_ap, sSet_ap, sIf_ap, sRet_ap, sRetN_ap, sExpr_ap, sNext_ap, sBreak_ap, sCont_ap, sPar_ap, sAsg_ap, sFor_ap, gName_ap, eVar_0, eVar_s, eC_ap, aNil_ap, aCons_ap, e2_ap, e3_ap, toB_bl, toB_stuck, tV_ap, tAnd_ap, tOr_ap, tNot_ap, eAnd_ap, eOr_ap, eNot_ap, eIf_ap, eNeg_ap, eTup_ap, eLst_ap, eLstL_ap, eB_ap, eIsi_ap, eCall_ap, eM_ap, eM0_ap, eIsN_ap, eNotN_ap, oNone_ap, oSome_ap, eSl_ap, iTup_ap, iStr_ap, iRange1_ap, iRange2_ap, iLst_ap, iZipD_ap, setAll_nil, setAll_cons, wipeD_nil, wipeD_cons, dAdd_int, dSub_int, dLt_int, dLe_int, dGt_int, dGe_int, dEqX_int, dEqX_str, dNeX_int, dNeX_str, dEqX_nil, dNeX_nil, dIs_bl, dMod_int, div_lit, bind_ok, bind_exc, toS_ok, toS_exc, then_nx, then_rt, then_exc, endD_nx, endD_rt, endD_exc, List.set_cons_succ, List.set_cons_zero, if_true, if_false, Bool.false_eq_true, Bool.not_true, Bool.not_false, decide_true, decide_false, Nat.zero_add, Nat.reduceAdd, lcEnd_f, eLc_ap, eRev_ap, eFld_ap, sFldD_ap, eMeth_ap, sRaise_ap, eFrz_ap, insOf_ins, bTuple_lst, bTuple_tup, bMin2_int, bMax2_int, bAbs_int, bLen_lst, bLen_tup, bLen_scr, bAll_lst, bAny_lst, bSum_lst, dIx_lst, dIx_tup, dIx_scr, bRepr_bl, sz_lit, Int.reduceLT, Int.reduceLE, Int.reducePow, Nat.reduceLT, Nat.reduceLeDiff, Nat.reducePow, gTup_tup, gCons_c, gNil_n, cast_lit, eq_self, Int.reduceEq, Int.reduceNeg, eDic0_f, sTry_ap, eMake_f, ofS_inj, ofS_beq, String.reduceEq, String.reduceBEq, rg1_ap, rg2_ap, eListRg_ap, iRevRg_ap, iZip3D_ap, iEnum_ap, sSetAt_ap, rg_ok, rg_ok2, rgl_ok, mul_r, mul_l, mod_d, at_int', at_bl', p6, p9, p10, p11, p12, p60, dAdd_lst, Int.toNat_natCast, Int.zero_add, Int.sub_zero, bInt_bl, bInt_int, bList_f, dSl_lst, dSl_tup, dSl_scr, List.getElem?_cons_zero, List.getElem?_cons_succ, beq_self_eq_true, Bool.true_or, Bool.or_false, Bool.or_true, Bool.false_or, Nat.reduceSub, ne_scr_nil, at_zero, Int.reduceAdd, Int.reduceSub, Int.reduceMul, sz_lt, dIx_r, bLen_r, isTy_r, app_r, pop_r, clear_r, frz_r, frz_lst, isNone_non, isNone_int, List.lookup_cons, List.lookup_nil, and_self, and_true, true_and, setAt_r, ixN_ok, Option.map_some, List.map_set, List.length_set, snoc_get, snoc_set, setF_r, putFD_nil, putFD_cons, e]⟩
  have al : blsOf ((List.range 12).map fun _ => D.bl true) = some [true, true, true, true, true, true, true, true, true, true, true, true] := rfl
  have r12 : ((List.range 12).length ≤ sizeLine) = True := eq_true (by rw [List.length_range]; exact sz_16 (by decide))
  have tk : (names (P.take 0)).map (fun n => D.str (sL n)) = [] := rfl
  have dr : ts.drop 0 = ts := rfl
  rw [tk, dr] at lp
  have lp' : forD none (gTup 4 (gCons (gName 4) (gCons (gName 5) (gCons (gName 6) (gCons (gName 7) gNil))))) b__law_all_right_1 (ts.map trD) [some (stV ts pl s), some (ownV ts ql), some (.lst ((List.range 12).map fun k => .str (sL (nmL nb k)))), some (.lst []), none, none, none, none, none, none, none] S = .nx [some (stV ts pl s), some (ownV ts ql), some (.lst ((List.range 12).map fun k => .str (sL (nmL nb k)))), some (.lst ((names P).map fun n => .str (sL n))), b4, b5, b6, b7, b8, none, none] S1 := lp
  show m__law_all_right _ S = .ok (.bl true) S1
  clear_value S1
  rw [m__law_all_right, runD_ap, z__law_all_right]
  simp (disch := first | omega | (simp only [List.length_map, List.length_cons, List.length_nil, List.length_append]; omega)) only [List.map_cons, List.map_nil, List.length_cons, List.length_nil, List.length_map, List.replicate, List.cons_append, List.nil_append, List.append_eq, sSeq_ap, sSet_ap, sIf_ap, sRet_ap, sRetN_ap, sExpr_ap, sNext_ap, sBreak_ap, sCont_ap, sPar_ap, sAsg_ap, sFor_ap, gName_ap, eVar_0, eVar_s, eC_ap, aNil_ap, aCons_ap, e2_ap, e3_ap, toB_bl, toB_stuck, tV_ap, tAnd_ap, tOr_ap, tNot_ap, eAnd_ap, eOr_ap, eNot_ap, eIf_ap, eNeg_ap, eTup_ap, eLst_ap, eLstL_ap, eB_ap, eIsi_ap, eCall_ap, eM_ap, eM0_ap, eIsN_ap, eNotN_ap, oNone_ap, oSome_ap, eSl_ap, iTup_ap, iStr_ap, iRange1_ap, iRange2_ap, iLst_ap, iZipD_ap, setAll_nil, setAll_cons, wipeD_nil, wipeD_cons, dAdd_int, dSub_int, dLt_int, dLe_int, dGt_int, dGe_int, dEqX_int, dEqX_str, dNeX_int, dNeX_str, dEqX_nil, dNeX_nil, dIs_bl, dMod_int, div_lit, bind_ok, bind_exc, toS_ok, toS_exc, then_nx, then_rt, then_exc, endD_nx, endD_rt, endD_exc, List.set_cons_succ, List.set_cons_zero, if_true, if_false, Bool.false_eq_true, Bool.not_true, Bool.not_false, decide_true, decide_false, Nat.zero_add, Nat.reduceAdd, lcEnd_f, eLc_ap, eRev_ap, eFld_ap, sFldD_ap, eMeth_ap, sRaise_ap, eFrz_ap, insOf_ins, bTuple_lst, bTuple_tup, bMin2_int, bMax2_int, bAbs_int, bLen_lst, bLen_tup, bLen_scr, bAll_lst, bAny_lst, bSum_lst, dIx_lst, dIx_tup, dIx_scr, bRepr_bl, sz_lit, Int.reduceLT, Int.reduceLE, Int.reducePow, Nat.reduceLT, Nat.reduceLeDiff, Nat.reducePow, gTup_tup, gCons_c, gNil_n, cast_lit, eq_self, Int.reduceEq, Int.reduceNeg, eDic0_f, sTry_ap, eMake_f, ofS_inj, ofS_beq, String.reduceEq, String.reduceBEq, rg1_ap, rg2_ap, eListRg_ap, iRevRg_ap, iZip3D_ap, iEnum_ap, sSetAt_ap, rg_ok, rg_ok2, rgl_ok, mul_r, mul_l, mod_d, at_int', at_bl', p6, p9, p10, p11, p12, p60, dAdd_lst, Int.toNat_natCast, Int.zero_add, Int.sub_zero, bInt_bl, bInt_int, bList_f, dSl_lst, dSl_tup, dSl_scr, List.getElem?_cons_zero, List.getElem?_cons_succ, beq_self_eq_true, Bool.true_or, Bool.or_false, Bool.or_true, Bool.false_or, Nat.reduceSub, ne_scr_nil, at_zero, Int.reduceAdd, Int.reduceSub, Int.reduceMul, sz_lt, dIx_r, bLen_r, isTy_r, app_r, pop_r, clear_r, frz_r, frz_lst, isNone_non, isNone_int, List.lookup_cons, List.lookup_nil, and_self, and_true, true_and, setAt_r, ixN_ok, Option.map_some, List.map_set, List.length_set, snoc_get, snoc_set, setF_r, putFD_nil, putFD_cons, ot, lp', ls, cm, al, r12]
  rfl
end Q
namespace Q
open PySem L2 Mi
/-! all taken off a copy -/
theorem Pil.getP {S : Store} {P : List (List Bx)} {pl : List Nat} (h : Pil S P pl) : pl.length = P.length := h.n
/-- one stack, taken off box by box -/
theorem off_while {c : Nat} {ts : List TR} {pl : List Nat} {s i l : Nat} {t : TR} (ht : ts[i]? = some t) (hl : pl[i]? = some l) (o0 o1 : Option D) (f : Nat) (hf : f ∉ s :: pl) : ∀ (k : Nat) (p : List Bx) (P : List (List Bx)) (S : Store) (acc : List D), p.length = k → (∀ x ∈ p, True) → StI c S ts P pl s → (names P).Nodup → P[i]? = some p → S[f]? = some (some (.lst acc)) → acc.length + p.length ≤ 1000 →
    ∃ S', whlD w__law_off_right_1 b__law_off_right_1 (k + 1) [o0, o1, some (stV ts pl s), some (.str (sL t.nm)), some (.ref f)] S = .nx [o0, o1, some (stV ts pl s), some (.str (sL t.nm)), some (.ref f)] S' ∧
      S.length ≤ S'.length ∧ (∀ m, m < S.length → m ≠ f → m ∉ s :: pl → S'[m]? = S[m]?) ∧ StI c S' ts (P.set i []) pl s ∧ (names (P.set i [])).Nodup ∧ S'[f]? = some (some (.lst (acc ++ p.reverse.map bxD))) := by
  intro k
  induction k with
  | zero =>
    intro p P S acc hk _ h nn hp hS hz
    obtain rfl : p = [] := List.eq_nil_of_length_eq_zero hk
    have fl := (List.getElem?_eq_some_iff.mp hS).1
    let S2 : Store := S ++ [some (.lst [])]
    have vb : callD 2 m_Stacks__boxes [] [stV ts pl s, .str (sL t.nm)] S = .ok (.ref S.length) S2 := v_boxes h ht hl hp
    have ne : dNeX 1 (.ref S.length) (.lst []) S2 = .ok (.bl false) S2 := by rw [ne_ref_nil snoc_get]; rfl
    have tst : w__law_off_right_1 [o0, o1, some (stV ts pl s), some (.str (sL t.nm)), some (.ref f)] S = .ok false S2 := by
      unfold w__law_off_right_1
      clear_value S2
      unfold stV at *
      simp (disch := first | omega | (simp only [List.length_map, List.length_cons, List.length_nil, List.length_append]; omega)) only [List.map_cons, List.map_nil, List.length_cons, List.length_nil, List.length_map, List.replicate, List.cons_append, List.nil_append, List.append_eq, sSeq_ap, sSet_ap, sIf_ap, sRet_ap, sRetN_ap, sExpr_ap, sNext_ap, sBreak_ap, sCont_ap, sPar_ap, sAsg_ap, sFor_ap, gName_ap, eVar_0, eVar_s, eC_ap, aNil_ap, aCons_ap, e2_ap, e3_ap, toB_bl, toB_stuck, tV_ap, tAnd_ap, tOr_ap, tNot_ap, eAnd_ap, eOr_ap, eNot_ap, eIf_ap, eNeg_ap, eTup_ap, eLst_ap, eLstL_ap, eB_ap, eIsi_ap, eCall_ap, eM_ap, eM0_ap, eIsN_ap, eNotN_ap, oNone_ap, oSome_ap, eSl_ap, iTup_ap, iStr_ap, iRange1_ap, iRange2_ap, iLst_ap, iZipD_ap, setAll_nil, setAll_cons, wipeD_nil, wipeD_cons, dAdd_int, dSub_int, dLt_int, dLe_int, dGt_int, dGe_int, dEqX_int, dEqX_str, dNeX_int, dNeX_str, dEqX_nil, dNeX_nil, dIs_bl, dMod_int, div_lit, bind_ok, bind_exc, toS_ok, toS_exc, then_nx, then_rt, then_exc, endD_nx, endD_rt, endD_exc, List.set_cons_succ, List.set_cons_zero, if_true, if_false, Bool.false_eq_true, Bool.not_true, Bool.not_false, decide_true, decide_false, Nat.zero_add, Nat.reduceAdd, lcEnd_f, eLc_ap, eRev_ap, eFld_ap, sFldD_ap, eMeth_ap, sRaise_ap, eFrz_ap, insOf_ins, bTuple_lst, bTuple_tup, bMin2_int, bMax2_int, bAbs_int, bLen_lst, bLen_tup, bLen_scr, bAll_lst, bAny_lst, bSum_lst, dIx_lst, dIx_tup, dIx_scr, bRepr_bl, sz_lit, Int.reduceLT, Int.reduceLE, Int.reducePow, Nat.reduceLT, Nat.reduceLeDiff, Nat.reducePow, gTup_tup, gCons_c, gNil_n, cast_lit, eq_self, Int.reduceEq, Int.reduceNeg, eDic0_f, sTry_ap, eMake_f, ofS_inj, ofS_beq, String.reduceEq, String.reduceBEq, rg1_ap, rg2_ap, eListRg_ap, iRevRg_ap, iZip3D_ap, iEnum_ap, sSetAt_ap, rg_ok, rg_ok2, rgl_ok, mul_r, mul_l, mod_d, at_int', at_bl', p6, p9, p10, p11, p12, p60, dAdd_lst, Int.toNat_natCast, Int.zero_add, Int.sub_zero, bInt_bl, bInt_int, bList_f, dSl_lst, dSl_tup, dSl_scr, List.getElem?_cons_zero, List.getElem?_cons_succ, beq_self_eq_true, Bool.true_or, Bool.or_false, Bool.or_true, Bool.false_or, Nat.reduceSub, ne_scr_nil, at_zero, Int.reduceAdd, Int.reduceSub, Int.reduceMul, sz_lt, dIx_r, bLen_r, isTy_r, app_r, pop_r, clear_r, frz_r, frz_lst, isNone_non, isNone_int, List.lookup_cons, List.lookup_nil, and_self, and_true, true_and, setAt_r, ixN_ok, Option.map_some, List.map_set, List.length_set, snoc_get, snoc_set, setF_r, putFD_nil, putFD_cons, vb, ne]
    refine ⟨S2, whl_end tst, by show _ ≤ (S ++ _).length; rw [List.length_append]; omega, fun m hm _ _ => List.getElem?_append_left hm, ?_, ?_, ?_⟩
    · have e : P.set i [] = P := by
        apply List.ext_getElem?
        intro j
        rw [List.getElem?_set]
        split
        · rename_i e; subst e; rw [hp, if_pos (List.getElem?_eq_some_iff.mp hp).1]
        · rfl
      rw [e]; exact h.app _
    · have e : P.set i [] = P := by
        apply List.ext_getElem?
        intro j
        rw [List.getElem?_set]
        split
        · rename_i e; subst e; rw [hp, if_pos (List.getElem?_eq_some_iff.mp hp).1]
        · rfl
      rw [e]; exact nn
    · show (S ++ _)[f]? = _
      rw [List.getElem?_append_left fl, hS]; simp
  | succ k ih =>
    intro p P S acc hk _ h nn hp hS hz
    have fl := (List.getElem?_eq_some_iff.mp hS).1
    rcases List.eq_nil_or_concat p with rfl | ⟨q, x, rfl⟩
    · simp at hk
    rw [List.concat_eq_append] at *
    rw [List.length_append, List.length_singleton] at hk hz
    let S2 : Store := S ++ [some (.lst ((q ++ [x]).map bxD))]
    have vb : callD 2 m_Stacks__boxes [] [stV ts pl s, .str (sL t.nm)] S = .ok (.ref S.length) S2 := v_boxes h ht hl hp
    have ne : dNeX 1 (.ref S.length) (.lst []) S2 = .ok (.bl true) S2 := by
      have e := ne_ref_nil (S := S2) (xs := (q ++ [x]).map bxD) snoc_get
      rw [e]; simp
    have h2 : StI c S2 ts P pl s := h.app _
    obtain ⟨S3, r1, r2, r3, r4, r5⟩ := v_take h2 nn ht hl hp
    have f2 : S2[f]? = some (some (.lst acc)) := by
      show (S ++ _)[f]? = _
      rw [List.getElem?_append_left fl, hS]
    have f3 : S3[f]? = some (some (.lst acc)) := by rw [r3 f hf, f2]
    have tyf : isTy "list" S2 (.ref f) = true := by rw [isTy_r, f2]; rfl
    have tyf3 : isTy "list" S3 (.ref f) = true := by rw [isTy_r, f3]; rfl
    have ap : mAppend (.ref f) [bxD x] S3 = .ok .non (S3.set f (some (.lst (acc ++ [bxD x])))) := app_ok f3 (by omega)
    have tst : w__law_off_right_1 [o0, o1, some (stV ts pl s), some (.str (sL t.nm)), some (.ref f)] S = .ok true S2 := by
      unfold w__law_off_right_1
      clear_value S2
      unfold stV at *
      simp (disch := first | omega | (simp only [List.length_map, List.length_cons, List.length_nil, List.length_append]; omega)) only [List.map_cons, List.map_nil, List.length_cons, List.length_nil, List.length_map, List.replicate, List.cons_append, List.nil_append, List.append_eq, sSeq_ap, sSet_ap, sIf_ap, sRet_ap, sRetN_ap, sExpr_ap, sNext_ap, sBreak_ap, sCont_ap, sPar_ap, sAsg_ap, sFor_ap, gName_ap, eVar_0, eVar_s, eC_ap, aNil_ap, aCons_ap, e2_ap, e3_ap, toB_bl, toB_stuck, tV_ap, tAnd_ap, tOr_ap, tNot_ap, eAnd_ap, eOr_ap, eNot_ap, eIf_ap, eNeg_ap, eTup_ap, eLst_ap, eLstL_ap, eB_ap, eIsi_ap, eCall_ap, eM_ap, eM0_ap, eIsN_ap, eNotN_ap, oNone_ap, oSome_ap, eSl_ap, iTup_ap, iStr_ap, iRange1_ap, iRange2_ap, iLst_ap, iZipD_ap, setAll_nil, setAll_cons, wipeD_nil, wipeD_cons, dAdd_int, dSub_int, dLt_int, dLe_int, dGt_int, dGe_int, dEqX_int, dEqX_str, dNeX_int, dNeX_str, dEqX_nil, dNeX_nil, dIs_bl, dMod_int, div_lit, bind_ok, bind_exc, toS_ok, toS_exc, then_nx, then_rt, then_exc, endD_nx, endD_rt, endD_exc, List.set_cons_succ, List.set_cons_zero, if_true, if_false, Bool.false_eq_true, Bool.not_true, Bool.not_false, decide_true, decide_false, Nat.zero_add, Nat.reduceAdd, lcEnd_f, eLc_ap, eRev_ap, eFld_ap, sFldD_ap, eMeth_ap, sRaise_ap, eFrz_ap, insOf_ins, bTuple_lst, bTuple_tup, bMin2_int, bMax2_int, bAbs_int, bLen_lst, bLen_tup, bLen_scr, bAll_lst, bAny_lst, bSum_lst, dIx_lst, dIx_tup, dIx_scr, bRepr_bl, sz_lit, Int.reduceLT, Int.reduceLE, Int.reducePow, Nat.reduceLT, Nat.reduceLeDiff, Nat.reducePow, gTup_tup, gCons_c, gNil_n, cast_lit, eq_self, Int.reduceEq, Int.reduceNeg, eDic0_f, sTry_ap, eMake_f, ofS_inj, ofS_beq, String.reduceEq, String.reduceBEq, rg1_ap, rg2_ap, eListRg_ap, iRevRg_ap, iZip3D_ap, iEnum_ap, sSetAt_ap, rg_ok, rg_ok2, rgl_ok, mul_r, mul_l, mod_d, at_int', at_bl', p6, p9, p10, p11, p12, p60, dAdd_lst, Int.toNat_natCast, Int.zero_add, Int.sub_zero, bInt_bl, bInt_int, bList_f, dSl_lst, dSl_tup, dSl_scr, List.getElem?_cons_zero, List.getElem?_cons_succ, beq_self_eq_true, Bool.true_or, Bool.or_false, Bool.or_true, Bool.false_or, Nat.reduceSub, ne_scr_nil, at_zero, Int.reduceAdd, Int.reduceSub, Int.reduceMul, sz_lt, dIx_r, bLen_r, isTy_r, app_r, pop_r, clear_r, frz_r, frz_lst, isNone_non, isNone_int, List.lookup_cons, List.lookup_nil, and_self, and_true, true_and, setAt_r, ixN_ok, Option.map_some, List.map_set, List.length_set, snoc_get, snoc_set, setF_r, putFD_nil, putFD_cons, vb, ne]
    have bdy : b__law_off_right_1 [o0, o1, some (stV ts pl s), some (.str (sL t.nm)), some (.ref f)] S2 = .nx [o0, o1, some (stV ts pl s), some (.str (sL t.nm)), some (.ref f)] (S3.set f (some (.lst (acc ++ [bxD x])))) := by
      unfold b__law_off_right_1
      clear_value S2
      clear h h2 ih r4
      unfold stV at *
      simp (disch := first | omega | (simp only [List.length_map, List.length_cons, List.length_nil, List.length_append]; omega)) only [List.map_cons, List.map_nil, List.length_cons, List.length_nil, List.length_map, List.replicate, List.cons_append, List.nil_append, List.append_eq, sSeq_ap, sSet_ap, sIf_ap, sRet_ap, sRetN_ap, sExpr_ap, sNext_ap, sBreak_ap, sCont_ap, sPar_ap, sAsg_ap, sFor_ap, gName_ap, eVar_0, eVar_s, eC_ap, aNil_ap, aCons_ap, e2_ap, e3_ap, toB_bl, toB_stuck, tV_ap, tAnd_ap, tOr_ap, tNot_ap, eAnd_ap, eOr_ap, eNot_ap, eIf_ap, eNeg_ap, eTup_ap, eLst_ap, eLstL_ap, eB_ap, eIsi_ap, eCall_ap, eM_ap, eM0_ap, eIsN_ap, eNotN_ap, oNone_ap, oSome_ap, eSl_ap, iTup_ap, iStr_ap, iRange1_ap, iRange2_ap, iLst_ap, iZipD_ap, setAll_nil, setAll_cons, wipeD_nil, wipeD_cons, dAdd_int, dSub_int, dLt_int, dLe_int, dGt_int, dGe_int, dEqX_int, dEqX_str, dNeX_int, dNeX_str, dEqX_nil, dNeX_nil, dIs_bl, dMod_int, div_lit, bind_ok, bind_exc, toS_ok, toS_exc, then_nx, then_rt, then_exc, endD_nx, endD_rt, endD_exc, List.set_cons_succ, List.set_cons_zero, if_true, if_false, Bool.false_eq_true, Bool.not_true, Bool.not_false, decide_true, decide_false, Nat.zero_add, Nat.reduceAdd, lcEnd_f, eLc_ap, eRev_ap, eFld_ap, sFldD_ap, eMeth_ap, sRaise_ap, eFrz_ap, insOf_ins, bTuple_lst, bTuple_tup, bMin2_int, bMax2_int, bAbs_int, bLen_lst, bLen_tup, bLen_scr, bAll_lst, bAny_lst, bSum_lst, dIx_lst, dIx_tup, dIx_scr, bRepr_bl, sz_lit, Int.reduceLT, Int.reduceLE, Int.reducePow, Nat.reduceLT, Nat.reduceLeDiff, Nat.reducePow, gTup_tup, gCons_c, gNil_n, cast_lit, eq_self, Int.reduceEq, Int.reduceNeg, eDic0_f, sTry_ap, eMake_f, ofS_inj, ofS_beq, String.reduceEq, String.reduceBEq, rg1_ap, rg2_ap, eListRg_ap, iRevRg_ap, iZip3D_ap, iEnum_ap, sSetAt_ap, rg_ok, rg_ok2, rgl_ok, mul_r, mul_l, mod_d, at_int', at_bl', p6, p9, p10, p11, p12, p60, dAdd_lst, Int.toNat_natCast, Int.zero_add, Int.sub_zero, bInt_bl, bInt_int, bList_f, dSl_lst, dSl_tup, dSl_scr, List.getElem?_cons_zero, List.getElem?_cons_succ, beq_self_eq_true, Bool.true_or, Bool.or_false, Bool.or_true, Bool.false_or, Nat.reduceSub, ne_scr_nil, at_zero, Int.reduceAdd, Int.reduceSub, Int.reduceMul, sz_lt, dIx_r, bLen_r, isTy_r, app_r, pop_r, clear_r, frz_r, frz_lst, isNone_non, isNone_int, List.lookup_cons, List.lookup_nil, and_self, and_true, true_and, setAt_r, ixN_ok, Option.map_some, List.map_set, List.length_set, snoc_get, snoc_set, setF_r, putFD_nil, putFD_cons, r1, tyf, tyf3, ap, -isTy_r, -app_r]
    have st : ∀ m ∈ s :: pl, (S3.set f (some (.lst (acc ++ [bxD x]))))[m]? = S3[m]? := fun m hm => List.getElem?_set_ne fun z => hf (by rw [z]; exact hm)
    obtain ⟨S', g1, g2, g3, g4, g5, g6⟩ := ih q (P.set i q) (S3.set f (some (.lst (acc ++ [bxD x])))) (acc ++ [bxD x]) (by omega) (fun _ _ => trivial) (r4.same st) r5 (by rw [List.getElem?_set_self (List.getElem?_eq_some_iff.mp hp).1]) (List.getElem?_set_self (List.getElem?_eq_some_iff.mp f3).1) (by rw [List.length_append, List.length_singleton]; omega)
    have l2 : S2.length = S.length + 1 := by show (S ++ _).length = _; rw [List.length_append]; rfl
    rw [List.length_set, r2, l2] at g2 g3
    rw [List.set_set] at g4 g5
    refine ⟨S', (whl_go tst bdy).trans g1, by omega, fun m hm hmf hms => ?_, g4, g5, ?_⟩
    · rw [g3 m (by omega) hmf hms, List.getElem?_set_ne (Ne.symm hmf), r3 m hms]
      show (S ++ _)[m]? = _
      rw [List.getElem?_append_left hm]
    · rw [g6]; simp
theorem take_app {S S' : Store} (hl : S.length ≤ S'.length) (h : ∀ m, m < S.length → S'[m]? = S[m]?) : ∃ T, S' = S ++ T := by
  refine ⟨S'.drop S.length, ?_⟩
  have e : S'.take S.length = S := by
    apply List.ext_getElem?
    intro m
    by_cases hm : m < S.length
    · rw [List.getElem?_take_of_lt hm, h m hm]
    · rw [List.getElem?_eq_none (by rw [List.length_take]; omega), List.getElem?_eq_none (by omega)]
  conv => lhs; rw [← List.take_append_drop S.length S', e]
/-- all stacks, one behind another -/
theorem off_loop {c : Nat} {ts : List TR} {P0 : List (List Bx)} {pl0 ql : List Nat} {s0 : Nat} {S0 : Store} (h0 : Twin c S0 ts P0 pl0 s0 ql) (pl : List Nat) (s : Nat) (n1 : Nat) (hpl : ∀ m ∈ s :: pl, S0.length ≤ m ∧ m < n1) (na : Nat) (nx : List D) (hna : S0.length ≤ na ∧ na < n1 ∧ na ∉ s :: pl) :
    ∀ (R : List (List Nat)) (P : List (List Bx)) (S : Store) (o3 o4 : Option D), R.Nodup → (∀ r ∈ R, ∃ t ∈ ts, t.nm = r) → StI c S ts P pl s → (names P).Nodup → (∀ (i : Nat) (t : TR), ts[i]? = some t → t.nm ∈ R → P[i]? = P0[i]?) → n1 ≤ S.length → (∀ m, m < S0.length → S[m]? = S0[m]?) → S[na]? = some (some (.lst nx)) →
    ∃ S' b3 b4, forD (some (na, nx)) (gName 3) b__law_off_right_2 (R.map fun r => .str (sL r)) [some (stV ts pl0 s0), some (ownV ts ql), some (stV ts pl s), o3, o4] S = .nx [some (stV ts pl0 s0), some (ownV ts ql), some (stV ts pl s), b3, b4] S' ∧ S0.length ≤ S'.length ∧ ∀ m, m < S0.length → S'[m]? = S0[m]? := by
  intro R
  induction R with
  | nil =>
    intro P S o3 o4 _ _ _ _ _ hn hs hx
    exact ⟨S, o3, o4, by unfold forD; exact if_pos hx, by omega, hs⟩
  | cons r R ih =>
    intro P S o3 o4 nd hR h nn hP hn hs hx
    obtain ⟨t, tm, rfl⟩ := hR r List.mem_cons_self
    obtain ⟨i, ht⟩ := List.getElem?_of_mem tm
    have il : i < ts.length := (List.getElem?_eq_some_iff.mp ht).1
    obtain ⟨l, hl⟩ := has_idx il (h.pil.n.trans h.Pn)
    obtain ⟨l2, hl2⟩ := has_idx il (h0.ow.pil.n.trans h0.ow.Pn)
    obtain ⟨p, hp0⟩ := has_idx il h0.ow.Pn
    have hp : P[i]? = some p := (hP i t ht List.mem_cons_self).trans hp0
    have p100 := h0.ow.sz p (List.mem_of_getElem? hp0)
    let S1 : Store := S ++ [some (.lst [])]
    have hf : S.length ∉ s :: pl := fun z => by have := hpl _ z; omega
    obtain ⟨S', g1, g2, g3, g4, g5, g6⟩ := off_while (c := c) ht hl (some (stV ts pl0 s0)) (some (ownV ts ql)) S.length hf p.length p P S1 [] rfl (fun _ _ => trivial) (h.app _) nn hp snoc_get (by simp; omega)
    rw [List.nil_append] at g6
    have l1 : S1.length = S.length + 1 := by show (S ++ _).length = _; rw [List.length_append]; rfl
    have wh := sWhile_of _ g1 (by simp)
    have same : ∀ m, m < S.length → m ∉ s :: pl → S'[m]? = S[m]? := fun m hm hms => by
      rw [g3 m (by omega) (by omega) hms]
      exact List.getElem?_append_left hm
    have hs' : ∀ m, m < S0.length → S'[m]? = S0[m]? := fun m hm => by
      rw [same m (by omega) fun z => by have := hpl m z; omega]
      exact hs m hm
    have hx' : S'[na]? = some (some (.lst nx)) := by rw [same na (by omega) hna.2.2]; exact hx
    have bxo : ∀ x ∈ p, BxOk x := h0.bx p (List.mem_of_getElem? hp0)
    have at2 : S'[l2]? = some (some (.lst (p.map bxD))) := by
      rw [hs' l2 (h0.ow.pil.lt (List.mem_of_getElem? hl2))]
      exact h0.ow.pil.at_ i l2 p hl2 hp0
    have r3 : bRepX 0 [.lst (p.map bxD)] S' = .ok (.str (shD (.lst (p.map bxD)))) S' := (pile_rp bxo p100).rep big4 (by decide) S'
    have r4 : bRepX 1 [.ref l2] S' = .ok (.str (shD (.lst (p.map bxD)))) S' := (pile_rp bxo p100).ref at2 big4 (by decide)
    have e2 := own_piles (ts := ts) (ql := ql) (S := S')
    have e3 := h0.ow.ix ht hl2 S'
    have rv : eRev (eVar 4) [some (stV ts pl0 s0), some (ownV ts ql), some (stV ts pl s), some (.str (sL t.nm)), some (.ref S.length)] S' = .ok (.lst (p.map bxD)) S' := by
      have e4 : eVar 4 [some (stV ts pl0 s0), some (ownV ts ql), some (stV ts pl s), some (.str (sL t.nm)), some (.ref S.length)] S' = .ok (.ref S.length) S' := rfl
      unfold eRev
      rw [e4]
      simp only [bind_ok, seqOf, lstOf, g6]
      rw [List.map_reverse, List.reverse_reverse]
    obtain ⟨S2, b3, b4, q1, q2, q3⟩ := ih (P.set i []) S' (some (.str (sL t.nm))) (some (.ref S.length)) (List.nodup_cons.mp nd).2 (fun r hr => hR r (List.mem_cons_of_mem _ hr)) g4 g5 (fun j u hu hm => by
      rw [List.getElem?_set_ne]
      · exact hP j u hu (List.mem_cons_of_mem _ hm)
      · rintro rfl
        rw [ht] at hu
        cases hu
        exact (List.nodup_cons.mp nd).1 hm) (by omega) hs' hx'
    refine ⟨S2, b3, b4, ?_, q2, q3⟩
    rw [List.map_cons]
    conv => lhs; unfold forD
    have bdy : b__law_off_right_2 (setAll [some (stV ts pl0 s0), some (ownV ts ql), some (stV ts pl s), o3, o4] [(3, .str (sL t.nm))]) S = .nx [some (stV ts pl0 s0), some (ownV ts ql), some (stV ts pl s), some (.str (sL t.nm)), some (.ref S.length)] S' := by
      have wh' : sWhile w__law_off_right_1 b__law_off_right_1 [some (stV ts pl0 s0), some (ownV ts ql), some (stV ts pl s), some (.str (sL t.nm)), some (.ref S.length)] (S ++ [some (.lst [])]) = _ := wh
      unfold b__law_off_right_2
      simp (disch := first | omega | (simp only [List.length_map, List.length_cons, List.length_nil, List.length_append]; omega)) only [List.map_cons, List.map_nil, List.length_cons, List.length_nil, List.length_map, List.replicate, List.cons_append, List.nil_append, List.append_eq, sSeq_ap, sSet_ap, sIf_ap, sRet_ap, sRetN_ap, sExpr_ap, sNext_ap, sBreak_ap, sCont_ap, sPar_ap, sAsg_ap, sFor_ap, gName_ap, eVar_0, eVar_s, eC_ap, aNil_ap, aCons_ap, e2_ap, e3_ap, toB_bl, toB_stuck, tV_ap, tAnd_ap, tOr_ap, tNot_ap, eAnd_ap, eOr_ap, eNot_ap, eIf_ap, eNeg_ap, eTup_ap, eLst_ap, eLstL_ap, eB_ap, eIsi_ap, eCall_ap, eM_ap, eM0_ap, eIsN_ap, eNotN_ap, oNone_ap, oSome_ap, eSl_ap, iTup_ap, iStr_ap, iRange1_ap, iRange2_ap, iLst_ap, iZipD_ap, setAll_nil, setAll_cons, wipeD_nil, wipeD_cons, dAdd_int, dSub_int, dLt_int, dLe_int, dGt_int, dGe_int, dEqX_int, dEqX_str, dNeX_int, dNeX_str, dEqX_nil, dNeX_nil, dIs_bl, dMod_int, div_lit, bind_ok, bind_exc, toS_ok, toS_exc, then_nx, then_rt, then_exc, endD_nx, endD_rt, endD_exc, List.set_cons_succ, List.set_cons_zero, if_true, if_false, Bool.false_eq_true, Bool.not_true, Bool.not_false, decide_true, decide_false, Nat.zero_add, Nat.reduceAdd, lcEnd_f, eLc_ap, eRev_ap, eFld_ap, sFldD_ap, eMeth_ap, sRaise_ap, eFrz_ap, insOf_ins, bTuple_lst, bTuple_tup, bMin2_int, bMax2_int, bAbs_int, bLen_lst, bLen_tup, bLen_scr, bAll_lst, bAny_lst, bSum_lst, dIx_lst, dIx_tup, dIx_scr, bRepr_bl, sz_lit, Int.reduceLT, Int.reduceLE, Int.reducePow, Nat.reduceLT, Nat.reduceLeDiff, Nat.reducePow, gTup_tup, gCons_c, gNil_n, cast_lit, eq_self, Int.reduceEq, Int.reduceNeg, eDic0_f, sTry_ap, eMake_f, ofS_inj, ofS_beq, String.reduceEq, String.reduceBEq, rg1_ap, rg2_ap, eListRg_ap, iRevRg_ap, iZip3D_ap, iEnum_ap, sSetAt_ap, rg_ok, rg_ok2, rgl_ok, mul_r, mul_l, mod_d, at_int', at_bl', p6, p9, p10, p11, p12, p60, dAdd_lst, Int.toNat_natCast, Int.zero_add, Int.sub_zero, bInt_bl, bInt_int, bList_f, dSl_lst, dSl_tup, dSl_scr, List.getElem?_cons_zero, List.getElem?_cons_succ, beq_self_eq_true, Bool.true_or, Bool.or_false, Bool.or_true, Bool.false_or, Nat.reduceSub, ne_scr_nil, at_zero, Int.reduceAdd, Int.reduceSub, Int.reduceMul, sz_lt, dIx_r, bLen_r, isTy_r, app_r, pop_r, clear_r, frz_r, frz_lst, isNone_non, isNone_int, List.lookup_cons, List.lookup_nil, and_self, and_true, true_and, setAt_r, ixN_ok, Option.map_some, List.map_set, List.length_set, snoc_get, snoc_set, setF_r, putFD_nil, putFD_cons, wh', rv, r3, r4, e2, e3, -eRev_ap]
    have g : gName 3 (.str (sL t.nm)) S = some [(3, .str (sL t.nm))] := rfl
    rw [if_pos (show ckS (some (na, nx)) S from hx), g]
    simp only [bdy]
    exact q1
theorem sort_nms (ts : List TR) : ∃ R : List (List Nat), (sortStr (ts.map fun t => sL t.nm)).map D.str = R.map (fun r => D.str (sL r)) ∧ R.Perm (ts.map (·.nm)) := by
  refine ⟨(sortStr (ts.map fun t => sL t.nm)).map fun z => z.cps.toList, ?_, ?_⟩
  · rw [List.map_map]
    apply List.map_congr_left
    intro z _
    show D.str z = D.str (sL z.cps.toList)
    rw [sL_eta]
  · have p := (sortStr_perm (ts.map fun t => sL t.nm)).map fun z : Str => z.cps.toList
    rw [List.map_map] at p
    have e : ts.map ((fun z : Str => z.cps.toList) ∘ fun t => sL t.nm) = ts.map (·.nm) := List.map_congr_left fun t _ => sL_list t.nm
    rwa [e] at p
theorem v_off {c : Nat} {ts : List TR} {P : List (List Bx)} {pl ql : List Nat} {s : Nat} {S : Store} (h : Twin c S ts P pl s ql) : ∃ T, m__law_off_right [stV ts pl s, ownV ts ql] S = .ok (.bl true) (S ++ T) := by
  obtain ⟨kds, q1, q2⟩ := v_copied h.st
  let pl' := plR (S.length + ts.length + 2) ts.length
  let s' := S.length + ts.length + 2 + ts.length
  let S2 : Store := cpS S ts.length P kds
  have len2 : S2.length = S.length + ts.length + 2 + ts.length + 1 := cpS_len h.st.Pn
  have q2' : callD 1 m_Stacks__copied [] [stV ts pl s] S = .ok (stV ts pl' s') S2 := q2
  have st2 : StI c S2 ts P pl' s' := h.st.copied q1
  obtain ⟨R, hR, pR⟩ := sort_nms ts
  have nm : callD 1 m_Stacks__names [] [stV ts pl' s'] S2 = .ok (.ref S2.length) (S2 ++ [some (.lst (R.map fun r => .str (sL r)))]) := by
    rw [vS_names h.st.told, hR]
  let S3 : Store := S2 ++ [some (.lst (R.map fun r => .str (sL r)))]
  have nS : ∀ m, m ∈ s' :: pl' → S.length ≤ m ∧ m < S2.length := fun m hm => by
    rcases List.mem_cons.mp hm with rfl | hm
    · show S.length ≤ S.length + ts.length + 2 + ts.length ∧ S.length + ts.length + 2 + ts.length < _; omega
    · have := mem_plR hm; omega
  have len3 : S3.length = S2.length + 1 := by show (S2 ++ _).length = _; rw [List.length_append]; rfl
  have s3 : ∀ m, m < S.length → S3[m]? = S[m]? := fun m hm => by
    show (S2 ++ _)[m]? = _
    rw [List.getElem?_append_left (by omega)]
    show (S ++ _)[m]? = _
    rw [List.getElem?_append_left hm]
  obtain ⟨S4, b3, b4, g1, g2, g3⟩ := off_loop h pl' s' S3.length (fun m hm => by have := nS m hm; omega) S2.length (R.map fun r => .str (sL r)) ⟨by omega, by omega, fun z => by have := nS _ z; omega⟩ R P S3 none none (pR.nodup_iff.mpr h.st.told.nms) (fun r hr => by obtain ⟨t, ht, e⟩ := List.mem_map.mp (pR.subset hr); exact ⟨t, ht, e⟩) (st2.app _) h.nn (fun _ _ _ _ => rfl) (Nat.le_refl _) s3 snoc_get
  obtain ⟨T, rfl⟩ := take_app g2 g3
  refine ⟨T, ?_⟩
  have nm' : callD 1 m_Stacks__names [] [stV ts pl' s'] S2 = .ok (.ref S2.length) S3 := nm
  have it : iLst (eMeth "Stacks" "names" 1 m_Stacks__names [] (eVar 2) aNil) [some (stV ts pl s), some (ownV ts ql), some (stV ts pl' s'), none, none] S2 = .ok (R.map (fun r => .str (sL r)), some (S2.length, R.map fun r => .str (sL r))) S3 := by
    have a3 : S3[S2.length]? = some (some (.lst (R.map fun r => .str (sL r)))) := snoc_get
    clear_value S3 S2 pl' s'
    unfold stV at *
    simp (disch := first | omega | (simp only [List.length_map, List.length_cons, List.length_nil, List.length_append]; omega)) only [List.map_cons, List.map_nil, List.length_cons, List.length_nil, List.length_map, List.replicate, List.cons_append, List.nil_append, List.append_eq, sSeq_ap, sSet_ap, sIf_ap, sRet_ap, sRetN_ap, sExpr_ap, sNext_ap, sBreak_ap, sCont_ap, sPar_ap, sAsg_ap, sFor_ap, gName_ap, eVar_0, eVar_s, eC_ap, aNil_ap, aCons_ap, e2_ap, e3_ap, toB_bl, toB_stuck, tV_ap, tAnd_ap, tOr_ap, tNot_ap, eAnd_ap, eOr_ap, eNot_ap, eIf_ap, eNeg_ap, eTup_ap, eLst_ap, eLstL_ap, eB_ap, eIsi_ap, eCall_ap, eM_ap, eM0_ap, eIsN_ap, eNotN_ap, oNone_ap, oSome_ap, eSl_ap, iTup_ap, iStr_ap, iRange1_ap, iRange2_ap, iLst_ap, iZipD_ap, setAll_nil, setAll_cons, wipeD_nil, wipeD_cons, dAdd_int, dSub_int, dLt_int, dLe_int, dGt_int, dGe_int, dEqX_int, dEqX_str, dNeX_int, dNeX_str, dEqX_nil, dNeX_nil, dIs_bl, dMod_int, div_lit, bind_ok, bind_exc, toS_ok, toS_exc, then_nx, then_rt, then_exc, endD_nx, endD_rt, endD_exc, List.set_cons_succ, List.set_cons_zero, if_true, if_false, Bool.false_eq_true, Bool.not_true, Bool.not_false, decide_true, decide_false, Nat.zero_add, Nat.reduceAdd, lcEnd_f, eLc_ap, eRev_ap, eFld_ap, sFldD_ap, eMeth_ap, sRaise_ap, eFrz_ap, insOf_ins, bTuple_lst, bTuple_tup, bMin2_int, bMax2_int, bAbs_int, bLen_lst, bLen_tup, bLen_scr, bAll_lst, bAny_lst, bSum_lst, dIx_lst, dIx_tup, dIx_scr, bRepr_bl, sz_lit, Int.reduceLT, Int.reduceLE, Int.reducePow, Nat.reduceLT, Nat.reduceLeDiff, Nat.reducePow, gTup_tup, gCons_c, gNil_n, cast_lit, eq_self, Int.reduceEq, Int.reduceNeg, eDic0_f, sTry_ap, eMake_f, ofS_inj, ofS_beq, String.reduceEq, String.reduceBEq, rg1_ap, rg2_ap, eListRg_ap, iRevRg_ap, iZip3D_ap, iEnum_ap, sSetAt_ap, rg_ok, rg_ok2, rgl_ok, mul_r, mul_l, mod_d, at_int', at_bl', p6, p9, p10, p11, p12, p60, dAdd_lst, Int.toNat_natCast, Int.zero_add, Int.sub_zero, bInt_bl, bInt_int, bList_f, dSl_lst, dSl_tup, dSl_scr, List.getElem?_cons_zero, List.getElem?_cons_succ, beq_self_eq_true, Bool.true_or, Bool.or_false, Bool.or_true, Bool.false_or, Nat.reduceSub, ne_scr_nil, at_zero, Int.reduceAdd, Int.reduceSub, Int.reduceMul, sz_lt, dIx_r, bLen_r, isTy_r, app_r, pop_r, clear_r, frz_r, frz_lst, isNone_non, isNone_int, List.lookup_cons, List.lookup_nil, and_self, and_true, true_and, setAt_r, ixN_ok, Option.map_some, List.map_set, List.length_set, snoc_get, snoc_set, setF_r, putFD_nil, putFD_cons, nm', a3]
  rw [m__law_off_right, runD_ap, z__law_off_right]
  clear_value S3 S2 pl' s'
  clear h st2
  have g1' := g1
  have ev : eMeth "Stacks" "copied" 1 m_Stacks__copied [] (eVar 0) aNil [some (stV ts pl s), some (ownV ts ql), none, none, none] S = .ok (stV ts pl' s') S2 := by
    unfold stV at *
    simp (disch := first | omega | (simp only [List.length_map, List.length_cons, List.length_nil, List.length_append]; omega)) only [List.map_cons, List.map_nil, List.length_cons, List.length_nil, List.length_map, List.replicate, List.cons_append, List.nil_append, List.append_eq, sSeq_ap, sSet_ap, sIf_ap, sRet_ap, sRetN_ap, sExpr_ap, sNext_ap, sBreak_ap, sCont_ap, sPar_ap, sAsg_ap, sFor_ap, gName_ap, eVar_0, eVar_s, eC_ap, aNil_ap, aCons_ap, e2_ap, e3_ap, toB_bl, toB_stuck, tV_ap, tAnd_ap, tOr_ap, tNot_ap, eAnd_ap, eOr_ap, eNot_ap, eIf_ap, eNeg_ap, eTup_ap, eLst_ap, eLstL_ap, eB_ap, eIsi_ap, eCall_ap, eM_ap, eM0_ap, eIsN_ap, eNotN_ap, oNone_ap, oSome_ap, eSl_ap, iTup_ap, iStr_ap, iRange1_ap, iRange2_ap, iLst_ap, iZipD_ap, setAll_nil, setAll_cons, wipeD_nil, wipeD_cons, dAdd_int, dSub_int, dLt_int, dLe_int, dGt_int, dGe_int, dEqX_int, dEqX_str, dNeX_int, dNeX_str, dEqX_nil, dNeX_nil, dIs_bl, dMod_int, div_lit, bind_ok, bind_exc, toS_ok, toS_exc, then_nx, then_rt, then_exc, endD_nx, endD_rt, endD_exc, List.set_cons_succ, List.set_cons_zero, if_true, if_false, Bool.false_eq_true, Bool.not_true, Bool.not_false, decide_true, decide_false, Nat.zero_add, Nat.reduceAdd, lcEnd_f, eLc_ap, eRev_ap, eFld_ap, sFldD_ap, eMeth_ap, sRaise_ap, eFrz_ap, insOf_ins, bTuple_lst, bTuple_tup, bMin2_int, bMax2_int, bAbs_int, bLen_lst, bLen_tup, bLen_scr, bAll_lst, bAny_lst, bSum_lst, dIx_lst, dIx_tup, dIx_scr, bRepr_bl, sz_lit, Int.reduceLT, Int.reduceLE, Int.reducePow, Nat.reduceLT, Nat.reduceLeDiff, Nat.reducePow, gTup_tup, gCons_c, gNil_n, cast_lit, eq_self, Int.reduceEq, Int.reduceNeg, eDic0_f, sTry_ap, eMake_f, ofS_inj, ofS_beq, String.reduceEq, String.reduceBEq, rg1_ap, rg2_ap, eListRg_ap, iRevRg_ap, iZip3D_ap, iEnum_ap, sSetAt_ap, rg_ok, rg_ok2, rgl_ok, mul_r, mul_l, mod_d, at_int', at_bl', p6, p9, p10, p11, p12, p60, dAdd_lst, Int.toNat_natCast, Int.zero_add, Int.sub_zero, bInt_bl, bInt_int, bList_f, dSl_lst, dSl_tup, dSl_scr, List.getElem?_cons_zero, List.getElem?_cons_succ, beq_self_eq_true, Bool.true_or, Bool.or_false, Bool.or_true, Bool.false_or, Nat.reduceSub, ne_scr_nil, at_zero, Int.reduceAdd, Int.reduceSub, Int.reduceMul, sz_lt, dIx_r, bLen_r, isTy_r, app_r, pop_r, clear_r, frz_r, frz_lst, isNone_non, isNone_int, List.lookup_cons, List.lookup_nil, and_self, and_true, true_and, setAt_r, ixN_ok, Option.map_some, List.map_set, List.length_set, snoc_get, snoc_set, setF_r, putFD_nil, putFD_cons, q2']
  simp (disch := first | omega | (simp only [List.length_map, List.length_cons, List.length_nil, List.length_append]; omega)) only [List.map_cons, List.map_nil, List.length_cons, List.length_nil, List.length_map, List.replicate, List.cons_append, List.nil_append, List.append_eq, sSeq_ap, sSet_ap, sIf_ap, sRet_ap, sRetN_ap, sExpr_ap, sNext_ap, sBreak_ap, sCont_ap, sPar_ap, sAsg_ap, sFor_ap, gName_ap, eVar_0, eVar_s, eC_ap, aNil_ap, aCons_ap, e2_ap, e3_ap, toB_bl, toB_stuck, tV_ap, tAnd_ap, tOr_ap, tNot_ap, eAnd_ap, eOr_ap, eNot_ap, eIf_ap, eNeg_ap, eTup_ap, eLst_ap, eLstL_ap, eB_ap, eIsi_ap, eCall_ap, eM_ap, eM0_ap, eIsN_ap, eNotN_ap, oNone_ap, oSome_ap, eSl_ap, iTup_ap, iStr_ap, iRange1_ap, iRange2_ap, iLst_ap, iZipD_ap, setAll_nil, setAll_cons, wipeD_nil, wipeD_cons, dAdd_int, dSub_int, dLt_int, dLe_int, dGt_int, dGe_int, dEqX_int, dEqX_str, dNeX_int, dNeX_str, dEqX_nil, dNeX_nil, dIs_bl, dMod_int, div_lit, bind_ok, bind_exc, toS_ok, toS_exc, then_nx, then_rt, then_exc, endD_nx, endD_rt, endD_exc, List.set_cons_succ, List.set_cons_zero, if_true, if_false, Bool.false_eq_true, Bool.not_true, Bool.not_false, decide_true, decide_false, Nat.zero_add, Nat.reduceAdd, lcEnd_f, eLc_ap, eRev_ap, eFld_ap, sFldD_ap, eMeth_ap, sRaise_ap, eFrz_ap, insOf_ins, bTuple_lst, bTuple_tup, bMin2_int, bMax2_int, bAbs_int, bLen_lst, bLen_tup, bLen_scr, bAll_lst, bAny_lst, bSum_lst, dIx_lst, dIx_tup, dIx_scr, bRepr_bl, sz_lit, Int.reduceLT, Int.reduceLE, Int.reducePow, Nat.reduceLT, Nat.reduceLeDiff, Nat.reducePow, gTup_tup, gCons_c, gNil_n, cast_lit, eq_self, Int.reduceEq, Int.reduceNeg, eDic0_f, sTry_ap, eMake_f, ofS_inj, ofS_beq, String.reduceEq, String.reduceBEq, rg1_ap, rg2_ap, eListRg_ap, iRevRg_ap, iZip3D_ap, iEnum_ap, sSetAt_ap, rg_ok, rg_ok2, rgl_ok, mul_r, mul_l, mod_d, at_int', at_bl', p6, p9, p10, p11, p12, p60, dAdd_lst, Int.toNat_natCast, Int.zero_add, Int.sub_zero, bInt_bl, bInt_int, bList_f, dSl_lst, dSl_tup, dSl_scr, List.getElem?_cons_zero, List.getElem?_cons_succ, beq_self_eq_true, Bool.true_or, Bool.or_false, Bool.or_true, Bool.false_or, Nat.reduceSub, ne_scr_nil, at_zero, Int.reduceAdd, Int.reduceSub, Int.reduceMul, sz_lt, dIx_r, bLen_r, isTy_r, app_r, pop_r, clear_r, frz_r, frz_lst, isNone_non, isNone_int, List.lookup_cons, List.lookup_nil, and_self, and_true, true_and, setAt_r, ixN_ok, Option.map_some, List.map_set, List.length_set, snoc_get, snoc_set, setF_r, putFD_nil, putFD_cons, ev, it, g1', -eMeth_ap, -iLst_ap]
end Q
namespace Q
open PySem L2 Mi
/-! the law's own loop -/
def bxsD (nb : Int) : D := .lst ((List.range 12).map fun k => .str (sL (nmL nb k)))
structure LawJ (c : Nat) (S : Store) (ts : List TR) (P : List (List Bx)) (pl : List Nat) (s : Nat) (ql : List Nat) : Prop where
  tw : Twin c S ts P pl s ql
  bn : BndI ts P
  cl : Cl S
section
variable {c : Nat} {S : Store} {ts : List TR} {P : List (List Bx)} {pl ql : List Nat} {s : Nat}
theorem LawJ.all (h : LawJ c S ts P pl s ql) (nb : Int) : callD 3 (gcD m__law_all_right) [] [stV ts pl s, ownV ts ql, bxsD nb] S = .ok (.bl true) S := by
  obtain ⟨T, r⟩ := v_all h.tw h.bn nb
  exact gc_app rfl r rfl h.cl
theorem LawJ.off (h : LawJ c S ts P pl s ql) : callD 2 (gcD m__law_off_right) [] [stV ts pl s, ownV ts ql] S = .ok (.bl true) S := by
  obtain ⟨T, r⟩ := v_off h.tw
  exact gc_app rfl r rfl h.cl
theorem law_turn (cs : List Int) (hl : cs.length ≤ 63) (hc : c < 100) (h : LawJ c S ts P pl s ql) (nb : Int) {k : Int} (k0 : 0 ≤ k) (k1 : k < 2 ^ 40) (o1 : D) (o5 o6 : Option D) :
    ∃ S' P' b6, LawJ (c + 1) S' ts P' pl s ql ∧
    b_law_1 (setAll [some (scrD cs), some o1, some (bxsD nb), some (stV ts pl s), some (ownV ts ql), o5, o6] [(5, .int k)]) S =
      .nx [some (scrD cs), some o1, some (bxsD nb), some (stV ts pl s), some (ownV ts ql), some (.int k), b6] S' := by
  obtain ⟨cell, c0, c1, ec⟩ := c_number cs hl k0 k1
  obtain ⟨S1, P1, d1, d2, d3, d4, d5⟩ := v_deed h.tw h.bn (by omega) nb cell c0
  have h1 : LawJ (c + 1) S1 ts P1 pl s ql := ⟨d4, d5, d4.cl h.cl d2 d3⟩
  have d1' : callD 4 m__law_deed [] [stV ts pl s, ownV ts ql, bxsD nb, .int cell] S = .ok (.bl true) S1 := d1
  have r2 := h1.all nb
  have r3 := h1.off
  refine ⟨S1, P1, some (.int cell), h1, ?_⟩
  unfold b_law_1
  clear h h1 d4
  by_cases m : cell / 9 % 8 = 1
  · have m' : decide (cell / 9 % 8 = 1) = true := decide_eq_true m
    simp (disch := first | omega | (simp only [List.length_map, List.length_cons, List.length_nil, List.length_append]; omega)) only [List.map_cons, List.map_nil, List.length_cons, List.length_nil, List.length_map, List.replicate, List.cons_append, List.nil_append, List.append_eq, sSeq_ap, sSet_ap, sIf_ap, sRet_ap, sRetN_ap, sExpr_ap, sNext_ap, sBreak_ap, sCont_ap, sPar_ap, sAsg_ap, sFor_ap, gName_ap, eVar_0, eVar_s, eC_ap, aNil_ap, aCons_ap, e2_ap, e3_ap, toB_bl, toB_stuck, tV_ap, tAnd_ap, tOr_ap, tNot_ap, eAnd_ap, eOr_ap, eNot_ap, eIf_ap, eNeg_ap, eTup_ap, eLst_ap, eLstL_ap, eB_ap, eIsi_ap, eCall_ap, eM_ap, eM0_ap, eIsN_ap, eNotN_ap, oNone_ap, oSome_ap, eSl_ap, iTup_ap, iStr_ap, iRange1_ap, iRange2_ap, iLst_ap, iZipD_ap, setAll_nil, setAll_cons, wipeD_nil, wipeD_cons, dAdd_int, dSub_int, dLt_int, dLe_int, dGt_int, dGe_int, dEqX_int, dEqX_str, dNeX_int, dNeX_str, dEqX_nil, dNeX_nil, dIs_bl, dMod_int, div_lit, bind_ok, bind_exc, toS_ok, toS_exc, then_nx, then_rt, then_exc, endD_nx, endD_rt, endD_exc, List.set_cons_succ, List.set_cons_zero, if_true, if_false, Bool.false_eq_true, Bool.not_true, Bool.not_false, decide_true, decide_false, Nat.zero_add, Nat.reduceAdd, lcEnd_f, eLc_ap, eRev_ap, eFld_ap, sFldD_ap, eMeth_ap, sRaise_ap, eFrz_ap, insOf_ins, bTuple_lst, bTuple_tup, bMin2_int, bMax2_int, bAbs_int, bLen_lst, bLen_tup, bLen_scr, bAll_lst, bAny_lst, bSum_lst, dIx_lst, dIx_tup, dIx_scr, bRepr_bl, sz_lit, Int.reduceLT, Int.reduceLE, Int.reducePow, Nat.reduceLT, Nat.reduceLeDiff, Nat.reducePow, gTup_tup, gCons_c, gNil_n, cast_lit, eq_self, Int.reduceEq, Int.reduceNeg, eDic0_f, sTry_ap, eMake_f, ofS_inj, ofS_beq, String.reduceEq, String.reduceBEq, rg1_ap, rg2_ap, eListRg_ap, iRevRg_ap, iZip3D_ap, iEnum_ap, sSetAt_ap, rg_ok, rg_ok2, rgl_ok, mul_r, mul_l, mod_d, at_int', at_bl', p6, p9, p10, p11, p12, p60, dAdd_lst, Int.toNat_natCast, Int.zero_add, Int.sub_zero, bInt_bl, bInt_int, bList_f, dSl_lst, dSl_tup, dSl_scr, List.getElem?_cons_zero, List.getElem?_cons_succ, beq_self_eq_true, Bool.true_or, Bool.or_false, Bool.or_true, Bool.false_or, Nat.reduceSub, ne_scr_nil, at_zero, Int.reduceAdd, Int.reduceSub, Int.reduceMul, sz_lt, dIx_r, bLen_r, isTy_r, app_r, pop_r, clear_r, frz_r, frz_lst, isNone_non, isNone_int, List.lookup_cons, List.lookup_nil, and_self, and_true, true_and, setAt_r, ixN_ok, Option.map_some, List.map_set, List.length_set, snoc_get, snoc_set, setF_r, putFD_nil, putFD_cons, ec, d1', r2, r3, m']
  · have m' : decide (cell / 9 % 8 = 1) = false := decide_eq_false m
    simp (disch := first | omega | (simp only [List.length_map, List.length_cons, List.length_nil, List.length_append]; omega)) only [List.map_cons, List.map_nil, List.length_cons, List.length_nil, List.length_map, List.replicate, List.cons_append, List.nil_append, List.append_eq, sSeq_ap, sSet_ap, sIf_ap, sRet_ap, sRetN_ap, sExpr_ap, sNext_ap, sBreak_ap, sCont_ap, sPar_ap, sAsg_ap, sFor_ap, gName_ap, eVar_0, eVar_s, eC_ap, aNil_ap, aCons_ap, e2_ap, e3_ap, toB_bl, toB_stuck, tV_ap, tAnd_ap, tOr_ap, tNot_ap, eAnd_ap, eOr_ap, eNot_ap, eIf_ap, eNeg_ap, eTup_ap, eLst_ap, eLstL_ap, eB_ap, eIsi_ap, eCall_ap, eM_ap, eM0_ap, eIsN_ap, eNotN_ap, oNone_ap, oSome_ap, eSl_ap, iTup_ap, iStr_ap, iRange1_ap, iRange2_ap, iLst_ap, iZipD_ap, setAll_nil, setAll_cons, wipeD_nil, wipeD_cons, dAdd_int, dSub_int, dLt_int, dLe_int, dGt_int, dGe_int, dEqX_int, dEqX_str, dNeX_int, dNeX_str, dEqX_nil, dNeX_nil, dIs_bl, dMod_int, div_lit, bind_ok, bind_exc, toS_ok, toS_exc, then_nx, then_rt, then_exc, endD_nx, endD_rt, endD_exc, List.set_cons_succ, List.set_cons_zero, if_true, if_false, Bool.false_eq_true, Bool.not_true, Bool.not_false, decide_true, decide_false, Nat.zero_add, Nat.reduceAdd, lcEnd_f, eLc_ap, eRev_ap, eFld_ap, sFldD_ap, eMeth_ap, sRaise_ap, eFrz_ap, insOf_ins, bTuple_lst, bTuple_tup, bMin2_int, bMax2_int, bAbs_int, bLen_lst, bLen_tup, bLen_scr, bAll_lst, bAny_lst, bSum_lst, dIx_lst, dIx_tup, dIx_scr, bRepr_bl, sz_lit, Int.reduceLT, Int.reduceLE, Int.reducePow, Nat.reduceLT, Nat.reduceLeDiff, Nat.reducePow, gTup_tup, gCons_c, gNil_n, cast_lit, eq_self, Int.reduceEq, Int.reduceNeg, eDic0_f, sTry_ap, eMake_f, ofS_inj, ofS_beq, String.reduceEq, String.reduceBEq, rg1_ap, rg2_ap, eListRg_ap, iRevRg_ap, iZip3D_ap, iEnum_ap, sSetAt_ap, rg_ok, rg_ok2, rgl_ok, mul_r, mul_l, mod_d, at_int', at_bl', p6, p9, p10, p11, p12, p60, dAdd_lst, Int.toNat_natCast, Int.zero_add, Int.sub_zero, bInt_bl, bInt_int, bList_f, dSl_lst, dSl_tup, dSl_scr, List.getElem?_cons_zero, List.getElem?_cons_succ, beq_self_eq_true, Bool.true_or, Bool.or_false, Bool.or_true, Bool.false_or, Nat.reduceSub, ne_scr_nil, at_zero, Int.reduceAdd, Int.reduceSub, Int.reduceMul, sz_lt, dIx_r, bLen_r, isTy_r, app_r, pop_r, clear_r, frz_r, frz_lst, isNone_non, isNone_int, List.lookup_cons, List.lookup_nil, and_self, and_true, true_and, setAt_r, ixN_ok, Option.map_some, List.map_set, List.length_set, snoc_get, snoc_set, setF_r, putFD_nil, putFD_cons, ec, d1', r2, m']
end
theorem law_loop (cs : List Int) (hl : cs.length ≤ 63) (nb : Int) (o1 : D) (ts : List TR) (pl ql : List Nat) (s : Nat) : ∀ (d j : Nat), j + d ≤ 64 → ∀ (S : Store) (P : List (List Bx)) (o5 o6 : Option D), LawJ j S ts P pl s ql →
    ∃ S' P' b5 b6, LawJ (j + d) S' ts P' pl s ql ∧
    forD none (gName 5) b_law_1 (rngD j d) [some (scrD cs), some o1, some (bxsD nb), some (stV ts pl s), some (ownV ts ql), o5, o6] S =
      .nx [some (scrD cs), some o1, some (bxsD nb), some (stV ts pl s), some (ownV ts ql), b5, b6] S' := by
  intro d
  induction d with
  | zero =>
    intro j hj S P o5 o6 h
    exact ⟨S, P, o5, o6, h, forD_nil⟩
  | succ d ih =>
    intro j hj S P o5 o6 h
    obtain ⟨S1, P1, b6, h1, h3⟩ := law_turn cs hl (by omega) h nb (k := (j : Int)) (by omega) (by omega) o1 o5 o6
    obtain ⟨S2, P2, d5, d6, g1, g3⟩ := ih (j + 1) (by omega) S1 P1 (some (.int j)) b6 h1
    refine ⟨S2, P2, d5, d6, by rw [show j + (d + 1) = j + 1 + d by omega]; exact g1, ?_⟩
    rw [rngD_cons, forD_cons rfl h3]
    exact g3
theorem repO_map (n : Nat) : repO n = (List.replicate n ([] : List Bx)).map fun p => some (O.lst (p.map bxD)) := by
  unfold repO; rw [List.map_replicate]; rfl
theorem wh_empty : ∀ (ts : List TR) (n : Nat) (b : List Nat), wh ts (List.replicate n []) b = none
  | [], n, b => by unfold wh; rfl
  | t :: ts, 0, b => by unfold wh; rfl
  | t :: ts, n + 1, b => by
    rw [List.replicate_succ]
    unfold wh
    rw [if_neg (by unfold has; simp)]
    exact wh_empty ts n b
def begS (n : Nat) : Store := none :: (repO n ++ [some (.dic [])] ++ repO n)
theorem repO_len (n : Nat) : (repO n).length = n := List.length_replicate
theorem begI {ts : List TR} (h : Told ts) : LawJ 0 (begS ts.length) ts (List.replicate ts.length []) (plR 1 ts.length) (1 + ts.length) (plR (1 + ts.length + 1) ts.length) := by
  have e1 : begS ts.length = [none] ++ (((List.replicate ts.length ([] : List Bx)).map fun p => some (O.lst (p.map bxD))) ++ ([some (.dic [])] ++ repO ts.length)) := by
    rw [← repO_map]; unfold begS; simp only [List.append_assoc, List.cons_append, List.nil_append]
  have e2 : begS ts.length = ([none] ++ repO ts.length ++ [some (.dic [])]) ++ (((List.replicate ts.length ([] : List Bx)).map fun p => some (O.lst (p.map bxD))) ++ []) := by
    rw [← repO_map]; unfold begS; simp only [List.append_assoc, List.cons_append, List.nil_append, List.append_nil]
  have e3 : begS ts.length = ([none] ++ repO ts.length) ++ some (.dic []) :: repO ts.length := by
    unfold begS; simp only [List.append_assoc, List.cons_append, List.nil_append]
  have l2 : ([none] ++ repO ts.length : Store).length = 1 + ts.length := by rw [List.length_append, repO_len]; rfl
  have l3 : ([none] ++ repO ts.length ++ [some (.dic [])] : Store).length = 1 + ts.length + 1 := by rw [List.length_append, l2]; rfl
  have rl : (List.replicate ts.length ([] : List Bx)).length = ts.length := List.length_replicate
  have emp : ∀ p ∈ List.replicate ts.length ([] : List Bx), p = [] := fun p hp => (List.mem_replicate.mp hp).2
  refine ⟨⟨⟨h, rl, ?_, ?_, ?_⟩, ⟨h, rl, ?_, plR_nodup, fun p hp => by rw [emp p hp]; exact Nat.zero_le _⟩, fun m hm z => ?_, ?_, fun p hp x hx => by rw [emp p hp] at hx; cases hx⟩, fun i t p ht hp => ?_, ?_⟩
  · rw [e1]; exact pil_new rfl rl.symm
  · refine List.nodup_cons.mpr ⟨fun z => ?_, plR_nodup⟩
    have := mem_plR z
    omega
  · refine ⟨[], ?_, ⟨Nat.zero_le _, rfl⟩, fun b => by rw [wh_empty]; rfl⟩
    rw [e3]
    have := mid_get (S := [none] ++ repO ts.length) (T := repO ts.length) (x := some (.dic []))
    rwa [l2] at this
  · rw [e2]; exact pil_new l3.symm rl.symm
  · have a := mem_plR hm
    rcases List.mem_cons.mp z with rfl | z
    · omega
    · have := mem_plR z; omega
  · unfold names
    rw [show (List.replicate ts.length ([] : List Bx)).flatten = [] by simp]
    exact List.nodup_nil
  · have tok := h.ok t (List.mem_of_getElem? ht)
    rw [emp p (List.mem_of_getElem? hp)]
    have a := tok.hi0
    have b := tok.wt0
    refine ⟨?_, ?_⟩
    · rw [List.length_nil]; omega
    · show (0 : Int) ≤ _; omega
  · unfold Cl
    refine cl_iff.mpr fun m o hm => ?_
    have := List.mem_of_getElem? hm
    unfold begS at this
    simp only [List.mem_cons, List.mem_append, List.not_mem_nil, or_false, reduceCtorEq, false_or, Option.some.injEq] at this
    rcases this with (ho | rfl) | ho
    · exact rep_cl ho
    · rfl
    · exact rep_cl ho
def stO (ts : List TR) (pl : List Nat) (s : Nat) : O := .ins "Stacks" [("known", .dic (knL ts)), ("piles", .dic (pilL ts pl)), ("spots", .ref s)]
theorem law_good (cs : List Int) (hl : cs.length ≤ 63) : ∃ S, m_law [scrD cs] [] = .ok (.bl true) S := by
  obtain ⟨ts, told, es⟩ := c_stacks cs hl
  obtain ⟨nb, n0, n1, en⟩ := c_number cs hl (k := 90) (by decide) (by decide)
  have eb : ∀ S, callD 2 (pureD m__law_names) [] [.int nb, .int 12] S = .ok (bxsD nb) S := c_names nb n0 (by omega) 12 (by decide)
  have lo := told.lo
  have hi := told.hi
  have ini := v_init told (S := []) (x := .lst (ts.map trD)) (ck := none) (.inl ⟨rfl, rfl⟩)
  have ini' : callD 2 m_Stacks____init__ [] [.ref 0, .lst (ts.map trD)] [some (.ins "Stacks" [])] = .ok .non (some (stO ts (plR 1 ts.length) (1 + ts.length)) :: (repO ts.length ++ [some (.dic [])])) := (call_mut rfl).trans ini
  have vn : callD 1 m__law_new [] [.lst (ts.map trD)] (none :: (repO ts.length ++ [some (.dic [])])) = .ok (ownV ts (plR (1 + ts.length + 1) ts.length)) (begS ts.length) := by
    have := v_new told (none :: (repO ts.length ++ [some (.dic [])]))
    rw [show (none :: (repO ts.length ++ [some (O.dic [])])).length = 1 + ts.length + 1 by simp only [List.length_cons, List.length_append, List.length_nil, repO_len]; omega] at this
    exact this
  obtain ⟨S1, P1, b5, b6, h1, h3⟩ := law_loop cs hl nb (.lst (ts.map trD)) ts (plR 1 ts.length) (plR (1 + ts.length + 1) ts.length) (1 + ts.length) (1 + (if (cs.length : Int) < 63 then (cs.length : Int) else 63)).toNat 0 (by split <;> omega) (begS ts.length) _ none none (begI told)
  have g1 := h1.all nb
  have g2 := h1.off
  have bl : ∀ S, bList false [.lst (ts.map trD)] S = .ok (.lst (ts.map trD)) S := fun S => rfl
  refine ⟨S1, ?_⟩
  have mk : ∀ δ : Mi.Env, (eFrz (eMake "Stacks" 2 m_Stacks____init__ (aCons (eB (bList false) (aCons (eVar 1) aNil)) aNil))) (some (scrD cs) :: some (.lst (ts.map trD)) :: δ) [] = .ok (stV ts (plR 1 ts.length) (1 + ts.length)) (none :: (repO ts.length ++ [some (.dic [])])) := fun δ => by
    simp (disch := first | omega | (simp only [List.length_map, List.length_cons, List.length_nil, List.length_append]; omega)) only [List.map_cons, List.map_nil, List.length_cons, List.length_nil, List.length_map, List.replicate, List.cons_append, List.nil_append, List.append_eq, sSeq_ap, sSet_ap, sIf_ap, sRet_ap, sRetN_ap, sExpr_ap, sNext_ap, sBreak_ap, sCont_ap, sPar_ap, sAsg_ap, sFor_ap, gName_ap, eVar_0, eVar_s, eC_ap, aNil_ap, aCons_ap, e2_ap, e3_ap, toB_bl, toB_stuck, tV_ap, tAnd_ap, tOr_ap, tNot_ap, eAnd_ap, eOr_ap, eNot_ap, eIf_ap, eNeg_ap, eTup_ap, eLst_ap, eLstL_ap, eB_ap, eIsi_ap, eCall_ap, eM_ap, eM0_ap, eIsN_ap, eNotN_ap, oNone_ap, oSome_ap, eSl_ap, iTup_ap, iStr_ap, iRange1_ap, iRange2_ap, iLst_ap, iZipD_ap, setAll_nil, setAll_cons, wipeD_nil, wipeD_cons, dAdd_int, dSub_int, dLt_int, dLe_int, dGt_int, dGe_int, dEqX_int, dEqX_str, dNeX_int, dNeX_str, dEqX_nil, dNeX_nil, dIs_bl, dMod_int, div_lit, bind_ok, bind_exc, toS_ok, toS_exc, then_nx, then_rt, then_exc, endD_nx, endD_rt, endD_exc, List.set_cons_succ, List.set_cons_zero, if_true, if_false, Bool.false_eq_true, Bool.not_true, Bool.not_false, decide_true, decide_false, Nat.zero_add, Nat.reduceAdd, lcEnd_f, eLc_ap, eRev_ap, eFld_ap, sFldD_ap, eMeth_ap, sRaise_ap, eFrz_ap, insOf_ins, bTuple_lst, bTuple_tup, bMin2_int, bMax2_int, bAbs_int, bLen_lst, bLen_tup, bLen_scr, bAll_lst, bAny_lst, bSum_lst, dIx_lst, dIx_tup, dIx_scr, bRepr_bl, sz_lit, Int.reduceLT, Int.reduceLE, Int.reducePow, Nat.reduceLT, Nat.reduceLeDiff, Nat.reducePow, gTup_tup, gCons_c, gNil_n, cast_lit, eq_self, Int.reduceEq, Int.reduceNeg, eDic0_f, sTry_ap, eMake_f, ofS_inj, ofS_beq, String.reduceEq, String.reduceBEq, rg1_ap, rg2_ap, eListRg_ap, iRevRg_ap, iZip3D_ap, iEnum_ap, sSetAt_ap, rg_ok, rg_ok2, rgl_ok, mul_r, mul_l, mod_d, at_int', at_bl', p6, p9, p10, p11, p12, p60, dAdd_lst, Int.toNat_natCast, Int.zero_add, Int.sub_zero, bInt_bl, bInt_int, bList_f, dSl_lst, dSl_tup, dSl_scr, List.getElem?_cons_zero, List.getElem?_cons_succ, beq_self_eq_true, Bool.true_or, Bool.or_false, Bool.or_true, Bool.false_or, Nat.reduceSub, ne_scr_nil, at_zero, Int.reduceAdd, Int.reduceSub, Int.reduceMul, sz_lt, dIx_r, bLen_r, isTy_r, app_r, pop_r, clear_r, frz_r, frz_lst, isNone_non, isNone_int, List.lookup_cons, List.lookup_nil, and_self, and_true, true_and, setAt_r, ixN_ok, Option.map_some, List.map_set, List.length_set, snoc_get, snoc_set, setF_r, putFD_nil, putFD_cons, eMake_f, bl, ini', stO]
    rfl
  have z0 : ((0 : Nat) : Int) = 0 := rfl
  rw [z0] at h3
  rw [m_law, runD_ap, z_law]
  simp only [scrD] at es en h3 mk ⊢
  simp (disch := first | omega | (simp only [List.length_map, List.length_cons, List.length_nil, List.length_append]; omega)) only [List.map_cons, List.map_nil, List.length_cons, List.length_nil, List.length_map, List.replicate, List.cons_append, List.nil_append, List.append_eq, sSeq_ap, sSet_ap, sIf_ap, sRet_ap, sRetN_ap, sExpr_ap, sNext_ap, sBreak_ap, sCont_ap, sPar_ap, sAsg_ap, sFor_ap, gName_ap, eVar_0, eVar_s, eC_ap, aNil_ap, aCons_ap, e2_ap, e3_ap, toB_bl, toB_stuck, tV_ap, tAnd_ap, tOr_ap, tNot_ap, eAnd_ap, eOr_ap, eNot_ap, eIf_ap, eNeg_ap, eTup_ap, eLst_ap, eLstL_ap, eB_ap, eIsi_ap, eCall_ap, eM_ap, eM0_ap, eIsN_ap, eNotN_ap, oNone_ap, oSome_ap, eSl_ap, iTup_ap, iStr_ap, iRange1_ap, iRange2_ap, iLst_ap, iZipD_ap, setAll_nil, setAll_cons, wipeD_nil, wipeD_cons, dAdd_int, dSub_int, dLt_int, dLe_int, dGt_int, dGe_int, dEqX_int, dEqX_str, dNeX_int, dNeX_str, dEqX_nil, dNeX_nil, dIs_bl, dMod_int, div_lit, bind_ok, bind_exc, toS_ok, toS_exc, then_nx, then_rt, then_exc, endD_nx, endD_rt, endD_exc, List.set_cons_succ, List.set_cons_zero, if_true, if_false, Bool.false_eq_true, Bool.not_true, Bool.not_false, decide_true, decide_false, Nat.zero_add, Nat.reduceAdd, lcEnd_f, eLc_ap, eRev_ap, eFld_ap, sFldD_ap, eMeth_ap, sRaise_ap, eFrz_ap, insOf_ins, bTuple_lst, bTuple_tup, bMin2_int, bMax2_int, bAbs_int, bLen_lst, bLen_tup, bLen_scr, bAll_lst, bAny_lst, bSum_lst, dIx_lst, dIx_tup, dIx_scr, bRepr_bl, sz_lit, Int.reduceLT, Int.reduceLE, Int.reducePow, Nat.reduceLT, Nat.reduceLeDiff, Nat.reducePow, gTup_tup, gCons_c, gNil_n, cast_lit, eq_self, Int.reduceEq, Int.reduceNeg, eDic0_f, sTry_ap, eMake_f, ofS_inj, ofS_beq, String.reduceEq, String.reduceBEq, rg1_ap, rg2_ap, eListRg_ap, iRevRg_ap, iZip3D_ap, iEnum_ap, sSetAt_ap, rg_ok, rg_ok2, rgl_ok, mul_r, mul_l, mod_d, at_int', at_bl', p6, p9, p10, p11, p12, p60, dAdd_lst, Int.toNat_natCast, Int.zero_add, Int.sub_zero, bInt_bl, bInt_int, bList_f, dSl_lst, dSl_tup, dSl_scr, List.getElem?_cons_zero, List.getElem?_cons_succ, beq_self_eq_true, Bool.true_or, Bool.or_false, Bool.or_true, Bool.false_or, Nat.reduceSub, ne_scr_nil, at_zero, Int.reduceAdd, Int.reduceSub, Int.reduceMul, sz_lt, dIx_r, bLen_r, isTy_r, app_r, pop_r, clear_r, frz_r, frz_lst, isNone_non, isNone_int, List.lookup_cons, List.lookup_nil, and_self, and_true, true_and, setAt_r, ixN_ok, Option.map_some, List.map_set, List.length_set, snoc_get, snoc_set, setF_r, putFD_nil, putFD_cons, es, en, eb, mk, vn, h3, g1, g2, -eFrz_ap]
theorem law_ok : ∀ ns : List Int, ns.length ≤ 63 → (∀ z ∈ ns, Builtin.Int.intBits z ≤ 1048576) → ∃ S, m_law [.scr (ns.map D.int)] [] = .ok (.bl true) S := fun ns hl _ => law_good ns hl
end Q
open PySem PySem.W PyProof.Rows
set_option maxRecDepth 100000 in
set_option maxHeartbeats 0 in
theorem PySem.Challenge.cw_craneyard_k09_whole_stacks_plain_holds : PySem.Challenge.rw_craneyard_k09_whole_stacks_plain.Holds := by
  w_on; o_law; k_head; (case hw => w_witness2)
  k_fill
  refine Mi.law_end (l := PySem.Challenge.rw_craneyard_k09_whole_stacks_plain) (n := 63) (k := 8) (x := "_law_script") (g := Q.m_law) rfl (by decide) rfl ⟨rfl, by decide, by decide⟩ (fun w h Y => PySem.W.kIn_of Y) Q.law_ok ?F
  case F =>
    intro w mg fa h KX G HX hmg
    refine' Q.all_mk KX G hmg ?x_Stacks ?x_CraneError ?x_BadName ?x_BadNumber ?x_BadRail ?x_BadStack ?x_BadPlaces ?x_BadText ?x_Twice ?x_NoCrane ?x_NoStack ?x_NoBox ?x_NoJob ?x_Same ?x_Buried ?x_TooHigh ?x_TooHeavy ?x_Empty ?x_NoReach ?x_BadJournal ?a0 ?l0 ?c0 ?k0 ?a1 ?l1 ?c1 ?k1 ?a2 ?l2 ?c2 ?k2 ?a3 ?l3 ?c3 ?k3 ?a4 ?l4 ?c4 ?k4 ?a5 ?l5 ?c5 ?k5 ?a6 ?l6 ?c6 ?k6 ?a7 ?l7 ?c7 ?k7 ?a8 ?i8 ?l8 ?c8 ?k8 ?a9 ?l9 ?c9 ?k9 ?a10 ?l10 ?c10 ?k10 ?a11 ?l11 ?c11 ?k11 ?a12 ?l12 ?c12 ?k12 ?a13 ?l13 ?c13 ?k13 ?a14 ?i14 ?l14 ?c14 ?k14 ?a15 ?i15 ?l15 ?c15 ?k15 ?a16 ?i16 ?l16 ?c16 ?k16 ?a17 ?i17 ?l17 ?c17 ?k17 ?a18 ?i18 ?l18 ?c18 ?k18 ?a19 ?l19 ?c19 ?k19 ?a20 ?l20 ?c20 ?k20 ?a21 ?l21 ?c21 ?k21 ?a22 ?i22 ?l22 ?c22 ?k22 ?a23 ?i23 ?l23 ?c23 ?k23 ?a24 ?i24 ?l24 ?c24 ?k24 ?a25 ?i25 ?l25 ?c25 ?k25 ?a26 ?l26 ?c26 ?k26 ?a27 ?l27 ?c27 ?k27 ?a28 ?i28 ?l28 ?c28 ?k28 ?a29 ?i29 ?l29 ?c29 ?k29 ?a30 ?i30 ?l30 ?c30 ?k30 ?a31 ?l31 ?c31 ?k31 ?a32 ?l32 ?c32 ?k32 ?n_ValueError ?n_all ?n_bool ?n_dict ?n_int ?n_isinstance ?n_len ?n_list ?n_min ?n_range ?n_repr ?n_set ?n_sorted ?n_str ?n_sum ?n_tuple ?c_LETTERS ?c_MOST_HIGH ?c_MOST_LETTERS ?c_MOST_NUMBER ?c_MOST_STACKS ?mk_Stacks ?kp_Stacks ?pg_Stacks ?hd_Stacks ?po_Stacks ?sa_Stacks ?f_Stacks_known ?f_Stacks_piles ?f_Stacks_spots ?xk
    (case x_Stacks => k_is); (case x_CraneError => k_is); (case x_BadName => k_is); (case x_BadNumber => k_is); (case x_BadRail => k_is); (case x_BadStack => k_is); (case x_BadPlaces => k_is); (case x_BadText => k_is); (case x_Twice => k_is); (case x_NoCrane => k_is); (case x_NoStack => k_is); (case x_NoBox => k_is); (case x_NoJob => k_is); (case x_Same => k_is); (case x_Buried => k_is); (case x_TooHigh => k_is); (case x_TooHeavy => k_is); (case x_Empty => k_is); (case x_NoReach => k_is); (case x_BadJournal => k_is); (case a0 => k_is); (case l0 => k_is); (case c0 => k_is); (case k0 => k_is); (case a1 => k_is); (case l1 => k_is); (case c1 => k_is); (case k1 => k_is); (case a2 => k_is); (case l2 => k_is); (case c2 => k_is); (case k2 => k_is); (case a3 => k_is); (case l3 => k_is); (case c3 => k_is); (case k3 => k_is); (case a4 => k_is); (case l4 => k_is); (case c4 => k_is); (case k4 => k_is); (case a5 => k_is); (case l5 => k_is); (case c5 => k_is); (case k5 => k_is); (case a6 => k_is); (case l6 => k_is); (case c6 => k_is); (case k6 => k_is); (case a7 => k_is); (case l7 => k_is); (case c7 => k_is); (case k7 => k_is); (case a8 => k_is); (case i8 => k_is); (case l8 => k_is); (case c8 => k_is); (case k8 => k_is); (case a9 => k_is); (case l9 => k_is); (case c9 => k_is); (case k9 => k_is); (case a10 => k_is); (case l10 => k_is); (case c10 => k_is); (case k10 => k_is); (case a11 => k_is); (case l11 => k_is); (case c11 => k_is); (case k11 => k_is); (case a12 => k_is); (case l12 => k_is); (case c12 => k_is); (case k12 => k_is); (case a13 => k_is); (case l13 => k_is); (case c13 => k_is); (case k13 => k_is); (case a14 => k_is); (case i14 => k_is); (case l14 => k_is); (case c14 => k_is); (case k14 => k_is); (case a15 => k_is); (case i15 => k_is); (case l15 => k_is); (case c15 => k_is); (case k15 => k_is); (case a16 => k_is); (case i16 => k_is); (case l16 => k_is); (case c16 => k_is); (case k16 => k_is); (case a17 => k_is); (case i17 => k_is); (case l17 => k_is); (case c17 => k_is); (case k17 => k_is); (case a18 => k_is); (case i18 => k_is); (case l18 => k_is); (case c18 => k_is); (case k18 => k_is); (case a19 => k_is); (case l19 => k_is); (case c19 => k_is); (case k19 => k_is); (case a20 => k_is); (case l20 => k_is); (case c20 => k_is); (case k20 => k_is); (case a21 => k_is); (case l21 => k_is); (case c21 => k_is); (case k21 => k_is); (case a22 => k_is); (case i22 => k_is); (case l22 => k_is); (case c22 => k_is); (case k22 => k_is); (case a23 => k_is); (case i23 => k_is); (case l23 => k_is); (case c23 => k_is); (case k23 => k_is); (case a24 => k_is); (case i24 => k_is); (case l24 => k_is); (case c24 => k_is); (case k24 => k_is); (case a25 => k_is); (case i25 => k_is); (case l25 => k_is); (case c25 => k_is); (case k25 => k_is); (case a26 => k_is); (case l26 => k_is); (case c26 => k_is); (case k26 => k_is); (case a27 => k_is); (case l27 => k_is); (case c27 => k_is); (case k27 => k_is); (case a28 => k_is); (case i28 => k_is); (case l28 => k_is); (case c28 => k_is); (case k28 => k_is); (case a29 => k_is); (case i29 => k_is); (case l29 => k_is); (case c29 => k_is); (case k29 => k_is); (case a30 => k_is); (case i30 => k_is); (case l30 => k_is); (case c30 => k_is); (case k30 => k_is); (case a31 => k_is); (case l31 => k_is); (case c31 => k_is); (case k31 => k_is); (case a32 => k_is); (case l32 => k_is); (case c32 => k_is); (case k32 => k_is); (case n_ValueError => k_is); (case n_all => k_is); (case n_bool => k_is); (case n_dict => k_is); (case n_int => k_is); (case n_isinstance => k_is); (case n_len => k_is); (case n_list => k_is); (case n_min => k_is); (case n_range => k_is); (case n_repr => k_is); (case n_set => k_is); (case n_sorted => k_is); (case n_str => k_is); (case n_sum => k_is); (case n_tuple => k_is); (case c_LETTERS => k_is); (case c_MOST_HIGH => k_is); (case c_MOST_LETTERS => k_is); (case c_MOST_NUMBER => exact Mi.loose_int HX (by repeat (first | exact List.Mem.head _ | apply List.Mem.tail))); (case c_MOST_STACKS => k_is); (case mk_Stacks => k_is); (case kp_Stacks => k_is); (case pg_Stacks => k_is); (case hd_Stacks => k_is); (case po_Stacks => k_is); (case sa_Stacks => k_is); (case f_Stacks_known => k_is); (case f_Stacks_piles => k_is); (case f_Stacks_spots => k_is); (case xk => kernel_rfl)
#print axioms PySem.Challenge.cw_craneyard_k09_whole_stacks_plain_holds
