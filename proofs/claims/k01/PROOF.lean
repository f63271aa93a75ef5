import PyProof.Rows.All
import Wide.All
import OpenK.AllK
import Wide.FinOn
import HandS.ForMost
import HandS.ForExc
import HandS.Wide
import HandS.TupAny
import HandS.Deep
import HandS.IsInst
import HandS.RaiseMore
import HandS.CallSlots
import HandS.EndBits
import HandS.Replace
import PySem.Challenge.RW_craneyard_k01_words
set_option Elab.async false
set_option linter.all false
set_option maxRecDepth 100000
/-! Mini, base: values without addresses, a store of what may change, and what it means that a frame stands so. -/
namespace Mi
open PySem L2

/-- a value: what never changes stands in it whole; what may change is a place of the store -/
inductive D where
  | non | bl (b : Bool) | int (i : Int) | str (x : Str)
  | ref (l : Nat) | ty (n : String) | cls (C : Str)
  | tup (xs : List D) | lst (xs : List D) | dic (kvs : List (Key × D)) | scr (xs : List D)
  | ins (C : Str) (fs : List (Str × D))
  | exc (C : Str) (fs : List (Str × D))
/-- what stands at a place of the store -/
inductive O where
  | lst (xs : List D) | dic (kvs : List (Key × D)) | ins (C : Str) (fs : List (Str × D))
abbrev Store := List (Option O)
abbrev Env := List (Option D)
/-- where the places of the store stand -/
structure Mu where
  f : Nat → Option Addr
  /-- what others have that may change: never a part of what is read here -/
  z : Addr → Prop
instance : CoeFun Mu (fun _ => Nat → Option Addr) := ⟨Mu.f⟩
def Ot (mu : Mu) (a : Addr) : Prop := (∀ l, mu l ≠ some a) ∧ ¬ mu.z a
abbrev Cl := Str → Option Addr

section
variable (K : PySem.W.Frag) (cl : Cl)
/-- a thing that is read and never written -/
def Fz (mu : Mu) (H : Hp) (a : Addr) (o : HO) : Prop := Rd H a o ∧ Ot mu a
def TupF (mu : Mu) (H : Hp) (a : Addr) (xs : List V) : Prop := Fz mu H a (.tup xs) ∨
    ∃ (o : Obj) (its : Array Value) (n : Nat), K.lookup a = some o ∧ o.cls = .type "tuple" ∧ o.data = .seq its n ∧ its.size ≤ sizeLine ∧ Vals xs its.toList
def ScrF (mu : Mu) (H : Hp) (a : Addr) (xs : List V) : Prop := Fz mu H a (.lst xs) ∨
    ∃ (o : Obj) (its : Array Value) (n : Nat), K.lookup a = some o ∧ o.cls = .type "list" ∧ o.dict = none ∧ o.data = .seq its n ∧ its.size ≤ sizeLine ∧ Vals xs its.toList
def LstF (mu : Mu) (H : Hp) (a : Addr) (xs : List V) : Prop := H a = some (.lst xs) ∧ Ot mu a
/-- an exception's own object, and its dict -/
def ExcO (CA : Addr) (d : Option Addr) : HO := .ext fun h => ∃ a o vs, h.get? a = some o ∧ o.cls = .ref CA ∧ o.dict = d ∧ o.data = .fields vs

mutual
inductive VRel (n : Nat) (mu : Mu) (H : Hp) : V → D → Prop
  | non : VRel n mu H .non .non
  | bl (b : Bool) : VRel n mu H (.bl b) (.bl b)
  | int (i : Int) : VRel n mu H (.int i) (.int i)
  | str (x : Str) : VRel n mu H (.str x) (.str x)
  | ty (x : String) : VRel n mu H (.ty x) (.ty x)
  | cls {C : Str} {CA : Addr} : cl C = some CA → VRel n mu H (.ref CA) (.cls C)
  | ref {v : V} {l : Nat} : l < n → (∀ a, mu l = some a → v = .ref a) → VRel n mu H v (.ref l)
  | tup {a : Addr} {vs : List V} {ds : List D} : TupF K mu H a vs → VRels n mu H vs ds → VRel n mu H (.ref a) (.tup ds)
  | lst {a : Addr} {vs : List V} {ds : List D} : LstF mu H a vs → VRels n mu H vs ds → VRel n mu H (.ref a) (.lst ds)
  | scr {a : Addr} {vs : List V} {ds : List D} : ScrF K mu H a vs → VRels n mu H vs ds → VRel n mu H (.ref a) (.scr ds)
  | dic {a : Addr} {ks : List Key} {vs : List V} {ds : List D} : Fz mu H a (.dK (ks.zip vs)) → ks.length = vs.length → VRels n mu H vs ds → VRel n mu H (.ref a) (.dic (ks.zip ds))
  | ins {a CA dx : Addr} {C : Str} {ks : List Str} {vs : List V} {ds : List D} : cl C = some CA → H a = some (.ins CA dx (ks.zip vs)) → Ot mu a → ks.length = vs.length → VRels n mu H vs ds → VRel n mu H (.ref a) (.ins C (ks.zip ds))
inductive VRels (n : Nat) (mu : Mu) (H : Hp) : List V → List D → Prop
  | nil : VRels n mu H [] []
  | cons {v : V} {d : D} {vs : List V} {ds : List D} : VRel n mu H v d → VRels n mu H vs ds → VRels n mu H (v :: vs) (d :: ds)
end

/-- what stands at the address of a place -/
inductive ORel (n : Nat) (mu : Mu) (H : Hp) (a : Addr) : O → Prop
  | lst {vs : List V} {ds : List D} : H a = some (.lst vs) → VRels K cl n mu H vs ds → ORel n mu H a (.lst ds)
  | dic {ks : List Key} {vs : List V} {ds : List D} : H a = some (.dK (ks.zip vs)) → ks.length = vs.length → VRels K cl n mu H vs ds → ORel n mu H a (.dic (ks.zip ds))
  | ins {CA dx : Addr} {C : Str} {ks : List Str} {vs : List V} {ds : List D} : cl C = some CA → H a = some (.ins CA dx (ks.zip vs)) → ks.length = vs.length → VRels K cl n mu H vs ds → ORel n mu H a (.ins C (ks.zip ds))

/-- the store stands in the heap -/
structure SR (mu : Mu) (H : Hp) (S : Store) : Prop where
  inj : ∀ l m a, mu l = some a → mu m = some a → l = m
  live : ∀ l o, S[l]? = some (some o) → ∃ a, mu l = some a ∧ ORel K cl S.length mu H a o
  dead : ∀ l, (∀ o, S[l]? ≠ some (some o)) → mu l = none
  zt : ∀ a, mu.z a → H a ≠ none
  zd : ∀ l a, mu l = some a → ¬ mu.z a

/-- what may have come of a heap meanwhile -/
structure Ext (n : Nat) (mu : Mu) (H : Hp) (n' : Nat) (mu' : Mu) (H' : Hp) : Prop where
  le : n ≤ n'
  keep : ∀ a o, H a = some o → (∀ l, mu l ≠ some a) → H' a = some o
  old : ∀ l a, l < n → mu' l = some a → mu l = some a
  new : ∀ l a, n ≤ l → mu' l = some a → H a = none
  trk : ∀ a, H' a = none → H a = none
  zz : mu'.z = mu.z
theorem Ext.refl {n : Nat} {mu : Mu} {H : Hp} (h : ∀ l, n ≤ l → mu l = none) : Ext n mu H n mu H :=
  ⟨Nat.le_refl _, fun _ _ h _ => h, fun _ _ _ h => h, fun l a hl e => absurd e (by rw [h l hl]; exact fun z => nomatch z), fun _ h => h, rfl⟩
theorem Ext.outf {n n' : Nat} {mu mu' : Mu} {H H' : Hp} (e : Ext n mu H n' mu' H') {a : Addr} {o : HO} (h : H a = some o) (f : ∀ l, mu l ≠ some a) : ∀ l, mu' l ≠ some a := fun l z => by
  by_cases hl : l < n
  · exact f l (e.old l a hl z)
  · rw [e.new l a (Nat.le_of_not_lt hl) z] at h; cases h
theorem Ext.out {n n' : Nat} {mu mu' : Mu} {H H' : Hp} (e : Ext n mu H n' mu' H') {a : Addr} {o : HO} (h : H a = some o) (f : Ot mu a) : Ot mu' a := ⟨e.outf h f.1, by rw [e.zz]; exact f.2⟩
theorem Ext.trans {n n1 n2 : Nat} {mu mu1 mu2 : Mu} {H H1 H2 : Hp} (a : Ext n mu H n1 mu1 H1) (b : Ext n1 mu1 H1 n2 mu2 H2) : Ext n mu H n2 mu2 H2 where
  le := Nat.le_trans a.le b.le
  keep := fun c o h f => b.keep c o (a.keep c o h f) (a.outf h f)
  old := fun l c hl e => a.old l c hl (b.old l c (Nat.lt_of_lt_of_le hl a.le) e)
  new := fun l c hl e => by
    by_cases hn : l < n1
    · exact a.new l c hl (b.old l c hn e)
    · exact a.trk c (b.new l c (Nat.le_of_not_lt hn) e)
  trk := fun c h => a.trk c (b.trk c h)
  zz := b.zz.trans a.zz
/-- all that is read stands on -/
structure Pr (n : Nat) (mu : Mu) (H : Hp) (n' : Nat) (mu' : Mu) (H' : Hp) : Prop where
  le : n ≤ n'
  keep : ∀ a o, H a = some o → Ot mu a → H' a = some o ∧ Ot mu' a
  old : ∀ l a, l < n → mu' l = some a → mu l = some a
theorem Ext.pr {n n' : Nat} {mu mu' : Mu} {H H' : Hp} (e : Ext n mu H n' mu' H') : Pr n mu H n' mu' H' := ⟨e.le, fun a o h f => ⟨e.keep a o h f.1, e.out h f⟩, e.old⟩
section
variable {K : PySem.W.Frag} {cl : Cl} {n n' : Nat} {mu mu' : Mu} {H H' : Hp}
theorem Fz.pr {a : Addr} {o : HO} (e : Pr n mu H n' mu' H') (h : Fz mu H a o) : Fz mu' H' a o := by
  obtain ⟨h, f⟩ := h
  rcases h with h | ⟨q, h⟩
  · exact ⟨.inl (e.keep _ _ h f).1, (e.keep _ _ h f).2⟩
  · exact ⟨.inr ⟨q, (e.keep _ _ h f).1⟩, (e.keep _ _ h f).2⟩
theorem TupF.pr {a : Addr} {vs : List V} (e : Pr n mu H n' mu' H') (h : TupF K mu H a vs) : TupF K mu' H' a vs := h.elim (fun h => .inl (h.pr e)) .inr
theorem ScrF.pr {a : Addr} {vs : List V} (e : Pr n mu H n' mu' H') (h : ScrF K mu H a vs) : ScrF K mu' H' a vs := h.elim (fun h => .inl (h.pr e)) .inr
theorem LstF.pr {a : Addr} {vs : List V} (e : Pr n mu H n' mu' H') (h : LstF mu H a vs) : LstF mu' H' a vs := e.keep _ _ h.1 h.2
theorem TupF.sq {a : Addr} {vs : List V} (h : TupF K mu H a vs) : SqT K H a vs := h.elim (fun h => .inl h.1) .inr
theorem ScrF.sq {a : Addr} {vs : List V} (h : ScrF K mu H a vs) : SqL K H a vs := h.elim (fun h => .inl h.1) .inr
theorem LstF.sq {a : Addr} {vs : List V} (h : LstF mu H a vs) : SqL K H a vs := .inl (.inl h.1)
mutual
theorem VRel.pr (e : Pr n mu H n' mu' H') : ∀ {v : V} {d : D}, VRel K cl n mu H v d → VRel K cl n' mu' H' v d
  | _, _, .non => .non
  | _, _, .bl b => .bl b
  | _, _, .int i => .int i
  | _, _, .str x => .str x
  | _, _, .ty x => .ty x
  | _, _, .cls h => .cls h
  | _, _, .ref hl h => .ref (Nat.lt_of_lt_of_le hl e.le) fun a q => h a (e.old _ a hl q)
  | _, _, .tup f r => .tup (f.pr e) (VRels.pr e r)
  | _, _, .lst f r => .lst (f.pr e) (VRels.pr e r)
  | _, _, .scr f r => .scr (f.pr e) (VRels.pr e r)
  | _, _, .dic f hl r => .dic (f.pr e) hl (VRels.pr e r)
  | _, _, .ins hc h f hl r => .ins hc (e.keep _ _ h f).1 (e.keep _ _ h f).2 hl (VRels.pr e r)
theorem VRels.pr (e : Pr n mu H n' mu' H') : ∀ {vs : List V} {ds : List D}, VRels K cl n mu H vs ds → VRels K cl n' mu' H' vs ds
  | _, _, .nil => .nil
  | _, _, .cons h r => .cons (VRel.pr e h) (VRels.pr e r)
end
theorem VRel.mono (e : Ext n mu H n' mu' H') {v : V} {d : D} (h : VRel K cl n mu H v d) : VRel K cl n' mu' H' v d := h.pr e.pr
theorem VRels.mono (e : Ext n mu H n' mu' H') {vs : List V} {ds : List D} (h : VRels K cl n mu H vs ds) : VRels K cl n' mu' H' vs ds := h.pr e.pr
theorem VRels.length : ∀ {vs : List V} {ds : List D}, VRels K cl n mu H vs ds → vs.length = ds.length
  | _, _, .nil => rfl
  | _, _, .cons _ r => by simp only [List.length_cons, VRels.length r]
theorem VRels.get : ∀ {vs : List V} {ds : List D} {i : Nat} {d : D}, VRels K cl n mu H vs ds → ds[i]? = some d → ∃ v, vs[i]? = some v ∧ VRel K cl n mu H v d
  | _, _, _, _, .nil, e => by simp at e
  | _, _, 0, _, .cons h _, e => by simp at e; subst e; exact ⟨_, rfl, h⟩
  | _, _, i + 1, _, .cons _ r, e => by
    obtain ⟨v, e1, h⟩ := VRels.get (i := i) r (by simpa using e)
    exact ⟨v, by simpa using e1, h⟩
theorem VRels.getV : ∀ {vs : List V} {ds : List D} {i : Nat} {v : V}, VRels K cl n mu H vs ds → vs[i]? = some v → ∃ d, ds[i]? = some d ∧ VRel K cl n mu H v d
  | _, _, _, _, .nil, e => by simp at e
  | _, _, 0, _, .cons h _, e => by simp at e; subst e; exact ⟨_, rfl, h⟩
  | _, _, i + 1, _, .cons _ r, e => by
    obtain ⟨v, e1, h⟩ := VRels.getV (i := i) r (by simpa using e)
    exact ⟨v, by simpa using e1, h⟩
theorem VRels.append : ∀ {vs us : List V} {ds es : List D}, VRels K cl n mu H vs ds → VRels K cl n mu H us es → VRels K cl n mu H (vs ++ us) (ds ++ es)
  | _, _, _, _, .nil, q => q
  | _, _, _, _, .cons h r, q => .cons h (VRels.append r q)
theorem VRels.drop : ∀ {vs : List V} {ds : List D} (k : Nat), VRels K cl n mu H vs ds → VRels K cl n mu H (vs.drop k) (ds.drop k)
  | _, _, 0, r => r
  | _, _, _ + 1, .nil => .nil
  | _, _, k + 1, .cons _ r => VRels.drop k r
theorem VRels.take : ∀ {vs : List V} {ds : List D} (k : Nat), VRels K cl n mu H vs ds → VRels K cl n mu H (vs.take k) (ds.take k)
  | _, _, 0, _ => .nil
  | _, _, _ + 1, .nil => .nil
  | _, _, k + 1, .cons h r => .cons h (VRels.take k r)
theorem VRels.set {v : V} {d : D} (h : VRel K cl n mu H v d) : ∀ {vs : List V} {ds : List D} (k : Nat), VRels K cl n mu H vs ds → VRels K cl n mu H (vs.set k v) (ds.set k d)
  | _, _, _, .nil => .nil
  | _, _, 0, .cons _ r => .cons h r
  | _, _, k + 1, .cons q r => .cons q (VRels.set h k r)
theorem VRels.eraseIdx : ∀ {vs : List V} {ds : List D} (k : Nat), VRels K cl n mu H vs ds → VRels K cl n mu H (vs.eraseIdx k) (ds.eraseIdx k)
  | _, _, _, .nil => .nil
  | _, _, 0, .cons _ r => r
  | _, _, k + 1, .cons q r => .cons q (VRels.eraseIdx k r)
theorem VRels.reverse : ∀ {vs : List V} {ds : List D}, VRels K cl n mu H vs ds → VRels K cl n mu H vs.reverse ds.reverse
  | _, _, .nil => .nil
  | _, _, .cons q r => by
    rw [List.reverse_cons, List.reverse_cons]
    exact (VRels.reverse r).append (.cons q .nil)
end
end
end Mi
namespace Mi
open PySem L2

/-- what comes of a piece of code -/
inductive Out (α : Type) where
  | ok (a : α) (S : Store) | exc (C : Str) (fs : List (Str × D)) (S : Store) | stuck
def Out.bind {α β : Type} (o : Out α) (k : α → Store → Out β) : Out β :=
  match o with
  | .ok a S => k a S
  | .exc C fs S => .exc C fs S
  | .stuck => .stuck
@[simp] theorem bind_ok {α β : Type} (a : α) (S : Store) (k : α → Store → Out β) : (Out.ok a S).bind k = k a S := rfl
@[simp] theorem bind_exc {α β : Type} (C : Str) (fs : List (Str × D)) (S : Store) (k : α → Store → Out β) : (Out.exc C fs S : Out α).bind k = .exc C fs S := rfl
@[simp] theorem bind_stuck {α β : Type} (k : α → Store → Out β) : (Out.stuck : Out α).bind k = .stuck := rfl
abbrev DE := Env → Store → Out D
abbrev DA := Env → Store → Out (List D)
abbrev DT := Env → Store → Out Bool

section
variable (K : PySem.W.Frag) (cl : Cl)
def ERel (n : Nat) (mu : Mu) (H : Hp) (σ : St) (δ : Env) : Prop := σ.length = δ.length ∧ ∀ (i : Nat) (d : D), δ[i]? = some (some d) → ∃ v, σ[i]? = some (some v) ∧ VRel K cl n mu H v d
/-- an exception's own dict -/
def XF (n : Nat) (mu : Mu) (H : Hp) (dx : Option Addr) (fs : List (Str × D)) : Prop :=
  (fs = [] ∧ dx = none) ∨ ∃ (d : Addr) (ks : List Str) (vs : List V) (ds : List D), dx = some d ∧ H d = some (.xd (ks.zip vs)) ∧ fs = ks.zip ds ∧ ks.length = vs.length ∧ VRels K cl n mu H vs ds
abbrev Rl (α β : Type) := Nat → Mu → Hp → β → α → Prop
/-- what is wanted behind -/
def Af {α β : Type} (R : Rl α β) (n : Nat) (mu : Mu) (H : Hp) (σ : St) (W : WX) (o : Out α) (Q : β → Hp → Prop) : Prop :=
  match o with
  | .ok d S' => ∀ v H' mu', Ext n mu H S'.length mu' H' → SR K cl mu' H' S' → R S'.length mu' H' v d → Q v H'
  | .exc C fs S' => ∀ CA dx H' mu', cl C = some CA → Ext n mu H S'.length mu' H' → SR K cl mu' H' S' → XF K cl S'.length mu' H' dx fs → W (.ref CA) dx σ H'
  | .stuck => False
abbrev RB : Rl Bool Bool := fun _ _ _ b c => b = c
def tE (W : WX) (f : DE) : TE := fun σ H Q => ∃ mu δ S, SR K cl mu H S ∧ ERel K cl S.length mu H σ δ ∧ Af K cl (VRel K cl) S.length mu H σ W (f δ S) Q
def tA (W : WX) (f : DA) : TA := fun σ H Q => ∃ mu δ S, SR K cl mu H S ∧ ERel K cl S.length mu H σ δ ∧ Af K cl (VRels K cl) S.length mu H σ W (f δ S) Q
def tT (W : WX) (f : DT) : TT := fun σ H Q => ∃ mu δ S, SR K cl mu H S ∧ ERel K cl S.length mu H σ δ ∧ Af K cl RB S.length mu H σ W (f δ S) Q
end
section
variable {K : PySem.W.Frag} {cl : Cl} {n n1 : Nat} {mu mu1 : Mu} {H H1 : Hp} {σ : St} {δ : Env} {W : WX} {S : Store}
theorem SR.top (h : SR K cl mu H S) : ∀ l, S.length ≤ l → mu l = none := fun l hl => h.dead l fun o e => by
  rw [List.getElem?_eq_none hl] at e; cases e
theorem SR.rfl' (h : SR K cl mu H S) : Ext S.length mu H S.length mu H := Ext.refl h.top
theorem SR.at_ (h : SR K cl mu H S) {l : Nat} {a : Addr} (e : mu l = some a) : ∃ o, S[l]? = some (some o) ∧ ORel K cl S.length mu H a o := by
  cases q : S[l]? with
  | none => rw [h.dead l fun o z => by rw [q] at z; cases z] at e; cases e
  | some x =>
    cases x with
    | none => rw [h.dead l fun o z => by rw [q] at z; cases z] at e; cases e
    | some o =>
      obtain ⟨b, e', r⟩ := h.live l o q
      rw [e] at e'; cases e'
      exact ⟨o, rfl, r⟩
theorem ORel.there {a : Addr} {o : O} (h : ORel K cl n mu H a o) : H a ≠ none := by
  cases h with
  | lst e _ => rw [e]; exact fun z => nomatch z
  | dic e _ _ => rw [e]; exact fun z => nomatch z
  | ins _ e _ _ => rw [e]; exact fun z => nomatch z
theorem SR.ne (h : SR K cl mu H S) {p : Addr} (hp : H p = none) : ∀ l, mu l ≠ some p := fun l e => by
  obtain ⟨o, _, r⟩ := h.at_ e
  exact r.there hp
theorem SR.ot (h : SR K cl mu H S) {p : Addr} (hp : H p = none) : Ot mu p := ⟨h.ne hp, fun z => h.zt p z hp⟩
theorem ORel.mono {a : Addr} {o : O} (e : Ext n mu H n1 mu1 H1) (q : H1 a = H a) (h : ORel K cl n mu H a o) : ORel K cl n1 mu1 H1 a o := by
  cases h with
  | lst z r => exact .lst (q.trans z) (r.mono e)
  | dic z l r => exact .dic (q.trans z) l (r.mono e)
  | ins c z l r => exact .ins c (q.trans z) l (r.mono e)
theorem ORel.pr {a : Addr} {o : O} (e : Pr n mu H n1 mu1 H1) (q : H1 a = H a) (h : ORel K cl n mu H a o) : ORel K cl n1 mu1 H1 a o := by
  cases h with
  | lst z r => exact .lst (q.trans z) (r.pr e)
  | dic z l r => exact .dic (q.trans z) l (r.pr e)
  | ins c z l r => exact .ins c (q.trans z) l (r.pr e)
theorem SR.re (s : SR K cl mu H S) (p : Pr S.length mu H S.length mu1 H1) (hf : mu1.f = mu.f) (hk : ∀ l a, mu l = some a → H1 a = H a) (hz : ∀ a, mu1.z a → H1 a ≠ none) (hd : ∀ l a, mu l = some a → ¬ mu1.z a) : SR K cl mu1 H1 S where
  inj := by rw [hf]; exact s.inj
  live := fun l o e => by
    obtain ⟨a, h1, h2⟩ := s.live l o e
    exact ⟨a, by rw [hf]; exact h1, h2.pr p (hk l a h1)⟩
  dead := by rw [hf]; exact s.dead
  zt := hz
  zd := by rw [hf]; exact hd
theorem ERel.pr (e : Pr n mu H n1 mu1 H1) (h : ERel K cl n mu H σ δ) : ERel K cl n1 mu1 H1 σ δ :=
  ⟨h.1, fun i d q => let ⟨v, a, b⟩ := h.2 i d q; ⟨v, a, b.pr e⟩⟩
theorem ERel.mono (e : Ext n mu H n1 mu1 H1) (h : ERel K cl n mu H σ δ) : ERel K cl n1 mu1 H1 σ δ :=
  ⟨h.1, fun i d q => let ⟨v, a, b⟩ := h.2 i d q; ⟨v, a, b.mono e⟩⟩
theorem Af.ext {α β : Type} {R : Rl α β} {o : Out α} {Q : β → Hp → Prop} (e : Ext n mu H n1 mu1 H1) (h : Af K cl R n mu H σ W o Q) : Af K cl R n1 mu1 H1 σ W o Q := by
  cases o with
  | ok d S' => exact fun v H' mu' e' => h v H' mu' (e.trans e')
  | exc C fs S' => exact fun CA dx H' mu' hc e' => h CA dx H' mu' hc (e.trans e')
  | stuck => exact h
theorem Af.mono {α β : Type} {R : Rl α β} {o : Out α} {Q Q' : β → Hp → Prop} (h : Af K cl R n mu H σ W o Q) (q : ∀ v H', Q v H' → Q' v H') : Af K cl R n mu H σ W o Q' := by
  cases o with
  | ok d S' => exact fun v H' mu' e s r => q _ _ (h v H' mu' e s r)
  | exc C fs S' => exact h
  | stuck => exact h
/-- behind the first of two -/
theorem Af.bind {α β α' β' : Type} {R : Rl α β} {R' : Rl α' β'} {o : Out α} {k : α → Store → Out α'} {Q : β' → Hp → Prop} (h : Af K cl R' n mu H σ W (o.bind k) Q) :
    Af K cl R n mu H σ W o (fun v H1 => ∃ mu1 d S1, SR K cl mu1 H1 S1 ∧ Ext n mu H S1.length mu1 H1 ∧ R S1.length mu1 H1 v d ∧ Af K cl R' S1.length mu1 H1 σ W (k d S1) Q) := by
  cases o with
  | ok d S' => exact fun v H' mu' e s r => ⟨mu', d, S', s, e, r, Af.ext e h⟩
  | exc C fs S' => exact h
  | stuck => exact h
theorem Af.now {α β : Type} {R : Rl α β} {d : α} {Q : β → Hp → Prop} (h : Af K cl R S.length mu H σ W (.ok d S) Q) (s : SR K cl mu H S) {v : β} (r : R S.length mu H v d) : Q v H := h v H mu s.rfl' s r

/-! what is made new -/
theorem ext_new (s : SR K cl mu H S) {p : Addr} {o : HO} (hp : H p = none) : Ext S.length mu H S.length mu (upd H p o) where
  le := Nat.le_refl _
  keep := fun a u h _ => by rw [upd_ne (ne_of_none h hp)]; exact h
  old := fun _ _ _ h => h
  new := fun l a hl e => by rw [s.top l hl] at e; cases e
  trk := fun a h => by
    by_cases e : a = p
    · rw [e]; exact hp
    · rw [upd_ne e] at h; exact h
  zz := rfl
theorem sr_new (s : SR K cl mu H S) {p : Addr} {o : HO} (hp : H p = none) : SR K cl mu (upd H p o) S where
  inj := s.inj
  live := fun l x e => by
    obtain ⟨a, h1, h2⟩ := s.live l x e
    exact ⟨a, h1, h2.mono (ext_new s hp) (upd_ne fun z => h2.there (by rw [z]; exact hp))⟩
  dead := s.dead
  zt := fun a h => by
    by_cases e : a = p
    · rw [e, upd_same]; exact fun z => nomatch z
    · rw [upd_ne e]; exact s.zt a h
  zd := s.zd
theorem fz_new (s : SR K cl mu H S) {p : Addr} {o : HO} (hp : H p = none) : Fz mu (upd H p o) p o := ⟨.inl upd_same, s.ot hp⟩
theorem lf_new (s : SR K cl mu H S) {p : Addr} {xs : List V} (hp : H p = none) : LstF mu (upd H p (.lst xs)) p xs := ⟨upd_same, s.ot hp⟩
theorem Af.lst {ds : List D} {vs : List V} {Q : VK} (h : Af K cl (VRel K cl) S.length mu H σ W (.ok (.lst ds) S) Q) (s : SR K cl mu H S) (r : VRels K cl S.length mu H vs ds) : ∀ p, H p = none → Q (.ref p) (upd H p (.lst vs)) :=
  fun p hp => h _ _ mu (ext_new s hp) (sr_new s hp) (.lst (lf_new s hp) (r.mono (ext_new s hp)))
theorem Af.tup {ds : List D} {vs : List V} {Q : VK} (h : Af K cl (VRel K cl) S.length mu H σ W (.ok (.tup ds) S) Q) (s : SR K cl mu H S) (r : VRels K cl S.length mu H vs ds) : ∀ p, H p = none → Q (.ref p) (upd H p (.tup vs)) :=
  fun p hp => h _ _ mu (ext_new s hp) (sr_new s hp) (.tup (.inl (fz_new s hp)) (r.mono (ext_new s hp)))

/-- a place more -/
def muAdd (mu : Mu) (n : Nat) (p : Addr) : Mu := ⟨fun l => if l = n then some p else mu l, mu.z⟩
theorem ext_add (s : SR K cl mu H S) {p : Addr} {o : HO} {x : Option O} (hp : H p = none) : Ext S.length mu H (S ++ [x]).length (muAdd mu S.length p) (upd H p o) where
  le := by simp
  keep := fun a u h _ => by rw [upd_ne (ne_of_none h hp)]; exact h
  old := fun l a hl h => by
    dsimp only [muAdd] at h
    rw [if_neg (Nat.ne_of_lt hl)] at h
    exact h
  new := fun l a hl e => by
    dsimp only [muAdd] at e
    split at e
    · cases e; exact hp
    · rw [s.top l hl] at e; cases e
  trk := (ext_new (o := o) s hp).trk
  zz := rfl
theorem sr_add (s : SR K cl mu H S) {p : Addr} {o : HO} {x : O} (hp : H p = none) (r : ORel K cl (S ++ [some x]).length (muAdd mu S.length p) (upd H p o) p x) : SR K cl (muAdd mu S.length p) (upd H p o) (S ++ [some x]) where
  inj := fun l m a e1 e2 => by
    dsimp only [muAdd] at e1 e2
    split at e1 <;> split at e2
    · rename_i z1 z2; rw [z1, z2]
    · cases e1; exact absurd e2 (s.ne hp m)
    · cases e2; exact absurd e1 (s.ne hp l)
    · exact s.inj l m a e1 e2
  live := fun l y e => by
    by_cases hl : l < S.length
    · rw [List.getElem?_append_left hl] at e
      obtain ⟨a, h1, h2⟩ := s.live l y e
      exact ⟨a, by dsimp only [muAdd]; rw [if_neg (Nat.ne_of_lt hl)]; exact h1, h2.mono (ext_add s hp) (upd_ne fun z => h2.there (by rw [z]; exact hp))⟩
    · have hl' : l = S.length := by
        have := (List.getElem?_eq_some_iff.mp e).1
        rw [List.length_append] at this
        have h1 : ([some x] : Store).length = 1 := rfl
        omega
      subst hl'
      rw [List.getElem?_append_right (Nat.le_refl _), Nat.sub_self] at e
      cases e
      exact ⟨p, if_pos rfl, r⟩
  dead := fun l h => by
    dsimp only [muAdd]
    by_cases e : l = S.length
    · subst e
      exact absurd (by rw [List.getElem?_append_right (Nat.le_refl _), Nat.sub_self]; rfl) (h x)
    · rw [if_neg e]
      refine s.dead l fun y z => h y ?_
      rw [List.getElem?_append_left (List.getElem?_eq_some_iff.mp z).1]
      exact z
  zt := (sr_new s hp).zt
  zd := fun l a e => by
    dsimp only [muAdd] at e ⊢
    split at e
    · cases e; exact fun z => s.zt p z hp
    · exact s.zd l a e

/-- a place's thing is another -/
theorem ext_put (s : SR K cl mu H S) {l : Nat} {a : Addr} {o : HO} {x : Option O} (e : mu l = some a) : Ext S.length mu H (S.set l x).length mu (upd H a o) where
  le := by simp
  keep := fun b u h f => by rw [upd_ne fun z => f l (by rw [z]; exact e)]; exact h
  old := fun _ _ _ h => h
  new := fun m b hm q => by rw [s.top m hm] at q; cases q
  trk := fun b h => by
    by_cases z : b = a
    · rw [z, upd_same] at h; cases h
    · rw [upd_ne z] at h; exact h
  zz := rfl
theorem sr_put (s : SR K cl mu H S) {l : Nat} {a : Addr} {o : HO} {x : O} (e : mu l = some a) (r : ORel K cl (S.set l (some x)).length mu (upd H a o) a x) : SR K cl mu (upd H a o) (S.set l (some x)) where
  inj := s.inj
  live := fun m y q => by
    by_cases hm : l = m
    · subst hm
      obtain ⟨o', h, _⟩ := s.at_ e
      rw [List.getElem?_set_self (List.getElem?_eq_some_iff.mp h).1] at q
      cases q
      exact ⟨a, e, r⟩
    · rw [List.getElem?_set_ne hm] at q
      obtain ⟨b, h1, h2⟩ := s.live m y q
      exact ⟨b, h1, h2.mono (ext_put s e) (upd_ne fun z => hm (s.inj l m a e (by rw [← z]; exact h1)))⟩
  dead := fun m h => by
    by_cases hm : l = m
    · subst hm
      obtain ⟨o', h', _⟩ := s.at_ e
      exact absurd (List.getElem?_set_self (List.getElem?_eq_some_iff.mp h').1) (h x)
    · refine s.dead m fun y z => h y ?_
      rw [List.getElem?_set_ne hm]
      exact z
  zt := fun b h => by
    by_cases z : b = a
    · rw [z, upd_same]; exact fun z => nomatch z
    · rw [upd_ne z]; exact s.zt b h
  zd := s.zd
/-- a place is given up: what stood there is read from then on -/
def muDel (mu : Mu) (l : Nat) : Mu := ⟨fun m => if m = l then none else mu m, mu.z⟩
theorem ext_del (s : SR K cl mu H S) (l : Nat) : Ext S.length mu H (S.set l none).length (muDel mu l) H where
  le := by simp
  keep := fun b u h f => h
  old := fun m b _ h => by
    dsimp only [muDel] at h
    split at h
    · cases h
    · exact h
  new := fun m b hm q => by
    dsimp only [muDel] at q
    split at q
    · cases q
    · rw [s.top m hm] at q; cases q
  trk := fun _ h => h
  zz := rfl
theorem sr_del (s : SR K cl mu H S) (l : Nat) : SR K cl (muDel mu l) H (S.set l none) where
  inj := fun i m a e1 e2 => by
    dsimp only [muDel] at e1 e2
    split at e1
    · cases e1
    · split at e2
      · cases e2
      · exact s.inj i m a e1 e2
  live := fun m y q => by
    by_cases hm : l = m
    · subst hm
      have hl : l < S.length := by have := (List.getElem?_eq_some_iff.mp q).1; simpa using this
      rw [List.getElem?_set_self hl] at q
      cases q
    · rw [List.getElem?_set_ne hm] at q
      obtain ⟨b, h1, h2⟩ := s.live m y q
      exact ⟨b, by dsimp only [muDel]; rw [if_neg (Ne.symm hm)]; exact h1, h2.mono (ext_del s l) rfl⟩
  dead := fun m h => by
    dsimp only [muDel]
    by_cases hm : m = l
    · rw [if_pos hm]
    · rw [if_neg hm]
      refine s.dead m fun y z => h y ?_
      rw [List.getElem?_set_ne (Ne.symm hm)]
      exact z
  zt := s.zt
  zd := fun m a e => by
    dsimp only [muDel] at e ⊢
    split at e
    · cases e
    · exact s.zd m a e
theorem del_ne (s : SR K cl mu H S) {l : Nat} {a : Addr} (e : mu l = some a) : Ot (muDel mu l) a := ⟨fun m q => by
  dsimp only [muDel] at q
  split at q
  · cases q
  · rename_i hm
    exact hm (s.inj m l a q e), s.zd l a e⟩
end

/-! the judgements -/
theorem pe_imp {X : Cx} {e : Expr} {t t' : TE} (h : PE X e t) (i : ∀ σ H Q, t' σ H Q → t σ H Q) : PE X e t' := ⟨fun pins s σ H Q I q => h.run pins s σ H Q I (i σ H Q q)⟩
theorem pt_imp {X : Cx} {e : Expr} {t t' : TT} (h : PT X e t) (i : ∀ σ H Q, t' σ H Q → t σ H Q) : PT X e t' := ⟨fun pins s σ H Q I q => h.run pins s σ H Q I (i σ H Q q)⟩
theorem pa_imp {X : Cx} {es : List Expr} {t t' : TA} (h : PA X es t) (i : ∀ σ H Q, t' σ H Q → t σ H Q) : PA X es t' := ⟨fun pos pins s σ H Q I q => h.run pos pins s σ H Q I (i σ H Q q)⟩
structure FE (X : Cx) (cl : Cl) (W : WX) (e : Expr) (f : DE) : Prop where
  pe : PE X e (tE X.K cl W f)
structure FT (X : Cx) (cl : Cl) (W : WX) (e : Expr) (f : DT) : Prop where
  pt : PT X e (tT X.K cl W f)
structure FA (X : Cx) (cl : Cl) (W : WX) (es : List Expr) (f : DA) : Prop where
  pa : PA X es (tA X.K cl W f)
/-- what a derivation may lean on -/
structure Good (X : Cx) (W : WX) (k : Nat) : Prop where
  calm : X.calm = true
  tk : Takes X W
  room : Room k X.A
  nd : X.N.Nodup
  grd : X.A.guards = some []
  own : PassesOwn (model X.prog X.w) X.A X.env X.xe

section
variable {X : Cx} {cl : Cl} {W : WX} {e a b c : Expr} {fa fb fc : DE} {pos : Pos}
theorem fe_of {t : TE} {f : DE} (h : PE X e t) (i : ∀ mu δ S σ H Q, SR X.K cl mu H S → ERel X.K cl S.length mu H σ δ → Af X.K cl (VRel X.K cl) S.length mu H σ W (f δ S) Q → t σ H Q) : FE X cl W e f :=
  ⟨pe_imp h fun σ H Q ⟨mu, δ, S, s, r, q⟩ => i mu δ S σ H Q s r q⟩
theorem ft_of {t : TT} {f : DT} (h : PT X e t) (i : ∀ mu δ S σ H Q, SR X.K cl mu H S → ERel X.K cl S.length mu H σ δ → Af X.K cl RB S.length mu H σ W (f δ S) Q → t σ H Q) : FT X cl W e f :=
  ⟨pt_imp h fun σ H Q ⟨mu, δ, S, s, r, q⟩ => i mu δ S σ H Q s r q⟩
theorem fa_of {es : List Expr} {t : TA} {f : DA} (h : PA X es t) (i : ∀ mu δ S σ H Q, SR X.K cl mu H S → ERel X.K cl S.length mu H σ δ → Af X.K cl (VRels X.K cl) S.length mu H σ W (f δ S) Q → t σ H Q) : FA X cl W es f :=
  ⟨pa_imp h fun σ H Q ⟨mu, δ, S, s, r, q⟩ => i mu δ S σ H Q s r q⟩
/-- go on within -/
theorem tE_in {K : PySem.W.Frag} {f : DE} {mu : Mu} {δ : Env} {S : Store} {σ : St} {H : Hp} {Q : VK} (s : SR K cl mu H S) (r : ERel K cl S.length mu H σ δ) (h : Af K cl (VRel K cl) S.length mu H σ W (f δ S) Q) : tE K cl W f σ H Q := ⟨mu, δ, S, s, r, h⟩

/-! names and constants -/
def eVar (i : Nat) : DE := fun δ S => match δ[i]? with | some (some d) => .ok d S | _ => .stuck
def eC (d : D) : DE := fun _ S => .ok d S
theorem fe_var {i : Nat} (h : PE X e (tVar i)) : FE X cl W e (eVar i) := fe_of h fun mu δ S σ H Q s r q => by
  unfold eVar at q
  split at q
  · rename_i d hd
    obtain ⟨v, e1, h1⟩ := r.2 i d hd
    exact ⟨v, e1, Af.now q s h1⟩
  · exact q.elim
theorem fe_const {v : V} {d : D} (h : PE X e (tC v)) (r : ∀ n mu H, VRel X.K cl n mu H v d) : FE X cl W e (eC d) := fe_of h fun mu δ S σ H Q s _ q => Af.now q s (r _ _ _)
theorem fe_int {i j pos} : FE X cl W (.Constant (.int i) j pos) (eC (.int i)) := fe_const pe_int fun _ _ _ => .int i
theorem fe_str {i j pos} : FE X cl W (.Constant (.str i) j pos) (eC (.str i)) := fe_const pe_str fun _ _ _ => .str i
theorem fe_bl {i j pos} : FE X cl W (.Constant (.bool i) j pos) (eC (.bl i)) := fe_const pe_bl fun _ _ _ => .bl i
theorem fe_non {j pos} : FE X cl W (.Constant .none j pos) (eC .non) := fe_const pe_non fun _ _ _ => .non

/-! arguments -/
def aNil : DA := fun _ S => .ok [] S
def aCons (f : DE) (g : DA) : DA := fun δ S => (f δ S).bind fun x S1 => (g δ S1).bind fun xs S2 => .ok (x :: xs) S2
theorem fa_nil : FA X cl W [] aNil := fa_of pa_nil fun mu δ S σ H Q s _ q => Af.now q s .nil
theorem fa_cons {es : List Expr} {g : DA} (h : FE X cl W e fa) (hs : FA X cl W es g) (hst : starEach (e :: es) X.env = (false, eval e X.env) :: starEach es X.env := by rfl) : FA X cl W (e :: es) (aCons fa g) :=
  fa_of (pa_cons h.pe hs.pa hst) fun mu δ S σ H Q s r q => by
    refine ⟨mu, δ, S, s, r, (Af.bind q).mono fun v H1 ⟨mu1, d, S1, s1, e1, r1, q1⟩ => ?_⟩
    refine ⟨mu1, δ, S1, s1, r.mono e1, (Af.bind q1).mono fun vs H2 ⟨mu2, ds, S2, s2, e2, r2, q2⟩ => ?_⟩
    exact Af.now q2 s2 (.cons (r1.mono e2) r2)

/-! operators -/
abbrev G2 := D → D → Store → Out D
def OpOk (X : Cx) (cl : Cl) (W : WX) (r : R2) (g : G2) : Prop := ∀ mu S σ H v u x y Q, SR X.K cl mu H S → VRel X.K cl S.length mu H v x → VRel X.K cl S.length mu H u y → Af X.K cl (VRel X.K cl) S.length mu H σ W (g x y S) Q → r v u H Q
def e2 (g : G2) (fa fb : DE) : DE := fun δ S => (fa δ S).bind fun x S1 => (fb δ S1).bind fun y S2 => g x y S2
theorem op_step {r : R2} {g : G2} (ho : OpOk X cl W r g) (ha : FE X cl W a fa) (hb : FE X cl W b fb) {mu δ S σ H Q} (s : SR X.K cl mu H S) (rr : ERel X.K cl S.length mu H σ δ) (q : Af X.K cl (VRel X.K cl) S.length mu H σ W (e2 g fa fb δ S) Q) :
    tOp r (tE X.K cl W fa) (tE X.K cl W fb) σ H Q := by
  refine ⟨mu, δ, S, s, rr, (Af.bind q).mono fun v H1 ⟨mu1, d, S1, s1, e1, r1, q1⟩ => ?_⟩
  refine ⟨mu1, δ, S1, s1, rr.mono e1, (Af.bind q1).mono fun u H2 ⟨mu2, d2, S2, s2, e2, r2, q2⟩ => ?_⟩
  exact ho mu2 S2 σ H2 v u d d2 Q s2 (r1.mono e2) r2 q2
theorem fe_op {op : Operator} {r : R2} {g : G2} (ho : OpR X (binaryOp op) r) (hk : OpOk X cl W r g) (ha : FE X cl W a fa) (hb : FE X cl W b fb) : FE X cl W (.BinOp a op b pos) (e2 g fa fb) :=
  fe_of (pe_op ho ha.pe hb.pe) fun mu δ S σ H Q s r q => op_step hk ha hb s r q
theorem fe_cmp {op : CmpOp} {r : R2} {g : G2} (ho : OpR X (compareOp op) r) (hk : OpOk X cl W r g) (ha : FE X cl W a fa) (hb : FE X cl W b fb) (hm : behindInMarks op b = false) : FE X cl W (.Compare a [op] [b] pos) (e2 g fa fb) :=
  fe_of (pe_cmpR ho ha.pe hb.pe hm) fun mu δ S σ H Q s r q => op_step hk ha hb s r q
/-- .. as a test -/
def toB (o : Out D) : Out Bool := o.bind fun d S => match d with | .bl b => .ok b S | _ => .stuck
@[simp] theorem toB_bl (b : Bool) (S : Store) : toB (.ok (.bl b) S) = .ok b S := rfl
def tV (f : DE) : DT := fun δ S => toB (f δ S)
theorem tobool {K : PySem.W.Frag} {n : Nat} {mu : Mu} {H : Hp} {σ : St} {o : Out D} {Q : Bool → Hp → Prop} (h : Af K cl RB n mu H σ W (toB o) Q) : Af K cl (VRel K cl) n mu H σ W o fun x H' => ∃ k, x = V.bl k ∧ Q k H' := by
  refine (Af.bind h).mono fun v H1 ⟨mu1, d, S1, s1, e1, r1, q1⟩ => ?_
  cases r1 with
  | bl b => exact ⟨b, rfl, Af.now q1 s1 rfl⟩
  | non => exact q1.elim
  | int _ => exact q1.elim
  | str _ => exact q1.elim
  | ty _ => exact q1.elim
  | cls _ => exact q1.elim
  | ref _ _ => exact q1.elim
  | tup _ _ => exact q1.elim
  | lst _ _ => exact q1.elim
  | scr _ _ => exact q1.elim
  | dic _ _ _ => exact q1.elim
  | ins _ _ _ _ _ => exact q1.elim
theorem ft_cmp {op : CmpOp} {r : R2} {g : G2} (ho : OpR X (compareOp op) r) (hk : OpOk X cl W r g) (ha : FE X cl W a fa) (hb : FE X cl W b fb) (hm : behindInMarks op b = false) : FT X cl W (.Compare a [op] [b] pos) (tV (e2 g fa fb)) :=
  ft_of (pt_cmpR ho ha.pe hb.pe hm) fun mu δ S σ H Q s r q => op_step hk ha hb s r (tobool q)
end
end Mi
namespace Mi
open PySem L2

/-! lists as operands: one that never changes, or one of the store -/
def lstOf (S : Store) : D → Option (List D)
  | .lst xs => some xs
  | .ref l => match S[l]? with | some (some (.lst xs)) => some xs | _ => none
  | _ => none
def seqOf (S : Store) : D → Option (List D)
  | .scr xs => some xs
  | d => lstOf S d
def anyOf (S : Store) : D → Option (List D)
  | .tup xs => some xs
  | d => seqOf S d
section
variable {K : PySem.W.Frag} {cl : Cl} {mu : Mu} {H : Hp} {S : Store} {v : V} {d : D} {xs : List D}
theorem ref_at (s : SR K cl mu H S) {l : Nat} {o : O} (r : VRel K cl S.length mu H v (.ref l)) (e : S[l]? = some (some o)) : ∃ a, v = .ref a ∧ mu l = some a ∧ ORel K cl S.length mu H a o := by
  obtain ⟨a, h1, h2⟩ := s.live l o e
  cases r with
  | ref hl h => exact ⟨a, h a h1, h1, h2⟩
theorem lst_at (s : SR K cl mu H S) (r : VRel K cl S.length mu H v d) (e : lstOf S d = some xs) : ∃ a vs, v = .ref a ∧ H a = some (.lst vs) ∧ VRels K cl S.length mu H vs xs := by
  cases d with
  | lst ys =>
    cases e
    cases r with
    | lst f q => exact ⟨_, _, rfl, f.1, q⟩
  | ref l =>
    unfold lstOf at e
    simp only at e
    split at e
    · rename_i ys hy
      cases e
      obtain ⟨a, rfl, _, q⟩ := ref_at s r hy
      cases q with
      | lst z q => exact ⟨a, _, rfl, z, q⟩
    · cases e
  | _ => cases e
theorem seq_at (s : SR K cl mu H S) (r : VRel K cl S.length mu H v d) (e : seqOf S d = some xs) : ∃ a vs, v = .ref a ∧ SqL K H a vs ∧ VRels K cl S.length mu H vs xs := by
  cases d with
  | scr ys =>
    cases e
    cases r with
    | scr f q => exact ⟨_, _, rfl, f.sq, q⟩
  | _ =>
    obtain ⟨a, vs, h1, h2, h3⟩ := lst_at s r (xs := xs) (by simpa [seqOf] using e)
    exact ⟨a, vs, h1, .inl (.inl h2), h3⟩
theorem any_at (s : SR K cl mu H S) (r : VRel K cl S.length mu H v d) (e : anyOf S d = some xs) : ∃ a vs, v = .ref a ∧ (SqL K H a vs ∨ SqT K H a vs) ∧ VRels K cl S.length mu H vs xs := by
  cases d with
  | tup ys =>
    cases e
    cases r with
    | tup f q => exact ⟨_, _, rfl, .inr f.sq, q⟩
  | _ =>
    obtain ⟨a, vs, h1, h2, h3⟩ := seq_at s r (xs := xs) (by simpa [anyOf] using e)
    exact ⟨a, vs, h1, .inl h2, h3⟩
theorem tup_at (r : VRel K cl S.length mu H v (.tup xs)) : ∃ a vs, v = .ref a ∧ SqT K H a vs ∧ VRels K cl S.length mu H vs xs := by
  cases r with
  | tup f q => exact ⟨_, _, rfl, f.sq, q⟩
theorem int_at {i : Int} {n : Nat} (r : VRel K cl n mu H v (.int i)) : v = .int i := by cases r; rfl
theorem str_at {i : Str} {n : Nat} (r : VRel K cl n mu H v (.str i)) : v = .str i := by cases r; rfl
theorem bl_at {i : Bool} {n : Nat} (r : VRel K cl n mu H v (.bl i)) : v = .bl i := by cases r; rfl
end

/-! the operators -/
def dAdd : G2 := fun x y S => match x, y with
  | .int i, .int j => .ok (.int (i + j)) S
  | .str a, .str b => if a.length + b.length ≤ sizeLine then .ok (.str (a ++ b)) S else .stuck
  | .tup xs, .tup ys => if xs.length + ys.length ≤ sizeLine then .ok (.tup (xs ++ ys)) S else .stuck
  | x, y => match lstOf S x, lstOf S y with
    | some xs, some ys => if xs.length + ys.length ≤ sizeLine then .ok (.lst (xs ++ ys)) S else .stuck
    | _, _ => .stuck
def dSub : G2 := fun x y S => match x, y with
  | .int i, .int j => .ok (.int (i - j)) S
  | _, _ => .stuck
instance (i j : Int) : Decidable (IntMulOk i j) := by unfold IntMulOk; infer_instance
instance (i j : Int) : Decidable (CDivW i j) := by unfold CDivW; infer_instance
instance (i j : Int) : Decidable (CPow i j) := by unfold CPow; infer_instance
def dDiv : G2 := fun x y S => match x, y with
  | .int i, .int j => if CDivW i j then .ok (.int (i / j)) S else .stuck
  | _, _ => .stuck
def dMod : G2 := fun x y S => match x, y with
  | .int i, .int j => if 0 < j then .ok (.int (i % j)) S else .stuck
  | _, _ => .stuck
def dPow : G2 := fun x y S => match x, y with
  | .int i, .int j => if CPow i j then .ok (.int (i ^ j.toNat)) S else .stuck
  | _, _ => .stuck
def dMul : G2 := fun x y S => match x, y with
  | .int i, .int j => if IntMulOk i j then .ok (.int (i * j)) S else .stuck
  | x, .int k => match lstOf S x with
    | some xs => if -(2 ^ 63) ≤ k ∧ k < 2 ^ 63 ∧ xs.length * k.toNat ≤ sizeLine then .ok (.lst (List.replicate k.toNat xs).flatten) S else .stuck
    | none => .stuck
  | _, _ => .stuck
section
variable {X : Cx} {cl : Cl} {W : WX}
def rAddAll (X : Cx) : R2 := fun x y H Q => (∃ i j, x = .int i ∧ y = .int j ∧ Q (.int (i + j)) H) ∨ ((∃ i j, x = .str i ∧ y = .str j ∧ i.length + j.length ≤ sizeLine ∧ Q (.str (i ++ j)) H) ∨ (rCatA X.K x y H Q ∨ rCat x y H Q))
theorem op_addAll : OpR X (binaryOp .Add) (rAddAll X) := OpR.or op_add (OpR.or op_add_str (OpR.or op_catA op_cat))
theorem ok_add : OpOk X cl W (rAddAll X) dAdd := fun mu S σ H v u x y Q s rx ry q => by
  unfold dAdd at q
  split at q
  · cases rx; cases ry; exact .inl ⟨_, _, rfl, rfl, Af.now q s (.int _)⟩
  · cases rx; cases ry
    split at q
    · rename_i hz; exact .inr (.inl ⟨_, _, rfl, rfl, hz, Af.now q s (.str _)⟩)
    · exact q.elim
  · rename_i xs ys
    split at q
    · rename_i hz
      obtain ⟨a, vs, rfl, h1, r1⟩ := tup_at rx
      obtain ⟨b, us, rfl, h2, r2⟩ := tup_at ry
      have l1 := r1.length
      have l2 := r2.length
      refine .inr (.inr (.inl ⟨a, b, vs, us, rfl, rfl, h1, h2, by omega, fun e => ?_, fun _ e => ?_, fun _ _ => Af.tup q s (r1.append r2)⟩))
      · subst e
        cases r1
        exact Af.now q s ry
      · subst e
        cases r2
        exact Af.now q s (by rw [List.append_nil]; exact rx)
    · exact q.elim
  · split at q
    · rename_i xs ys e1 e2
      split at q
      · rename_i hz
        obtain ⟨a, vs, rfl, h1, r1⟩ := lst_at s rx e1
        obtain ⟨b, us, rfl, h2, r2⟩ := lst_at s ry e2
        exact .inr (.inr (.inr ⟨a, b, vs, us, rfl, rfl, h1, h2, by have := r1.length; have := r2.length; omega, Af.lst q s (r1.append r2)⟩))
      · exact q.elim
    · exact q.elim
theorem ok_sub : OpOk X cl W (rI0 fun i j => .int (i - j)) dSub := fun mu S σ H v u x y Q s rx ry q => by
  unfold dSub at q
  split at q
  · cases rx; cases ry; exact ⟨_, _, rfl, rfl, Af.now q s (.int _)⟩
  · exact q.elim
theorem op_mulAny : OpR X (binaryOp .Mult) (rI IntMulOk fun i j => .int (i * j)) := opI fun _ _ _ _ _ _ _ hc q => PyProof.Rows.mul_int q hc
theorem ok_div : OpOk X cl W (rI CDivW fun i j => .int (i / j)) dDiv := fun mu S σ H v u x y Q s rx ry q => by
  unfold dDiv at q
  split at q
  · split at q
    · rename_i hc; cases rx; cases ry; exact ⟨_, _, rfl, rfl, hc, Af.now q s (.int _)⟩
    · exact q.elim
  · exact q.elim
theorem ok_mod : OpOk X cl W (rI (fun _ j => 0 < j) fun i j => .int (i % j)) dMod := fun mu S σ H v u x y Q s rx ry q => by
  unfold dMod at q
  split at q
  · split at q
    · rename_i hc; cases rx; cases ry; exact ⟨_, _, rfl, rfl, hc, Af.now q s (.int _)⟩
    · exact q.elim
  · exact q.elim
theorem ok_pow : OpOk X cl W (rI CPow fun i j => .int (i ^ j.toNat)) dPow := fun mu S σ H v u x y Q s rx ry q => by
  unfold dPow at q
  split at q
  · split at q
    · rename_i hc; cases rx; cases ry; exact ⟨_, _, rfl, rfl, hc, Af.now q s (.int _)⟩
    · exact q.elim
  · exact q.elim
theorem flat_rep {n : Nat} {mu : Mu} {H : Hp} {vs : List V} {ds : List D} (r : VRels X.K cl n mu H vs ds) : ∀ k : Nat, VRels X.K cl n mu H (List.replicate k vs).flatten (List.replicate k ds).flatten
  | 0 => .nil
  | k + 1 => by
    rw [List.replicate_succ, List.replicate_succ, List.flatten_cons, List.flatten_cons]
    exact r.append (flat_rep r k)
theorem ok_mul : OpOk X cl W (fun x y H Q => rI IntMulOk (fun i j => .int (i * j)) x y H Q ∨ rRep x y H Q) dMul := fun mu S σ H v u x y Q s rx ry q => by
  unfold dMul at q
  split at q
  · split at q
    · rename_i hc; cases rx; cases ry; exact .inl ⟨_, _, rfl, rfl, hc, Af.now q s (.int _)⟩
    · exact q.elim
  · split at q
    · rename_i e1
      split at q
      · rename_i hz
        obtain ⟨a, vs, rfl, h1, r1⟩ := lst_at s rx e1
        cases ry
        exact .inr ⟨a, _, vs, rfl, rfl, h1, hz.1, hz.2.1, by rw [r1.length]; exact hz.2.2, Af.lst q s (flat_rep r1 _)⟩
      · exact q.elim
    · exact q.elim
  · exact q.elim
theorem op_mulAll : OpR X (binaryOp .Mult) (fun x y H Q => rI IntMulOk (fun i j => .int (i * j)) x y H Q ∨ rRep x y H Q) := OpR.or op_mulAny op_rep

variable {a b c : Expr} {fa fb fc : DE} {pos : Pos}
theorem fe_add (ha : FE X cl W a fa) (hb : FE X cl W b fb) : FE X cl W (.BinOp a .Add b pos) (e2 dAdd fa fb) := fe_op op_addAll ok_add ha hb
theorem fe_sub (ha : FE X cl W a fa) (hb : FE X cl W b fb) : FE X cl W (.BinOp a .Sub b pos) (e2 dSub fa fb) := fe_op op_sub ok_sub ha hb
theorem fe_mul (ha : FE X cl W a fa) (hb : FE X cl W b fb) : FE X cl W (.BinOp a .Mult b pos) (e2 dMul fa fb) := fe_op op_mulAll ok_mul ha hb
theorem fe_div (ha : FE X cl W a fa) (hb : FE X cl W b fb) : FE X cl W (.BinOp a .FloorDiv b pos) (e2 dDiv fa fb) := fe_op op_fdivW ok_div ha hb
theorem fe_mod (ha : FE X cl W a fa) (hb : FE X cl W b fb) : FE X cl W (.BinOp a .Mod b pos) (e2 dMod fa fb) := fe_op op_mod ok_mod ha hb
theorem fe_pow (ha : FE X cl W a fa) (hb : FE X cl W b fb) : FE X cl W (.BinOp a .Pow b pos) (e2 dPow fa fb) := fe_op op_pow ok_pow ha hb

/-! a minus ahead -/
def eNeg (f : DE) : DE := fun δ S => (f δ S).bind fun x S1 => match x with | .int i => .ok (.int (-i)) S1 | _ => .stuck
theorem fe_neg (ha : FE X cl W a fa) : FE X cl W (.UnaryOp .USub a pos) (eNeg fa) := fe_of (pe_un un_neg ha.pe) fun mu δ S σ H Q s r q => by
  refine ⟨mu, δ, S, s, r, (Af.bind q).mono fun v H1 ⟨mu1, d, S1, s1, e1, r1, q1⟩ => ?_⟩
  cases r1 with
  | int i => exact ⟨i, rfl, Af.now q1 s1 (.int _)⟩
  | _ => exact q1.elim

/-! comparisons -/
def ltS (a b : Str) : Bool := decide (a.cps.toList < b.cps.toList)
def dLt : G2 := fun x y S => match x, y with
  | .int i, .int j => .ok (.bl (decide (i < j))) S
  | _, _ => .stuck
def dLe : G2 := fun x y S => match x, y with
  | .int i, .int j => .ok (.bl (decide (i ≤ j))) S
  | .str i, .str j => .ok (.bl (!ltS j i)) S
  | _, _ => .stuck
def dGt : G2 := fun x y S => match x, y with
  | .int i, .int j => .ok (.bl (decide (j < i))) S
  | _, _ => .stuck
def dGe : G2 := fun x y S => match x, y with
  | .int i, .int j => .ok (.bl (decide (j ≤ i))) S
  | _, _ => .stuck
theorem ok_lt : OpOk X cl W (rI0 fun i j => .bl (decide (i < j))) dLt := fun mu S σ H v u x y Q s rx ry q => by
  unfold dLt at q
  split at q
  · cases rx; cases ry; exact ⟨_, _, rfl, rfl, Af.now q s (.bl _)⟩
  · exact q.elim
theorem ok_gt : OpOk X cl W (rI0 fun i j => .bl (decide (j < i))) dGt := fun mu S σ H v u x y Q s rx ry q => by
  unfold dGt at q
  split at q
  · cases rx; cases ry; exact ⟨_, _, rfl, rfl, Af.now q s (.bl _)⟩
  · exact q.elim
theorem ok_ge : OpOk X cl W (rI0 fun i j => .bl (decide (j ≤ i))) dGe := fun mu S σ H v u x y Q s rx ry q => by
  unfold dGe at q
  split at q
  · cases rx; cases ry; exact ⟨_, _, rfl, rfl, Af.now q s (.bl _)⟩
  · exact q.elim
def rLeAll : R2 := fun x y H Q => rI0 (fun i j => .bl (decide (i ≤ j))) x y H Q ∨ ∃ i j, x = .str i ∧ y = .str j ∧ Q (.bl (!decide (j.cps.toList < i.cps.toList))) H
theorem op_leAll : OpR X (compareOp .LtE) rLeAll := OpR.or op_le op_le_str
theorem ok_le : OpOk X cl W rLeAll dLe := fun mu S σ H v u x y Q s rx ry q => by
  unfold dLe at q
  split at q
  · cases rx; cases ry; exact .inl ⟨_, _, rfl, rfl, Af.now q s (.bl _)⟩
  · cases rx; cases ry; exact .inr ⟨_, _, rfl, rfl, Af.now q s (.bl _)⟩
  · exact q.elim
end
end Mi
namespace Mi
open PySem L2

/-! values as data, for == and repr -/
mutual
def pyG (r : Nat → Option PyData) : D → Option PyData
  | .non => some .none
  | .bl b => some (.bool b)
  | .int i => some (.int i)
  | .str x => some (.str x)
  | .ref l => r l
  | .tup xs => (pyGs r xs).map .tuple
  | .lst xs => (pyGs r xs).map .list
  | .scr xs => (pyGs r xs).map .list
  | .dic _ => none
  | .ty _ => none
  | .cls _ => none
  | .ins _ _ => none
  | .exc _ _ => none
def pyGs (r : Nat → Option PyData) : List D → Option (List PyData)
  | [] => some []
  | x :: xs => match pyG r x, pyGs r xs with
    | some p, some ps => some (p :: ps)
    | _, _ => none
end
def pyOf (S : Store) : Nat → D → Option PyData
  | 0 => pyG fun _ => none
  | k + 1 => pyG fun l => match S[l]? with
    | some (some (.lst xs)) => (xs.mapM (pyOf S k)).map .list
    | _ => none
section
variable {K : PySem.W.Frag} {cl : Cl} {mu : Mu} {H : Hp} {S : Store}
mutual
theorem dp_of {r : Nat → Option PyData} {n : Nat} (hr : ∀ v l p, VRel K cl n mu H v (.ref l) → r l = some p → Dp K H v p) : ∀ {v : V} {d : D} {p : PyData}, VRel K cl n mu H v d → pyG r d = some p → Dp K H v p
  | _, _, _, .non, e => by cases e; exact .non
  | _, _, _, .bl b, e => by cases e; exact .bl b
  | _, _, _, .int i, e => by cases e; exact .int i
  | _, _, _, .str x, e => by cases e; exact .str x
  | _, _, _, .ty _, e => by cases e
  | _, _, _, .cls _, e => by cases e
  | _, _, _, .ref hl h, e => hr _ _ _ (.ref hl h) e
  | _, .tup ds, p, .tup f q, e => by
    have e : (pyGs r ds).map PyData.tuple = some p := e
    cases z : pyGs r ds with
    | none => rw [z] at e; cases e
    | some ps => rw [z] at e; cases e; exact .tup f.sq (dps_of hr q z)
  | _, .lst ds, p, .lst f q, e => by
    have e : (pyGs r ds).map PyData.list = some p := e
    cases z : pyGs r ds with
    | none => rw [z] at e; cases e
    | some ps => rw [z] at e; cases e; exact .lst f.sq (dps_of hr q z)
  | _, .scr ds, p, .scr f q, e => by
    have e : (pyGs r ds).map PyData.list = some p := e
    cases z : pyGs r ds with
    | none => rw [z] at e; cases e
    | some ps => rw [z] at e; cases e; exact .lst f.sq (dps_of hr q z)
  | _, _, _, .dic _ _ _, e => by cases e
  | _, _, _, .ins _ _ _ _ _, e => by cases e
theorem dps_of {r : Nat → Option PyData} {n : Nat} (hr : ∀ v l p, VRel K cl n mu H v (.ref l) → r l = some p → Dp K H v p) : ∀ {vs : List V} {ds : List D} {ps : List PyData}, VRels K cl n mu H vs ds → pyGs r ds = some ps → DpAll K H vs ps
  | _, _, _, .nil, e => by cases e; exact .nil
  | _, d :: ds, ps, .cons h q, e => by
    unfold pyGs at e
    cases z1 : pyG r d with
    | none => rw [z1] at e; cases e
    | some p =>
      cases z2 : pyGs r ds with
      | none => rw [z1, z2] at e; cases e
      | some ps' => rw [z1, z2] at e; cases e; exact .cons (dp_of hr h z1) (dps_of hr q z2)
end
theorem mapM_dp {f : D → Option PyData} {n : Nat} (hf : ∀ v d p, VRel K cl n mu H v d → f d = some p → Dp K H v p) : ∀ {vs : List V} {ds : List D} {ps : List PyData}, VRels K cl n mu H vs ds → ds.mapM f = some ps → DpAll K H vs ps
  | _, _, _, .nil, e => by cases e; exact .nil
  | _, d :: ds, ps, .cons h q, e => by
    rw [List.mapM_cons] at e
    cases z1 : f d with
    | none => rw [z1] at e; cases e
    | some p =>
      cases z2 : ds.mapM f with
      | none => rw [z1, z2] at e; cases e
      | some ps' => rw [z1, z2] at e; cases e; exact .cons (hf _ _ _ h z1) (mapM_dp hf q z2)
theorem py_dp (s : SR K cl mu H S) : ∀ (k : Nat) {v : V} {d : D} {p : PyData}, VRel K cl S.length mu H v d → pyOf S k d = some p → Dp K H v p
  | 0, _, _, _, r, e => dp_of (fun _ _ _ _ z => by cases z) r e
  | k + 1, v, d, p, r, e => by
    unfold pyOf at e
    refine dp_of (fun v l p rl z => ?_) r e
    split at z
    · rename_i xs hx
      obtain ⟨a, rfl, _, o⟩ := ref_at s rl hx
      cases o with
      | lst hH q =>
        cases z2 : xs.mapM (pyOf S k) with
        | none => rw [z2] at z; cases z
        | some ps => rw [z2] at z; cases z; exact .lst (.inl (.inl hH)) (mapM_dp (fun v d p r e => py_dp s k r e) q z2)
    · cases z
end

/-- x == y -/
def dEqB (k : Nat) (S : Store) : D → D → Option Bool
  | .str a, .str b => some (decide (a = b))
  | .int a, .int b => some (decide (a = b))
  | x, y => match pyOf S k x, pyOf S k y with
    | some p, some q => if SeqAt.shaped p = true ∧ SeqAt.shaped q = true then some (PyData.eqv p q) else none
    | _, _ => none
def dEq (k : Nat) : G2 := fun x y S => match dEqB k S x y with | some b => .ok (.bl b) S | none => .stuck
def dNe (k : Nat) : G2 := fun x y S => match dEqB k S x y with | some b => .ok (.bl (!b)) S | none => .stuck
section
variable {X : Cx} {cl : Cl} {W : WX}
def rEqAll (X : Cx) : R2 := fun x y H Q => rEq x y H Q ∨ rEqD X.K x y H Q
def rNeAll (X : Cx) : R2 := fun x y H Q => rNe x y H Q ∨ rNeD X.K x y H Q
theorem op_eqAll (hu : X.A.units + 64 < cLine) : OpR X (compareOp .Eq) (rEqAll X) := OpR.or op_eq (op_eqD hu)
theorem op_neAll (hu : X.A.units + 64 < cLine) : OpR X (compareOp .NotEq) (rNeAll X) := OpR.or op_ne (op_neD hu)
theorem eqB_ok {mu : Mu} {H : Hp} {S : Store} {k : Nat} (s : SR X.K cl mu H S) {v u : V} {x y : D} {b : Bool} (rx : VRel X.K cl S.length mu H v x) (ry : VRel X.K cl S.length mu H u y) (e : dEqB k S x y = some b) :
    (scal v u = true ∧ decide (v = u) = b) ∨ ∃ p q, Dp X.K H v p ∧ Dp X.K H u q ∧ SeqAt.shaped p = true ∧ SeqAt.shaped q = true ∧ PyData.eqv p q = b := by
  unfold dEqB at e
  split at e
  · cases rx; cases ry; cases e
    exact .inl ⟨rfl, by rw [dec_str, Bool.beq_eq_decide_eq]⟩
  · cases rx; cases ry; cases e
    exact .inl ⟨rfl, by rw [dec_int, Bool.beq_eq_decide_eq]⟩
  · split at e
    · rename_i p q e1 e2
      split at e
      · rename_i h
        cases e
        exact .inr ⟨p, q, py_dp s k rx e1, py_dp s k ry e2, h.1, h.2, rfl⟩
      · cases e
    · cases e
theorem ok_eq {k : Nat} : OpOk X cl W (rEqAll X) (dEq k) := fun mu S σ H v u x y Q s rx ry q => by
  unfold dEq at q
  split at q
  · rename_i b hb
    have q := Af.now q s (.bl b)
    rcases eqB_ok s rx ry hb with ⟨h1, h2⟩ | ⟨p, p', h1, h2, h3, h4, h5⟩
    · exact .inl ⟨h1, by rw [h2]; exact q⟩
    · exact .inr ⟨p, p', h1, h2, h3, h4, by rw [h5]; exact q⟩
  · exact q.elim
theorem ok_ne {k : Nat} : OpOk X cl W (rNeAll X) (dNe k) := fun mu S σ H v u x y Q s rx ry q => by
  unfold dNe at q
  split at q
  · rename_i b hb
    have q := Af.now q s (.bl (!b))
    rcases eqB_ok s rx ry hb with ⟨h1, h2⟩ | ⟨p, p', h1, h2, h3, h4, h5⟩
    · exact .inl ⟨h1, by rw [h2]; exact q⟩
    · exact .inr ⟨p, p', h1, h2, h3, h4, by rw [h5]; exact q⟩
  · exact q.elim

/-! in, not in -/
def keyOf : D → Option Key
  | .int i => some (.inl i)
  | .str x => some (.inr x)
  | _ => none
def dicOf (S : Store) : D → Option (List (Key × D))
  | .dic kvs => some kvs
  | .ref l => match S[l]? with | some (some (.dic kvs)) => some kvs | _ => none
  | _ => none
def getK (kvs : List (Key × D)) (k : Key) : Option D := (kvs.find? fun kv => decide (kv.1 = k)).map (·.2)
def flatD : D → Bool
  | .non => true | .bl _ => true | .int _ => true | .str _ => true
  | _ => false
def eqF : D → D → Bool
  | .non, .non => true
  | .bl a, .bl b => a == b
  | .bl a, .int b => (if a then 1 else 0) == b
  | .int a, .bl b => a == (if b then 1 else 0)
  | .int a, .int b => a == b
  | .str a, .str b => a == b
  | _, _ => false
def inB (S : Store) (x y : D) : Option Bool :=
  match x, y with
  | .str c, .str z => if c.length = 1 then some (decide (c.cps.getD 0 0 ∈ z.cps.toList)) else none
  | x, y => match anyOf S y with
    | some ys => if flatD x && ys.all flatD then some (ys.any fun z => eqF z x) else none
    | none => match keyOf x, dicOf S y with
      | some k, some kvs => some (getK kvs k).isSome
      | _, _ => none
def dIn : G2 := fun x y S => match inB S x y with | some b => .ok (.bl b) S | none => .stuck
def dNotIn : G2 := fun x y S => match inB S x y with | some b => .ok (.bl (!b)) S | none => .stuck
theorem key_at {K : PySem.W.Frag} {n : Nat} {mu : Mu} {H : Hp} {v : V} {x : D} {k : Key} (r : VRel K cl n mu H v x) (e : keyOf x = some k) : v = kV k := by
  cases r <;> cases e <;> rfl
theorem dic_at {K : PySem.W.Frag} {mu : Mu} {H : Hp} {S : Store} (s : SR K cl mu H S) {v : V} {d : D} {kvs : List (Key × D)} (r : VRel K cl S.length mu H v d) (e : dicOf S d = some kvs) :
    ∃ (a : Addr) (ks : List Key) (vs : List V) (ds : List D), v = .ref a ∧ Rd H a (.dK (ks.zip vs)) ∧ ks.length = vs.length ∧ VRels K cl S.length mu H vs ds ∧ kvs = ks.zip ds := by
  cases d with
  | dic kvs' =>
    cases e
    cases r with
    | dic f hl q => exact ⟨_, _, _, _, rfl, f.1, hl, q, rfl⟩
  | ref l =>
    unfold dicOf at e
    simp only at e
    split at e
    · rename_i ys hy
      cases e
      obtain ⟨a, rfl, _, q⟩ := ref_at s r hy
      cases q with
      | dic z hl q => exact ⟨a, _, _, _, rfl, .inl z, hl, q, rfl⟩
    · cases e
  | _ => cases e
theorem getK_rel {K : PySem.W.Frag} {n : Nat} {mu : Mu} {H : Hp} {k : Key} : ∀ {ks : List Key} {vs : List V} {ds : List D}, ks.length = vs.length → VRels K cl n mu H vs ds →
    (∀ d, getK (ks.zip ds) k = some d → ∃ v, valV (ks.zip vs) k = some v ∧ VRel K cl n mu H v d) ∧ (getK (ks.zip ds) k = none → valV (ks.zip vs) k = none)
  | [], vs, ds, _, _ => by
    refine ⟨fun d e => ?_, fun _ => ?_⟩
    · rw [List.zip_nil_left] at e; cases e
    · rw [List.zip_nil_left]; rfl
  | k' :: ks, [], ds, hl, _ => by cases hl
  | k' :: ks, v :: vs, _, hl, .cons (d := d) (ds := ds) h r => by
    have ih := getK_rel (k := k) (ks := ks) (by simpa using hl) r
    by_cases e : k' = k
    · refine ⟨fun d' q => ?_, fun q => ?_⟩
      · refine ⟨v, ?_, ?_⟩
        · unfold valV; rw [List.zip_cons_cons, List.find?_cons_of_pos (by simpa using e)]; rfl
        · unfold getK at q; rw [List.zip_cons_cons, List.find?_cons_of_pos (by simpa using e)] at q; cases q; exact h
      · unfold getK at q; rw [List.zip_cons_cons, List.find?_cons_of_pos (by simpa using e)] at q; cases q
    · have e1 : getK ((k' :: ks).zip (d :: ds)) k = getK (ks.zip ds) k := by
        unfold getK; rw [List.zip_cons_cons, List.find?_cons_of_neg (by simpa using e)]
      have e2 : valV ((k' :: ks).zip (v :: vs)) k = valV (ks.zip vs) k := by
        unfold valV; rw [List.zip_cons_cons, List.find?_cons_of_neg (by simpa using e)]
      rw [e1, e2]
      exact ih
def rInDic (X : Cx) (neg : Bool) : R2 := fun x y H Q => ∃ a o, y = .ref a ∧ DGet H a x o ∧ Q (.bl (if neg then !o.isSome else o.isSome)) H
theorem op_inDic (hu : X.A.units + 64 < cLine) : OpR X (compareOp .In) (rInDic X false) := by
  intro pins s σ H x y v u Q I rx ry h
  obtain ⟨a, o, rfl, g, q⟩ := h
  cases ry
  exact d_in (by omega) I g rx fun s' I' => ⟨.bl o.isSome, H, I', rfl, q⟩
theorem op_notInDic (hu : X.A.units + 64 < cLine) : OpR X (compareOp .NotIn) (rInDic X true) := by
  intro pins s σ H x y v u Q I rx ry h
  obtain ⟨a, o, rfl, g, q⟩ := h
  cases ry
  exact d_notIn (by omega) I g rx fun s' I' => ⟨.bl (!o.isSome), H, I', rfl, q⟩
def rInSign (neg : Bool) : R2 := fun x y H Q => ∃ (c : Nat) (z : Str), x = .str ⟨#[c]⟩ ∧ y = .str z ∧ Q (.bl (if neg then !decide (c ∈ z.cps.toList) else decide (c ∈ z.cps.toList))) H
def rInAll (X : Cx) (neg : Bool) : R2 := fun x y H Q => rInSign neg x y H Q ∨ (rIn X.K neg x y H Q ∨ rInDic X neg x y H Q)
theorem op_inAll (hu : X.A.units + 64 < cLine) : OpR X (compareOp .In) (rInAll X false) := OpR.or (fun pins s σ H x y v u Q I rx ry h => op_in_sign pins s σ H x y v u Q I rx ry h) (OpR.or op_in_seq (op_inDic hu))
theorem op_notInAll (hu : X.A.units + 64 < cLine) : OpR X (compareOp .NotIn) (rInAll X true) := OpR.or (fun pins s σ H x y v u Q I rx ry h => op_notIn_sign pins s σ H x y v u Q I rx ry h) (OpR.or op_notIn_seq (op_notInDic hu))
theorem flat_at {K : PySem.W.Frag} {n : Nat} {mu : Mu} {H : Hp} {v : V} {x : D} (r : VRel K cl n mu H v x) (e : flatD x = true) : flatV v = true := by
  cases r <;> first | rfl | cases e
theorem eqF_rel {K : PySem.W.Frag} {n : Nat} {mu : Mu} {H : Hp} {v u : V} {x y : D} (r : VRel K cl n mu H v x) (r' : VRel K cl n mu H u y) (e : flatD x = true) (e' : flatD y = true) : eqV v u = eqF x y := by
  cases r <;> first | (cases e; done) | (cases r' <;> first | (cases e'; done) | rfl)
theorem any_rel {K : PySem.W.Frag} {n : Nat} {mu : Mu} {H : Hp} {v : V} {x : D} (r : VRel K cl n mu H v x) (e : flatD x = true) : ∀ {vs : List V} {ds : List D}, VRels K cl n mu H vs ds → ds.all flatD = true → vs.all flatV = true ∧ inV v vs = ds.any fun z => eqF z x
  | _, _, .nil, _ => ⟨rfl, rfl⟩
  | _, _, .cons h q, z => by
    rw [List.all_cons, Bool.and_eq_true] at z
    obtain ⟨i1, i2⟩ := any_rel r e q z.2
    refine ⟨by rw [List.all_cons, flat_at h z.1, i1]; rfl, ?_⟩
    unfold inV at i2 ⊢
    rw [List.any_cons, List.any_cons, i2, eqF_rel h r z.1 e]
theorem len_one {c : Str} (h : c.length = 1) : c = ⟨#[c.cps.getD 0 0]⟩ := by
  obtain ⟨⟨l⟩⟩ := c
  cases l with
  | nil => cases h
  | cons a l =>
    cases l with
    | nil => rfl
    | cons b l => simp [Str.length] at h
theorem in_ok {mu : Mu} {H : Hp} {S : Store} {neg : Bool} (s : SR X.K cl mu H S) {v u : V} {x y : D} {b : Bool} {Q : VK} (rx : VRel X.K cl S.length mu H v x) (ry : VRel X.K cl S.length mu H u y) (e : inB S x y = some b)
    (q : Q (.bl (if neg then !b else b)) H) : rInAll X neg v u H Q := by
  unfold inB at e
  split at e
  · split at e
    · rename_i c z hc
      cases rx; cases ry; cases e
      exact .inl ⟨_, z, by rw [← len_one hc], rfl, q⟩
    · cases e
  · split at e
    · rename_i ys hy
      split at e
      · rename_i hf
        rw [Bool.and_eq_true] at hf
        cases e
        obtain ⟨a, vs, rfl, h1, r1⟩ := any_at s ry hy
        obtain ⟨i1, i2⟩ := any_rel rx hf.1 r1 hf.2
        exact .inr (.inl ⟨a, vs, rfl, h1, flat_at rx hf.1, i1, by rw [i2]; exact q⟩)
      · cases e
    · split at e
      · rename_i k kvs hk hd
        cases e
        obtain ⟨a, ks, vs, ds, rfl, h1, hl, r1, rfl⟩ := dic_at s ry hd
        obtain ⟨g1, g2⟩ := getK_rel (k := k) hl r1
        have ev := key_at rx hk
        refine .inr (.inr ⟨a, valV (ks.zip vs) k, rfl, .inl ⟨_, k, h1, ev, rfl⟩, ?_⟩)
        cases z : getK (ks.zip ds) k with
        | none => rw [g2 z]; rw [z] at q; exact q
        | some d =>
          obtain ⟨w, hw, _⟩ := g1 d z
          rw [hw]; rw [z] at q; exact q
      · cases e
theorem ok_in : OpOk X cl W (rInAll X false) dIn := fun mu S σ H v u x y Q s rx ry q => by
  unfold dIn at q
  split at q
  · rename_i b hb
    exact in_ok (neg := false) s rx ry hb (Af.now q s (.bl _))
  · exact q.elim
theorem ok_notIn : OpOk X cl W (rInAll X true) dNotIn := fun mu S σ H v u x y Q s rx ry q => by
  unfold dNotIn at q
  split at q
  · rename_i b hb
    exact in_ok (neg := true) s rx ry hb (Af.now q s (.bl _))
  · exact q.elim
end
end Mi
namespace Mi
open PySem L2

section
variable {X : Cx} {cl : Cl} {W : WX} {a b c e : Expr} {fa fb fc : DE} {pos : Pos} {k : Nat}

/-! the comparisons as expressions and as tests -/
theorem fe_lt (ha : FE X cl W a fa) (hb : FE X cl W b fb) : FE X cl W (.Compare a [.Lt] [b] pos) (e2 dLt fa fb) := fe_cmp op_lt ok_lt ha hb (nomark _)
theorem fe_le (ha : FE X cl W a fa) (hb : FE X cl W b fb) : FE X cl W (.Compare a [.LtE] [b] pos) (e2 dLe fa fb) := fe_cmp op_leAll ok_le ha hb (nomark _)
theorem fe_gt (ha : FE X cl W a fa) (hb : FE X cl W b fb) : FE X cl W (.Compare a [.Gt] [b] pos) (e2 dGt fa fb) := fe_cmp op_gt ok_gt ha hb (nomark _)
theorem fe_ge (ha : FE X cl W a fa) (hb : FE X cl W b fb) : FE X cl W (.Compare a [.GtE] [b] pos) (e2 dGe fa fb) := fe_cmp op_ge ok_ge ha hb (nomark _)
theorem fe_eq (G : Good X W k) {n : Nat} (ha : FE X cl W a fa) (hb : FE X cl W b fb) : FE X cl W (.Compare a [.Eq] [b] pos) (e2 (dEq n) fa fb) := fe_cmp (op_eqAll G.room.units) ok_eq ha hb (nomark _)
theorem fe_ne (G : Good X W k) {n : Nat} (ha : FE X cl W a fa) (hb : FE X cl W b fb) : FE X cl W (.Compare a [.NotEq] [b] pos) (e2 (dNe n) fa fb) := fe_cmp (op_neAll G.room.units) ok_ne ha hb (nomark _)
theorem fe_in (G : Good X W k) (ha : FE X cl W a fa) (hb : FE X cl W b fb) (hm : behindInMarks .In b = false := by rfl) : FE X cl W (.Compare a [.In] [b] pos) (e2 dIn fa fb) := fe_cmp (op_inAll G.room.units) ok_in ha hb hm
theorem fe_notIn (G : Good X W k) (ha : FE X cl W a fa) (hb : FE X cl W b fb) (hm : behindInMarks .NotIn b = false := by rfl) : FE X cl W (.Compare a [.NotIn] [b] pos) (e2 dNotIn fa fb) := fe_cmp (op_notInAll G.room.units) ok_notIn ha hb hm
/-- x is None -/
def isNone : D → Option Bool
  | .non => some true
  | .ref _ => none
  | _ => some false
def eIsN (f : DE) : DE := fun δ S => (f δ S).bind fun x S1 => match isNone x with | some b => .ok (.bl b) S1 | none => .stuck
def eNotN (f : DE) : DE := fun δ S => (f δ S).bind fun x S1 => match isNone x with | some b => .ok (.bl (!b)) S1 | none => .stuck
theorem isNone_at {K : PySem.W.Frag} {n : Nat} {mu : Mu} {H : Hp} {v : V} {x : D} {b : Bool} (r : VRel K cl n mu H v x) (e : isNone x = some b) : decide (v = .non) = b := by
  cases r <;> first | (cases e; rfl) | (cases e; done) | (cases e; exact decide_eq_false (fun z => nomatch z))
theorem fe_isN {j pos'} (ha : FE X cl W a fa) : FE X cl W (.Compare a [.Is] [.Constant .none j pos'] pos) (eIsN fa) := fe_of (pe_cmp (pc_isN ha.pe)) fun mu δ S σ H Q s r q => by
  refine ⟨mu, δ, S, s, r, (Af.bind q).mono fun v H1 ⟨mu1, d, S1, s1, e1, r1, q1⟩ => ?_⟩
  split at q1
  · rename_i b hb
    rw [isNone_at r1 hb]
    exact Af.now q1 s1 (.bl _)
  · exact q1.elim
theorem fe_notN {j pos'} (ha : FE X cl W a fa) : FE X cl W (.Compare a [.IsNot] [.Constant .none j pos'] pos) (eNotN fa) := fe_of (pe_cmp (pc_notN ha.pe)) fun mu δ S σ H Q s r q => by
  refine ⟨mu, δ, S, s, r, (Af.bind q).mono fun v H1 ⟨mu1, d, S1, s1, e1, r1, q1⟩ => ?_⟩
  split at q1
  · rename_i b hb
    rw [isNone_at r1 hb]
    exact Af.now q1 s1 (.bl _)
  · exact q1.elim
/-- a value that is a truth, as a test -/
theorem ft_val (ha : FE X cl W a fa) (he : ∀ whole, isTrue a X.env whole = (do let v ← whole; standAt a.pos; holding [v] (truthy v)) := by intro _; rfl) : FT X cl W a (tV fa) :=
  ft_of (pt_val ha.pe he) fun mu δ S σ H Q s r q => ⟨mu, δ, S, s, r, tobool q⟩
theorem ft_lt (ha : FE X cl W a fa) (hb : FE X cl W b fb) : FT X cl W (.Compare a [.Lt] [b] pos) (tV (e2 dLt fa fb)) := ft_cmp op_lt ok_lt ha hb (nomark _)
theorem ft_le (ha : FE X cl W a fa) (hb : FE X cl W b fb) : FT X cl W (.Compare a [.LtE] [b] pos) (tV (e2 dLe fa fb)) := ft_cmp op_leAll ok_le ha hb (nomark _)
theorem ft_gt (ha : FE X cl W a fa) (hb : FE X cl W b fb) : FT X cl W (.Compare a [.Gt] [b] pos) (tV (e2 dGt fa fb)) := ft_cmp op_gt ok_gt ha hb (nomark _)
theorem ft_ge (ha : FE X cl W a fa) (hb : FE X cl W b fb) : FT X cl W (.Compare a [.GtE] [b] pos) (tV (e2 dGe fa fb)) := ft_cmp op_ge ok_ge ha hb (nomark _)
theorem ft_eq (G : Good X W k) {n : Nat} (ha : FE X cl W a fa) (hb : FE X cl W b fb) : FT X cl W (.Compare a [.Eq] [b] pos) (tV (e2 (dEq n) fa fb)) := ft_cmp (op_eqAll G.room.units) ok_eq ha hb (nomark _)
theorem ft_ne (G : Good X W k) {n : Nat} (ha : FE X cl W a fa) (hb : FE X cl W b fb) : FT X cl W (.Compare a [.NotEq] [b] pos) (tV (e2 (dNe n) fa fb)) := ft_cmp (op_neAll G.room.units) ok_ne ha hb (nomark _)
theorem ft_in (G : Good X W k) (ha : FE X cl W a fa) (hb : FE X cl W b fb) (hm : behindInMarks .In b = false := by rfl) : FT X cl W (.Compare a [.In] [b] pos) (tV (e2 dIn fa fb)) := ft_cmp (op_inAll G.room.units) ok_in ha hb hm
theorem ft_notIn (G : Good X W k) (ha : FE X cl W a fa) (hb : FE X cl W b fb) (hm : behindInMarks .NotIn b = false := by rfl) : FT X cl W (.Compare a [.NotIn] [b] pos) (tV (e2 dNotIn fa fb)) := ft_cmp (op_notInAll G.room.units) ok_notIn ha hb hm
theorem ft_isN {j pos'} (ha : FE X cl W a fa) : FT X cl W (.Compare a [.Is] [.Constant .none j pos'] pos) (tV (eIsN fa)) := ft_of (pt_cmp (pc_isN ha.pe)) fun mu δ S σ H Q s r q => by
  refine ⟨mu, δ, S, s, r, (Af.bind (tobool q)).mono fun v H1 ⟨mu1, d, S1, s1, e1, r1, q1⟩ => ?_⟩
  split at q1
  · rename_i b hb
    rw [isNone_at r1 hb]
    exact Af.now q1 s1 (.bl _)
  · exact q1.elim
theorem ft_notN {j pos'} (ha : FE X cl W a fa) : FT X cl W (.Compare a [.IsNot] [.Constant .none j pos'] pos) (tV (eNotN fa)) := ft_of (pt_cmp (pc_notN ha.pe)) fun mu δ S σ H Q s r q => by
  refine ⟨mu, δ, S, s, r, (Af.bind (tobool q)).mono fun v H1 ⟨mu1, d, S1, s1, e1, r1, q1⟩ => ?_⟩
  split at q1
  · rename_i b hb
    rw [isNone_at r1 hb]
    exact Af.now q1 s1 (.bl _)
  · exact q1.elim

/-! and, or, not -/
def tAndD (f g : DT) : DT := fun δ S => (f δ S).bind fun b S1 => if b then g δ S1 else .ok false S1
def tOrD (f g : DT) : DT := fun δ S => (f δ S).bind fun b S1 => if b then .ok true S1 else g δ S1
def tNotD (f : DT) : DT := fun δ S => (f δ S).bind fun b S1 => .ok (!b) S1
structure FW (X : Cx) (cl : Cl) (W : WX) (e : Expr) (f : DT) : Prop where
  pw : PW X e (tT X.K cl W f)
theorem pw_imp {X : Cx} {e : Expr} {t t' : TT} (h : PW X e t) (i : ∀ σ H Q, t' σ H Q → t σ H Q) : PW X e t' := ⟨fun wh pins s σ H Q I q => h.run wh pins s σ H Q I (i σ H Q q)⟩
variable {ga gb : DT} {rest : List Expr}
theorem fw_and1 (ha : FT X cl W a ga) : FW X cl W (.BoolOp .And [a] pos) ga := ⟨pw_and1 ha.pt⟩
theorem fw_or1 (ha : FT X cl W a ga) : FW X cl W (.BoolOp .Or [a] pos) ga := ⟨pw_or1 ha.pt⟩
theorem fw_and (ha : FT X cl W a ga) (hb : FW X cl W (.BoolOp .And (b :: rest) pos) gb) : FW X cl W (.BoolOp .And (a :: b :: rest) pos) (tAndD ga gb) :=
  ⟨pw_imp (pw_and ha.pt hb.pw) fun σ H Q ⟨mu, δ, S, s, r, q⟩ => by
    refine ⟨mu, δ, S, s, r, (Af.bind q).mono fun v H1 ⟨mu1, d, S1, s1, e1, r1, q1⟩ => ?_⟩
    cases (show v = d from r1)
    cases v with
    | true => exact ⟨mu1, δ, S1, s1, r.mono e1, q1⟩
    | false => exact Af.now q1 s1 rfl⟩
theorem fw_or (ha : FT X cl W a ga) (hb : FW X cl W (.BoolOp .Or (b :: rest) pos) gb) : FW X cl W (.BoolOp .Or (a :: b :: rest) pos) (tOrD ga gb) :=
  ⟨pw_imp (pw_or ha.pt hb.pw) fun σ H Q ⟨mu, δ, S, s, r, q⟩ => by
    refine ⟨mu, δ, S, s, r, (Af.bind q).mono fun v H1 ⟨mu1, d, S1, s1, e1, r1, q1⟩ => ?_⟩
    cases (show v = d from r1)
    cases v with
    | false => exact ⟨mu1, δ, S1, s1, r.mono e1, q1⟩
    | true => exact Af.now q1 s1 rfl⟩
theorem ft_w (h : FW X cl W e ga) : FT X cl W e ga := ⟨h.pw.pt⟩
theorem ft_not (ha : FT X cl W a ga) : FT X cl W (.UnaryOp .Not a pos) (tNotD ga) := ft_of (pt_not ha.pt) fun mu δ S σ H Q s r q => by
  refine ⟨mu, δ, S, s, r, (Af.bind q).mono fun v H1 ⟨mu1, d, S1, s1, e1, r1, q1⟩ => ?_⟩
  cases (show v = d from r1)
  exact Af.now q1 s1 rfl
/-! .. as values -/
def eAndD (f g : DE) : DE := fun δ S => (toB (f δ S)).bind fun b S1 => if b then g δ S1 else .ok (.bl false) S1
def eOrD (f g : DE) : DE := fun δ S => (toB (f δ S)).bind fun b S1 => if b then .ok (.bl true) S1 else g δ S1
def eNotD (f : DE) : DE := fun δ S => (toB (f δ S)).bind fun b S1 => .ok (.bl (!b)) S1
theorem toB_step {K : PySem.W.Frag} {α β : Type} {R : Rl α β} {n : Nat} {mu : Mu} {H : Hp} {σ : St} {o : Out D} {k : Bool → Store → Out α} {Q : β → Hp → Prop} (h : Af K cl R n mu H σ W ((toB o).bind k) Q) :
    Af K cl (VRel K cl) n mu H σ W o fun x H1 => ∃ c mu1 S1, x = V.bl c ∧ SR K cl mu1 H1 S1 ∧ Ext n mu H S1.length mu1 H1 ∧ Af K cl R S1.length mu1 H1 σ W (k c S1) Q := by
  refine (tobool (Af.bind (R := RB) h)).mono fun x H1 ⟨c, e, mu1, d, S1, s1, e1, r1, q1⟩ => ⟨c, mu1, S1, e, s1, e1, ?_⟩
  cases (show c = d from r1)
  exact q1
theorem fe_one {op} (h : FE X cl W a fa) : FE X cl W (.BoolOp op [a] pos) fa := ⟨pe_one h.pe⟩
theorem fe_and (ha : FE X cl W a fa) (hb : FE X cl W (.BoolOp .And (b :: rest) pos) fb) : FE X cl W (.BoolOp .And (a :: b :: rest) pos) (eAndD fa fb) := fe_of (pe_and ha.pe hb.pe) fun mu δ S σ H Q s r q => by
  refine ⟨mu, δ, S, s, r, (toB_step q).mono fun x H1 ⟨c, mu1, S1, e, s1, e1, q1⟩ => ⟨c, e, ?_⟩⟩
  cases c with
  | true => exact ⟨mu1, δ, S1, s1, r.mono e1, q1⟩
  | false => exact Af.now q1 s1 (.bl _)
theorem fe_or (ha : FE X cl W a fa) (hb : FE X cl W (.BoolOp .Or (b :: rest) pos) fb) : FE X cl W (.BoolOp .Or (a :: b :: rest) pos) (eOrD fa fb) := fe_of (pe_or ha.pe hb.pe) fun mu δ S σ H Q s r q => by
  refine ⟨mu, δ, S, s, r, (toB_step q).mono fun x H1 ⟨c, mu1, S1, e, s1, e1, q1⟩ => ⟨c, e, ?_⟩⟩
  cases c with
  | false => exact ⟨mu1, δ, S1, s1, r.mono e1, q1⟩
  | true => exact Af.now q1 s1 (.bl _)
theorem fe_not (ha : FE X cl W a fa) : FE X cl W (.UnaryOp .Not a pos) (eNotD fa) := fe_of (pe_not ha.pe) fun mu δ S σ H Q s r q => by
  exact ⟨mu, δ, S, s, r, (toB_step q).mono fun x H1 ⟨c, mu1, S1, e, s1, e1, q1⟩ => ⟨c, e, Af.now q1 s1 (.bl _)⟩⟩
def eIf (t : DT) (f g : DE) : DE := fun δ S => (t δ S).bind fun b S1 => if b then f δ S1 else g δ S1
theorem fe_if (hc : FT X cl W c ga) (ha : FE X cl W a fa) (hb : FE X cl W b fb) : FE X cl W (.IfExp c a b pos) (eIf ga fa fb) := fe_of (pe_ifExp hc.pt ha.pe hb.pe) fun mu δ S σ H Q s r q => by
  refine ⟨mu, δ, S, s, r, (Af.bind q).mono fun v H1 ⟨mu1, d, S1, s1, e1, r1, q1⟩ => ?_⟩
  cases (show v = d from r1)
  cases v with
  | true => exact ⟨mu1, δ, S1, s1, r.mono e1, q1⟩
  | false => exact ⟨mu1, δ, S1, s1, r.mono e1, q1⟩
/-! a < b < c -/
def e3 (g g' : G2) (fa fb fc : DE) : DE := fun δ S => (fa δ S).bind fun x S1 => (fb δ S1).bind fun y S2 => (toB (g x y S2)).bind fun t S3 => if t then (fc δ S3).bind fun z S4 => g' y z S4 else .ok (.bl false) S3
theorem chain_step {r r' : R2} {g g' : G2} (hk : OpOk X cl W r g) (hk' : OpOk X cl W r' g') (ha : FE X cl W a fa) (hb : FE X cl W b fb) (hc : FE X cl W c fc) {mu δ S σ H Q} (s : SR X.K cl mu H S) (rr : ERel X.K cl S.length mu H σ δ)
    (q : Af X.K cl (VRel X.K cl) S.length mu H σ W (e3 g g' fa fb fc δ S) Q) : tChain r r' (tE X.K cl W fa) (tE X.K cl W fb) (tE X.K cl W fc) σ H Q := by
  refine ⟨mu, δ, S, s, rr, (Af.bind q).mono fun v H1 ⟨mu1, d, S1, s1, e1, r1, q1⟩ => ?_⟩
  refine ⟨mu1, δ, S1, s1, rr.mono e1, (Af.bind q1).mono fun u H2 ⟨mu2, d2, S2, s2, e2, r2, q2⟩ => ?_⟩
  refine hk mu2 S2 σ H2 v u d d2 _ s2 (r1.mono e2) r2 ((toB_step q2).mono fun x H3 ⟨t, mu3, S3, e, s3, e3, q3⟩ => ⟨t, e, ?_⟩)
  cases t with
  | false => exact Af.now q3 s3 (.bl _)
  | true =>
    refine ⟨mu3, δ, S3, s3, rr.mono ((e1.trans e2).trans e3), (Af.bind q3).mono fun w H4 ⟨mu4, d4, S4, s4, e4, r4, q4⟩ => ?_⟩
    exact hk' mu4 S4 σ H4 u w d2 d4 _ s4 (r2.mono (e3.trans e4)) r4 q4
theorem fe_chain {op op' : CmpOp} {r r' : R2} {g g' : G2} (ho : OpR X (compareOp op) r) (ho' : OpR X (compareOp op') r') (hk : OpOk X cl W r g) (hk' : OpOk X cl W r' g') (ha : FE X cl W a fa) (hb : FE X cl W b fb) (hc : FE X cl W c fc)
    (hm : lastMarks [op, op'] [b, c] = false := by with_unfolding_all rfl) : FE X cl W (.Compare a [op, op'] [b, c] pos) (e3 g g' fa fb fc) :=
  fe_of (pe_chain ho ho' ha.pe hb.pe hc.pe hm) fun mu δ S σ H Q s r q => chain_step hk hk' ha hb hc s r q
theorem ft_chain {op op' : CmpOp} {r r' : R2} {g g' : G2} (ho : OpR X (compareOp op) r) (ho' : OpR X (compareOp op') r') (hk : OpOk X cl W r g) (hk' : OpOk X cl W r' g') (ha : FE X cl W a fa) (hb : FE X cl W b fb) (hc : FE X cl W c fc)
    (hm : lastMarks [op, op'] [b, c] = false := by with_unfolding_all rfl) : FT X cl W (.Compare a [op, op'] [b, c] pos) (tV (e3 g g' fa fb fc)) :=
  ft_of (pt_chain ho ho' ha.pe hb.pe hc.pe hm) fun mu δ S σ H Q s r q => chain_step hk hk' ha hb hc s r (tobool q)
theorem fe_lele (ha : FE X cl W a fa) (hb : FE X cl W b fb) (hc : FE X cl W c fc) (hm : lastMarks [.LtE, .LtE] [b, c] = false := by with_unfolding_all rfl) : FE X cl W (.Compare a [.LtE, .LtE] [b, c] pos) (e3 dLe dLe fa fb fc) := fe_chain op_leAll op_leAll ok_le ok_le ha hb hc hm
theorem ft_lele (ha : FE X cl W a fa) (hb : FE X cl W b fb) (hc : FE X cl W c fc) (hm : lastMarks [.LtE, .LtE] [b, c] = false := by with_unfolding_all rfl) : FT X cl W (.Compare a [.LtE, .LtE] [b, c] pos) (tV (e3 dLe dLe fa fb fc)) := ft_chain op_leAll op_leAll ok_le ok_le ha hb hc hm
theorem fe_eqeq (G : Good X W k) {n : Nat} (ha : FE X cl W a fa) (hb : FE X cl W b fb) (hc : FE X cl W c fc) (hm : lastMarks [.Eq, .Eq] [b, c] = false := by with_unfolding_all rfl) : FE X cl W (.Compare a [.Eq, .Eq] [b, c] pos) (e3 (dEq n) (dEq n) fa fb fc) := fe_chain (op_eqAll G.room.units) (op_eqAll G.room.units) ok_eq ok_eq ha hb hc hm

/-! subscripts, slices -/
def atD {α : Type} (xs : List α) (i : Int) : Option α := (ixN xs.length i).bind fun j => xs[j]?
def dIx : G2 := fun x y S => match x, y with
  | .str z, .int i => match atD z.cps.toList i with
    | some c => if z.length ≤ sizeLine then .ok (.str ⟨#[c]⟩) S else .stuck
    | none => .stuck
  | x, y => match anyOf S x, y with
    | some xs, .int i => match atD xs i with | some d => .ok d S | none => .stuck
    | _, y => match dicOf S x, keyOf y with
      | some kvs, some k => match getK kvs k with | some d => .ok d S | none => .stuck
      | _, _ => .stuck
def rIxDic : R2 := fun x y H Q => ∃ a v, x = .ref a ∧ DGet H a y (some v) ∧ Q v H
theorem ix_dic (hu : X.A.units + 1 < cLine) : IxR X rIxDic := by
  intro value slice pins s σ H x y v u Q I rx ry h hs
  obtain ⟨a, z, rfl, g, q⟩ := h
  cases rx
  have hT := dict_typeIs I g
  unfold PyProof.Rows.subscriptTail
  refine wpAny_bind ?_
  rw [getitemInPython_of_ne hT.not_modules]
  refine wpAny_bind (wpAny_specialOf hT PySem.F.slot_dict_getitem.lookup ?_)
  have fin : wpAny (model X.prog X.w) X.A (subscripted slice false (.ref a) u) (fun r s₃ => wpAny (model X.prog X.w) X.A (letTemporaryGo value (.ref a) r >>= fun _ => pure r) (EP X pins σ Q) X.xe s₃) X.xe s := by
    rw [hs]
    exact wpAny_operating (d_getItem hu I g ry fun w' s3 I3 rw' => wpAny_bind (wpAny_letTemporaryGo (wpAny_pure ⟨z, H, I3, rw', q⟩)))
  first
    | exact wpAny_pure (wpAny_bind fin)
    | exact wpAny_bind fin
def rIxAll (X : Cx) : R2 := fun x y H Q => rIxS x y H Q ∨ (rIxL X.K x y H Q ∨ (rIxT X.K x y H Q ∨ rIxDic x y H Q))
theorem ix_all (hu : X.A.units + 64 < cLine) : IxR X (rIxAll X) := IxR.or ix_str (IxR.or ix_list (IxR.or ix_tup (ix_dic (by omega))))
theorem atD_rel {K : PySem.W.Frag} {n : Nat} {mu : Mu} {H : Hp} {vs : List V} {ds : List D} {i : Int} {d : D} (r : VRels K cl n mu H vs ds) (e : atD ds i = some d) : ∃ v, atI vs i = some v ∧ VRel K cl n mu H v d := by
  unfold atD at e
  rw [← r.length] at e
  cases z : ixN vs.length i with
  | none => rw [z] at e; cases e
  | some j =>
    rw [z] at e
    obtain ⟨v, h1, h2⟩ := r.get (i := j) e
    exact ⟨v, by unfold atI; rw [z]; exact h1, h2⟩
theorem ok_ix : OpOk X cl W (rIxAll X) dIx := fun mu S σ H v u x y Q s rx ry q => by
  unfold dIx at q
  split at q
  · split at q
    · split at q
      · rename_i hc hz
        cases rx; cases ry
        exact .inl ⟨_, _, _, rfl, rfl, hz, hc, Af.now q s (.str _)⟩
      · exact q.elim
    · exact q.elim
  · split at q
    · split at q
      · rename_i hx _ _ _ hd
        cases ry
        obtain ⟨a, vs, rfl, h1, r1⟩ := any_at s rx hx
        obtain ⟨w, hw, rw'⟩ := atD_rel r1 hd
        rcases h1 with h1 | h1
        · exact .inr (.inl ⟨a, vs, _, w, rfl, rfl, h1, hw, Af.now q s rw'⟩)
        · exact .inr (.inr (.inl ⟨a, vs, _, w, rfl, rfl, h1, hw, Af.now q s rw'⟩))
      · exact q.elim
    · split at q
      · split at q
        · rename_i kvs kk hd hk _ d hg
          obtain ⟨a, ks, vs, ds, rfl, h1, hl, r1, rfl⟩ := dic_at s rx hd
          obtain ⟨g1, _⟩ := getK_rel (k := kk) hl r1
          obtain ⟨w, hw, rw'⟩ := g1 d hg
          exact .inr (.inr (.inr ⟨a, w, rfl, .inl ⟨_, kk, h1, key_at ry hk, hw.symm⟩, Af.now q s rw'⟩))
        · exact q.elim
      · exact q.elim
theorem fe_ix (G : Good X W k) (ha : FE X cl W a fa) (hb : FE X cl W b fb) (hs : PlainIx b := by intro _ _; rfl) : FE X cl W (.Subscript a b pos) (e2 dIx fa fb) :=
  fe_of (pe_ix (ix_all G.room.units) ha.pe hb.pe hs) fun mu δ S σ H Q s r q => op_step ok_ix ha hb s r q

abbrev DO := Env → Store → Out (Option Int)
def oNone : DO := fun _ S => .ok none S
def oSome (f : DE) : DO := fun δ S => (f δ S).bind fun x S1 => match x with | .int i => .ok (some i) S1 | _ => .stuck
abbrev RO : Rl (Option Int) (Option Int) := fun _ _ _ b c => b = c
def tO (K : PySem.W.Frag) (cl : Cl) (W : WX) (f : DO) : TO := fun σ H Q => ∃ mu δ S, SR K cl mu H S ∧ ERel K cl S.length mu H σ δ ∧ Af K cl RO S.length mu H σ W (f δ S) Q
structure FO (X : Cx) (cl : Cl) (W : WX) (e : Option Expr) (f : DO) : Prop where
  po : PO X e (tO X.K cl W f)
theorem po_imp {e : Option Expr} {t t' : TO} (h : PO X e t) (i : ∀ σ H Q, t' σ H Q → t σ H Q) : PO X e t' := ⟨fun pins s σ H Q I q => h.run pins s σ H Q I (i σ H Q q)⟩
theorem fo_none : FO X cl W none oNone := ⟨po_imp po_none fun σ H Q ⟨mu, δ, S, s, r, q⟩ => Af.now q s rfl⟩
theorem fo_some (h : FE X cl W a fa) : FO X cl W (some a) (oSome fa) := ⟨po_imp (po_some h.pe) fun σ H Q ⟨mu, δ, S, s, r, q⟩ => by
  refine ⟨mu, δ, S, s, r, (Af.bind q).mono fun v H1 ⟨mu1, d, S1, s1, e1, r1, q1⟩ => ?_⟩
  cases r1 with
  | int i => exact ⟨i, rfl, Af.now q1 s1 rfl⟩
  | _ => exact q1.elim⟩
def cutD {α : Type} (xs : List α) (lo hi : Option Int) : List α := (xs.drop (HT.sIx xs.length 0 lo)).take (HT.sIx xs.length xs.length hi - HT.sIx xs.length 0 lo)
def dSl (x : D) (lo hi : Option Int) (S : Store) : Out D := match x with
  | .str z => if z.length ≤ sizeLine then .ok (.str (cutS z lo hi)) S else .stuck
  | .tup xs => .ok (.tup (cutD xs lo hi)) S
  | x => match seqOf S x with
    | some xs => .ok (.lst (cutD xs lo hi)) S
    | none => .stuck
def eSl (f : DE) (l h : DO) : DE := fun δ S => (f δ S).bind fun x S1 => (l δ S1).bind fun lo S2 => (h δ S2).bind fun hi S3 => dSl x lo hi S3
def rSlAll (X : Cx) : V → Option Int → Option Int → Hp → VK → Prop := fun x lo hi H Q => rSlS x lo hi H Q ∨ (rSlA X.K x lo hi H Q ∨ rSlL X.K x lo hi H Q)
theorem sl_all : SlR X (rSlAll X) := SlR.or sl_str (SlR.or sl_tupA sl_list)
theorem cut_rel {K : PySem.W.Frag} {n : Nat} {mu : Mu} {H : Hp} {vs : List V} {ds : List D} {lo hi : Option Int} (r : VRels K cl n mu H vs ds) : VRels K cl n mu H (cutV vs lo hi) (cutD ds lo hi) := by
  unfold cutV cutD
  rw [r.length]
  exact (r.drop _).take _
theorem fe_sl {lo hi : Option Expr} {l h : DO} {p2 : Pos} (ha : FE X cl W a fa) (hl : FO X cl W lo l) (hh : FO X cl W hi h) : FE X cl W (.Subscript a (.Slice lo hi none p2) pos) (eSl fa l h) :=
  fe_of (pe_slice sl_all ha.pe hl.po hh.po) fun mu δ S σ H Q s r q => by
    refine ⟨mu, δ, S, s, r, (Af.bind q).mono fun v H1 ⟨mu1, d, S1, s1, e1, r1, q1⟩ => ?_⟩
    refine ⟨mu1, δ, S1, s1, r.mono e1, (Af.bind (R := RO) q1).mono fun u H2 ⟨mu2, d2, S2, s2, e2, r2, q2⟩ => ?_⟩
    refine ⟨mu2, δ, S2, s2, r.mono (e1.trans e2), (Af.bind (R := RO) q2).mono fun w H3 ⟨mu3, d3, S3, s3, e3, r3, q3⟩ => ?_⟩
    cases (show u = d2 from r2)
    cases (show w = d3 from r3)
    have rv := r1.mono (e2.trans e3)
    unfold dSl at q3
    split at q3
    · split at q3
      · rename_i hz
        cases rv
        exact .inl ⟨_, rfl, hz, Af.now q3 s3 (.str _)⟩
      · exact q3.elim
    · rename_i xs _ _
      obtain ⟨a, vs, rfl, h1, rs⟩ := tup_at rv
      refine .inr (.inl ⟨a, vs, rfl, h1, fun hw => ?_, fun _ => Af.tup q3 s3 (cut_rel rs)⟩)
      refine Af.now q3 s3 ?_
      have e : cutD xs u w = xs := by
        have hw' := hw
        rw [rs.length] at hw'
        unfold cutD
        rw [hw'.1, hw'.2, List.drop_zero, Nat.sub_zero, List.take_length]
      rw [e]
      exact rv
    · split at q3
      · rename_i xs hx
        obtain ⟨a, vs, rfl, h1, rs⟩ := seq_at s3 rv hx
        exact .inr (.inr ⟨a, vs, rfl, h1, Af.lst q3 s3 (cut_rel rs)⟩)
      · exact q3.elim

/-! displays -/
def eTup (f : DA) : DE := fun δ S => (f δ S).bind fun xs S1 => if xs.length ≤ sizeLine then .ok (.tup xs) S1 else .stuck
def eLst (f : DA) : DE := fun δ S => (f δ S).bind fun xs S1 => if xs.length ≤ sizeLine then .ok (.lst xs) S1 else .stuck
def eLstL (f : DA) : DE := fun δ S => (f δ S).bind fun xs S1 => if xs.length ≤ sizeLine then .ok (.ref S1.length) (S1 ++ [some (.lst xs)]) else .stuck
theorem Af.live {K : PySem.W.Frag} {mu : Mu} {H : Hp} {S : Store} {σ : St} {o : O} {ho : HO} {Q : VK} (h : Af K cl (VRel K cl) S.length mu H σ W (.ok (.ref S.length) (S ++ [some o])) Q) (s : SR K cl mu H S) {p : Addr} (hp : H p = none)
    (r : ORel K cl (S ++ [some o]).length (muAdd mu S.length p) (upd H p ho) p o) : Q (.ref p) (upd H p ho) :=
  h _ _ _ (ext_add s hp) (sr_add s hp r) (.ref (by simp) fun a e => by
    dsimp only [muAdd] at e
    rw [if_pos rfl] at e
    cases e; rfl)
theorem Af.lstL {K : PySem.W.Frag} {mu : Mu} {H : Hp} {S : Store} {σ : St} {ds : List D} {vs : List V} {Q : VK} (h : Af K cl (VRel K cl) S.length mu H σ W (.ok (.ref S.length) (S ++ [some (.lst ds)])) Q) (s : SR K cl mu H S) (r : VRels K cl S.length mu H vs ds) :
    ∀ p, H p = none → Q (.ref p) (upd H p (.lst vs)) := fun p hp => Af.live h s hp (.lst upd_same (r.mono (ext_add s hp)))
variable {es : List Expr} {g : DA}
theorem fe_tup {x1} (h : FA X cl W es g) : FE X cl W (.Tuple es x1 pos) (eTup g) := fe_of (pe_tup h.pa) fun mu δ S σ H Q s r q => by
  refine ⟨mu, δ, S, s, r, (Af.bind q).mono fun vs H1 ⟨mu1, ds, S1, s1, e1, r1, q1⟩ => ?_⟩
  split at q1
  · rename_i hz; exact ⟨by rw [r1.length]; exact hz, Af.tup q1 s1 r1⟩
  · exact q1.elim
theorem fe_lst (h : FA X cl W es g) : FE X cl W (.List es pos) (eLst g) := fe_of (pe_lst h.pa) fun mu δ S σ H Q s r q => by
  refine ⟨mu, δ, S, s, r, (Af.bind q).mono fun vs H1 ⟨mu1, ds, S1, s1, e1, r1, q1⟩ => ?_⟩
  split at q1
  · rename_i hz; exact ⟨by rw [r1.length]; exact hz, Af.lst q1 s1 r1⟩
  · exact q1.elim
theorem fe_lstL (h : FA X cl W es g) : FE X cl W (.List es pos) (eLstL g) := fe_of (pe_lst h.pa) fun mu δ S σ H Q s r q => by
  refine ⟨mu, δ, S, s, r, (Af.bind q).mono fun vs H1 ⟨mu1, ds, S1, s1, e1, r1, q1⟩ => ?_⟩
  split at q1
  · rename_i hz; exact ⟨by rw [r1.length]; exact hz, Af.lstL q1 s1 r1⟩
  · exact q1.elim

/-! a thing of the store is given up: from then on it is read -/
def frz (x : D) (S : Store) : Out D := match x with
  | .ref l => match S[l]? with
    | some (some (.lst xs)) => .ok (.lst xs) (S.set l none)
    | some (some (.dic kvs)) => .ok (.dic kvs) (S.set l none)
    | some (some (.ins C fs)) => .ok (.ins C fs) (S.set l none)
    | _ => .stuck
  | x => .ok x S
def eFrz (f : DE) : DE := fun δ S => (f δ S).bind frz
theorem Af.frz {K : PySem.W.Frag} {mu : Mu} {H : Hp} {S : Store} {σ : St} {v : V} {x : D} {Q : VK} (s : SR K cl mu H S) (r : VRel K cl S.length mu H v x) (q : Af K cl (VRel K cl) S.length mu H σ W (frz x S) Q) : Q v H := by
  cases x with
  | ref l =>
    unfold Mi.frz at q
    simp only at q
    split at q
    · rename_i xs hx
      obtain ⟨a, rfl, hm, o⟩ := ref_at s r hx
      cases o with
      | lst hH rs => exact q _ _ _ (ext_del s l) (sr_del s l) (.lst ⟨hH, del_ne s hm⟩ (rs.mono (ext_del s l)))
    · rename_i xs hx
      obtain ⟨a, rfl, hm, o⟩ := ref_at s r hx
      cases o with
      | dic hH hl rs => exact q _ _ _ (ext_del s l) (sr_del s l) (.dic ⟨.inl hH, del_ne s hm⟩ hl (rs.mono (ext_del s l)))
    · rename_i xs hx
      obtain ⟨a, rfl, hm, o⟩ := ref_at s r hx
      cases o with
      | ins hc hH hl rs => exact q _ _ _ (ext_del s l) (sr_del s l) (.ins hc hH (del_ne s hm) hl (rs.mono (ext_del s l)))
    · exact q.elim
  | _ => exact Af.now q s r
theorem fe_frz (ha : FE X cl W a fa) : FE X cl W a (eFrz fa) := fe_of ha.pe fun mu δ S σ H Q s r q =>
  ⟨mu, δ, S, s, r, (Af.bind q).mono fun v H1 ⟨mu1, d, S1, s1, e1, r1, q1⟩ => Af.frz s1 r1 q1⟩
end
end Mi
namespace Mi
open PySem L2

/-- what comes of a statement -/
inductive OS where
  | nx (δ : Env) (S : Store) | rt (d : D) (S : Store) | bk (δ : Env) (S : Store) | ct (δ : Env) (S : Store) | exc (C : Str) (fs : List (Str × D)) (δ : Env) (S : Store) | stuck
abbrev DS := Env → Store → OS
def toS {α : Type} (δ : Env) (o : Out α) (k : α → Store → OS) : OS := match o with
  | .ok d S => k d S
  | .exc C fs S => .exc C fs δ S
  | .stuck => .stuck
@[simp] theorem toS_ok {α : Type} (δ : Env) (a : α) (S : Store) (k : α → Store → OS) : toS δ (.ok a S) k = k a S := rfl
@[simp] theorem toS_exc {α : Type} (δ : Env) (C : Str) (fs : List (Str × D)) (S : Store) (k : α → Store → OS) : toS δ (.exc C fs S) k = .exc C fs δ S := rfl
@[simp] theorem toS_stuck {α : Type} (δ : Env) (k : α → Store → OS) : toS δ .stuck k = .stuck := rfl
def OS.then (o : OS) (k : DS) : OS := match o with
  | .nx δ S => k δ S
  | o => o
@[simp] theorem then_nx (δ : Env) (S : Store) (k : DS) : (OS.nx δ S).then k = k δ S := rfl
@[simp] theorem then_rt (d : D) (S : Store) (k : DS) : (OS.rt d S).then k = .rt d S := rfl
@[simp] theorem then_bk (δ : Env) (S : Store) (k : DS) : (OS.bk δ S).then k = .bk δ S := rfl
@[simp] theorem then_ct (δ : Env) (S : Store) (k : DS) : (OS.ct δ S).then k = .ct δ S := rfl
@[simp] theorem then_exc (C : Str) (fs : List (Str × D)) (δ : Env) (S : Store) (k : DS) : (OS.exc C fs δ S).then k = .exc C fs δ S := rfl
@[simp] theorem then_stuck (k : DS) : OS.stuck.then k = .stuck := rfl

section
variable (K : PySem.W.Frag) (cl : Cl)
def AfS (n : Nat) (mu : Mu) (H : Hp) (W : WX) (o : OS) (D : Ends) : Prop := match o with
  | .nx δ' S' => ∀ σ' H' mu', Ext n mu H S'.length mu' H' → SR K cl mu' H' S' → ERel K cl S'.length mu' H' σ' δ' → D.nx σ' H'
  | .bk δ' S' => ∀ σ' H' mu', Ext n mu H S'.length mu' H' → SR K cl mu' H' S' → ERel K cl S'.length mu' H' σ' δ' → D.bk σ' H'
  | .ct δ' S' => ∀ σ' H' mu', Ext n mu H S'.length mu' H' → SR K cl mu' H' S' → ERel K cl S'.length mu' H' σ' δ' → D.ct σ' H'
  | .rt d S' => ∀ v H' mu', Ext n mu H S'.length mu' H' → SR K cl mu' H' S' → VRel K cl S'.length mu' H' v d → D.rt v H'
  | .exc C fs δ' S' => ∀ CA dx σ' H' mu', cl C = some CA → Ext n mu H S'.length mu' H' → SR K cl mu' H' S' → ERel K cl S'.length mu' H' σ' δ' → XF K cl S'.length mu' H' dx fs → W (.ref CA) dx σ' H'
  | .stuck => False
def tS (W : WX) (f : DS) : TS := fun D σ H => ∃ mu δ S, SR K cl mu H S ∧ ERel K cl S.length mu H σ δ ∧ AfS K cl S.length mu H W (f δ S) D
end
section
variable {K : PySem.W.Frag} {cl : Cl} {n n1 : Nat} {mu mu1 : Mu} {H H1 : Hp} {σ : St} {δ : Env} {W : WX} {S : Store}
theorem AfS.ext {o : OS} {D : Ends} (e : Ext n mu H n1 mu1 H1) (h : AfS K cl n mu H W o D) : AfS K cl n1 mu1 H1 W o D := by
  cases o with
  | nx δ' S' => exact fun σ' H' mu' e' => h σ' H' mu' (e.trans e')
  | bk δ' S' => exact fun σ' H' mu' e' => h σ' H' mu' (e.trans e')
  | ct δ' S' => exact fun σ' H' mu' e' => h σ' H' mu' (e.trans e')
  | rt δ' S' => exact fun σ' H' mu' e' => h σ' H' mu' (e.trans e')
  | exc C fs δ' S' => exact fun CA dx σ' H' mu' hc e' => h CA dx σ' H' mu' hc (e.trans e')
  | stuck => exact h
theorem AfS.toS {α β : Type} {R : Rl α β} {o : Out α} {k : α → Store → OS} {D : Ends} (r : ERel K cl n mu H σ δ) (h : AfS K cl n mu H W (toS δ o k) D) :
    Af K cl R n mu H σ W o (fun v H1 => ∃ mu1 d S1, SR K cl mu1 H1 S1 ∧ Ext n mu H S1.length mu1 H1 ∧ R S1.length mu1 H1 v d ∧ AfS K cl S1.length mu1 H1 W (k d S1) D) := by
  cases o with
  | ok d S' => exact fun v H' mu' e s rr => ⟨mu', d, S', s, e, rr, AfS.ext e h⟩
  | exc C fs S' => exact fun CA dx H' mu' hc e s x => h CA dx σ H' mu' hc e s (r.mono e) x
  | stuck => exact h
theorem AfS.now {D : Ends} (h : AfS K cl S.length mu H W (.nx δ S) D) (s : SR K cl mu H S) (r : ERel K cl S.length mu H σ δ) : D.nx σ H := h σ H mu s.rfl' s r
theorem AfS.ret {d : D} {D : Ends} (h : AfS K cl S.length mu H W (.rt d S) D) (s : SR K cl mu H S) {v : V} (r : VRel K cl S.length mu H v d) : D.rt v H := h v H mu s.rfl' s r
theorem ERel.set {v : V} {d : D} {i : Nat} (r : ERel K cl n mu H σ δ) (h : VRel K cl n mu H v d) : ERel K cl n mu H (σ.set i (some v)) (δ.set i (some d)) := by
  refine ⟨by rw [List.length_set, List.length_set]; exact r.1, fun j d' e => ?_⟩
  by_cases hj : i = j
  · subst hj
    by_cases hl : i < δ.length
    · rw [List.getElem?_set_self hl] at e
      cases e
      exact ⟨v, List.getElem?_set_self (by rw [r.1]; exact hl), h⟩
    · rw [List.getElem?_eq_none (by rw [List.length_set]; omega)] at e; cases e
  · rw [List.getElem?_set_ne hj] at e ⊢
    exact r.2 j d' e
end
structure FS (X : Cx) (cl : Cl) (W : WX) (st : Stmt) (f : DS) : Prop where
  ps : PS X st (tS X.K cl W f)
structure FSs (X : Cx) (cl : Cl) (W : WX) (st : List Stmt) (f : DS) : Prop where
  pss : PSs X st (tS X.K cl W f)
theorem ps_imp {X : Cx} {st : Stmt} {t t' : TS} (h : PS X st t) (i : ∀ D σ H, t' D σ H → t D σ H) : PS X st t' := ⟨fun pins s σ H D I q => h.run pins s σ H D I (i D σ H q)⟩
theorem pss_imp {X : Cx} {st : List Stmt} {t t' : TS} (h : PSs X st t) (i : ∀ D σ H, t' D σ H → t D σ H) : PSs X st t' := ⟨fun pins s σ H D I q => h.run pins s σ H D I (i D σ H q)⟩
section
variable {X : Cx} {cl : Cl} {W : WX} {a b c e : Expr} {fa fb fc : DE} {pos : Pos} {k : Nat} {st : Stmt} {rest : List Stmt} {f g : DS} {ga : DT}
theorem fs_of {t : TS} (h : PS X st t) (i : ∀ mu δ S σ H D, SR X.K cl mu H S → ERel X.K cl S.length mu H σ δ → AfS X.K cl S.length mu H W (f δ S) D → t D σ H) : FS X cl W st f :=
  ⟨ps_imp h fun D σ H ⟨mu, δ, S, s, r, q⟩ => i mu δ S σ H D s r q⟩
theorem fss_of {t : TS} {st : List Stmt} (h : PSs X st t) (i : ∀ mu δ S σ H D, SR X.K cl mu H S → ERel X.K cl S.length mu H σ δ → AfS X.K cl S.length mu H W (f δ S) D → t D σ H) : FSs X cl W st f :=
  ⟨pss_imp h fun D σ H ⟨mu, δ, S, s, r, q⟩ => i mu δ S σ H D s r q⟩
/-! blocks -/
def sNext : DS := fun δ S => .nx δ S
def sSeq (f g : DS) : DS := fun δ S => (f δ S).then g
theorem fss_nil : FSs X cl W [] sNext := fss_of pss_nil fun mu δ S σ H D s r q => AfS.now q s r
theorem fss_one (h : FS X cl W st f) : FSs X cl W [st] f := ⟨pss_one h.ps⟩
theorem AfS.then {K : PySem.W.Frag} {n : Nat} {mu : Mu} {H : Hp} {o : OS} {D : Ends} (h : AfS K cl n mu H W (o.then g) D) : AfS K cl n mu H W o { D with nx := tS K cl W g D } := by
  cases o with
  | nx δ' S' => exact fun σ' H' mu' e s r => ⟨mu', δ', S', s, r, AfS.ext e h⟩
  | bk δ' S' => exact h
  | ct δ' S' => exact h
  | rt δ' S' => exact h
  | exc C fs δ' S' => exact h
  | stuck => exact h
theorem fss_cons (h : FS X cl W st f) (hr : FSs X cl W rest g) : FSs X cl W (st :: rest) (sSeq f g) := fss_of (pss_cons h.ps hr.pss) fun mu δ S σ H D s r q => ⟨mu, δ, S, s, r, AfS.then q⟩
/-! small statements -/
theorem fs_pass : FS X cl W (.Pass pos) sNext := fs_of ps_pass fun mu δ S σ H D s r q => AfS.now q s r
def sBreak : DS := fun δ S => .bk δ S
def sCont : DS := fun δ S => .ct δ S
theorem fs_break : FS X cl W (.Break pos) sBreak := fs_of ps_break fun mu δ S σ H D s r q => q σ H mu s.rfl' s r
theorem fs_cont : FS X cl W (.Continue pos) sCont := fs_of ps_continue fun mu δ S σ H D s r q => q σ H mu s.rfl' s r
def sExpr (f : DE) : DS := fun δ S => toS δ (f δ S) fun _ S1 => .nx δ S1
theorem fs_expr (h : FE X cl W a fa) (hs : swapsWith a none pos.line X.env = pure false := by rfl) : FS X cl W (.Expr a pos) (sExpr fa) := fs_of (ps_expr h.pe hs) fun mu δ S σ H D s r q =>
  ⟨mu, δ, S, s, r, (AfS.toS r q).mono fun v H1 ⟨mu1, d, S1, s1, e1, r1, q1⟩ => AfS.now q1 s1 (r.mono e1)⟩
def sRet (f : DE) : DS := fun δ S => toS δ (f δ S) fun d S1 => .rt d S1
theorem fs_ret (h : FE X cl W a fa) : FS X cl W (.Return (some a) pos) (sRet fa) := fs_of (ps_ret h.pe) fun mu δ S σ H D s r q =>
  ⟨mu, δ, S, s, r, (AfS.toS r q).mono fun v H1 ⟨mu1, d, S1, s1, e1, r1, q1⟩ => AfS.ret q1 s1 r1⟩
def sRetN : DS := fun _ S => .rt .non S
theorem fs_retN : FS X cl W (.Return none pos) sRetN := fs_of ps_retN fun mu δ S σ H D s r q => AfS.ret q s .non
def sSet (i : Nat) (f : DE) : DS := fun δ S => toS δ (f δ S) fun d S1 => .nx (δ.set i (some d)) S1
theorem fs_set {i : Nat} {x : Str} {pos' : Pos} (G : Good X W k) (h : FE X cl W a fa) (hi : X.N[i]? = some x := by rfl) (hx : Loc X.env.scope x := by first | exact Or.inl rfl | exact Or.inr rfl)
    (hs : swapsWith a (some (.Name x pos')) pos.line X.env = pure false := by rfl) (hf : X.fn x = true ∨ X.env.scope.names.lookup x = some .local := by first | exact Or.inl rfl | exact Or.inr rfl) : FS X cl W (.Assign [.Name x pos'] a pos) (sSet i fa) :=
  fs_of (ps_set (i := i) G.nd hi hx h.pe hs hf) fun mu δ S σ H D s r q =>
  ⟨mu, δ, S, s, r, (AfS.toS r q).mono fun v H1 ⟨mu1, d, S1, s1, e1, r1, q1⟩ => AfS.now q1 s1 ((r.mono e1).set r1)⟩
def sIf (t : DT) (f g : DS) : DS := fun δ S => toS δ (t δ S) fun b S1 => if b then f δ S1 else g δ S1
theorem fs_if {th el : List Stmt} (hc : FT X cl W c ga) (ha : FSs X cl W th f) (hb : FSs X cl W el g) : FS X cl W (.If c th el pos) (sIf ga f g) := fs_of (ps_if hc.pt ha.pss hb.pss) fun mu δ S σ H D s r q => by
  refine ⟨mu, δ, S, s, r, (AfS.toS (R := RB) r q).mono fun v H1 ⟨mu1, d, S1, s1, e1, r1, q1⟩ => ?_⟩
  cases (show v = d from r1)
  cases v with
  | true => exact ⟨mu1, δ, S1, s1, r.mono e1, q1⟩
  | false => exact ⟨mu1, δ, S1, s1, r.mono e1, q1⟩
/-- what is never come to -/
def sNever : DS := fun _ _ => .stuck
theorem fs_never : FS X cl W st sNever := fs_of ps_never fun _ _ _ _ _ _ _ _ q => q.elim
theorem fss_never {sts : List Stmt} : FSs X cl W sts sNever := fss_of pss_never fun _ _ _ _ _ _ _ _ q => q.elim

/-! targets -/
abbrev DG := D → Store → Option (List (Nat × D))
abbrev DGs := List D → Store → Option (List (Nat × D))
def setAll {α : Type} (σ : List (Option α)) (l : List (Nat × α)) : List (Option α) := l.foldl (fun s p => s.set p.1 (some p.2)) σ
def ARel (K : PySem.W.Frag) (cl : Cl) (n : Nat) (mu : Mu) (H : Hp) (va : List (Nat × V)) (da : List (Nat × D)) : Prop := va.map (·.1) = da.map (·.1) ∧ VRels K cl n mu H (va.map (·.2)) (da.map (·.2))
def tG (K : PySem.W.Frag) (cl : Cl) (g : DG) : TG := fun v σ H Q => ∃ mu S d da, SR K cl mu H S ∧ VRel K cl S.length mu H v d ∧ g d S = some da ∧ ∀ va, ARel K cl S.length mu H va da → Q (setAll σ va) H
def tGs (K : PySem.W.Frag) (cl : Cl) (g : DGs) : TGs := fun vs σ H Q => ∃ mu S ds da, SR K cl mu H S ∧ VRels K cl S.length mu H vs ds ∧ g ds S = some da ∧ ∀ va, ARel K cl S.length mu H va da → Q (setAll σ va) H
structure FG (X : Cx) (cl : Cl) (tg : Expr) (g : DG) : Prop where
  pg : PG X tg (tG X.K cl g)
structure FGs (X : Cx) (cl : Cl) (tgs : List Expr) (g : DGs) : Prop where
  pgs : PGs X tgs (tGs X.K cl g)
theorem pg_imp {tg : Expr} {t t' : TG} (h : PG X tg t) (i : ∀ v σ H Q, t' v σ H Q → t v σ H Q) : PG X tg t' := ⟨fun pins s σ H v u Q I r q => h.run pins s σ H v u Q I r (i v σ H Q q)⟩
theorem pgs_imp {tg : List Expr} {t t' : TGs} (h : PGs X tg t) (i : ∀ v σ H Q, t' v σ H Q → t v σ H Q) : PGs X tg t' := ⟨fun pins s σ H v u Q I r q => h.run pins s σ H v u Q I r (i v σ H Q q)⟩
def gName (i : Nat) : DG := fun d _ => some [(i, d)]
theorem fg_name (i : Nat) {x : Str} (hN : X.N.Nodup) (hi : X.N[i]? = some x := by rfl) (hx : Loc X.env.scope x := by first | exact Or.inl rfl | exact Or.inr rfl) (hf : X.fn x = true ∨ X.env.scope.names.lookup x = some .local := by first | exact Or.inl rfl | exact Or.inr rfl) :
    FG X cl (.Name x pos) (gName i) := ⟨pg_imp (pg_name (i := i) hN hi hx hf) fun v σ H Q ⟨mu, S, d, da, s, r, e, q⟩ => by
  cases e
  exact q [(i, v)] ⟨rfl, .cons r .nil⟩⟩
def gNil : DGs := fun ds _ => match ds with | [] => some [] | _ => none
def gCons (g : DG) (gs : DGs) : DGs := fun ds S => match ds with
  | d :: ds => match g d S, gs ds S with
    | some a, some b => some (a ++ b)
    | _, _ => none
  | [] => none
theorem setAll_append {α : Type} (σ : List (Option α)) (x y : List (Nat × α)) : setAll σ (x ++ y) = setAll (setAll σ x) y := by unfold setAll; rw [List.foldl_append]
theorem fgs_nil : FGs X cl [] gNil := ⟨pgs_imp pgs_nil fun v σ H Q ⟨mu, S, ds, da, s, r, e, q⟩ => by
  cases r with
  | nil => cases e; exact ⟨rfl, q [] ⟨rfl, .nil⟩⟩
  | cons _ _ => cases e⟩
theorem fgs_cons {tg : Expr} {tgs : List Expr} {g : DG} {gs : DGs} (h : FG X cl tg g) (hs : FGs X cl tgs gs) (ha : (assignEach (tg :: tgs) X.env).map (·.2) = assign tg X.env :: (assignEach tgs X.env).map (·.2) := by rfl) : FGs X cl (tg :: tgs) (gCons g gs) :=
  ⟨pgs_imp (pgs_cons h.pg hs.pgs ha) fun vs σ H Q ⟨mu, S, ds, da, s, r, e, q⟩ => by
    cases r with
    | nil => cases e
    | @cons v d vs ds h r =>
      unfold gCons at e
      simp only at e
      split at e
      · rename_i x y ex ey
        cases e
        refine ⟨v, vs, rfl, mu, S, d, x, s, h, ex, fun va hv => ⟨mu, S, ds, y, s, r, ey, fun vb hb => ?_⟩⟩
        rw [← setAll_append]
        exact q (va ++ vb) ⟨by rw [List.map_append, List.map_append, hv.1, hb.1], by rw [List.map_append, List.map_append]; exact hv.2.append hb.2⟩
      · cases e⟩
def gTup (n : Nat) (gs : DGs) : DG := fun d S => match d with
  | .tup ds => if ds.length = n then gs ds S else none
  | _ => none
def gLst (n : Nat) (gs : DGs) : DG := fun d S => match seqOf S d with
  | some ds => if ds.length = n then gs ds S else none
  | _ => none
theorem fg_tup {es : List Expr} {j n : Nat} {gs : DGs} (G : Good X W k) (h : FGs X cl es gs) (hn : (assignEach es X.env).length = n := by rfl) (hst : (assignEach es X.env).findIdx? (·.1) = none := by rfl) : FG X cl (.Tuple es j pos) (gTup n gs) :=
  ⟨pg_imp (pg_tup G.calm h.pgs hn hst) fun v σ H Q ⟨mu, S, d, da, s, r, e, q⟩ => by
    unfold gTup at e
    split at e
    · split at e
      · rename_i ds hl
        obtain ⟨a, vs, rfl, h1, r1⟩ := tup_at r
        exact ⟨a, vs, rfl, h1, by rw [r1.length]; exact hl, mu, S, ds, da, s, r1, e, q⟩
      · cases e
    · cases e⟩
theorem fg_lst {es : List Expr} {j n : Nat} {gs : DGs} (G : Good X W k) (h : FGs X cl es gs) (hn : (assignEach es X.env).length = n := by rfl) (hst : (assignEach es X.env).findIdx? (·.1) = none := by rfl) : FG X cl (.Tuple es j pos) (gLst n gs) :=
  ⟨pg_imp (pg_lst G.calm h.pgs hn hst) fun v σ H Q ⟨mu, S, d, da, s, r, e, q⟩ => by
    unfold gLst at e
    split at e
    · split at e
      · rename_i ds hd hl
        obtain ⟨a, vs, rfl, h1, r1⟩ := seq_at s r hd
        exact ⟨a, vs, rfl, h1, by rw [r1.length]; exact hl, mu, S, ds, da, s, r1, e, q⟩
      · cases e
    · cases e⟩
theorem ERel.setAll {K : PySem.W.Frag} {n : Nat} {mu : Mu} {H : Hp} : ∀ {va : List (Nat × V)} {da : List (Nat × D)} {σ : St} {δ : Env}, ARel K cl n mu H va da → ERel K cl n mu H σ δ → ERel K cl n mu H (setAll σ va) (setAll δ da)
  | [], [], _, _, _, r => r
  | [], _ :: _, _, _, ⟨h, _⟩, _ => by cases h
  | _ :: _, [], _, _, ⟨h, _⟩, _ => by cases h
  | (i, v) :: va, (j, d) :: da, σ, δ, ⟨h1, h2⟩, r => by
    rw [List.map_cons, List.map_cons] at h1 h2
    injection h1 with e1 e2
    cases h2 with
    | cons q1 q2 =>
      have e1 : i = j := e1
      subst e1
      exact ERel.setAll (va := va) (da := da) ⟨e2, q2⟩ (r.set q1)
/-- targets = value -/
def sAsg (g : DG) (f : DE) : DS := fun δ S => toS δ (f δ S) fun d S1 => match g d S1 with | some da => .nx (setAll δ da) S1 | none => .stuck
theorem fs_asg {tg : Expr} {g : DG} (h : FE X cl W a fa) (hg : FG X cl tg g) (hs : swapsWithSole [tg] a pos.line X.env = pure false := by rfl) (hw : swappedStores [tg] a X.env = pure none := by rfl)
    (h1 : (assignEach [tg] X.env).map (·.2) = [assign tg X.env] := by rfl) : FS X cl W (.Assign [tg] a pos) (sAsg g fa) :=
  fs_of (ps_asg h.pe hg.pg hs hw h1) fun mu δ S σ H D s r q =>
  ⟨mu, δ, S, s, r, (AfS.toS r q).mono fun v H1 ⟨mu1, d, S1, s1, e1, r1, q1⟩ => by
    split at q1
    · rename_i da hd
      exact ⟨mu1, S1, d, da, s1, r1, hd, fun va hv => AfS.now q1 s1 (ERel.setAll hv (r.mono e1))⟩
    · exact q1.elim⟩
/-- a, b = x, y (two local names) -/
def sPar (i j : Nat) (f : DA) : DS := fun δ S => toS δ (f δ S) fun ds S1 => match ds with | [x, y] => .nx ((δ.set i (some x)).set j (some y)) S1 | _ => .stuck
theorem fs_par {i j : Nat} {x y : Str} {fab : DA} {px py pt : Pos} {kt k2 pt2} (G : Good X W k) (h : FA X cl W [a, b] fab) (hij : i ≠ j := by decide) (hi : X.N[i]? = some x := by rfl) (hj : X.N[j]? = some y := by rfl) (hx : X.env.scope.names.lookup x = some .local := by rfl) (hy : X.env.scope.names.lookup y = some .local := by rfl)
    (hw : swappedStores [.Tuple [.Name x px, .Name y py] kt pt] (.Tuple [a, b] k2 pt2) X.env = pure (some [x, y]) := by rfl) (hs : swapsWithSole [.Tuple [.Name x px, .Name y py] kt pt] (.Tuple [a, b] k2 pt2) pos.line X.env = pure false := by rfl) :
    FS X cl W (.Assign [.Tuple [.Name x px, .Name y py] kt pt] (.Tuple [a, b] k2 pt2) pos) (sPar i j fab) :=
  fs_of (ps_par G.calm G.nd hi hj hij hx hy h.pa hw hs) fun mu δ S σ H D s r q =>
  ⟨mu, δ, S, s, r, (AfS.toS r q).mono fun v H1 ⟨mu1, d, S1, s1, e1, r1, q1⟩ => by
    cases r1 with
    | nil => exact q1.elim
    | cons h1 r1 =>
      cases r1 with
      | nil => exact q1.elim
      | cons h2 r2 =>
        cases r2 with
        | nil => exact ⟨_, _, rfl, AfS.now q1 s1 (((r.mono e1).set h1).set h2)⟩
        | cons _ _ => exact q1.elim⟩

/-! what a loop walks -/
/-- a list of the store that is walked must stay as it is -/
abbrev Ck := Option (Nat × List D)
def ckS (c : Ck) (S : Store) : Prop := match c with
  | none => True
  | some (l, xs) => S[l]? = some (some (.lst xs))
abbrev DI := Env → Store → Out (List D × Ck)
structure ItR (K : PySem.W.Frag) (cl : Cl) (n : Nat) (mu : Mu) (H : Hp) (J : It) (p : List D × Ck) : Prop where
  turn : ∀ mu' H' S', Pr n mu H S'.length mu' H' → SR K cl mu' H' S' → ckS p.2 S' → ∀ i, (i = p.1.length → J.stop i H') ∧
    ∀ d, p.1[i]? = some d → J.go i H' ∧ ∀ x H2, J.yld i H' x H2 → Ext S'.length mu' H' S'.length mu' H2 ∧ SR K cl mu' H2 S' ∧ VRel K cl S'.length mu' H2 x d
def tI (K : PySem.W.Frag) (cl : Cl) (W : WX) (f : DI) : TI := fun σ H R => ∃ mu δ S, SR K cl mu H S ∧ ERel K cl S.length mu H σ δ ∧ Af K cl (ItR K cl) S.length mu H σ W (f δ S) R
structure FI (X : Cx) (cl : Cl) (W : WX) (tg iter : Expr) (f : DI) : Prop where
  pi : PI X tg iter (tI X.K cl W f)
theorem pi_imp {tg it : Expr} {t t' : TI} (h : PI X tg it t) (i : ∀ σ H R, t' σ H R → t σ H R) : PI X tg it t' := ⟨fun pins s σ H R I q => h.run pins s σ H R I (i σ H R q)⟩
/-- over a list -/
def iLst (f : DE) : DI := fun δ S => (f δ S).bind fun x S1 => match x with
  | .lst xs => .ok (xs, none) S1
  | .scr xs => .ok (xs, none) S1
  | .ref l => match S1[l]? with
    | some (some (.lst xs)) => .ok (xs, some (l, xs)) S1
    | _ => .stuck
  | _ => .stuck
theorem it_list {K : PySem.W.Frag} {n : Nat} {mu : Mu} {H : Hp} {a : Addr} {xs : List D} {c : Ck} (h : ∀ mu' H' S', Pr n mu H S'.length mu' H' → SR K cl mu' H' S' → ckS c S' → ∃ vs, SqL K H' a vs ∧ VRels K cl S'.length mu' H' vs xs) : ItR K cl n mu H (Itl K a) (xs, c) := ⟨fun mu' H' S' e s q i => by
  obtain ⟨vs, h1, r⟩ := h mu' H' S' e s q
  refine ⟨fun hi => ⟨vs, h1, by rw [r.length]; exact Nat.le_of_eq hi.symm⟩, fun d hd => ?_⟩
  obtain ⟨v, hv, rv⟩ := r.get (i := i) hd
  refine ⟨⟨vs, v, h1, hv⟩, fun x H2 y => ?_⟩
  obtain ⟨e2, y⟩ := y
  subst e2
  have ex := y vs h1
  rw [hv] at ex
  cases ex
  exact ⟨s.rfl', s, rv⟩⟩
end
end Mi
namespace Mi
open PySem L2

section
variable {X : Cx} {cl : Cl} {W : WX} {a b c e : Expr} {fa fb fc : DE} {pos : Pos} {k : Nat} {st : Stmt} {rest : List Stmt} {f g : DS} {ga : DT}
theorem fi_of {tg it : Expr} {t : TI} {f : DI} (h : PI X tg it t) (i : ∀ mu δ S σ H R, SR X.K cl mu H S → ERel X.K cl S.length mu H σ δ → Af X.K cl (ItR X.K cl) S.length mu H σ W (f δ S) R → t σ H R) : FI X cl W tg it f :=
  ⟨pi_imp h fun σ H R ⟨mu, δ, S, s, r, q⟩ => i mu δ S σ H R s r q⟩
/-- a value that is walked as a list: its address, and that it stays -/
theorem walks {K : PySem.W.Frag} {mu : Mu} {H : Hp} {S : Store} {v : V} {xs : List D} {x : D} {c : Ck} (s : SR K cl mu H S) (r : VRel K cl S.length mu H v x)
    (e : (x = .lst xs ∧ c = none) ∨ (x = .scr xs ∧ c = none) ∨ ∃ l, x = .ref l ∧ S[l]? = some (some (.lst xs)) ∧ c = some (l, xs)) :
    ∃ a, v = .ref a ∧ ∀ mu' H' S', Pr S.length mu H S'.length mu' H' → SR K cl mu' H' S' → ckS c S' → ∃ vs, SqL K H' a vs ∧ VRels K cl S'.length mu' H' vs xs := by
  rcases e with ⟨rfl, rfl⟩ | ⟨rfl, rfl⟩ | ⟨l, rfl, hx, rfl⟩
  · cases r with
    | lst f rs => exact ⟨_, rfl, fun mu' H' S' e s _ => ⟨_, (f.pr e).sq, rs.pr e⟩⟩
  · cases r with
    | scr f rs => exact ⟨_, rfl, fun mu' H' S' e s _ => ⟨_, (f.pr e).sq, rs.pr e⟩⟩
  · obtain ⟨a, rfl, hm, o⟩ := ref_at s r hx
    have hl : l < S.length := (List.getElem?_eq_some_iff.mp hx).1
    refine ⟨a, rfl, fun mu' H' S' e s' q => ?_⟩
    obtain ⟨a', hm', o'⟩ := s'.live l _ q
    have := e.old l a' hl hm'
    rw [hm] at this
    cases this
    cases o' with
    | lst hH rs => exact ⟨_, .inl (.inl hH), rs⟩
theorem fi_lst {tg : Expr} (h : FE X cl W a fa) : FI X cl W tg a (iLst fa) := fi_of (pi_list h.pe) fun mu δ S σ H R s r q => by
  refine ⟨mu, δ, S, s, r, (Af.bind q).mono fun v H1 ⟨mu1, d, S1, s1, e1, r1, q1⟩ => ?_⟩
  split at q1
  · rename_i xs
    obtain ⟨a, rfl, w⟩ := walks (c := none) s1 r1 (.inl ⟨rfl, rfl⟩)
    obtain ⟨vs, h1, _⟩ := w mu1 H1 S1 s1.rfl'.pr s1 True.intro
    exact ⟨a, rfl, ⟨vs, h1⟩, Af.now q1 s1 (it_list w)⟩
  · rename_i xs
    obtain ⟨a, rfl, w⟩ := walks (c := none) s1 r1 (.inr (.inl ⟨rfl, rfl⟩))
    obtain ⟨vs, h1, _⟩ := w mu1 H1 S1 s1.rfl'.pr s1 True.intro
    exact ⟨a, rfl, ⟨vs, h1⟩, Af.now q1 s1 (it_list w)⟩
  · split at q1
    · rename_i l _ xs hx
      obtain ⟨a, rfl, w⟩ := walks (c := some (l, xs)) s1 r1 (.inr (.inr ⟨l, rfl, hx, rfl⟩))
      obtain ⟨vs, h1, _⟩ := w mu1 H1 S1 s1.rfl'.pr s1 hx
      exact ⟨a, rfl, ⟨vs, h1⟩, Af.now q1 s1 (it_list w)⟩
    · exact q1.elim
  · exact q1.elim
/-- over a tuple -/
def iTup (f : DE) : DI := fun δ S => (f δ S).bind fun x S1 => match x with
  | .tup xs => .ok (xs, none) S1
  | _ => .stuck
theorem fi_tup {tg : Expr} (h : FE X cl W a fa) : FI X cl W tg a (iTup fa) := fi_of (pi_tup h.pe) fun mu δ S σ H R s r q => by
  refine ⟨mu, δ, S, s, r, (Af.bind q).mono fun v H1 ⟨mu1, d, S1, s1, e1, r1, q1⟩ => ?_⟩
  split at q1
  · rename_i xs
    cases r1 with
    | @tup a vs _ f rs =>
      refine ⟨a, rfl, ⟨vs, f.sq⟩, Af.now q1 s1 ⟨fun mu' H' S' e s _ i => ⟨fun hi => ⟨vs, (f.pr e).sq, by rw [rs.length]; exact Nat.le_of_eq hi.symm⟩, fun d hd => ?_⟩⟩⟩
      obtain ⟨v, hv, rv⟩ := rs.get (i := i) hd
      refine ⟨⟨vs, v, (f.pr e).sq, hv⟩, fun x H2 y => ?_⟩
      obtain ⟨e2, y⟩ := y
      subst e2
      have ex := y vs (f.pr e).sq
      rw [hv] at ex
      cases ex
      exact ⟨s.rfl', s, rv.pr e⟩
  · exact q1.elim
/-- over range(n), range(m, n) -/
def rngD (lo : Int) (n : Nat) : List D := (List.range n).map fun i : Nat => .int (lo + i)
theorem it_range {K : PySem.W.Frag} {n : Nat} {mu : Mu} {H : Hp} {lo : Int} {m : Nat} : ItR K cl n mu H (Itr lo m) (rngD lo m, none) := ⟨fun mu' H' S' e s _ i => by
  have hl : (rngD lo m).length = m := by unfold rngD; rw [List.length_map, List.length_range]
  refine ⟨fun hi => by show m ≤ i; rw [← hl]; exact Nat.le_of_eq hi.symm, fun d hd => ?_⟩
  have hi : i < m := by have := (List.getElem?_eq_some_iff.mp hd).1; rw [← hl]; exact this
  refine ⟨hi, fun x H2 y => ?_⟩
  obtain ⟨e1, e2⟩ := y
  subst e1 e2
  have hd' : d = .int (lo + i) := by
    unfold rngD at hd
    rw [List.getElem?_map, List.getElem?_range hi] at hd
    cases hd; rfl
  subst hd'
  exact ⟨s.rfl', s, .int _⟩⟩
def iRange1 (f : DA) : DI := fun δ S => (f δ S).bind fun ds S1 => match ds with
  | [.int j] => if -(2 ^ 62) ≤ j ∧ j < 2 ^ 62 then .ok (rngD 0 j.toNat, none) S1 else .stuck
  | _ => .stuck
def iRange2 (f : DA) : DI := fun δ S => (f δ S).bind fun ds S1 => match ds with
  | [.int i, .int j] => if -(2 ^ 62) ≤ i ∧ i < 2 ^ 62 ∧ -(2 ^ 62) ≤ j ∧ j < 2 ^ 62 then .ok (rngD i (j - i).toNat, none) S1 else .stuck
  | _ => .stuck
theorem fi_range1 {tg : Expr} {p : Pos} {fa : DA} (hm : X.mg "range" = none) (h : FA X cl W [a] fa) (hg : Gl X "range" := by rfl) (hs : starEach [a] X.env = [(false, eval a X.env)] := by rfl) : FI X cl W tg (.Call (.Name "range" p) [a] [] pos) (iRange1 fa) :=
  fi_of (pi_range1 hg hm h.pa hs) fun mu δ S σ H R s r q => by
  refine ⟨mu, δ, S, s, r, (Af.bind q).mono fun v H1 ⟨mu1, d, S1, s1, e1, r1, q1⟩ => ?_⟩
  split at q1
  · split at q1
    · rename_i hz
      cases r1 with
      | cons h1 r2 =>
        cases r2
        cases h1
        exact ⟨_, rfl, hz.1, hz.2, Af.now q1 s1 it_range⟩
    · exact q1.elim
  · exact q1.elim
theorem fi_range2 {tg : Expr} {p : Pos} {fa : DA} (hm : X.mg "range" = none) (h : FA X cl W [a, b] fa) (hg : Gl X "range" := by rfl) (hs : starEach [a, b] X.env = [(false, eval a X.env), (false, eval b X.env)] := by rfl) (hs2 : starEach [b] X.env = [(false, eval b X.env)] := by rfl) :
    FI X cl W tg (.Call (.Name "range" p) [a, b] [] pos) (iRange2 fa) :=
  fi_of (pi_range2 hg hm h.pa hs hs2) fun mu δ S σ H R s r q => by
  refine ⟨mu, δ, S, s, r, (Af.bind q).mono fun v H1 ⟨mu1, d, S1, s1, e1, r1, q1⟩ => ?_⟩
  split at q1
  · split at q1
    · rename_i hz
      cases r1 with
      | cons h1 r2 =>
        cases r2 with
        | cons h2 r3 =>
          cases r3
          cases h1
          cases h2
          exact ⟨_, _, rfl, hz, Af.now q1 s1 it_range⟩
    · exact q1.elim
  · exact q1.elim
/-- over a text -/
def iStr (f : DE) : DI := fun δ S => (f δ S).bind fun x S1 => match x with
  | .str z => .ok (z.cps.toList.map fun c => .str ⟨#[c]⟩, none) S1
  | _ => .stuck
theorem fi_str {tg : Expr} (h : FE X cl W a fa) : FI X cl W tg a (iStr fa) := fi_of (pi_str h.pe) fun mu δ S σ H R s r q => by
  refine ⟨mu, δ, S, s, r, (Af.bind q).mono fun v H1 ⟨mu1, d, S1, s1, e1, r1, q1⟩ => ?_⟩
  split at q1
  · rename_i z
    cases r1
    refine ⟨z, rfl, Af.now q1 s1 ⟨fun mu' H' S' e s _ i => ?_⟩⟩
    have hl : (z.cps.toList.map fun c => D.str ⟨#[c]⟩).length = z.cps.size := by simp
    refine ⟨fun hi => by show z.cps.size ≤ i; rw [← hl]; exact Nat.le_of_eq hi.symm, fun d hd => ?_⟩
    have hi : i < z.cps.size := by have := (List.getElem?_eq_some_iff.mp hd).1; rw [← hl]; exact this
    refine ⟨hi, fun x H2 y => ?_⟩
    obtain ⟨e1, c, hc, e2⟩ := y
    subst e1 e2
    have hd' : d = .str ⟨#[c]⟩ := by
      rw [List.getElem?_map] at hd
      have hc' : z.cps.toList[i]? = some c := by simpa using hc
      rw [hc'] at hd
      cases hd; rfl
    subst hd'
    exact ⟨s.rfl', s, .str _⟩
  · exact q1.elim
/-- enumerate -/
def enumD (i : Nat) : List D → List D
  | [] => []
  | x :: xs => .tup [.int i, x] :: enumD (i + 1) xs
theorem enumD_get : ∀ (xs : List D) (j i : Nat), (enumD j xs)[i]? = xs[i]?.map fun x => D.tup [.int ((j + i : Nat) : Int), x]
  | [], j, i => by simp [enumD]
  | x :: xs, j, 0 => by simp [enumD]
  | x :: xs, j, i + 1 => by
    have := enumD_get xs (j + 1) i
    simp only [enumD, List.getElem?_cons_succ, this]
    congr 1
    funext y
    rw [Nat.add_assoc, Nat.add_comm 1 i]
theorem enumD_length : ∀ (xs : List D) (j : Nat), (enumD j xs).length = xs.length
  | [], _ => rfl
  | x :: xs, j => by simp only [enumD, List.length_cons, enumD_length xs]
def iEnum (f : DA) : DI := fun δ S => (f δ S).bind fun ds S1 => match ds with
  | [.lst xs] => .ok (enumD 0 xs, none) S1
  | [.scr xs] => .ok (enumD 0 xs, none) S1
  | [.ref l] => match S1[l]? with
    | some (some (.lst xs)) => .ok (enumD 0 xs, some (l, xs)) S1
    | _ => .stuck
  | _ => .stuck
theorem it_enum {K : PySem.W.Frag} {n : Nat} {mu : Mu} {H : Hp} {a : Addr} {xs : List D} {c : Ck} (h : ∀ mu' H' S', Pr n mu H S'.length mu' H' → SR K cl mu' H' S' → ckS c S' → ∃ vs, SqL K H' a vs ∧ VRels K cl S'.length mu' H' vs xs) : ItR K cl n mu H (Ite K a) (enumD 0 xs, c) := ⟨fun mu' H' S' e s q i => by
  obtain ⟨vs, h1, r⟩ := h mu' H' S' e s q
  refine ⟨fun hi => ⟨vs, h1, by rw [r.length]; rw [enumD_length] at hi; exact Nat.le_of_eq hi.symm⟩, fun d hd => ?_⟩
  rw [enumD_get] at hd
  cases hx : xs[i]? with
  | none => rw [hx] at hd; cases hd
  | some dx =>
    rw [hx] at hd
    cases hd
    obtain ⟨v, hv, rv⟩ := r.get (i := i) hx
    refine ⟨⟨vs, v, h1, hv⟩, fun x H2 y => ?_⟩
    obtain ⟨T, x', rfl, hT, rfl, y⟩ := y
    have ex := y vs h1
    rw [hv] at ex
    cases ex
    refine ⟨ext_new s hT, sr_new s hT, .tup (.inl (fz_new s hT)) (.cons ?_ (.cons (rv.mono (ext_new s hT)) .nil))⟩
    rw [Nat.zero_add]
    exact .int _⟩
theorem fi_enum {elts : List Expr} {kk : Nat} {tpos p : Pos} {fa : DA} (hm : X.mg "enumerate" = none) (h : FA X cl W [a] fa) (hg : Gl X "enumerate" := by rfl) (hs : starEach [a] X.env = [(false, eval a X.env)] := by rfl) :
    FI X cl W (.Tuple elts kk tpos) (.Call (.Name "enumerate" p) [a] [] pos) (iEnum fa) := fi_of (pi_enum hg hm h.pa hs) fun mu δ S σ H R s r q => by
  refine ⟨mu, δ, S, s, r, (Af.bind q).mono fun v H1 ⟨mu1, d, S1, s1, e1, r1, q1⟩ => ?_⟩
  split at q1
  · rename_i xs
    cases r1 with
    | cons h1 r2 =>
      cases r2
      obtain ⟨a, rfl, w⟩ := walks (c := none) s1 h1 (.inl ⟨rfl, rfl⟩)
      obtain ⟨vs, hv, _⟩ := w mu1 H1 S1 s1.rfl'.pr s1 True.intro
      exact ⟨a, vs, rfl, hv, Af.now q1 s1 (it_enum w)⟩
  · rename_i xs
    cases r1 with
    | cons h1 r2 =>
      cases r2
      obtain ⟨a, rfl, w⟩ := walks (c := none) s1 h1 (.inr (.inl ⟨rfl, rfl⟩))
      obtain ⟨vs, hv, _⟩ := w mu1 H1 S1 s1.rfl'.pr s1 True.intro
      exact ⟨a, vs, rfl, hv, Af.now q1 s1 (it_enum w)⟩
  · split at q1
    · rename_i l _ xs hx
      cases r1 with
      | cons h1 r2 =>
        cases r2
        obtain ⟨a, rfl, w⟩ := walks (c := some (l, xs)) s1 h1 (.inr (.inr ⟨l, rfl, hx, rfl⟩))
        obtain ⟨vs, hv, _⟩ := w mu1 H1 S1 s1.rfl'.pr s1 hx
        exact ⟨a, vs, rfl, hv, Af.now q1 s1 (it_enum w)⟩
    · exact q1.elim
  · exact q1.elim

/-! for -/
open Classical in
noncomputable def forD (ck : Ck) (g : DG) (f : DS) : List D → DS
  | [], δ, S => if ckS ck S then .nx δ S else .stuck
  | d :: ds, δ, S => if ckS ck S then match g d S with
    | some da => match f (setAll δ da) S with
      | .nx δ' S' => forD ck g f ds δ' S'
      | .ct δ' S' => forD ck g f ds δ' S'
      | .bk δ' S' => .nx δ' S'
      | o => o
    | none => .stuck
    else .stuck
noncomputable def sFor (i : DI) (g : DG) (f : DS) : DS := fun δ S => toS δ (i δ S) fun p S1 => forD p.2 g f p.1 δ S1
theorem fs_for {tg it : Expr} {body : List Stmt} {i : DI} {gg : DG} (G : Good X W k) (hi : FI X cl W tg it i) (hg : FG X cl tg gg) (hb : FSs X cl W body f) (hs : ∀ x, foldedSetIterable it X.env x = pure x := by intro _; rfl) :
    FS X cl W (.For tg it body [] pos) (sFor i gg f) := fs_of (ps_for G.own G.calm hi.pi hg.pg hb.pss hs) fun mu δ S σ H D s r q => by
  refine ⟨mu, δ, S, s, r, (AfS.toS r q).mono fun J H1 ⟨mu1, p, S1, s1, e1, r1, q1⟩ => ?_⟩
  obtain ⟨items, ck⟩ := p
  have rr := r.mono e1
  refine ⟨fun i m σ' H' => m = items.length - i ∧ i ≤ items.length ∧ ∃ mu' δ' S', Ext S1.length mu1 H1 S'.length mu' H' ∧ SR X.K cl mu' H' S' ∧ ERel X.K cl S'.length mu' H' σ' δ' ∧ AfS X.K cl S'.length mu' H' W (forD ck gg f (items.drop i) δ' S') D,
    ⟨_, rfl, Nat.zero_le _, mu1, δ, S1, s1.rfl', s1, rr, q1⟩, ?_⟩
  rintro i m σ' H' ⟨rfl, hle, mu', δ', S', e', s', r', q'⟩
  by_cases hc : ckS ck S'
  · obtain ⟨t1, t2⟩ := r1.turn mu' H' S' e'.pr s' hc i
    by_cases hlt : i < items.length
    · have hd : items.drop i = items[i] :: items.drop (i + 1) := List.drop_eq_getElem_cons hlt
      rw [hd] at q'
      unfold forD at q'
      rw [if_pos hc] at q'
      obtain ⟨go, yl⟩ := t2 items[i] (List.getElem?_eq_getElem hlt)
      refine .inr ⟨go, _, fun _ _ h => h, fun x H2 y => ?_⟩
      obtain ⟨e2, s2, r2⟩ := yl x H2 y
      split at q'
      · rename_i da hda
        refine ⟨mu', S', _, da, s2, r2, hda, fun va hv => ?_⟩
        have rb := ERel.setAll hv (r'.mono e2)
        refine ⟨mu', setAll δ' da, S', s2, rb, ?_⟩
        have q2 := AfS.ext e2 q'
        have nxt : ∀ {δ3 : Env} {S3 : Store}, AfS X.K cl S'.length mu' H2 W (forD ck gg f (items.drop (i + 1)) δ3 S3) D → ∀ σ3 H3 mu3, Ext S'.length mu' H2 S3.length mu3 H3 → SR X.K cl mu3 H3 S3 → ERel X.K cl S3.length mu3 H3 σ3 δ3 →
            ∃ m', m' < items.length - i ∧ m' = items.length - (i + 1) ∧ i + 1 ≤ items.length ∧ ∃ mu' δ' S', Ext S1.length mu1 H1 S'.length mu' H3 ∧ SR X.K cl mu' H3 S' ∧ ERel X.K cl S'.length mu' H3 σ3 δ' ∧ AfS X.K cl S'.length mu' H3 W (forD ck gg f (items.drop (i + 1)) δ' S') D :=
          fun {δ3 S3} q3 σ3 H3 mu3 e3 s3 r3 => ⟨_, by omega, rfl, hlt, mu3, δ3, S3, (e'.trans e2).trans e3, s3, r3, AfS.ext e3 q3⟩
        cases z : f (setAll δ' da) S' with
        | nx δ3 S3 => rw [z] at q2; exact nxt q2
        | ct δ3 S3 => rw [z] at q2; exact nxt q2
        | bk δ3 S3 => rw [z] at q2; exact q2
        | rt d S3 => rw [z] at q2; exact q2
        | exc C fs δ3 S3 => rw [z] at q2; exact q2
        | stuck => rw [z] at q2; exact q2
      · exact q'.elim
    · have hi : i = items.length := by omega
      subst hi
      rw [List.drop_length] at q'
      unfold forD at q'
      rw [if_pos hc] at q'
      exact .inl ⟨t1 rfl, AfS.now q' s' r'⟩
  · exfalso
    cases hd : items.drop i with
    | nil => rw [hd] at q'; unfold forD at q'; rw [if_neg hc] at q'; exact q'
    | cons d ds => rw [hd] at q'; unfold forD at q'; rw [if_neg hc] at q'; exact q'
end
end Mi
namespace Mi
open PySem L2

/-! comprehensions: the list in the making is nobody's -/
def zAdd (mu : Mu) (p : Addr) : Mu := ⟨mu.f, fun b => mu.z b ∨ b = p⟩
def zOff (mu mu0 : Mu) : Mu := ⟨mu.f, mu0.z⟩
def noX {α : Type} (o : Out α) : Out α := match o with
  | .ok a S => .ok a S
  | _ => .stuck
@[simp] theorem noX_ok {α : Type} (a : α) (S : Store) : noX (.ok a S) = .ok a S := rfl
open Classical in
noncomputable def compD (g : DG) (t : DT) (f : DE) (c : Ck) (δ : Env) : List D → Store → Out (List D)
  | [], S => if ckS c S then .ok [] S else .stuck
  | d :: ds, S => if ckS c S then match g d S with
    | some da => (noX (t (setAll δ da) S)).bind fun b S1 => if b then (noX (f (setAll δ da) S1)).bind fun x S2 => (compD g t f c δ ds S2).bind fun xs S3 => .ok (x :: xs) S3 else compD g t f c δ ds S1
    | none => .stuck
    else .stuck
def wipeD (δ : Env) : List Nat → Env
  | [] => δ
  | v :: vs => (wipeD δ vs).set v none
def lcEnd (live : Bool) (acc xs : List D) (S : Store) : Out D := if live then .ok (.ref S.length) (S ++ [some (.lst (acc ++ xs))]) else .ok (.lst (acc ++ xs)) S
noncomputable def eLc (live : Bool) (vs : List Nat) (i : DI) (g : DG) (t : DT) (f : DE) : DE := fun δ S => (i δ S).bind fun p S1 => if p.1.length ≤ sizeLine then
  (compD g t f p.2 (wipeD δ vs) p.1 S1).bind (lcEnd live []) else .stuck
def tYesD : DT := fun _ S => .ok true S
def GIx (g : DG) (vs : List Nat) : Prop := ∀ d S da, g d S = some da → ∀ p ∈ da, p.1 ∈ vs
def GIxs (g : DGs) (vs : List Nat) : Prop := ∀ d S da, g d S = some da → ∀ p ∈ da, p.1 ∈ vs
theorem gix_name {i : Nat} {vs : List Nat} (h : i ∈ vs := by decide) : GIx (gName i) vs := fun d S da e p hp => by
  cases e
  cases List.mem_singleton.mp hp
  exact h
theorem gix_nil {vs : List Nat} : GIxs gNil vs := fun d S da e p hp => by
  unfold gNil at e
  split at e
  · cases e; cases hp
  · cases e
theorem gix_cons {g : DG} {gs : DGs} {vs : List Nat} (h : GIx g vs) (hs : GIxs gs vs) : GIxs (gCons g gs) vs := fun d S da e p hp => by
  unfold gCons at e
  split at e
  · split at e
    · rename_i x y ex ey
      cases e
      rcases List.mem_append.mp hp with q | q
      · exact h _ _ _ ex p q
      · exact hs _ _ _ ey p q
    · cases e
  · cases e
theorem gix_tup {n : Nat} {gs : DGs} {vs : List Nat} (hs : GIxs gs vs) : GIx (gTup n gs) vs := fun d S da e p hp => by
  unfold gTup at e
  split at e
  · split at e
    · exact hs _ _ _ e p hp
    · cases e
  · cases e
theorem wipe_comm (σ : St) (v : Nat) : ∀ vs : List Nat, wipe (σ.set v none) vs = (wipe σ vs).set v none
  | [] => rfl
  | u :: vs => by
    unfold wipe
    rw [wipe_comm σ v vs]
    by_cases e : v = u
    · subst e; rfl
    · rw [List.set_comm _ _ e]
theorem wipe_set {v : Nat} {x : Option V} : ∀ {vs : List Nat} {σ : St}, v ∈ vs → wipe (σ.set v x) vs = wipe σ vs
  | [], _, h => by cases h
  | u :: vs, σ, h => by
    unfold wipe
    by_cases e : v = u
    · subst e
      by_cases hm : v ∈ vs
      · rw [wipe_set hm]
      · have : ∀ (ws : List Nat) (y : Option V), v ∉ ws → wipe (σ.set v y) ws = (wipe σ ws).set v y := fun ws y hw => by
          induction ws with
          | nil => rfl
          | cons w ws ih =>
            unfold wipe
            rw [ih fun z => hw (List.mem_cons_of_mem _ z), List.set_comm _ _ fun z => hw (by rw [z]; exact List.mem_cons_self)]
        rw [this vs x hm, List.set_set]
    · rcases List.mem_cons.mp h with q | q
      · exact absurd q e
      · rw [wipe_set q]
theorem wipe_all {vs : List Nat} : ∀ {va : List (Nat × V)} {σ : St}, (∀ p ∈ va, p.1 ∈ vs) → wipe (setAll σ va) vs = wipe σ vs
  | [], _, _ => rfl
  | p :: va, σ, h => by
    show wipe (setAll (σ.set p.1 (some p.2)) va) vs = _
    rw [wipe_all fun q hq => h q (List.mem_cons_of_mem _ hq), wipe_set (h p List.mem_cons_self)]
theorem wipe_wipe (σ : St) (vs : List Nat) : wipe (wipe σ vs) vs = wipe σ vs := by
  have : ∀ ws : List Nat, (∀ w ∈ ws, w ∈ vs) → wipe (wipe σ ws) vs = wipe σ vs := fun ws => by
    induction ws with
    | nil => intro _; rfl
    | cons w ws ih =>
      intro h
      show wipe ((wipe σ ws).set w none) vs = _
      rw [wipe_set (h w List.mem_cons_self)]
      exact ih fun z hz => h z (List.mem_cons_of_mem _ hz)
  exact this vs fun _ h => h
section
variable {K : PySem.W.Frag} {cl : Cl} {n : Nat} {mu mu0 : Mu} {H : Hp} {S : Store} {σ : St} {δ : Env} {W : WX}
theorem ERel.wipe (r : ERel K cl n mu H σ δ) : ∀ vs : List Nat, ERel K cl n mu H (wipe σ vs) (wipeD δ vs)
  | [] => r
  | v :: vs => by
    have q := ERel.wipe r vs
    unfold L2.wipe wipeD
    refine ⟨by rw [List.length_set, List.length_set]; exact q.1, fun j d e => ?_⟩
    by_cases hj : v = j
    · subst hj
      by_cases hl : v < (wipeD δ vs).length
      · rw [List.getElem?_set_self hl] at e; cases e
      · rw [List.getElem?_eq_none (by rw [List.length_set]; omega)] at e; cases e
    · rw [List.getElem?_set_ne hj] at e ⊢
      exact q.2 j d e
/-- a new thing that nobody has -/
theorem pr_zadd {p : Addr} {o : HO} (hp : H p = none) : Pr n mu H n (zAdd mu p) (upd H p o) where
  le := Nat.le_refl _
  keep := fun a u h f => ⟨by rw [upd_ne (ne_of_none h hp)]; exact h, f.1, fun z => z.elim f.2 (ne_of_none h hp)⟩
  old := fun _ _ _ h => h
theorem sr_zadd (s : SR K cl mu H S) {p : Addr} {o : HO} (hp : H p = none) : SR K cl (zAdd mu p) (upd H p o) S :=
  s.re (pr_zadd hp) rfl (fun l a h => upd_ne fun z => s.ne hp l (by rw [← z]; exact h)) (fun a h => by
    by_cases e : a = p
    · rw [e, upd_same]; exact fun z => nomatch z
    · rw [upd_ne e]; exact s.zt a (h.resolve_right e)) fun l a h z => z.elim (s.zd l a h) fun e => s.ne hp l (by rw [← e]; exact h)
theorem pr_zput {p : Addr} {o : HO} (hz : mu.z p) : Pr n mu H n mu (upd H p o) where
  le := Nat.le_refl _
  keep := fun a u h f => ⟨by rw [upd_ne fun e => f.2 (by rw [e]; exact hz)]; exact h, f⟩
  old := fun _ _ _ h => h
theorem sr_zput (s : SR K cl mu H S) {p : Addr} {o : HO} (hz : mu.z p) : SR K cl mu (upd H p o) S :=
  s.re (pr_zput hz) rfl (fun l a h => upd_ne fun e => s.zd l a h (by rw [e]; exact hz)) (fun a h => by
    by_cases e : a = p
    · rw [e, upd_same]; exact fun z => nomatch z
    · rw [upd_ne e]; exact s.zt a h) s.zd
/-- what is the state behind a comprehension -/
structure LcI (K : PySem.W.Frag) (cl : Cl) (n0 : Nat) (mu0 : Mu) (H0 : Hp) (Dd : Addr) (S : Store) (mu : Mu) (H : Hp) (acc : List D) (va : List V) : Prop where
  e : Ext n0 mu0 H0 S.length (zOff mu mu0) H
  s : SR K cl mu H S
  z : mu.z = (zAdd mu0 Dd).z
  h0 : H0 Dd = none
  n0 : ¬ mu0.z Dd
  at_ : H Dd = some (.lst va)
  r : VRels K cl S.length mu H va acc
theorem LcI.pr {n0 : Nat} {mu0 : Mu} {H0 : Hp} {Dd : Addr} {acc : List D} {va : List V} (I : LcI K cl n0 mu0 H0 Dd S mu H acc va) : Pr n0 mu0 H0 S.length mu H := ⟨I.e.le, fun a o h f => ⟨I.e.keep a o h f.1, (I.e.out h f).1, fun z => by
  rw [I.z] at z
  exact z.elim f.2 (ne_of_none h I.h0)⟩, I.e.old⟩
theorem LcI.off {n0 : Nat} {mu0 : Mu} {H0 : Hp} {Dd : Addr} {acc : List D} {va : List V} (I : LcI K cl n0 mu0 H0 Dd S mu H acc va) (live : Bool) {Q : VK}
    (q : Af K cl (VRel K cl) n0 mu0 H0 σ W (if live then .ok (.ref S.length) (S ++ [some (.lst acc)]) else .ok (.lst acc) S) Q) : Q (.ref Dd) H := by
  have hz : mu.z Dd := by rw [I.z]; exact .inr rfl
  have nz : ∀ a, mu0.z a → mu.z a := fun a h => by rw [I.z]; exact .inl h
  have nr : ∀ l, mu l ≠ some Dd := fun l e => I.s.zd l Dd e hz
  cases live with
  | false =>
    have p : Pr S.length mu H S.length (zOff mu mu0) H := ⟨Nat.le_refl _, fun a o h f => ⟨h, f.1, fun z => f.2 (nz a z)⟩, fun _ _ _ h => h⟩
    refine q _ _ _ I.e (I.s.re p rfl (fun _ _ _ => rfl) (fun a h => I.s.zt a (nz a h)) fun l a h z => I.s.zd l a h (nz a z)) (.lst ⟨I.at_, nr, I.n0⟩ (I.r.pr p))
  | true =>
    have p : Pr S.length mu H (S ++ [some (O.lst acc)]).length (muAdd (zOff mu mu0) S.length Dd) H := by
      refine ⟨by simp, fun a o h f => ⟨h, fun l e => ?_, fun z => f.2 (nz a z)⟩, fun l a hl h => ?_⟩
      · dsimp only [muAdd] at e
        split at e
        · cases e; exact f.2 hz
        · exact f.1 l e
      · dsimp only [muAdd] at h
        rw [if_neg (Nat.ne_of_lt hl)] at h
        exact h
    refine q (.ref Dd) H (muAdd (zOff mu mu0) S.length Dd) ?_ ?_ (.ref (by simp) fun a e => by
      dsimp only [muAdd] at e
      rw [if_pos rfl] at e
      cases e; rfl)
    · refine ⟨by simp; exact Nat.le_succ_of_le I.e.le, I.e.keep, fun l a hl h => ?_, fun l a hl h => ?_, I.e.trk, rfl⟩
      · dsimp only [muAdd] at h
        rw [if_neg (Nat.ne_of_lt (Nat.lt_of_lt_of_le hl I.e.le))] at h
        exact I.e.old l a hl h
      · dsimp only [muAdd] at h
        split at h
        · cases h; exact I.h0
        · exact I.e.new l a hl h
    · refine ⟨fun l m a e1 e2 => ?_, fun l o e => ?_, fun l h => ?_, fun a h => I.s.zt a (nz a h), fun l a h z => ?_⟩
      · dsimp only [muAdd] at e1 e2
        split at e1 <;> split at e2
        · rename_i z1 z2; rw [z1, z2]
        · cases e1; exact absurd e2 (nr m)
        · cases e2; exact absurd e1 (nr l)
        · exact I.s.inj l m a e1 e2
      · by_cases hl : l < S.length
        · rw [List.getElem?_append_left hl] at e
          obtain ⟨a, h1, h2⟩ := I.s.live l o e
          exact ⟨a, by dsimp only [muAdd]; rw [if_neg (Nat.ne_of_lt hl)]; exact h1, h2.pr p rfl⟩
        · have hl' : l = S.length := by
            have := (List.getElem?_eq_some_iff.mp e).1
            rw [List.length_append] at this
            have h1 : ([some (O.lst acc)] : Store).length = 1 := rfl
            omega
          subst hl'
          rw [List.getElem?_append_right (Nat.le_refl _), Nat.sub_self] at e
          cases e
          exact ⟨Dd, if_pos rfl, .lst I.at_ (I.r.pr p)⟩
      · dsimp only [muAdd]
        by_cases e : l = S.length
        · subst e
          exact absurd (by rw [List.getElem?_append_right (Nat.le_refl _), Nat.sub_self]; rfl) (h (.lst acc))
        · rw [if_neg e]
          refine I.s.dead l fun y z => h y ?_
          rw [List.getElem?_append_left (List.getElem?_eq_some_iff.mp z).1]
          exact z
      · dsimp only [muAdd] at h z
        split at h
        · cases h; exact I.n0 z
        · exact I.s.zd l a h (nz a z)
theorem LcI.step {n0 : Nat} {mu0 : Mu} {H0 : Hp} {Dd : Addr} {acc : List D} {va : List V} (I : LcI K cl n0 mu0 H0 Dd S mu H acc va) {S' : Store} {mu' : Mu} {H' : Hp} (e : Ext S.length mu H S'.length mu' H') (s : SR K cl mu' H' S') : LcI K cl n0 mu0 H0 Dd S' mu' H' acc va := by
  have hz : mu.z Dd := by rw [I.z]; exact .inr rfl
  have nr : ∀ l, mu l ≠ some Dd := fun l q => I.s.zd l Dd q hz
  exact ⟨I.e.trans ⟨e.le, e.keep, e.old, e.new, e.trk, rfl⟩, s, e.zz.trans I.z, I.h0, I.n0, e.keep _ _ I.at_ nr, I.r.mono e⟩
theorem LcI.app {n0 : Nat} {mu0 : Mu} {H0 : Hp} {Dd : Addr} {acc : List D} {va : List V} (I : LcI K cl n0 mu0 H0 Dd S mu H acc va) {v : V} {d : D} (r : VRel K cl S.length mu H v d) : LcI K cl n0 mu0 H0 Dd S mu (upd H Dd (.lst (va ++ [v]))) (acc ++ [d]) (va ++ [v]) := by
  have hz : mu.z Dd := by rw [I.z]; exact .inr rfl
  refine ⟨⟨I.e.le, fun a o h f => ?_, I.e.old, I.e.new, fun a h => ?_, I.e.zz⟩, sr_zput I.s hz, I.z, I.h0, I.n0, upd_same, (I.r.append (.cons r .nil)).pr (pr_zput hz)⟩
  · rw [upd_ne (ne_of_none h I.h0)]; exact I.e.keep a o h f
  · by_cases q : a = Dd
    · rw [q]; exact I.h0
    · rw [upd_ne q] at h; exact I.e.trk a h
end

abbrev W0 : WX := fun _ _ _ _ => False
theorem Af.noX {K : PySem.W.Frag} {cl : Cl} {α β α' β' : Type} {R : Rl α β} {R' : Rl α' β'} {n n' : Nat} {mu mu' : Mu} {H H' : Hp} {σ σ' : St} {W W' : WX} {o : Out α} {k : α → Store → Out α'} {Q : β' → Hp → Prop} (h : Af K cl R' n mu H σ W ((noX o).bind k) Q) :
    Af K cl R n' mu' H' σ' W' o (fun v H1 => ∃ mu1 d S1, SR K cl mu1 H1 S1 ∧ Ext n' mu' H' S1.length mu1 H1 ∧ R S1.length mu1 H1 v d ∧ Af K cl R' n mu H σ W (k d S1) Q) := by
  cases o with
  | ok d S' => exact fun v H' mu' e s r => ⟨mu', d, S', s, e, r, h⟩
  | exc C fs S' => exact h.elim
  | stuck => exact h
section
variable {X : Cx} {cl : Cl} {W : WX} {pos : Pos} {k : Nat}
theorem lc_step {live : Bool} {vs : List Nat} {i : DI} {g : DG} {t : DT} {f : DE} (hg : GIx g vs) {mu δ S σ H Q} (s : SR X.K cl mu H S) (r : ERel X.K cl S.length mu H σ δ) (q : Af X.K cl (VRel X.K cl) S.length mu H σ W (eLc live vs i g t f δ S) Q) :
    tLc (tI X.K cl W i) (tG X.K cl g) (tT X.K cl W0 t) (tE X.K cl W0 f) vs σ H Q := by
  refine ⟨mu, δ, S, s, r, (Af.bind q).mono fun J H1 ⟨mu1, p, S1, s1, e1, r1, q1⟩ => ?_⟩
  obtain ⟨items, ck⟩ := p
  dsimp only at q1
  split at q1
  case isFalse => exact q1.elim
  rename_i hz
  intro Dd hD
  have rw0 : ERel X.K cl S1.length mu1 H1 (wipe σ vs) (wipeD δ vs) := (r.mono e1).wipe vs
  have stg : ∀ {mu' : Mu} {H' : Hp} {S' : Store} {acc : List D} {va : List V}, LcI X.K cl S1.length mu1 H1 Dd S' mu' H' acc va → Ext S1.length mu1 H1 S'.length (zOff mu' mu1) H' := fun I => I.e
  refine ⟨fun i m H' => m = items.length - i ∧ i ≤ items.length ∧ ∃ mu' S' acc va, LcI X.K cl S1.length mu1 H1 Dd S' mu' H' acc va ∧ ERel X.K cl S'.length mu' H' (wipe σ vs) (wipeD δ vs) ∧ acc.length ≤ i ∧
      Af X.K cl (VRel X.K cl) S1.length mu1 H1 σ W ((compD g t f ck (wipeD δ vs) (items.drop i) S').bind (lcEnd live acc)) Q,
    ⟨_, rfl, Nat.zero_le _, zAdd mu1 Dd, S1, [], [], ⟨?_, sr_zadd s1 hD, rfl, hD, (s1.ot hD).2, upd_same, .nil⟩, rw0.pr (pr_zadd hD), Nat.le_refl _, q1⟩, ?_⟩
  · exact ⟨Nat.le_refl _, fun a o h _ => by rw [upd_ne (ne_of_none h hD)]; exact h, fun _ _ _ h => h, fun l a hl h => absurd h (by
      have : (zOff (zAdd mu1 Dd) mu1) l = mu1 l := rfl
      rw [this, s1.top l hl]; exact fun z => nomatch z), fun a h => by
      by_cases e : a = Dd
      · rw [e]; exact hD
      · rw [upd_ne e] at h; exact h, rfl⟩
  · rintro i m H' ⟨rfl, hle, mu', S', acc, va, I, r', ha, q'⟩
    by_cases hc : ckS ck S'
    · obtain ⟨t1, t2⟩ := r1.turn mu' H' S' I.pr I.s hc i
      by_cases hlt : i < items.length
      · have hd : items.drop i = items[i] :: items.drop (i + 1) := List.drop_eq_getElem_cons hlt
        rw [hd] at q'
        unfold compD at q'
        rw [if_pos hc] at q'
        obtain ⟨go, yl⟩ := t2 items[i] (List.getElem?_eq_getElem hlt)
        refine .inr ⟨go, _, fun _ h => h, fun x H2 y => ?_⟩
        obtain ⟨e2, s2, r2⟩ := yl x H2 y
        have I2 := I.step e2 s2
        split at q'
        case h_2 => exact q'.elim
        rename_i da hda
        refine ⟨mu', S', _, da, s2, r2, hda, fun va' hv => ?_⟩
        have rb := ERel.setAll hv (r'.mono e2)
        refine ⟨wipe_all (σ := wipe σ vs) (fun p hp => ?_) |>.trans (wipe_wipe σ vs), ?_⟩
        · have : p.1 ∈ va'.map (·.1) := List.mem_map.mpr ⟨p, hp, rfl⟩
          rw [hv.1] at this
          obtain ⟨p', hp', e'⟩ := List.mem_map.mp this
          rw [← e']
          exact hg _ _ _ hda p' hp'
        have q2 : Af X.K cl (VRel X.K cl) S1.length mu1 H1 σ W ((noX (t (setAll (wipeD δ vs) da) S')).bind fun b S1' => (if b then (noX (f (setAll (wipeD δ vs) da) S1')).bind fun x S2 => (compD g t f ck (wipeD δ vs) (items.drop (i + 1)) S2).bind fun xs S3 => .ok (x :: xs) S3 else compD g t f ck (wipeD δ vs) (items.drop (i + 1)) S1').bind (lcEnd live acc)) Q := by
          cases z : noX (t (setAll (wipeD δ vs) da) S') with
          | ok b S1' => rw [z] at q'; exact q'
          | exc C fs S1' => rw [z] at q'; exact q'
          | stuck => rw [z] at q'; exact q'
        refine ⟨mu', _, S', s2, rb, (Af.noX (R := RB) q2).mono fun b H3 ⟨mu3, d3, S3, s3, e3, r3, q3⟩ => ?_⟩
        cases (show b = d3 from r3)
        have I3 := I2.step e3 s3
        have r3' : ERel X.K cl S3.length mu3 H3 (wipe σ vs) (wipeD δ vs) := (r'.mono e2).mono e3
        cases b with
        | false =>
          rw [if_neg Bool.false_ne_true] at q3 ⊢
          exact ⟨_, by omega, rfl, hlt, mu3, S3, acc, va, I3, r3', by omega, q3⟩
        | true =>
          rw [if_pos rfl] at q3 ⊢
          have q4 : Af X.K cl (VRel X.K cl) S1.length mu1 H1 σ W ((noX (f (setAll (wipeD δ vs) da) S3)).bind fun x S2 => (compD g t f ck (wipeD δ vs) (items.drop (i + 1)) S2).bind (lcEnd live (acc ++ [x]))) Q := by
            cases z : noX (f (setAll (wipeD δ vs) da) S3) with
            | ok x S4 =>
              rw [z] at q3
              have q3 : Af X.K cl (VRel X.K cl) S1.length mu1 H1 σ W (((compD g t f ck (wipeD δ vs) (items.drop (i + 1)) S4).bind fun xs S3 => .ok (x :: xs) S3).bind (lcEnd live acc)) Q := q3
              show Af X.K cl (VRel X.K cl) S1.length mu1 H1 σ W ((compD g t f ck (wipeD δ vs) (items.drop (i + 1)) S4).bind (lcEnd live (acc ++ [x]))) Q
              cases z2 : compD g t f ck (wipeD δ vs) (items.drop (i + 1)) S4 with
              | ok xs S5 =>
                rw [z2] at q3
                show Af X.K cl (VRel X.K cl) S1.length mu1 H1 σ W (lcEnd live (acc ++ [x]) xs S5) Q
                have q3 : Af X.K cl (VRel X.K cl) S1.length mu1 H1 σ W (lcEnd live acc (x :: xs) S5) Q := q3
                unfold lcEnd at q3 ⊢
                rw [List.append_assoc]
                exact q3
              | exc C fs S5 => rw [z2] at q3; exact q3
              | stuck => rw [z2] at q3; exact q3
            | exc C fs S4 => rw [z] at q3; exact q3
            | stuck => rw [z] at q3; exact q3
          refine ⟨mu3, _, S3, s3, rb.mono e3, (Af.noX q4).mono fun v H4 ⟨mu4, d4, S4, s4, e4, r4, q5⟩ => ?_⟩
          have I4 := I3.step e4 s4
          have hva : va.length = acc.length := I4.r.length
          have hz4 : mu4.z Dd := by rw [I4.z]; exact .inr rfl
          refine ⟨va, I4.at_, by omega, _, by omega, rfl, hlt, mu4, S4, acc ++ [d4], va ++ [v], I4.app r4, (r3'.mono e4).pr (pr_zput hz4), by rw [List.length_append]; exact Nat.succ_le_succ ha, q5⟩
      · have hi : i = items.length := by omega
        subst hi
        rw [List.drop_length] at q'
        unfold compD at q'
        rw [if_pos hc] at q'
        refine .inl ⟨t1 rfl, ?_⟩
        have q' : Af X.K cl (VRel X.K cl) S1.length mu1 H1 σ W (lcEnd live acc [] S') Q := q'
        unfold lcEnd at q'
        rw [List.append_nil] at q'
        exact I.off live q'
    · exfalso
      cases hd : items.drop i with
      | nil => rw [hd] at q'; unfold compD at q'; rw [if_neg hc] at q'; exact q'
      | cons d ds => rw [hd] at q'; unfold compD at q'; rw [if_neg hc] at q'; exact q'
variable {elt tg iter : Expr} {ifs : List Expr} {scope : Scope} {own : List (Str × Nat)}
structure FTs (X : Cx) (cl : Cl) (W : WX) (es : List Expr) (f : DT) : Prop where
  pts : PTs X es (tT X.K cl W f)
theorem pts_imp {es : List Expr} {t t' : TT} (h : PTs X es t) (i : ∀ σ H Q, t' σ H Q → t σ H Q) : PTs X es t' := ⟨fun pins s σ H Q I q => h.run pins s σ H Q I (i σ H Q q)⟩
theorem fts_nil : FTs X cl W [] tYesD := ⟨pts_imp pts_nil fun σ H Q ⟨mu, δ, S, s, r, q⟩ => Af.now q s rfl⟩
theorem fts_one {c : Expr} {t : DT} (h : FT X cl W c t) : FTs X cl W [c] t := ⟨pts_one h.pt⟩
theorem Good.blk (G : Good X W k) (s : Shared) (H : Hp) (C : Addr) (cl' : List (Str × Addr)) (fp : List Addr) : Good (X.blk s H scope (compEnvC scope cl' C X.env) fp) W0 k := ⟨G.calm, takes0, G.room, G.nd, G.grd, PassesOwn.never⟩
theorem fe_lc {live : Bool} {i : DI} {g : DG} {t : DT} {f : DE} (G : Good X W k) (hi : FI X cl W tg iter i) (ok : BlkOk X.N X.env.scope scope own) (gx : GIx g (own.map (·.2)))
    (hg : ∀ (s : Shared) (H : Hp) (C : Addr) (cl' : List (Str × Addr)) (fp : List Addr), FG (X.blk s H scope (compEnvC scope cl' C X.env) fp) cl tg g)
    (ht : ∀ (s : Shared) (H : Hp) (C : Addr) (cl' : List (Str × Addr)) (fp : List Addr), FTs (X.blk s H scope (compEnvC scope cl' C X.env) fp) cl W0 ifs t)
    (he : ∀ (s : Shared) (H : Hp) (C : Addr) (cl' : List (Str × Addr)) (fp : List Addr), FE (X.blk s H scope (compEnvC scope cl' C X.env) fp) cl W0 elt f) (hs : ∀ x, foldedSetIterable iter X.env x = pure x := by intro _; rfl) :
    FE X cl W (.ListComp elt [⟨tg, iter, ifs, 0⟩] scope pos) (eLc live (own.map (·.2)) i g t f) :=
  fe_of (pe_lc G.calm G.nd hi.pi ok (fun s H C cl' fp => (hg s H C cl' fp).pg) (fun s H C cl' fp => (ht s H C cl' fp).pts) (fun s H C cl' fp => (he s H C cl' fp).pe) hs) fun mu δ S σ H Q s r q => lc_step gx s r q
theorem fs_setLc {live : Bool} {j : Nat} {y : Str} {py spos : Pos} {i : DI} {g : DG} {t : DT} {f : DE} (G : Good X W k) (hi : FI X cl W tg iter i) (ok : BlkOk X.N X.env.scope scope own) (gx : GIx g (own.map (·.2)))
    (hg : ∀ (s : Shared) (H : Hp) (C : Addr) (cl' : List (Str × Addr)) (fp : List Addr), FG (X.blk s H scope (compEnvC scope cl' C X.env) fp) cl tg g)
    (ht : ∀ (s : Shared) (H : Hp) (C : Addr) (cl' : List (Str × Addr)) (fp : List Addr), FTs (X.blk s H scope (compEnvC scope cl' C X.env) fp) cl W0 ifs t)
    (he : ∀ (s : Shared) (H : Hp) (C : Addr) (cl' : List (Str × Addr)) (fp : List Addr), FE (X.blk s H scope (compEnvC scope cl' C X.env) fp) cl W0 elt f)
    (hsw : swapsWith (.ListComp elt [⟨tg, iter, ifs, 0⟩] scope pos) (some (.Name y py)) spos.line X.env = pure true) (hy : X.N[j]? = some y := by rfl) (hyl : X.env.scope.names.lookup y = some .local := by rfl) (hs : ∀ x, foldedSetIterable iter X.env x = pure x := by intro _; rfl) :
    FS X cl W (.Assign [.Name y py] (.ListComp elt [⟨tg, iter, ifs, 0⟩] scope pos) spos) (sSet j (eLc live (own.map (·.2)) i g t f)) :=
  fs_of (ps_setLc G.calm G.nd hy hyl hsw hi.pi ok (fun s H C cl' fp => (hg s H C cl' fp).pg) (fun s H C cl' fp => (ht s H C cl' fp).pts) (fun s H C cl' fp => (he s H C cl' fp).pe) hs) fun mu δ S σ H D s r q =>
    lc_step gx s r ((AfS.toS r q).mono fun v H1 ⟨mu1, d, S1, s1, e1, r1, q1⟩ => AfS.now q1 s1 ((r.mono e1).set r1))
end
end Mi
namespace Mi
open PySem L2

/-! what has no place of the store in it -/
mutual
def noref : D → Bool
  | .ref _ => false
  | .tup xs => norefs xs
  | .lst xs => norefs xs
  | .scr xs => norefs xs
  | .dic kvs => norefK kvs
  | .ins _ fs => norefF fs
  | .exc _ fs => norefF fs
  | _ => true
def norefs : List D → Bool
  | [] => true
  | x :: xs => noref x && norefs xs
def norefK : List (Key × D) → Bool
  | [] => true
  | (_, x) :: xs => noref x && norefK xs
def norefF : List (Str × D) → Bool
  | [] => true
  | (_, x) :: xs => noref x && norefF xs
end
theorem norefK_zip : ∀ {ks : List Key} {ds : List D}, ks.length = ds.length → norefK (ks.zip ds) = true → norefs ds = true
  | [], [], _, _ => rfl
  | k :: ks, d :: ds, hl, h => by
    rw [List.zip_cons_cons] at h
    simp only [norefK, Bool.and_eq_true] at h
    simp only [norefs, Bool.and_eq_true]
    exact ⟨h.1, norefK_zip (by simpa using hl) h.2⟩
theorem norefF_zip : ∀ {ks : List Str} {ds : List D}, ks.length = ds.length → norefF (ks.zip ds) = true → norefs ds = true
  | [], [], _, _ => rfl
  | k :: ks, d :: ds, hl, h => by
    rw [List.zip_cons_cons] at h
    simp only [norefF, Bool.and_eq_true] at h
    simp only [norefs, Bool.and_eq_true]
    exact ⟨h.1, norefF_zip (by simpa using hl) h.2⟩
/-- what is read stands on, places or not -/
def Kp (mu : Mu) (H : Hp) (mu' : Mu) (H' : Hp) : Prop := ∀ a o, H a = some o → Ot mu a → H' a = some o ∧ Ot mu' a
section
variable {K : PySem.W.Frag} {cl : Cl} {n n' : Nat} {mu mu' : Mu} {H H' : Hp}
theorem Fz.kp {a : Addr} {o : HO} (e : Kp mu H mu' H') (h : Fz mu H a o) : Fz mu' H' a o := by
  obtain ⟨h, f⟩ := h
  rcases h with h | ⟨q, h⟩
  · exact ⟨.inl (e _ _ h f).1, (e _ _ h f).2⟩
  · exact ⟨.inr ⟨q, (e _ _ h f).1⟩, (e _ _ h f).2⟩
theorem TupF.kp {a : Addr} {vs : List V} (e : Kp mu H mu' H') (h : TupF K mu H a vs) : TupF K mu' H' a vs := h.elim (fun h => .inl (h.kp e)) .inr
theorem ScrF.kp {a : Addr} {vs : List V} (e : Kp mu H mu' H') (h : ScrF K mu H a vs) : ScrF K mu' H' a vs := h.elim (fun h => .inl (h.kp e)) .inr
theorem LstF.kp {a : Addr} {vs : List V} (e : Kp mu H mu' H') (h : LstF mu H a vs) : LstF mu' H' a vs := e _ _ h.1 h.2
mutual
theorem VRel.nr (e : Kp mu H mu' H') : ∀ {v : V} {d : D}, noref d = true → VRel K cl n mu H v d → VRel K cl n' mu' H' v d
  | _, _, _, .non => .non
  | _, _, _, .bl b => .bl b
  | _, _, _, .int i => .int i
  | _, _, _, .str x => .str x
  | _, _, _, .ty x => .ty x
  | _, _, _, .cls h => .cls h
  | _, _, h, .ref _ _ => by simp [noref] at h
  | _, _, h, .tup f r => .tup (f.kp e) (VRels.nr e (by simpa [noref] using h) r)
  | _, _, h, .lst f r => .lst (f.kp e) (VRels.nr e (by simpa [noref] using h) r)
  | _, _, h, .scr f r => .scr (f.kp e) (VRels.nr e (by simpa [noref] using h) r)
  | _, _, h, .dic f hl r => .dic (f.kp e) hl (VRels.nr e (norefK_zip (hl.trans r.length) (by simpa [noref] using h)) r)
  | _, _, h, .ins hc q f hl r => .ins hc (e _ _ q f).1 (e _ _ q f).2 hl (VRels.nr e (norefF_zip (hl.trans r.length) (by simpa [noref] using h)) r)
theorem VRels.nr (e : Kp mu H mu' H') : ∀ {vs : List V} {ds : List D}, norefs ds = true → VRels K cl n mu H vs ds → VRels K cl n' mu' H' vs ds
  | _, _, _, .nil => .nil
  | _, _, h, .cons q r => by
    simp only [norefs, Bool.and_eq_true] at h
    exact .cons (VRel.nr e h.1 q) (VRels.nr e h.2 r)
end
theorem XF.nr {d : Option Addr} {fs : List (Str × D)} (e : Kp mu H mu' H') (h1 : ∀ a o, H a = some o → H' a = some o) (h : norefF fs = true) (x : XF K cl n mu H d fs) : XF K cl n' mu' H' d fs := by
  rcases x with x | ⟨a, ks, vs, ds, h2, h3, rfl, hl, r⟩
  · exact .inl x
  · exact .inr ⟨a, ks, vs, ds, h2, h1 _ _ h3, rfl, hl, r.nr e (norefF_zip (hl.trans r.length) h)⟩
end

/-- what a def is worth, as its promise -/
def spOf (K : PySem.W.Frag) (cl : Cl) (np : Nat) (g : List D → Store → Out D) : Sp := fun vs H Q E => vs.length = np ∧ ∃ mu ds S, SR K cl mu H S ∧ VRels K cl S.length mu H vs ds ∧ Af K cl (VRel K cl) S.length mu H [] (fun c d _ H' => E c d H') (g ds S) Q
theorem Af.sig {K : PySem.W.Frag} {cl : Cl} {n : Nat} {mu : Mu} {H : Hp} {σ : St} {W : WX} {o : Out D} {Q : VK} (h : Af K cl (VRel K cl) n mu H σ W o Q) : Af K cl (VRel K cl) n mu H [] (fun c d _ H' => WE W σ c d H') o Q := by
  cases o with
  | ok d S' => exact h
  | exc C fs S' => exact h
  | stuck => exact h
/-- a def's body run -/
def runD (n : Nat) (z : DS) (ds : List D) (S : Store) : Out D := match z (ds.map some ++ List.replicate (n - ds.length) none) S with
  | .nx _ S' => .ok .non S'
  | .rt d S' => .ok d S'
  | .exc C fs _ S' => .exc C fs S'
  | _ => .stuck
theorem erel_start {K : PySem.W.Frag} {cl : Cl} {n : Nat} {mu : Mu} {H : Hp} {vs : List V} {ds : List D} {N : List Str} (r : VRels K cl n mu H vs ds) : ERel K cl n mu H (L2.start N vs) (ds.map some ++ List.replicate (N.length - ds.length) none) := by
  unfold L2.start
  refine ⟨by simp only [List.length_append, List.length_map, List.length_replicate, r.length], fun i d e => ?_⟩
  by_cases hi : i < ds.length
  · rw [List.getElem?_append_left (by simpa using hi), List.getElem?_map] at e
    cases hd : ds[i]? with
    | none => rw [hd] at e; cases e
    | some d' =>
      rw [hd] at e
      cases e
      obtain ⟨v, hv, rv⟩ := r.get hd
      refine ⟨v, ?_, rv⟩
      rw [List.getElem?_append_left (by rw [List.length_map, r.length]; exact hi), List.getElem?_map, hv]
      rfl
  · rw [List.getElem?_append_right (by simpa using hi), List.getElem?_replicate] at e
    split at e <;> cases e
/-- a def keeps its promise wherever nothing is being shown -/
structure FnG (P : Program) (w : World) (K : PySem.W.Frag) (mg : Str → Option Value) (base : Heap) (k : Nat) (f : Addr) (fd : FuncData) (ps : List Str) (sp : Sp) : Prop where
  many : ∀ vs H Q E, sp vs H Q E → vs.length = ps.length
  go : ∀ (A : Around) (outer : List PySem.Env) (s : Shared) (H : Hp) (args : Args) (us : List Value) (vs : List V) (Q : VK) (E : XK), Room k A → A.guards = some [] →
    Env0 P w K mg base A outer s H → BindsTo s fd args (ps.zip us) → Vals vs us → sp vs H Q E → codeAny (model P w) A (.call (.ref f) args) (CR (L2.CX P w) outer P w H s Q E) s
theorem FnG.imp {P : Program} {w : World} {K : PySem.W.Frag} {mg : Str → Option Value} {base : Heap} {k : Nat} {f : Addr} {fd : FuncData} {ps : List Str} {sp sp' : Sp}
    (F : FnG P w K mg base k f fd ps sp) (i : ∀ vs H Q E, sp' vs H Q E → sp vs H Q E) : FnG P w K mg base k f fd ps sp' where
  many := fun vs H Q E z => F.many vs H Q E (i vs H Q E z)
  go := fun A o s H a us vs Q E r g e b v z => F.go A o s H a us vs Q E r g e b v (i vs H Q E z)
section
variable {P : Program} {w : World} {K : PySem.W.Frag} {mg : Str → Option Value} {base : Heap} {cl : Cl}
theorem def_ok {x qual : Str} {st : Stmt} {f : Addr} {fd : FuncData} {N ps : List Str} {k np : Nat} (F : Fun K x qual st f fd) (S : FnScope N ps (defScope st)) (hp : ps.length = np) (z : DS)
    (h : ∀ (cdv : Value) (A : Around) (outer : List PySem.Env) (s : Shared) (H : Hp) (E : XK) (W : WX), Good (cxOf (L2.CX P w) P w K mg base N qual (defScope st) f cdv A outer s H E) W k →
      FSs (cxOf (L2.CX P w) P w K mg base N qual (defScope st) f cdv A outer s H E) cl W (defBody st) z) : FnG P w K mg base (k + 1) f fd ps (spOf K cl np (runD N.length z)) := by
  obtain ⟨oc, od, kV, doc, pm, an, cdv, ct, osl, rfl, lk, hcd⟩ := F.ex
  refine ⟨fun vs H Q E hs => hs.1.trans hp.symm, fun A outer s H args us vs Q E room gd env bnd vals hs => ?_⟩
  have nvs : vs.length = ps.length := hs.1.trans hp.symm
  have inK : K.In s.heap := env.mod.kin.keeps fun b o e => (env.bs b o e).1
  have kinds : ∀ y ∈ ps.zip us, (defScope st).names.lookup y.1 = some .local ∨ ((defScope st).names.lookup y.1 = some .cell ∧ ((cellsFrom (s.heap.objs.size + 1) (defScope st).names []).lookup y.1).isSome = true) := by
    rintro ⟨n, v⟩ hy
    exact (S.par n (List.of_mem_zip hy).1).imp id fun q => ⟨q, PySem.W.cellsFrom_some _ _ _ (.inl q)⟩
  refine codeAny_call_function room.depth (inK _ _ lk) rfl S.co S.gen rfl (PySem.W.codeRec_of inK hcd) (bnd _ _ _ _ ?_)
  refine wpAny_newFunctionEnv_cells S.kind kinds fun env1 he s1 x => ?_
  subst he
  refine ⟨(env.mod.nolimit.keeps fun b o e => (env.bs b o e).1).keeps x.toInCall.keep, codeAny_func ?_⟩
  obtain ⟨_, mu, ds, St', sr, r, q⟩ := hs
  have G : Good (cxOf (L2.CX P w) P w K mg base N qual (defScope st) f cdv A outer s H E) (fun cls d _ H' => E cls d H') k := ⟨rfl, takes_of rfl rfl rfl rfl, room.deeper _, S.nd, gd, passes_of rfl⟩
  have I : Inv (cxOf (L2.CX P w) P w K mg base N qual (defScope st) f cdv A outer s H E) [] (L2.start N vs) H s1 := inv_start S room.hd env nvs vals x
  have rd : tS K cl (fun cls d _ H' => E cls d H') z { nx := fun _ H' => Q .non H', rt := Q } (L2.start N vs) H := by
    refine ⟨mu, ds.map some ++ List.replicate (N.length - ds.length) none, St', sr, erel_start r, ?_⟩
    unfold runD at q
    cases hz : z (ds.map some ++ List.replicate (N.length - ds.length) none) St' with
    | nx δ' S' => rw [hz] at q; exact fun σ' H' mu' e s _ => q _ H' mu' e s .non
    | rt d S' => rw [hz] at q; exact q
    | exc C fs δ' S' => rw [hz] at q; exact fun CA dx σ' H' mu' hc e s _ x => q CA dx H' mu' hc e s x
    | bk _ _ => rw [hz] at q; exact q.elim
    | ct _ _ => rw [hz] at q; exact q.elim
    | stuck => rw [hz] at q; exact q.elim
  refine wpAny_mono ((h cdv A outer s H E _ G).pss.run [] s1 (L2.start N vs) H _ I rd) (fun fl s' hq => ?_) fun _ _ y => y
  cases fl with
  | ret u => obtain ⟨v, σ', H', J, rv, y⟩ := hq; exact ⟨v, H', J.os, J.bare, J.base, J.hok, rv, y⟩
  | next => obtain ⟨σ', H', J, y⟩ := hq; exact ⟨V.non, H', J.os, J.bare, J.base, J.hok, rfl, y⟩
  | brk => obtain ⟨_, _, _, y⟩ := hq; exact y.elim
  | cont => obtain ⟨_, _, _, y⟩ := hq; exact y.elim
end

/-! calls -/
abbrev GD := List D → Store → Out D
def callD (np : Nat) (g : GD) (dv : List D) (ds : List D) (S : Store) : Out D := if (ds ++ dv).length = np then g (ds ++ dv) S else .stuck
/-- a call that leaves the store as it is: it is given nothing of it -/
def pureD (g : GD) : GD := fun ds S => if norefs ds = true then match g ds [] with
  | .ok d _ => if noref d = true then .ok d S else .stuck
  | .exc C fs _ => if norefF fs = true then .exc C fs S else .stuck
  | .stuck => .stuck
  else .stuck
theorem pure_ok {K : PySem.W.Frag} {cl : Cl} {mu : Mu} {H : Hp} {S : Store} {σ : St} {W : WX} {vs : List V} {ds : List D} {g : GD} {Q : VK} {np : Nat} {E : XK} (s : SR K cl mu H S) (r : VRels K cl S.length mu H vs ds) (hl : vs.length = np)
    (q : Af K cl (VRel K cl) S.length mu H [] (fun c d _ H' => E c d H') (pureD g ds S) Q) : spOf K cl np g vs H Q E := by
  unfold pureD at q
  split at q
  case isFalse => exact q.elim
  rename_i hn
  have k0 : Kp mu H ⟨fun _ => none, fun a => mu.z a ∨ ∃ l, mu l = some a⟩ H := fun a o h f => ⟨h, (fun l z => nomatch z), fun z => Or.elim z f.2 fun ⟨l, e⟩ => f.1 l e⟩
  refine ⟨hl, ⟨fun _ => none, fun a => mu.z a ∨ ∃ l, mu l = some a⟩, ds, [], ⟨(fun _ _ _ e => nomatch e), (fun l o e => by simp at e), fun _ _ => rfl, fun a h => ?_, (fun _ _ e => nomatch e)⟩, r.nr k0 hn, ?_⟩
  · rcases h with h | ⟨l, e⟩
    · exact s.zt a h
    · obtain ⟨o, _, z⟩ := s.at_ e
      exact z.there
  have back : ∀ {n' : Nat} {mu' : Mu} {H' : Hp}, Ext 0 ⟨fun _ => none, fun a => mu.z a ∨ ∃ l, mu l = some a⟩ H n' mu' H' → (∀ a o, H a = some o → H' a = some o) ∧ Ext S.length mu H S.length mu H' ∧ SR K cl mu H' S ∧ ∀ a, Ot mu' a → Ot mu a := fun {n' mu' H'} e => by
    have hk : ∀ a o, H a = some o → H' a = some o := fun a o h => e.keep a o h (fun l z => nomatch z)
    have ex : Ext S.length mu H S.length mu H' := ⟨Nat.le_refl _, fun a o h _ => hk a o h, fun _ _ _ h => h, fun l a hl z => (by rw [s.top l hl] at z; cases z), e.trk, rfl⟩
    refine ⟨hk, ex, s.re ex.pr rfl (fun l a h => ?_) (fun a h z => s.zt a h (e.trk a z)) s.zd, fun a h => ?_⟩
    · obtain ⟨o, _, z⟩ := s.at_ h
      cases z with
      | lst z _ => rw [z]; exact hk _ _ z
      | dic z _ _ => rw [z]; exact hk _ _ z
      | ins _ z _ _ => rw [z]; exact hk _ _ z
    · have := h.2
      rw [e.zz] at this
      exact ⟨fun l z => this (.inr ⟨l, z⟩), fun z => this (.inl z)⟩
  cases hz : g ds [] with
  | ok d S' =>
    rw [hz] at q
    dsimp only at q
    split at q
    case isFalse => exact q.elim
    rename_i hd
    intro v H' mu' e s' rv
    obtain ⟨b1, b2, b3, b4⟩ := back e
    exact q v H' mu b2 b3 (rv.nr (fun a o h f => ⟨h, b4 a f⟩) hd)
  | exc C fs S' =>
    rw [hz] at q
    dsimp only at q
    split at q
    case isFalse => exact q.elim
    rename_i hd
    intro CA dx H' mu' hc e s' x
    obtain ⟨b1, b2, b3, b4⟩ := back e
    exact q CA dx H' mu hc b2 b3 (x.nr (fun a o h f => ⟨h, b4 a f⟩) (fun _ _ h => h) hd)
  | stuck => rw [hz] at q; exact q.elim

/-- a promise for a def as it is called -/
structure Df (X : Cx) (cl : Cl) (j : Nat) (np : Nat) (f : Addr) (fd : FuncData) (ps : List Str) (g : GD) : Prop where
  ok : FnG X.prog X.w X.K X.mg X.base j f fd ps (spOf X.K cl np g)
theorem Df.pure {X : Cx} {cl : Cl} {j np : Nat} {f : Addr} {fd : FuncData} {ps : List Str} {g : GD} (F : Df X cl j np f fd ps g) : Df X cl j np f fd ps (pureD g) :=
  ⟨F.ok.imp fun vs H Q E ⟨hl, mu, ds, S, s, r, q⟩ => pure_ok (σ := []) (W := W0) s r hl q⟩
section
variable {X : Cx} {cl : Cl} {W : WX} {pos p apos : Pos} {k j np : Nat} {x m C : Str} {f CA : Addr} {fd : FuncData} {ps : List Str} {g : GD} {e o : Expr} {es : List Expr} {fa : DA} {fo : DE}
theorem sp_of {n : Nat} {mu : Mu} {H : Hp} {S : Store} {σ : St} {vs : List V} {ds : List D} {Q : VK} (s : SR X.K cl mu H S) (r : VRels X.K cl S.length mu H vs ds) (hl : ds.length = np) (q : Af X.K cl (VRel X.K cl) S.length mu H σ W (g ds S) Q) : spOf X.K cl np g vs H Q (WE W σ) :=
  ⟨r.length.trans hl, mu, ds, S, s, r, Af.sig q⟩
def eCall (np : Nat) (g : GD) (dv : List D) (fa : DA) : DE := fun δ S => (fa δ S).bind fun ds S1 => callD np g dv ds S1
/-- the callee runs, from a body -/
theorem run_g {pins : List (Addr × Obj)} {σ : St} {H : Hp} {s : Shared} {Q : VK} {us dsv : List Value} {vs dvs : List V} {sp : Sp} (G : Good X W k) (F : FnG X.prog X.w X.K X.mg X.base j f fd ps sp) (hj : j ≤ k) (hb : Binds X.K fd ps dsv) (hd : Vals dvs dsv)
    (I : Inv X pins σ H s) (r : Vals vs us) (h : sp (vs ++ dvs) H Q (WE W σ)) : wpAny (model X.prog X.w) X.A (PySem.call (.ref f) us) (EP X pins σ Q) X.xe s := by
  have r2 := r.append hd
  have nn : (us ++ dsv).length = ps.length := r2.length.symm.trans (F.many _ _ _ _ h)
  refine wpAny_call (codeAny_mono (F.go X.A X.stack s H ⟨us, []⟩ (us ++ dsv) (vs ++ dvs) Q (WE W σ) (G.room.mono hj) G.grd I.env0 (hb s us I.kIn nn) r2 h) fun res s' y => ?_)
  cases res with
  | error x => exact passAt G.tk σ pins H s x s' I y
  | ok fl => cases fl with
    | ret u => exact I.after y
    | next => exact y.elim
    | brk => exact y.elim
    | cont => exact y.elim
def tCl (sp : Sp) (dvs : List V) (W : WX) (t : TA) : TE := fun σ H Q => t σ H fun vs H1 => sp (vs ++ dvs) H1 Q (WE W σ)
theorem pe_cl {dvs : List V} {dsv : List Value} {sp : Sp} {t : TA} (G : Good X W k) (F : FnG X.prog X.w X.K X.mg X.base j f fd ps sp) (hj : j ≤ k) (hm : X.mg x = some (.ref f)) (hk : PySem.W.keepIn X.K (.ref f) = true) (hb : Binds X.K fd ps dsv) (hd : Vals dvs dsv)
    (ha : PA X (e :: es) t) (hg : Gl X x) (hdb : (x == ("__debug__" : Str)) = false) (he : starEach (e :: es) X.env = (false, eval e X.env) :: starEach es X.env) (hpl : (backTo pos (starEach es X.env)).any (·.1) = false) : PE X (.Call (.Name x p) (e :: es) [] pos) (tCl sp dvs W t) where
  run := fun pins s σ H Q I h => wpAny_Call_Name_kw (ld_glob I hg hm (PySem.W.callWith_K (h₀ := X.base) I.ok.mod.kin hk
    (thn (ha.run pos pins s σ H _ I h) fun us s1 ⟨vs, H1, I1, r, y⟩ => ⟨I1.kIn, run_g G F hj hb hd I1 r y⟩) he hpl) hdb)
theorem pe_cl0 {dvs : List V} {dsv : List Value} {sp : Sp} (G : Good X W k) (F : FnG X.prog X.w X.K X.mg X.base j f fd ps sp) (hj : j ≤ k) (hm : X.mg x = some (.ref f)) (hk : PySem.W.keepIn X.K (.ref f) = true) (hb : Binds X.K fd ps dsv) (hd : Vals dvs dsv)
    (hg : Gl X x) (hdb : (x == ("__debug__" : Str)) = false) : PE X (.Call (.Name x p) [] [] pos) (tCl sp dvs W tNil) where
  run := fun pins s σ H Q I h => wpAny_Call_Name_kw (ld_glob I hg hm (PySem.W.callWith_K0 I.kIn hk (run_g (us := []) G F hj hb hd I .nil h)) hdb)
theorem fe_call {dv : List D} {dvs : List V} {dsv : List Value} (G : Good X W k) (F : Df X cl j np f fd ps g) (hj : j ≤ k) (hm : X.mg x = some (.ref f)) (hk : PySem.W.keepIn X.K (.ref f) = true) (hb : Binds X.K fd ps dsv) (hd : Vals dvs dsv) (hdv : ∀ n mu H, VRels X.K cl n mu H dvs dv)
    (ha : FA X cl W (e :: es) fa) (hg : Gl X x := by rfl) (hdb : (x == ("__debug__" : Str)) = false := by decide) (he : starEach (e :: es) X.env = (false, eval e X.env) :: starEach es X.env := by rfl) (hpl : (backTo pos (starEach es X.env)).any (·.1) = false := by rfl) :
    FE X cl W (.Call (.Name x p) (e :: es) [] pos) (eCall np g dv fa) :=
  fe_of (pe_cl G F.ok hj hm hk hb hd ha.pa hg hdb he hpl) fun mu δ S σ H Q s r q => by
    refine ⟨mu, δ, S, s, r, (Af.bind q).mono fun vs H1 ⟨mu1, ds, S1, s1, e1, r1, q1⟩ => ?_⟩
    unfold callD at q1
    split at q1
    · rename_i hl
      exact sp_of (n := 0) s1 (r1.append (hdv _ _ _)) hl q1
    · exact q1.elim

/-! methods of own classes -/
def insOf (S : Store) : D → Option (Str × List (Str × D))
  | .ins C fs => some (C, fs)
  | .ref l => match S[l]? with | some (some (.ins C fs)) => some (C, fs) | _ => none
  | _ => none
theorem lookup_zip {α β : Type} {x : Str} : ∀ {ks : List Str} {vs : List α} {ds : List β}, ks.length = vs.length → vs.length = ds.length → ((ks.zip ds).lookup x = none ↔ (ks.zip vs).lookup x = none)
  | [], _, _, _, _ => by simp
  | k :: ks, v :: vs, d :: ds, h1, h2 => by
    rw [List.zip_cons_cons, List.zip_cons_cons, List.lookup_cons, List.lookup_cons]
    cases x == k with
    | true => simp
    | false => exact lookup_zip (by simpa using h1) (by simpa using h2)
theorem ins_at {K : PySem.W.Frag} {mu : Mu} {H : Hp} {S : Store} {v : V} {d : D} {fs : List (Str × D)} (s : SR K cl mu H S) (r : VRel K cl S.length mu H v d) (e : insOf S d = some (C, fs)) :
    ∃ (a CA dx : Addr) (ks : List Str) (vs : List V) (ds : List D), v = .ref a ∧ cl C = some CA ∧ H a = some (.ins CA dx (ks.zip vs)) ∧ ks.length = vs.length ∧ VRels K cl S.length mu H vs ds ∧ fs = ks.zip ds := by
  cases d with
  | ins C' fs' =>
    cases e
    cases r with
    | ins hc z _ hl q => exact ⟨_, _, _, _, _, _, rfl, hc, z, hl, q, rfl⟩
  | ref l =>
    unfold insOf at e
    simp only at e
    split at e
    · rename_i ys hy
      cases e
      obtain ⟨a, rfl, _, q⟩ := ref_at s r hy
      cases q with
      | ins hc z hl q => exact ⟨a, _, _, _, _, _, rfl, hc, z, hl, q, rfl⟩
    · cases e
  | _ => cases e
end
end Mi
namespace Mi
open PySem L2

def BOk (X : Cx) (cl : Cl) (W : WX) (r : List V → Hp → VK → Prop) (g : GD) : Prop := ∀ mu S σ H vs ds Q, SR X.K cl mu H S → VRels X.K cl S.length mu H vs ds → Af X.K cl (VRel X.K cl) S.length mu H σ W (g ds S) Q → r vs H Q
def eB (g : GD) (fa : DA) : DE := fun δ S => (fa δ S).bind g
section
variable {X : Cx} {cl : Cl} {W : WX} {a b c e o : Expr} {es : List Expr} {fa : DA} {fe fo : DE} {pos p apos cpos : Pos} {k : Nat} {x : Str} {id T : String} {r : List V → Hp → VK → Prop} {g : GD}
theorem fe_blt (hc : CallR X (.builtin id) r) (hk : BOk X cl W r g) (hm : X.mg x = none) (ha : FA X cl W (e :: es) fa) (hv : bootBuiltins x = some (.builtin id)) (hg : Gl X x := by rfl) (hn : x ≠ "__name__" := by decide) (hdb : (x == ("__debug__" : Str)) = false := by decide)
    (he : starEach (e :: es) X.env = (false, eval e X.env) :: starEach es X.env := by rfl) (hpl : (backTo pos (starEach es X.env)).any (·.1) = false := by rfl) : FE X cl W (.Call (.Name x p) (e :: es) [] pos) (eB g fa) :=
  fe_of (pe_callB hc hg hm hv ha.pa hn hdb he hpl) fun mu δ S σ H Q s r q => ⟨mu, δ, S, s, r, (Af.bind q).mono fun v H1 ⟨mu1, d, S1, s1, e1, r1, q1⟩ => hk mu1 S1 σ H1 v d Q s1 r1 q1⟩
theorem fe_bty (hc : CallR X (.type T) r) (hk : BOk X cl W r g) (hm : X.mg x = none) (ha : FA X cl W (e :: es) fa) (hv : bootBuiltins x = some (.type T)) (hg : Gl X x := by rfl) (hn : x ≠ "__name__" := by decide) (hdb : (x == ("__debug__" : Str)) = false := by decide)
    (he : starEach (e :: es) X.env = (false, eval e X.env) :: starEach es X.env := by rfl) (hpl : (backTo pos (starEach es X.env)).any (·.1) = false := by rfl) : FE X cl W (.Call (.Name x p) (e :: es) [] pos) (eB g fa) :=
  fe_of (pe_callTy hc hg hm hv ha.pa hn hdb he hpl) fun mu δ S σ H Q s r q => ⟨mu, δ, S, s, r, (Af.bind q).mono fun v H1 ⟨mu1, d, S1, s1, e1, r1, q1⟩ => hk mu1 S1 σ H1 v d Q s1 r1 q1⟩
theorem CallR.or {f : Value} {r r' : List V → Hp → VK → Prop} (h : CallR X f r) (h' : CallR X f r') : CallR X f (fun xs H Q => r xs H Q ∨ r' xs H Q) := by
  intro pins s σ H xs us Q I rr q
  rcases q with q | q
  · exact h pins s σ H xs us Q I rr q
  · exact h' pins s σ H xs us Q I rr q

/-! len -/
def bLen : GD := fun ds S => match ds with
  | [.str x] => if x.length ≤ sizeLine then .ok (.int x.length) S else .stuck
  | [x] => match anyOf S x with
    | some xs => .ok (.int xs.length) S
    | none => match dicOf S x with | some kvs => .ok (.int kvs.length) S | none => .stuck
  | _ => .stuck
def rLenAll (X : Cx) : List V → Hp → VK → Prop := fun xs H Q => (∃ x n, xs = [x] ∧ LenV X.K x H n ∧ Q (.int n) H) ∨ ∃ a kvs, xs = [V.ref a] ∧ Rd H a (.dK kvs) ∧ Q (.int kvs.length) H
theorem call_lenAll : CallR X (.builtin "len") (rLenAll X) := by
  intro pins s σ H xs us Q I r h
  rcases h with h | ⟨a, kvs, rfl, hd, q⟩
  · exact call_len pins s σ H xs us Q I r h
  · obtain ⟨u, rfl, ru⟩ := vals1 r
    cases ru
    exact d_len I hd fun t s' I' => ⟨.int kvs.length, H, I', ⟨t, rfl⟩, q⟩
theorem bok_len : BOk X cl W (rLenAll X) bLen := fun mu S σ H vs ds Q s r q => by
  unfold bLen at q
  split at q
  · split at q
    · rename_i z hz
      cases r with
      | cons h1 r2 => cases r2; cases h1; exact .inl ⟨_, _, rfl, ⟨hz, rfl⟩, Af.now q s (.int _)⟩
    · exact q.elim
  · split at q
    · rename_i xs hx
      cases r with
      | cons h1 r2 =>
        cases r2
        obtain ⟨a, us, rfl, hu, ru⟩ := any_at s h1 hx
        refine .inl ⟨_, _, rfl, ?_, Af.now q s (.int _)⟩
        rcases hu with hu | hu
        · exact .inl ⟨us, hu, ru.length.symm⟩
        · exact .inr ⟨us, hu, ru.length.symm⟩
    · split at q
      · rename_i kvs hd
        cases r with
        | cons h1 r2 =>
          cases r2
          obtain ⟨a, ks, us, ds, rfl, hu, hl, ru, rfl⟩ := dic_at s h1 hd
          have e1 : (ks.zip us).length = (ks.zip ds).length := by rw [List.length_zip, List.length_zip, ru.length]
          refine .inr ⟨a, _, rfl, hu, ?_⟩
          rw [e1]
          exact Af.now q s (.int _)
      · exact q.elim
  · exact q.elim
theorem fe_len (hm : X.mg "len" = none) (ha : FA X cl W [e] fa) (hg : Gl X "len" := by rfl) (he : starEach [e] X.env = (false, eval e X.env) :: starEach [] X.env := by rfl) (hpl : (backTo pos (starEach [] X.env)).any (·.1) = false := by rfl) : FE X cl W (.Call (.Name "len" p) [e] [] pos) (eB bLen fa) :=
  fe_blt call_lenAll bok_len hm ha PySem.boot_len hg (by decide) (by decide) he hpl

/-! isinstance of a built-in type -/
def tyName (S : Store) : D → Option String
  | .non => some "NoneType"
  | .bl _ => some "bool"
  | .int _ => some "int"
  | .str _ => some "str"
  | .tup _ => some "tuple"
  | .lst _ => some "list"
  | .scr _ => none
  | .dic _ => some "dict"
  | .ref l => match S[l]? with
    | some (some (.lst _)) => some "list"
    | some (some (.dic _)) => some "dict"
    | _ => none
  | _ => none
def isT (a n : String) : Bool := a == n || (a == "bool" && n == "int")
theorem kit_isT : ∀ a ∈ ["NoneType", "bool", "int", "str", "tuple", "list", "dict"], ∀ n ∈ ["int", "bool", "str", "list", "tuple", "dict"], kitB a n = some (isT a n) := by decide +kernel
theorem ty_at {K : PySem.W.Frag} {mu : Mu} {H : Hp} {S : Store} {v : V} {x : D} {t : String} (s : SR K cl mu H S) (r : VRel K cl S.length mu H v x) (e : tyName S x = some t) : TyX K H v (.type t) ∧ t ∈ ["NoneType", "bool", "int", "str", "tuple", "list", "dict"] := by
  cases x with
  | non => cases e; cases r; exact ⟨.base .non, by decide⟩
  | bl b => cases e; cases r; exact ⟨.base (.bl _), by decide⟩
  | int b => cases e; cases r; exact ⟨.base (.int _), by decide⟩
  | str b => cases e; cases r; exact ⟨.base (.str _), by decide⟩
  | tup xs =>
    cases e
    cases r with
    | tup f _ =>
      rcases f with f | ⟨o, its, n, h1, h2, _⟩
      · rcases f.1 with f | ⟨o, f⟩
        · exact ⟨.base (.tup f), by decide⟩
        · exact ⟨.fTuple f, by decide⟩
      · exact ⟨.kTuple h1 h2, by decide⟩
  | lst xs => cases e; cases r with | lst f _ => exact ⟨.base (.lst f.1), by decide⟩
  | dic kvs =>
    cases e
    cases r with
    | dic f _ _ =>
      rcases f.1 with f | ⟨o, f⟩
      · exact ⟨.base (.dK f), by decide⟩
      · exact ⟨.fDict f, by decide⟩
  | ref l =>
    unfold tyName at e
    simp only at e
    split at e
    · rename_i hx
      cases e
      obtain ⟨a, rfl, _, o⟩ := ref_at s r hx
      cases o with | lst h _ => exact ⟨.base (.lst h), by decide⟩
    · rename_i hx
      cases e
      obtain ⟨a, rfl, _, o⟩ := ref_at s r hx
      cases o with | dic h _ _ => exact ⟨.base (.dK h), by decide⟩
    · cases e
  | scr _ => cases e
  | ty _ => cases e
  | cls _ => cases e
  | ins _ _ => cases e
  | exc _ _ => cases e
def eIsi (n : String) (f : DE) : DE := fun δ S => (f δ S).bind fun x S1 => match tyName S1 x with | some t => .ok (.bl (isT t n)) S1 | none => .stuck
theorem fe_isi {n : String} {y : Str} {p2 : Pos} (hm : X.mg "isinstance" = none) (hm2 : X.mg y = none) (hv : bootBuiltins y = some (.type n)) (h : FE X cl W e fe) (hn : n ∈ ["int", "bool", "str", "list", "tuple", "dict"] := by decide) (hg : Gl X "isinstance" := by rfl) (hg2 : Gl X y := by rfl)
    (hy : y ≠ "__name__" := by decide) (hyd : (y == ("__debug__" : Str)) = false := by decide)
    (he : starEach [e, .Name y p2] X.env = (false, eval e X.env) :: starEach [.Name y p2] X.env := by rfl) (he2 : starEach [.Name y p2] X.env = (false, eval (.Name y p2) X.env) :: starEach [] X.env := by rfl) (hpl : (backTo pos (starEach [.Name y p2] X.env)).any (·.1) = false := by rfl) :
    FE X cl W (.Call (.Name "isinstance" p) [e, .Name y p2] [] pos) (eIsi n fe) :=
  fe_of (pe_callB call_isi hg hm PyProof.Rows.boot_isinstance (pa_cons h.pe (pa_cons (pe_bltn (v := .ty n) hg2 hm2 hv rfl hy hyd) pa_nil he2) he) (by decide) (by decide) he hpl) fun mu δ S σ H Q s r q => by
    refine ⟨mu, δ, S, s, r, (Af.bind q).mono fun v H1 ⟨mu1, d, S1, s1, e1, r1, q1⟩ => ?_⟩
    split at q1
    · rename_i t ht
      obtain ⟨h1, h2⟩ := ty_at s1 r1 ht
      exact ⟨v, .ty n, .type t, .type n, isT t n, rfl, .ty n, h1, kit_ty (kit_isT t h2 n hn), Af.now q1 s1 (.bl _)⟩
    · exact q1.elim

/-! lists of truths, of whole numbers, of texts -/
def blsOf : List D → Option (List Bool)
  | [] => some []
  | .bl b :: xs => (blsOf xs).map (b :: ·)
  | _ => none
def intsOf : List D → Option (List Int)
  | [] => some []
  | .int b :: xs => (intsOf xs).map (b :: ·)
  | _ => none
def strsOf : List D → Option (List Str)
  | [] => some []
  | .str b :: xs => (strsOf xs).map (b :: ·)
  | _ => none
theorem bls_at {K : PySem.W.Frag} {n : Nat} {mu : Mu} {H : Hp} : ∀ {vs : List V} {ds : List D} {bs : List Bool}, VRels K cl n mu H vs ds → blsOf ds = some bs → vs = bs.map V.bl
  | _, _, _, .nil, e => by cases e; rfl
  | _, _, _, .cons h r, e => by
    cases h <;> first | (cases e; done) | skip
    rename_i ds b
    unfold blsOf at e
    cases z : blsOf ds with
    | none => rw [z] at e; cases e
    | some bs => rw [z] at e; cases e; rw [bls_at r z]; rfl
theorem ints_at {K : PySem.W.Frag} {n : Nat} {mu : Mu} {H : Hp} : ∀ {vs : List V} {ds : List D} {bs : List Int}, VRels K cl n mu H vs ds → intsOf ds = some bs → vs = bs.map V.int
  | _, _, _, .nil, e => by cases e; rfl
  | _, _, _, .cons h r, e => by
    cases h <;> first | (cases e; done) | skip
    rename_i ds b
    unfold intsOf at e
    cases z : intsOf ds with
    | none => rw [z] at e; cases e
    | some bs => rw [z] at e; cases e; rw [ints_at r z]; rfl
theorem strs_at {K : PySem.W.Frag} {n : Nat} {mu : Mu} {H : Hp} : ∀ {vs : List V} {ds : List D} {bs : List Str}, VRels K cl n mu H vs ds → strsOf ds = some bs → vs = bs.map V.str
  | _, _, _, .nil, e => by cases e; rfl
  | _, _, _, .cons h r, e => by
    cases h <;> first | (cases e; done) | skip
    rename_i ds b
    unfold strsOf at e
    cases z : strsOf ds with
    | none => rw [z] at e; cases e
    | some bs => rw [z] at e; cases e; rw [strs_at r z]; rfl
def seq1 {α : Type} (f : List D → Option α) (k : α → Store → Out D) : GD := fun ds S => match ds with
  | [x] => match seqOf S x with
    | some xs => match f xs with | some bs => k bs S | none => .stuck
    | none => .stuck
  | _ => .stuck
theorem seq1_at {K : PySem.W.Frag} {mu : Mu} {H : Hp} {S : Store} {σ : St} {α : Type} {f : List D → Option α} {kk : α → Store → Out D} {vs : List V} {ds : List D} {Q : VK} (s : SR K cl mu H S) (r : VRels K cl S.length mu H vs ds) (q : Af K cl (VRel K cl) S.length mu H σ W (seq1 f kk ds S) Q) :
    ∃ a us xs bs, vs = [.ref a] ∧ SqL K H a us ∧ VRels K cl S.length mu H us xs ∧ f xs = some bs ∧ Af K cl (VRel K cl) S.length mu H σ W (kk bs S) Q := by
  unfold seq1 at q
  split at q
  · split at q
    · split at q
      · rename_i x _ xs hx _ bs hb
        cases r with
        | cons h1 r2 =>
          cases r2
          obtain ⟨a, us, rfl, hu, ru⟩ := seq_at s h1 hx
          exact ⟨a, us, xs, bs, rfl, hu, ru, hb, q⟩
      · exact q.elim
    · exact q.elim
  · exact q.elim
def bAll : GD := seq1 blsOf fun bs S => .ok (.bl (bs.all fun b => b)) S
def bAny : GD := seq1 blsOf fun bs S => .ok (.bl (bs.any fun b => b)) S
def bSum : GD := seq1 intsOf fun bs S => .ok (.int bs.sum) S
theorem bok_all : BOk X cl W (rAll X.K) bAll := fun mu S σ H vs ds Q s r q => by
  obtain ⟨a, us, xs, bs, rfl, hu, ru, hb, q⟩ := seq1_at s r q
  have e := bls_at ru hb
  subst e
  exact ⟨a, bs, rfl, hu, Af.now q s (.bl _)⟩
theorem bok_any : BOk X cl W (rAny X.K) bAny := fun mu S σ H vs ds Q s r q => by
  obtain ⟨a, us, xs, bs, rfl, hu, ru, hb, q⟩ := seq1_at s r q
  have e := bls_at ru hb
  subst e
  exact ⟨a, bs, rfl, hu, Af.now q s (.bl _)⟩
theorem bok_sum : BOk X cl W (rSum X.K) bSum := fun mu S σ H vs ds Q s r q => by
  obtain ⟨a, us, xs, bs, rfl, hu, ru, hb, q⟩ := seq1_at s r q
  have e := ints_at ru hb
  subst e
  exact ⟨a, bs, rfl, hu, Af.now q s (.int _)⟩
def mxI (m : Int) (l : List Int) : Int := l.foldl (fun a b => if b > a then b else a) m
def mnI (m : Int) (l : List Int) : Int := l.foldl (fun a b => if b < a then b else a) m
theorem mxI_le : ∀ (l : List Int) (m : Int), m ≤ mxI m l ∧ (∀ y ∈ l, y ≤ mxI m l) ∧ (mxI m l = m ∨ mxI m l ∈ l)
  | [], m => ⟨Int.le_refl _, fun _ h => (nomatch h), .inl rfl⟩
  | x :: l, m => by
    show m ≤ mxI (if x > m then x else m) l ∧ (∀ y ∈ x :: l, y ≤ mxI (if x > m then x else m) l) ∧ (mxI (if x > m then x else m) l = m ∨ mxI (if x > m then x else m) l ∈ x :: l)
    obtain ⟨h1, h2, h3⟩ := mxI_le l (if x > m then x else m)
    refine ⟨?_, fun y hy => ?_, ?_⟩
    · exact Int.le_trans (by split <;> omega) h1
    · rcases List.mem_cons.mp hy with rfl | hy
      · exact Int.le_trans (by split <;> omega) h1
      · exact h2 y hy
    · rcases h3 with h3 | h3
      · rw [h3]
        split
        · exact .inr List.mem_cons_self
        · exact .inl rfl
      · exact .inr (List.mem_cons_of_mem _ h3)
theorem mnI_le : ∀ (l : List Int) (m : Int), mnI m l ≤ m ∧ (∀ y ∈ l, mnI m l ≤ y) ∧ (mnI m l = m ∨ mnI m l ∈ l)
  | [], m => ⟨Int.le_refl _, fun _ h => (nomatch h), .inl rfl⟩
  | x :: l, m => by
    show mnI (if x < m then x else m) l ≤ m ∧ (∀ y ∈ x :: l, mnI (if x < m then x else m) l ≤ y) ∧ (mnI (if x < m then x else m) l = m ∨ mnI (if x < m then x else m) l ∈ x :: l)
    obtain ⟨h1, h2, h3⟩ := mnI_le l (if x < m then x else m)
    refine ⟨?_, fun y hy => ?_, ?_⟩
    · exact Int.le_trans h1 (by split <;> omega)
    · rcases List.mem_cons.mp hy with rfl | hy
      · exact Int.le_trans h1 (by split <;> omega)
      · exact h2 y hy
    · rcases h3 with h3 | h3
      · rw [h3]
        split
        · exact .inr List.mem_cons_self
        · exact .inl rfl
      · exact .inr (List.mem_cons_of_mem _ h3)
def bMax1 : GD := seq1 intsOf fun bs S => match bs with | m :: l => .ok (.int (mxI m l)) S | [] => .stuck
def bMin1 : GD := seq1 intsOf fun bs S => match bs with | m :: l => .ok (.int (mnI m l)) S | [] => .stuck
theorem bok_max1 : BOk X cl W (rMax X.K) bMax1 := fun mu S σ H vs ds Q s r q => by
  obtain ⟨a, us, xs, bs, rfl, hu, ru, hb, q⟩ := seq1_at s r q
  have e := ints_at ru hb
  subst e
  split at q
  · rename_i m l
    refine ⟨a, _, rfl, hu, by simp, fun y hy hz => ?_⟩
    obtain ⟨h1, h2, h3⟩ := mxI_le l m
    have hm : mxI m l ∈ m :: l := h3.elim (fun h => by rw [h]; exact List.mem_cons_self) (List.mem_cons_of_mem _)
    have hy' : y ≤ mxI m l := by
      rcases List.mem_cons.mp hy with rfl | hy
      · exact h1
      · exact h2 _ hy
    have e : y = mxI m l := Int.le_antisymm hy' (hz _ hm)
    rw [e]
    exact Af.now q s (.int _)
  · exact q.elim
theorem bok_min1 : BOk X cl W (rMin X.K) bMin1 := fun mu S σ H vs ds Q s r q => by
  obtain ⟨a, us, xs, bs, rfl, hu, ru, hb, q⟩ := seq1_at s r q
  have e := ints_at ru hb
  subst e
  split at q
  · rename_i m l
    refine ⟨a, _, rfl, hu, by simp, fun y hy hz => ?_⟩
    obtain ⟨h1, h2, h3⟩ := mnI_le l m
    have hm : mnI m l ∈ m :: l := h3.elim (fun h => by rw [h]; exact List.mem_cons_self) (List.mem_cons_of_mem _)
    have hy' : mnI m l ≤ y := by
      rcases List.mem_cons.mp hy with rfl | hy
      · exact h1
      · exact h2 _ hy
    have e : y = mnI m l := Int.le_antisymm (hz _ hm) hy'
    rw [e]
    exact Af.now q s (.int _)
  · exact q.elim
def bMax2 : GD := fun ds S => match ds with | [.int i, .int j] => .ok (.int (if j > i then j else i)) S | _ => .stuck
def bMin2 : GD := fun ds S => match ds with | [.int i, .int j] => .ok (.int (if j < i then j else i)) S | _ => .stuck
theorem two_ints {K : PySem.W.Frag} {n : Nat} {mu : Mu} {H : Hp} {vs : List V} {i j : Int} (r : VRels K cl n mu H vs [.int i, .int j]) : vs = [.int i, .int j] := by
  cases r with
  | cons h r => cases r with | cons h2 r => cases r; cases h; cases h2; rfl
theorem bok_max2 : BOk X cl W (fun xs H Q => ∃ i j, xs = [.int i, .int j] ∧ Q (.int (if j > i then j else i)) H) bMax2 := fun mu S σ H vs ds Q s r q => by
  unfold bMax2 at q
  split at q
  · exact ⟨_, _, two_ints r, Af.now q s (.int _)⟩
  · exact q.elim
theorem bok_min2 : BOk X cl W (fun xs H Q => ∃ i j, xs = [.int i, .int j] ∧ Q (.int (if j < i then j else i)) H) bMin2 := fun mu S σ H vs ds Q s r q => by
  unfold bMin2 at q
  split at q
  · exact ⟨_, _, two_ints r, Af.now q s (.int _)⟩
  · exact q.elim
def bAbs : GD := fun ds S => match ds with | [.int i] => .ok (.int (if i < 0 then -i else i)) S | _ => .stuck
theorem bok_abs : BOk X cl W (fun xs H Q => ∃ i, xs = [.int i] ∧ Q (.int (if i < 0 then -i else i)) H) bAbs := fun mu S σ H vs ds Q s r q => by
  unfold bAbs at q
  split at q
  · cases r with | cons h r => cases r; cases h; exact ⟨_, rfl, Af.now q s (.int _)⟩
  · exact q.elim

/-! int, str, repr -/
def bInt : GD := fun ds S => match ds with
  | [.int i] => .ok (.int i) S
  | [.bl b] => .ok (.int (if b then 1 else 0)) S
  | [.str x] => match PySem.intText? x with | some n => if x.length ≤ 640 then .ok (.int n) S else .stuck | none => .stuck
  | _ => .stuck
def rIntAll : List V → Hp → VK → Prop := fun xs H Q => ((∃ i, xs = [.int i] ∧ Q (.int i) H) ∨ ∃ k, xs = [.bl k] ∧ Q (.int (if k then 1 else 0)) H) ∨ ∃ a n, xs = [.str a] ∧ PySem.intText? a = some n ∧ a.length ≤ 640 ∧ Q (.int n) H
theorem bok_int : BOk X cl W rIntAll bInt := fun mu S σ H vs ds Q s r q => by
  unfold bInt at q
  split at q
  · cases r with | cons h r => cases r; cases h; exact .inl (.inl ⟨_, rfl, Af.now q s (.int _)⟩)
  · cases r with | cons h r => cases r; cases h; exact .inl (.inr ⟨_, rfl, Af.now q s (.int _)⟩)
  · split at q
    · split at q
      · rename_i n hn hl
        cases r with | cons h r => cases r; cases h; exact .inr ⟨_, n, rfl, hn, hl, Af.now q s (.int _)⟩
      · exact q.elim
    · exact q.elim
  · exact q.elim
theorem call_intAll : CallR X (.type "int") rIntAll := CallR.or call_int1 call_int_str
def bStr : GD := fun ds S => match ds with
  | [.int i] => if i.natAbs.log2 < 1920 then .ok (.str (toString i)) S else .stuck
  | [.str x] => .ok (.str x) S
  | _ => .stuck
def rStrAll : List V → Hp → VK → Prop := fun xs H Q => (∃ i, xs = [.int i] ∧ i.natAbs.log2 < 1920 ∧ Q (.str (toString i)) H) ∨ ∃ a, xs = [.str a] ∧ Q (.str a) H
theorem call_strAll : CallR X (.type "str") rStrAll := CallR.or call_str_int SkE.call_str_str
theorem bok_str : BOk X cl W rStrAll bStr := fun mu S σ H vs ds Q s r q => by
  unfold bStr at q
  split at q
  · split at q
    · rename_i hl
      cases r with | cons h r => cases r; cases h; exact .inl ⟨_, rfl, hl, Af.now q s (.str _)⟩
    · exact q.elim
  · cases r with | cons h r => cases r; cases h; exact .inr ⟨_, rfl, Af.now q s (.str _)⟩
  · exact q.elim
def rRepr (K : PySem.W.Frag) : List V → Hp → VK → Prop := fun xs H Q => ∃ x p, xs = [x] ∧ Dp K H x p ∧ p.showable = true ∧ p.hasDict = false ∧ p.depth ≤ 60 ∧ p.shown.length ≤ sizeLine ∧ Q (.str p.shown) H
theorem call_repr (G : Good X W k) : CallR X (.builtin "repr") (rRepr X.K) := by
  intro pins s σ H xs us Q I r h
  obtain ⟨x, p, rfl, hp, h1, h2, h3, h4, q⟩ := h
  obtain ⟨u, rfl, ru⟩ := vals1 r
  obtain ⟨as, rd⟩ := Dp.reads I p x u hp ru
  cases hp with
  | non => cases ru; exact PySem.P.repr_of_none ⟨.str _, H, I.tok _, ⟨_, rfl⟩, q⟩
  | bl b => cases ru; exact PySem.P.repr_of_bool ⟨.str _, H, I.tok _, ⟨_, rfl⟩, q⟩
  | int i =>
    obtain ⟨t, rfl⟩ := ru
    exact PySem.P.repr_of_int (by simpa [PyData.showable] using h1) ⟨.str _, H, I.tok _, ⟨_, rfl⟩, q⟩
  | str z =>
    obtain ⟨t, rfl⟩ := ru
    exact PySem.P.repr_of_str ⟨.str _, H, I.tok _, ⟨_, rfl⟩, q⟩ h4
  | lst _ _ =>
    cases ru
    exact repr_of_reads' rd h1 (PyData.noDict_hsm h2) G.grd (by have := G.room.units; omega) (fun _ _ e => e) (fun h' u tk hk => ⟨.str _, H, I.kept (t' := tk) hk, ⟨u, rfl⟩, q⟩) h4
  | tup _ _ =>
    cases ru
    exact repr_of_reads' rd h1 (PyData.noDict_hsm h2) G.grd (by have := G.room.units; omega) (fun _ _ e => e) (fun h' u tk hk => ⟨.str _, H, I.kept (t' := tk) hk, ⟨u, rfl⟩, q⟩) h4
/-- a text as long as it may be shown -/
def bRepr (n : Nat) : GD := fun ds S => match ds with
  | [x] => match pyOf S n x with
    | some p => if p.showable = true ∧ p.hasDict = false ∧ p.depth ≤ 60 ∧ p.shown.length ≤ sizeLine then .ok (.str p.shown) S else .stuck
    | none => .stuck
  | _ => .stuck
theorem bok_repr {n : Nat} : BOk X cl W (rRepr X.K) (bRepr n) := fun mu S σ H vs ds Q s r q => by
  unfold bRepr at q
  split at q
  · split at q
    · split at q
      · rename_i p hp hc
        cases r with
        | cons h r => cases r; exact ⟨_, p, rfl, py_dp s n h hp, hc.1, hc.2.1, hc.2.2.1, hc.2.2.2, Af.now q s (.str _)⟩
      · exact q.elim
    · exact q.elim
  · exact q.elim

/-! list, tuple: copies -/
def bList (live : Bool) : GD := fun ds S => match ds with
  | [x] => match anyOf S x with
    | some xs => if live then .ok (.ref S.length) (S ++ [some (.lst xs)]) else .ok (.lst xs) S
    | none => .stuck
  | _ => .stuck
def rListOf (X : Cx) : List V → Hp → VK → Prop := fun xs H Q => ∃ p ys, xs = [.ref p] ∧ (SqL X.K H p ys ∨ SqT X.K H p ys) ∧ ∀ l, H l = none → Q (.ref l) (upd H l (.lst ys))
theorem bok_list {live : Bool} : BOk X cl W (rListOf X) (bList live) := fun mu S σ H vs ds Q s r q => by
  unfold bList at q
  split at q
  · split at q
    · rename_i x xs hx
      cases r with
      | cons h r =>
        cases r
        obtain ⟨a, us, rfl, hu, ru⟩ := any_at s h hx
        refine ⟨a, us, rfl, hu, ?_⟩
        cases live with
        | true => exact Af.lstL q s ru
        | false => exact Af.lst q s ru
    · exact q.elim
  · exact q.elim
def bTuple : GD := fun ds S => match ds with
  | [.tup xs] => .ok (.tup xs) S
  | [x] => match seqOf S x with
    | some xs => .ok (.tup xs) S
    | none => .stuck
  | _ => .stuck
def rTupleOf (X : Cx) : List V → Hp → VK → Prop := fun xs H Q => ∃ p ys, xs = [.ref p] ∧ ((SqL X.K H p ys ∧ ∀ l, H l = none → Q (.ref l) (upd H l (.tup ys))) ∨ (SqT X.K H p ys ∧ Q (.ref p) H))
theorem bok_tuple : BOk X cl W (rTupleOf X) bTuple := fun mu S σ H vs ds Q s r q => by
  unfold bTuple at q
  split at q
  · cases r with
    | cons h r =>
      cases r
      obtain ⟨a, us, rfl, hu, ru⟩ := tup_at h
      exact ⟨a, us, rfl, .inr ⟨hu, Af.now q s h⟩⟩
  · split at q
    · rename_i x _ xs hx
      cases r with
      | cons h r =>
        cases r
        obtain ⟨a, us, rfl, hu, ru⟩ := seq_at s h hx
        exact ⟨a, us, rfl, .inl ⟨hu, Af.tup q s ru⟩⟩
    · exact q.elim
  · exact q.elim

/-! the built-ins by their names -/
section
variable {a b : Expr}
theorem fe_all (G : Good X W k) (hm : X.mg "all" = none) (ha : FA X cl W [e] fa) (hg : Gl X "all" := by rfl) (he : starEach [e] X.env = (false, eval e X.env) :: starEach [] X.env := by rfl) : FE X cl W (.Call (.Name "all" p) [e] [] pos) (eB bAll fa) :=
  fe_blt (cr_all G.calm) bok_all hm ha (by decide +kernel) hg (by decide) (by decide) he rfl
theorem fe_any (G : Good X W k) (hm : X.mg "any" = none) (ha : FA X cl W [e] fa) (hg : Gl X "any" := by rfl) (he : starEach [e] X.env = (false, eval e X.env) :: starEach [] X.env := by rfl) : FE X cl W (.Call (.Name "any" p) [e] [] pos) (eB bAny fa) :=
  fe_blt (cr_any G.calm) bok_any hm ha (by decide +kernel) hg (by decide) (by decide) he rfl
theorem fe_sum (G : Good X W k) (hm : X.mg "sum" = none) (ha : FA X cl W [e] fa) (hg : Gl X "sum" := by rfl) (he : starEach [e] X.env = (false, eval e X.env) :: starEach [] X.env := by rfl) : FE X cl W (.Call (.Name "sum" p) [e] [] pos) (eB bSum fa) :=
  fe_blt (cr_sum G.calm) bok_sum hm ha (by decide +kernel) hg (by decide) (by decide) he rfl
theorem fe_max1 (G : Good X W k) (hm : X.mg "max" = none) (ha : FA X cl W [e] fa) (hg : Gl X "max" := by rfl) (he : starEach [e] X.env = (false, eval e X.env) :: starEach [] X.env := by rfl) : FE X cl W (.Call (.Name "max" p) [e] [] pos) (eB bMax1 fa) :=
  fe_blt (cr_max G.calm) bok_max1 hm ha (by decide +kernel) hg (by decide) (by decide) he rfl
theorem fe_min1 (G : Good X W k) (hm : X.mg "min" = none) (ha : FA X cl W [e] fa) (hg : Gl X "min" := by rfl) (he : starEach [e] X.env = (false, eval e X.env) :: starEach [] X.env := by rfl) : FE X cl W (.Call (.Name "min" p) [e] [] pos) (eB bMin1 fa) :=
  fe_blt (cr_min G.calm) bok_min1 hm ha (by decide +kernel) hg (by decide) (by decide) he rfl
theorem fe_max2 (G : Good X W k) (hm : X.mg "max" = none) (ha : FA X cl W [a, b] fa) (hg : Gl X "max" := by rfl) (he : starEach [a, b] X.env = (false, eval a X.env) :: starEach [b] X.env := by rfl) (hpl : (backTo pos (starEach [b] X.env)).any (·.1) = false := by rfl) : FE X cl W (.Call (.Name "max" p) [a, b] [] pos) (eB bMax2 fa) :=
  fe_blt (call_max2 G.calm) bok_max2 hm ha (by decide +kernel) hg (by decide) (by decide) he hpl
theorem fe_min2 (G : Good X W k) (hm : X.mg "min" = none) (ha : FA X cl W [a, b] fa) (hg : Gl X "min" := by rfl) (he : starEach [a, b] X.env = (false, eval a X.env) :: starEach [b] X.env := by rfl) (hpl : (backTo pos (starEach [b] X.env)).any (·.1) = false := by rfl) : FE X cl W (.Call (.Name "min" p) [a, b] [] pos) (eB bMin2 fa) :=
  fe_blt (call_min2 G.calm) bok_min2 hm ha (by decide +kernel) hg (by decide) (by decide) he hpl
theorem fe_abs (hm : X.mg "abs" = none) (ha : FA X cl W [e] fa) (hg : Gl X "abs" := by rfl) (he : starEach [e] X.env = (false, eval e X.env) :: starEach [] X.env := by rfl) : FE X cl W (.Call (.Name "abs" p) [e] [] pos) (eB bAbs fa) :=
  fe_blt call_abs bok_abs hm ha (by decide +kernel) hg (by decide) (by decide) he rfl
theorem fe_intc (hm : X.mg "int" = none) (ha : FA X cl W [e] fa) (hg : Gl X "int" := by rfl) (he : starEach [e] X.env = (false, eval e X.env) :: starEach [] X.env := by rfl) : FE X cl W (.Call (.Name "int" p) [e] [] pos) (eB bInt fa) :=
  fe_bty call_intAll bok_int hm ha (by decide +kernel) hg (by decide) (by decide) he rfl
theorem fe_strc (hm : X.mg "str" = none) (ha : FA X cl W [e] fa) (hg : Gl X "str" := by rfl) (he : starEach [e] X.env = (false, eval e X.env) :: starEach [] X.env := by rfl) : FE X cl W (.Call (.Name "str" p) [e] [] pos) (eB bStr fa) :=
  fe_bty call_strAll bok_str hm ha (by decide +kernel) hg (by decide) (by decide) he rfl
theorem fe_repr {n : Nat} (G : Good X W k) (hm : X.mg "repr" = none) (ha : FA X cl W [e] fa) (hg : Gl X "repr" := by rfl) (he : starEach [e] X.env = (false, eval e X.env) :: starEach [] X.env := by rfl) : FE X cl W (.Call (.Name "repr" p) [e] [] pos) (eB (bRepr n) fa) :=
  fe_blt (call_repr G) bok_repr hm ha (by decide +kernel) hg (by decide) (by decide) he rfl
theorem fe_listc {live : Bool} (hm : X.mg "list" = none) (ha : FA X cl W [e] fa) (hg : Gl X "list" := by rfl) (he : starEach [e] X.env = (false, eval e X.env) :: starEach [] X.env := by rfl) : FE X cl W (.Call (.Name "list" p) [e] [] pos) (eB (bList live) fa) :=
  fe_bty call_list_of bok_list hm ha (by decide +kernel) hg (by decide) (by decide) he rfl
theorem fe_tuplec (hm : X.mg "tuple" = none) (ha : FA X cl W [e] fa) (hg : Gl X "tuple" := by rfl) (he : starEach [e] X.env = (false, eval e X.env) :: starEach [] X.env := by rfl) : FE X cl W (.Call (.Name "tuple" p) [e] [] pos) (eB bTuple fa) :=
  fe_bty call_tuple_of bok_tuple hm ha (by decide +kernel) hg (by decide) (by decide) he rfl
end

/-! methods of built-in types -/
/-- receiver and arguments, by values -/
def MOk (X : Cx) (cl : Cl) (W : WX) (T : String) (r : V → List V → Hp → VK → Prop) (g : D → GD) : Prop := ∀ mu S σ H v x vs ds Q, SR X.K cl mu H S → VRel X.K cl S.length mu H v x → VRels X.K cl S.length mu H vs ds → Af X.K cl (VRel X.K cl) S.length mu H σ W (g x ds S) Q → r v vs H Q
/-- what the receiver is, ahead of the arguments -/
def isTy (T : String) (S : Store) (x : D) : Bool := match x with
  | .str _ => T == "str"
  | .lst _ => T == "list"
  | .scr _ => T == "list"
  | .ref l => match S[l]? with
    | some (some (.lst _)) => T == "list"
    | some (some (.dic _)) => T == "dict"
    | _ => false
  | .dic _ => false
  | _ => false
theorem isTy_at {K : PySem.W.Frag} {mu : Mu} {H : Hp} {S : Store} {v : V} {x : D} {T : String} (s : SR K cl mu H S) (r : VRel K cl S.length mu H v x) (e : isTy T S x = true) : tyV K T v H := by
  cases x with
  | str z => cases r; exact beq_iff_eq.mp e
  | lst xs => cases r with | lst f _ => exact .inl ⟨beq_iff_eq.mp e, _, f.sq⟩
  | scr xs => cases r with | scr f _ => exact .inl ⟨beq_iff_eq.mp e, _, f.sq⟩
  | ref l =>
    unfold isTy at e
    simp only at e
    split at e
    · rename_i hx
      obtain ⟨a, rfl, _, o⟩ := ref_at s r hx
      cases o with | lst h _ => exact .inl ⟨beq_iff_eq.mp e, _, .inl (.inl h)⟩
    · rename_i hx
      obtain ⟨a, rfl, _, o⟩ := ref_at s r hx
      cases o with | dic h _ _ => exact .inr (.inr (.inl ⟨beq_iff_eq.mp e, .inl ⟨_, h⟩⟩))
    · cases e
  | _ => cases e
def eM (T : String) (g : D → GD) (fo : DE) (fa : DA) : DE := fun δ S => (fo δ S).bind fun x S1 => if isTy T S1 x = true then (fa δ S1).bind fun ds S2 => g x ds S2 else .stuck
def eM0 (T : String) (g : D → GD) (fo : DE) : DE := fun δ S => (fo δ S).bind fun x S1 => if isTy T S1 x = true then g x [] S1 else .stuck
theorem fe_m {name : Str} {rr : V → List V → Hp → VK → Prop} {gm : D → GD} (pa : PlainAttrs T) (slot : Slot T name id) (hty : typeOf (.builtin id) = pure (.type "method_descriptor")) (hm : MtR X id rr) (hk : MOk X cl W T rr gm) (ho : FE X cl W o fo) (ha : FA X cl W (e :: es) fa)
    (hbase : attributeBase o name X.env (eval o X.env) = eval o X.env := by rfl)
    (hfew : ((backTo cpos (starEach (e :: es) X.env)).all (fun x => !x.1) && (backToKw cpos (keywordEach [] X.env)).all (fun x => x.1.isSome)
      && decide ((e :: es).length + ([] : List Keyword).length + (if ([] : List Keyword).isEmpty then 0 else 1) < 30)) = true := by rfl)
    (hline : (apos.endLine == cpos.line) = true := by rfl) (hs : starEach (e :: es) X.env = (false, eval e X.env) :: starEach es X.env := by rfl) (hplain : (backTo cpos (starEach es X.env)).any (·.1) = false := by rfl) :
    FE X cl W (.Call (.Attribute o name apos) (e :: es) [] cpos) (eM T gm fo fa) :=
  fe_of (pe_bm pa slot hty hm ho.pe ha.pa hbase hfew hline hs hplain) fun mu δ S σ H Q s r q => by
    refine ⟨mu, δ, S, s, r, (Af.bind q).mono fun v H1 ⟨mu1, d, S1, s1, e1, r1, q1⟩ => ?_⟩
    split at q1
    · rename_i ht
      refine ⟨isTy_at s1 r1 ht, mu1, δ, S1, s1, r.mono e1, (Af.bind q1).mono fun vs H2 ⟨mu2, ds, S2, s2, e2, r2, q2⟩ => ?_⟩
      exact hk mu2 S2 σ H2 v d vs ds Q s2 (r1.mono e2) r2 q2
    · exact q1.elim
theorem fe_m0 {name : Str} {rr : V → List V → Hp → VK → Prop} {gm : D → GD} (pa : PlainAttrs T) (slot : Slot T name id) (hty : typeOf (.builtin id) = pure (.type "method_descriptor")) (hm : MtR X id rr) (hk : MOk X cl W T rr gm) (ho : FE X cl W o fo)
    (hbase : attributeBase o name X.env (eval o X.env) = eval o X.env := by rfl) (hline : (apos.endLine == cpos.line) = true := by rfl) : FE X cl W (.Call (.Attribute o name apos) [] [] cpos) (eM0 T gm fo) :=
  fe_of (pe_bm0 pa slot hty hm ho.pe hbase hline) fun mu δ S σ H Q s r q => by
    refine ⟨mu, δ, S, s, r, (Af.bind q).mono fun v H1 ⟨mu1, d, S1, s1, e1, r1, q1⟩ => ?_⟩
    split at q1
    · rename_i ht
      exact ⟨isTy_at s1 r1 ht, hk mu1 S1 σ H1 v d [] [] Q s1 r1 .nil q1⟩
    · exact q1.elim
/-! sep.join(texts) -/
def mJoin (x : D) : GD := fun ds S => match x, ds with
  | .str a, [y] => match anyOf S y with
    | some xs => match strsOf xs with
      | some ys => if (ys.map (·.length)).sum + ys.length * a.length ≤ 16777216 then .ok (.str (Txt.join a ys)) S else .stuck
      | none => .stuck
    | none => .stuck
  | _, _ => .stuck
theorem mok_join : MOk X cl W "str" (fun x xs H Q => ∃ a p, ∃ ys : List Str, x = .str a ∧ xs = [.ref p] ∧ (SqL X.K H p (ys.map V.str) ∨ SqT X.K H p (ys.map V.str)) ∧
    (ys.map (·.length)).sum + ys.length * a.length ≤ 16777216 ∧ Q (.str (Txt.join a ys)) H) mJoin := fun mu S σ H v x vs ds Q s rx r q => by
  unfold mJoin at q
  split at q
  · split at q
    · split at q
      · split at q
        · rename_i _ xs hx _ ys hy hz
          cases rx
          cases r with
          | cons h r =>
            cases r
            obtain ⟨p, us, rfl, hu, ru⟩ := any_at s h hx
            have e := strs_at ru hy
            subst e
            exact ⟨_, p, ys, rfl, rfl, hu, hz, Af.now q s (.str _)⟩
        · exact q.elim
      · exact q.elim
    · exact q.elim
  · exact q.elim
theorem fe_join (ho : FE X cl W o fo) (ha : FA X cl W [e] fa)
    (hbase : attributeBase o "join" X.env (eval o X.env) = eval o X.env := by rfl)
    (hfew : ((backTo cpos (starEach [e] X.env)).all (fun x => !x.1) && (backToKw cpos (keywordEach [] X.env)).all (fun x => x.1.isSome)
      && decide (([e] : List Expr).length + ([] : List Keyword).length + (if ([] : List Keyword).isEmpty then 0 else 1) < 30)) = true := by rfl)
    (hline : (apos.endLine == cpos.line) = true := by rfl) (hs : starEach [e] X.env = (false, eval e X.env) :: starEach [] X.env := by rfl) :
    FE X cl W (.Call (.Attribute o "join" apos) [e] [] cpos) (eM "str" mJoin fo fa) := fe_m PySem.F.plainAttrs_str PySem.F.slot_str_join PySem.F.type_str_join mt_join mok_join ho ha hbase hfew hline hs rfl
/-! xs.append(x), xs.pop(), xs.pop(i) -/
def mAppend (x : D) : GD := fun ds S => match x, ds with
  | .ref l, [y] => match S[l]? with
    | some (some (.lst xs)) => if xs.length < sizeLine then .ok .non (S.set l (some (.lst (xs ++ [y])))) else .stuck
    | _ => .stuck
  | _, _ => .stuck
def mPop (x : D) : GD := fun ds S => match x, ds with
  | .ref l, [] => match S[l]? with
    | some (some (.lst xs)) => match xs.getLast? with
      | some y => .ok y (S.set l (some (.lst xs.dropLast)))
      | none => .stuck
    | _ => .stuck
  | _, _ => .stuck
def mPopAt (x : D) : GD := fun ds S => match x, ds with
  | .ref l, [.int i] => match S[l]? with
    | some (some (.lst xs)) => if -(2 ^ 63) ≤ i ∧ i < 2 ^ 63 then match seqIndex? i xs.length with
      | some k => match xs[k]? with
        | some y => .ok y (S.set l (some (.lst (xs.eraseIdx k))))
        | none => .stuck
      | none => .stuck
      else .stuck
    | _ => .stuck
  | _, _ => .stuck
def mClear (x : D) : GD := fun ds S => match x, ds with
  | .ref l, [] => match S[l]? with
    | some (some (.lst xs)) => .ok .non (S.set l (some (.lst [])))
    | _ => .stuck
  | _, _ => .stuck
theorem Af.put {K : PySem.W.Frag} {mu : Mu} {H : Hp} {S : Store} {σ : St} {l : Nat} {a : Addr} {xs : List D} {us : List V} {d : D} {v : V} {Q : VK} (s : SR K cl mu H S) (hm : mu l = some a) (ru : VRels K cl S.length mu H us xs) (r : VRel K cl S.length mu H v d)
    (q : Af K cl (VRel K cl) S.length mu H σ W (.ok d (S.set l (some (.lst xs)))) Q) : Q v (upd H a (.lst us)) :=
  q v _ mu (ext_put s hm) (sr_put s hm (.lst upd_same (ru.mono (ext_put s hm)))) (r.mono (ext_put s hm))
theorem lst_live {K : PySem.W.Frag} {mu : Mu} {H : Hp} {S : Store} {v : V} {l : Nat} {xs : List D} (s : SR K cl mu H S) (r : VRel K cl S.length mu H v (.ref l)) (e : S[l]? = some (some (.lst xs))) : ∃ a us, v = .ref a ∧ mu l = some a ∧ H a = some (.lst us) ∧ VRels K cl S.length mu H us xs := by
  obtain ⟨a, rfl, hm, o⟩ := ref_at s r e
  cases o with
  | lst h ru => exact ⟨a, _, rfl, hm, h, ru⟩
theorem mok_append : MOk X cl W "list" rAppend mAppend := fun mu S σ H v x vs ds Q s rx r q => by
  unfold mAppend at q
  split at q
  · split at q
    · split at q
      · rename_i xs hx hz
        obtain ⟨a, us, rfl, hm, h, ru⟩ := lst_live s rx hx
        cases r with
        | cons h1 r =>
          cases r
          exact ⟨a, us, _, rfl, rfl, h, by rw [ru.length]; exact hz, Af.put s hm (ru.append (.cons h1 .nil)) .non q⟩
      · exact q.elim
    · exact q.elim
  · exact q.elim
theorem dropLast_rel {K : PySem.W.Frag} {n : Nat} {mu : Mu} {H : Hp} {us : List V} {xs : List D} (r : VRels K cl n mu H us xs) : VRels K cl n mu H us.dropLast xs.dropLast := by
  rw [List.dropLast_eq_take, List.dropLast_eq_take, r.length]
  exact r.take _
theorem mok_pop : MOk X cl W "list" rPop mPop := fun mu S σ H v x vs ds Q s rx r q => by
  unfold mPop at q
  split at q
  · split at q
    · split at q
      · rename_i xs hx _ y hy
        obtain ⟨a, us, rfl, hm, h, ru⟩ := lst_live s rx hx
        cases r
        rw [List.getLast?_eq_getElem?] at hy
        obtain ⟨w, hw, rw'⟩ := ru.get hy
        exact ⟨a, us, w, rfl, rfl, h, by rw [ru.length]; exact hw, Af.put s hm (dropLast_rel ru) rw' q⟩
      · exact q.elim
    · exact q.elim
  · exact q.elim
theorem mok_popAt : MOk X cl W "list" rPopAt mPopAt := fun mu S σ H v x vs ds Q s rx r q => by
  unfold mPopAt at q
  split at q
  · split at q
    · split at q
      · rename_i xs hx hz
        split at q
        · split at q
          · rename_i _ kk hk _ y hy
            obtain ⟨a, us, rfl, hm, h, ru⟩ := lst_live s rx hx
            cases r with
            | cons h1 r =>
              cases r
              cases h1
              obtain ⟨w, hw, rw'⟩ := ru.get hy
              exact ⟨a, us, _, kk, w, rfl, rfl, h, hz.1, hz.2, by rw [ru.length]; exact hk, hw, Af.put s hm (ru.eraseIdx _) rw' q⟩
          · exact q.elim
        · exact q.elim
      · exact q.elim
    · exact q.elim
  · exact q.elim
theorem mok_clear : MOk X cl W "list" rClear mClear := fun mu S σ H v x vs ds Q s rx r q => by
  unfold mClear at q
  split at q
  · split at q
    · rename_i xs hx
      obtain ⟨a, us, rfl, hm, h, ru⟩ := lst_live s rx hx
      cases r
      exact ⟨a, us, rfl, rfl, h, Af.put s hm .nil .non q⟩
    · exact q.elim
  · exact q.elim
theorem fe_append (ho : FE X cl W o fo) (ha : FA X cl W [e] fa)
    (hbase : attributeBase o "append" X.env (eval o X.env) = eval o X.env := by rfl)
    (hfew : ((backTo cpos (starEach [e] X.env)).all (fun x => !x.1) && (backToKw cpos (keywordEach [] X.env)).all (fun x => x.1.isSome)
      && decide (([e] : List Expr).length + ([] : List Keyword).length + (if ([] : List Keyword).isEmpty then 0 else 1) < 30)) = true := by rfl)
    (hline : (apos.endLine == cpos.line) = true := by rfl) (hs : starEach [e] X.env = (false, eval e X.env) :: starEach [] X.env := by rfl) :
    FE X cl W (.Call (.Attribute o "append" apos) [e] [] cpos) (eM "list" mAppend fo fa) := fe_m PySem.F.plainAttrs_list PySem.F.slot_list_append PySem.F.type_list_append mt_append mok_append ho ha hbase hfew hline hs rfl
theorem fe_popAt (ho : FE X cl W o fo) (ha : FA X cl W [e] fa)
    (hbase : attributeBase o "pop" X.env (eval o X.env) = eval o X.env := by rfl)
    (hfew : ((backTo cpos (starEach [e] X.env)).all (fun x => !x.1) && (backToKw cpos (keywordEach [] X.env)).all (fun x => x.1.isSome)
      && decide (([e] : List Expr).length + ([] : List Keyword).length + (if ([] : List Keyword).isEmpty then 0 else 1) < 30)) = true := by rfl)
    (hline : (apos.endLine == cpos.line) = true := by rfl) (hs : starEach [e] X.env = (false, eval e X.env) :: starEach [] X.env := by rfl) :
    FE X cl W (.Call (.Attribute o "pop" apos) [e] [] cpos) (eM "list" mPopAt fo fa) := fe_m PySem.F.plainAttrs_list PySem.F.slot_list_pop PySem.F.type_list_pop mt_popAt mok_popAt ho ha hbase hfew hline hs rfl
theorem fe_pop (ho : FE X cl W o fo) (hbase : attributeBase o "pop" X.env (eval o X.env) = eval o X.env := by rfl) (hline : (apos.endLine == cpos.line) = true := by rfl) :
    FE X cl W (.Call (.Attribute o "pop" apos) [] [] cpos) (eM0 "list" mPop fo) := fe_m0 PySem.F.plainAttrs_list PySem.F.slot_list_pop PySem.F.type_list_pop mt_pop mok_pop ho hbase hline
theorem fe_clear (ho : FE X cl W o fo) (hbase : attributeBase o "clear" X.env (eval o X.env) = eval o X.env := by rfl) (hline : (apos.endLine == cpos.line) = true := by rfl) :
    FE X cl W (.Call (.Attribute o "clear" apos) [] [] cpos) (eM0 "list" mClear fo) := fe_m0 PySem.F.plainAttrs_list PySem.F.slot_list_clear PySem.F.type_list_clear mt_clear mok_clear ho hbase hline
/-! xs.index(y), of flat things -/
def mIndex (x : D) : GD := fun ds S => match ds with
  | [y] => match seqOf S x with
    | some xs => if flatD y && xs.all flatD then match xs.findIdx? fun z => eqF z y with | some j => .ok (.int j) S | none => .stuck else .stuck
    | none => .stuck
  | _ => .stuck
end
end Mi
namespace Mi
open PySem L2

/-! dicts by their pairs -/
def KRel (K : PySem.W.Frag) (cl : Cl) (n : Nat) (mu : Mu) (H : Hp) (kvs : List (Key × V)) (kds : List (Key × D)) : Prop := kvs.map (·.1) = kds.map (·.1) ∧ VRels K cl n mu H (kvs.map (·.2)) (kds.map (·.2))
theorem zip_un {α β : Type} : ∀ l : List (α × β), (l.map (·.1)).zip (l.map (·.2)) = l
  | [] => rfl
  | (a, b) :: l => by simp only [List.map_cons, List.zip_cons_cons, zip_un l]
section
variable {K : PySem.W.Frag} {cl : Cl} {n n' : Nat} {mu mu' mu0 : Mu} {H H' H0 : Hp} {S : Store} {σ : St} {W : WX}
theorem KRel.pr (e : Pr n mu H n' mu' H') {kvs : List (Key × V)} {kds : List (Key × D)} (r : KRel K cl n mu H kvs kds) : KRel K cl n' mu' H' kvs kds := ⟨r.1, r.2.pr e⟩
theorem KRel.of {ks : List Key} {vs : List V} {ds : List D} (hl : ks.length = vs.length) (r : VRels K cl n mu H vs ds) : KRel K cl n mu H (ks.zip vs) (ks.zip ds) := by
  have h2 : ks.length = ds.length := hl.trans r.length
  have m1 : (ks.zip vs).map (·.1) = ks := List.map_fst_zip (Nat.le_of_eq hl)
  have m2 : (ks.zip ds).map (·.1) = ks := List.map_fst_zip (Nat.le_of_eq h2)
  have m3 : (ks.zip vs).map (·.2) = vs := List.map_snd_zip (Nat.le_of_eq hl.symm)
  have m4 : (ks.zip ds).map (·.2) = ds := List.map_snd_zip (Nat.le_of_eq h2.symm)
  exact ⟨by rw [m1, m2], by rw [m3, m4]; exact r⟩
theorem VRel.dic' {a : Addr} {kvs : List (Key × V)} {kds : List (Key × D)} (f : Fz mu H a (.dK kvs)) (r : KRel K cl n mu H kvs kds) : VRel K cl n mu H (.ref a) (.dic kds) := by
  have e1 := zip_un kvs
  have e2 := zip_un kds
  rw [← e2, ← r.1]
  exact .dic (by rw [e1]; exact f) (by simp) r.2
theorem ORel.dic' {a : Addr} {kvs : List (Key × V)} {kds : List (Key × D)} (h : H a = some (.dK kvs)) (r : KRel K cl n mu H kvs kds) : ORel K cl n mu H a (.dic kds) := by
  have e1 := zip_un kvs
  have e2 := zip_un kds
  rw [← e2, ← r.1]
  exact .dic (by rw [e1]; exact h) (by simp) r.2
theorem dic_k (s : SR K cl mu H S) {v : V} {d : D} {kds : List (Key × D)} (r : VRel K cl S.length mu H v d) (e : dicOf S d = some kds) : ∃ a kvs, v = .ref a ∧ Rd H a (.dK kvs) ∧ KRel K cl S.length mu H kvs kds := by
  obtain ⟨a, ks, vs, ds, h1, h2, h3, h4, rfl⟩ := dic_at s r e
  exact ⟨a, _, h1, h2, .of h3 h4⟩
theorem dic_live (s : SR K cl mu H S) {v : V} {l : Nat} {kds : List (Key × D)} (r : VRel K cl S.length mu H v (.ref l)) (e : S[l]? = some (some (.dic kds))) : ∃ a kvs, v = .ref a ∧ mu l = some a ∧ H a = some (.dK kvs) ∧ KRel K cl S.length mu H kvs kds := by
  obtain ⟨a, rfl, hm, o⟩ := ref_at s r e
  cases o with
  | dic h hl ru => exact ⟨a, _, rfl, hm, h, .of hl ru⟩
def putD (kds : List (Key × D)) (k : Key) (d : D) : List (Key × D) :=
  if (kds.any fun kv => decide (kv.1 = k)) = true then kds.map (fun kv => if kv.1 = k then (kv.1, d) else kv) else kds ++ [(k, d)]
def dropD (kds : List (Key × D)) (k : Key) : List (Key × D) := kds.filter fun kv => decide (kv.1 ≠ k)
theorem KRel.any {k : Key} : ∀ {kvs : List (Key × V)} {kds : List (Key × D)}, KRel K cl n mu H kvs kds → (kvs.any fun kv => decide (kv.1 = k)) = (kds.any fun kv => decide (kv.1 = k))
  | [], [], _ => rfl
  | [], _ :: _, ⟨h, _⟩ => by cases h
  | _ :: _, [], ⟨h, _⟩ => by cases h
  | (k1, v) :: kvs, (k2, d) :: kds, ⟨h1, h2⟩ => by
    rw [List.map_cons, List.map_cons] at h1 h2
    injection h1 with e1 e2
    cases h2 with
    | cons q1 q2 =>
      have e1 : k1 = k2 := e1
      subst e1
      rw [List.any_cons, List.any_cons, KRel.any (k := k) ⟨e2, q2⟩]
theorem KRel.cons {k : Key} {v : V} {d : D} {kvs : List (Key × V)} {kds : List (Key × D)} (h : VRel K cl n mu H v d) (r : KRel K cl n mu H kvs kds) : KRel K cl n mu H ((k, v) :: kvs) ((k, d) :: kds) := ⟨by rw [List.map_cons, List.map_cons, r.1], .cons h r.2⟩
theorem KRel.nil : KRel K cl n mu H [] [] := ⟨rfl, .nil⟩
theorem KRel.induct {P : List (Key × V) → List (Key × D) → Prop} (h0 : P [] []) (hc : ∀ k v d kvs kds, VRel K cl n mu H v d → KRel K cl n mu H kvs kds → P kvs kds → P ((k, v) :: kvs) ((k, d) :: kds)) : ∀ {kvs : List (Key × V)} {kds : List (Key × D)}, KRel K cl n mu H kvs kds → P kvs kds
  | [], [], _ => h0
  | [], _ :: _, ⟨h, _⟩ => by cases h
  | _ :: _, [], ⟨h, _⟩ => by cases h
  | (k1, v) :: kvs, (k2, d) :: kds, ⟨h1, h2⟩ => by
    rw [List.map_cons, List.map_cons] at h1 h2
    injection h1 with e1 e2
    cases h2 with
    | cons q1 q2 =>
      have e1 : k1 = k2 := e1
      subst e1
      exact hc _ _ _ _ _ q1 ⟨e2, q2⟩ (KRel.induct h0 hc ⟨e2, q2⟩)
theorem KRel.append {kvs kvs2 : List (Key × V)} {kds kds2 : List (Key × D)} (r : KRel K cl n mu H kvs kds) (r2 : KRel K cl n mu H kvs2 kds2) : KRel K cl n mu H (kvs ++ kvs2) (kds ++ kds2) :=
  ⟨by rw [List.map_append, List.map_append, r.1, r2.1], by rw [List.map_append, List.map_append]; exact r.2.append r2.2⟩
theorem KRel.put {k : Key} {v : V} {d : D} {kvs : List (Key × V)} {kds : List (Key × D)} (h : VRel K cl n mu H v d) (r : KRel K cl n mu H kvs kds) : KRel K cl n mu H (putK kvs k v) (putD kds k d) := by
  unfold putK putD
  rw [r.any]
  split
  · exact KRel.induct (P := fun kvs kds => KRel K cl n mu H (kvs.map (fun kv => if kv.1 = k then (kv.1, v) else kv)) (kds.map (fun kv => if kv.1 = k then (kv.1, d) else kv))) .nil (fun k1 v1 d1 kvs kds q _ ih => by
      rw [List.map_cons, List.map_cons]
      by_cases e : k1 = k
      · simp only [e, if_true]; exact .cons h ih
      · simp only [e, if_false]; exact .cons q ih) r
  · exact r.append (.cons h .nil)
theorem KRel.drop {k : Key} {kvs : List (Key × V)} {kds : List (Key × D)} (r : KRel K cl n mu H kvs kds) : KRel K cl n mu H (dropK kvs k) (dropD kds k) := by
  unfold dropK dropD
  exact KRel.induct (P := fun kvs kds => KRel K cl n mu H (kvs.filter fun kv => decide (kv.1 ≠ k)) (kds.filter fun kv => decide (kv.1 ≠ k))) .nil (fun k1 v1 d1 kvs kds q _ ih => by
      rw [List.filter_cons, List.filter_cons]
      by_cases e : k1 = k
      · simp only [e, ne_eq, not_true, decide_false]; exact ih
      · simp only [e, ne_eq, not_false_iff, decide_true, if_true]; exact .cons q ih) r
def mergeD (kds more : List (Key × D)) : List (Key × D) := more.foldl (fun acc kv => putD acc kv.1 kv.2) kds
theorem KRel.merge {more : List (Key × V)} {mored : List (Key × D)} (m : KRel K cl n mu H more mored) : ∀ {kvs : List (Key × V)} {kds : List (Key × D)}, KRel K cl n mu H kvs kds → KRel K cl n mu H (mergeK kvs more) (mergeD kds mored) :=
  KRel.induct (P := fun more mored => ∀ {kvs : List (Key × V)} {kds : List (Key × D)}, KRel K cl n mu H kvs kds → KRel K cl n mu H (mergeK kvs more) (mergeD kds mored)) (fun r => r) (fun k v d kvs kds h _ ih => fun r => ih (r.put h)) m
/-- a thing that was nobody's is taken up: read from then on, or with a place of its own -/
theorem adopt {n0 : Nat} {p : Addr} (e : Ext n0 mu0 H0 S.length (zOff mu mu0) H) (s : SR K cl mu H S) (hz : mu.z = (zAdd mu0 p).z) (h0 : H0 p = none) (n0' : ¬ mu0.z p) :
    SR K cl (zOff mu mu0) H S ∧ Pr S.length mu H S.length (zOff mu mu0) H ∧ Ot (zOff mu mu0) p := by
  have zp : mu.z p := by rw [hz]; exact .inr rfl
  have nz : ∀ a, mu0.z a → mu.z a := fun a h => by rw [hz]; exact .inl h
  have p1 : Pr S.length mu H S.length (zOff mu mu0) H := ⟨Nat.le_refl _, fun a o h f => ⟨h, f.1, fun z => f.2 (nz a z)⟩, fun _ _ _ h => h⟩
  exact ⟨s.re p1 rfl (fun _ _ _ => rfl) (fun a h => s.zt a (nz a h)) fun l a h z => s.zd l a h (nz a z), p1, fun l q => s.zd l p q zp, n0'⟩
theorem adoptL {n0 : Nat} {p : Addr} {o : O} (e : Ext n0 mu0 H0 S.length (zOff mu mu0) H) (s : SR K cl mu H S) (hz : mu.z = (zAdd mu0 p).z) (h0 : H0 p = none) (n0' : ¬ mu0.z p)
    (r : ∀ mu' n', Pr S.length mu H n' mu' H → ORel K cl n' mu' H p o) : ∃ mu', Ext n0 mu0 H0 (S ++ [some o]).length mu' H ∧ SR K cl mu' H (S ++ [some o]) ∧ VRel K cl (S ++ [some o]).length mu' H (.ref p) (.ref S.length) := by
  have zp : mu.z p := by rw [hz]; exact .inr rfl
  have nz : ∀ a, mu0.z a → mu.z a := fun a h => by rw [hz]; exact .inl h
  have nr : ∀ l, mu l ≠ some p := fun l q => s.zd l p q zp
  have p1 : Pr S.length mu H (S ++ [some o]).length (muAdd (zOff mu mu0) S.length p) H := by
    refine ⟨by simp, fun a o h f => ⟨h, fun l e => ?_, fun z => f.2 (nz a z)⟩, fun l a hl h => ?_⟩
    · dsimp only [muAdd] at e
      split at e
      · cases e; exact f.2 zp
      · exact f.1 l e
    · dsimp only [muAdd] at h
      rw [if_neg (Nat.ne_of_lt hl)] at h
      exact h
  refine ⟨muAdd (zOff mu mu0) S.length p, ?_, ?_, .ref (by simp) fun a e => by
      dsimp only [muAdd] at e
      rw [if_pos rfl] at e
      cases e; rfl⟩
  · refine ⟨by simp; exact Nat.le_succ_of_le e.le, e.keep, fun l a hl h => ?_, fun l a hl h => ?_, e.trk, rfl⟩
    · dsimp only [muAdd] at h
      rw [if_neg (Nat.ne_of_lt (Nat.lt_of_lt_of_le hl e.le))] at h
      exact e.old l a hl h
    · dsimp only [muAdd] at h
      split at h
      · cases h; exact h0
      · exact e.new l a hl h
  · refine ⟨fun l m a e1 e2 => ?_, fun l o e => ?_, fun l h => ?_, fun a h => s.zt a (nz a h), fun l a h z => ?_⟩
    · dsimp only [muAdd] at e1 e2
      split at e1 <;> split at e2
      · rename_i z1 z2; rw [z1, z2]
      · cases e1; exact absurd e2 (nr m)
      · cases e2; exact absurd e1 (nr l)
      · exact s.inj l m a e1 e2
    · by_cases hl : l < S.length
      · rw [List.getElem?_append_left hl] at e
        obtain ⟨a, h1, h2⟩ := s.live l o e
        exact ⟨a, by dsimp only [muAdd]; rw [if_neg (Nat.ne_of_lt hl)]; exact h1, h2.pr p1 rfl⟩
      · have hl' : l = S.length := by
          have := (List.getElem?_eq_some_iff.mp e).1
          rw [List.length_append] at this
          have h1 : ([some o] : Store).length = 1 := rfl
          simp at this
          omega
        subst hl'
        rw [List.getElem?_append_right (Nat.le_refl _), Nat.sub_self] at e
        cases e
        exact ⟨p, if_pos rfl, r _ _ p1⟩
    · dsimp only [muAdd]
      by_cases e : l = S.length
      · subst e
        exact absurd (by rw [List.getElem?_append_right (Nat.le_refl _), Nat.sub_self]; rfl) (h o)
      · rw [if_neg e]
        refine s.dead l fun y z => h y ?_
        rw [List.getElem?_append_left (List.getElem?_eq_some_iff.mp z).1]
        exact z
    · dsimp only [muAdd] at h z
      split at h
      · cases h; exact n0' z
      · exact s.zd l a h (nz a z)
end

section
variable {X : Cx} {cl : Cl} {W : WX} {pos : Pos} {k : Nat}
/-! {} -/
def eDic0 (live : Bool) : DE := fun _ S => if live then .ok (.ref S.length) (S ++ [some (.dic [])]) else .ok (.dic []) S
theorem fe_dic0 {live : Bool} : FE X cl W (.Dict [] [] pos) (eDic0 live) := fe_of pe_dnewK fun mu δ S σ H Q s r q => by
  intro p hp
  cases live with
  | true => exact Af.live q s hp (.dic' upd_same .nil)
  | false => exact q _ _ mu (ext_new s hp) (sr_new s hp) (.dic' (fz_new s hp) .nil)
/-! {k: v, ..} -/
def pairsD : List (Key × DE) → Env → Store → Out (List (Key × D))
  | [], _, S => .ok [] S
  | (k, f) :: r, δ, S => (f δ S).bind fun x S1 => (pairsD r δ S1).bind fun xs S2 => .ok ((k, x) :: xs) S2
def eDic (live : Bool) (l : List (Key × DE)) : DE := fun δ S => (noX (pairsD l δ S)).bind fun kds S1 => if kds.length ≤ 15 then (if live then .ok (.ref S1.length) (S1 ++ [some (.dic (mergeD [] kds))]) else .ok (.dic (mergeD [] kds)) S1) else .stuck
/-- the pairs: the keys are written -/
structure FPs (X : Cx) (cl : Cl) (W : WX) (pos : Pos) (keys : List (Option Expr)) (values : List Expr) (l : List (Key × DE)) : Prop where
  ps : PPs X pos keys values (l.map fun p => (tC (kV p.1), tE X.K cl W p.2))
theorem fps_nil : FPs X cl W pos [] [] [] := ⟨pps_nil⟩
theorem fps_str {x : Str} {j : Nat} {kp : Pos} {v : Expr} {ks : List (Option Expr)} {vs : List Expr} {f : DE} {l : List (Key × DE)} (hv : FE X cl W v f) (hr : FPs X cl W pos ks vs l) : FPs X cl W pos (some (.Constant (.str x) j kp) :: ks) (v :: vs) ((.inr x, f) :: l) := ⟨pps_cons pe_str hv.pe hr.ps⟩
theorem fps_int {x : Int} {j : Nat} {kp : Pos} {v : Expr} {ks : List (Option Expr)} {vs : List Expr} {f : DE} {l : List (Key × DE)} (hv : FE X cl W v f) (hr : FPs X cl W pos ks vs l) : FPs X cl W pos (some (.Constant (.int x) j kp) :: ks) (v :: vs) ((.inl x, f) :: l) := ⟨pps_cons pe_int hv.pe hr.ps⟩
theorem pairs_ok {K : PySem.W.Frag} : ∀ (l : List (Key × DE)) {mu : Mu} {δ : Env} {S : Store} {σ : St} {H : Hp} {Q : List (Key × V) → Hp → Prop}, SR K cl mu H S → ERel K cl S.length mu H σ δ → Af K cl (KRel K cl) S.length mu H σ W (pairsD l δ S) Q →
    tPairs (l.map fun p => (tC (kV p.1), tE K cl W p.2)) σ H fun ps H2 => ∃ kvs : List (Key × V), ps = kvs.map (fun kv => (kV kv.1, kv.2)) ∧ Q kvs H2
  | [], mu, δ, S, σ, H, Q, s, r, q => ⟨[], rfl, Af.now q s .nil⟩
  | (k, f) :: l, mu, δ, S, σ, H, Q, s, r, q => by
    refine ⟨mu, δ, S, s, r, (Af.bind (R := VRel K cl) q).mono fun v H1 ⟨mu1, d, S1, s1, e1, r1, q1⟩ => ?_⟩
    have q2 : Af K cl (KRel K cl) S1.length mu1 H1 σ W (pairsD l δ S1) fun kvs H2 => ∀ mu2 : Mu, True → Q ((k, v) :: kvs) H2 := by
      cases z : pairsD l δ S1 with
      | ok kds S2 => rw [z] at q1; exact fun kvs H' mu' e s r _ _ => q1 _ H' mu' e s (.cons (r1.mono e) r)
      | exc C fs S2 => rw [z] at q1; exact q1
      | stuck => rw [z] at q1; exact q1
    have q3 := pairs_ok l s1 (r.mono e1) q2
    have wk : ∀ (trs : List (TE × TE)), (∀ p ∈ trs, (∀ σ H Q Q', (∀ v H', Q v H' → Q' v H') → p.1 σ H Q → p.1 σ H Q') ∧ (∀ σ H Q Q', (∀ v H', Q v H' → Q' v H') → p.2 σ H Q → p.2 σ H Q')) → ∀ (σ : St) (H : Hp) (Q Q' : List (V × V) → Hp → Prop), (∀ x H', Q x H' → Q' x H') → tPairs trs σ H Q → tPairs trs σ H Q' := fun trs => by
      induction trs with
      | nil => intro _ σ H Q Q' i q; exact i _ _ q
      | cons p trs ih =>
        intro hm σ H Q Q' i q
        obtain ⟨m1, m2⟩ := hm p List.mem_cons_self
        refine m1 _ _ _ _ (fun x H1 q => ?_) q
        refine m2 _ _ _ _ (fun y H2 q => ?_) q
        exact ih (fun p hp => hm p (List.mem_cons_of_mem _ hp)) _ _ _ _ (fun ps H3 q => i _ _ q) q
    refine wk _ (fun p hp => ?_) _ _ _ _ (fun ps H2 ⟨kvs, e, q⟩ => ?_) q3
    · obtain ⟨p', _, rfl⟩ := List.mem_map.mp hp
      exact ⟨fun σ H Q Q' i q => i _ _ q, fun σ H Q Q' i ⟨mu, δ, S, s, r, q⟩ => ⟨mu, δ, S, s, r, q.mono i⟩⟩
    · exact ⟨(k, v) :: kvs, by rw [e, List.map_cons], q mu1 True.intro⟩
theorem fe_dic {live : Bool} {keys : List (Option Expr)} {values : List Expr} {l : List (Key × DE)} (h : FPs X cl W pos keys values l) (hall : keys.all (·.isSome) = true := by rfl) (hl : keys.length = values.length := by rfl) (h0 : keys ≠ [] := by exact fun z => nomatch z) (h15 : keys.length ≤ 15 := by decide) :
    FE X cl W (.Dict keys values pos) (eDic live l) := fe_of (pe_disp h.ps hall hl h0 h15) fun mu δ S σ H Q s r q => by
  intro p hp
  have s1 := sr_zadd (o := .dK []) s hp
  have q2 : Af X.K cl (KRel X.K cl) S.length (zAdd mu p) (upd H p (.dK [])) σ W (pairsD l δ S) fun kvs H2 => H2 p = some (.dK []) ∧ kvs.length ≤ 15 ∧ Q (.ref p) (upd H2 p (.dK (mergeK [] kvs))) := by
    refine (Af.noX q).mono fun kvs H2 ⟨mu2, kds, S2, s2, e2, r2, q2⟩ => ?_
    have nr : ∀ l, (zAdd mu p) l ≠ some p := fun l e => s.ne hp l e
    have hp2 : H2 p = some (.dK []) := e2.keep _ _ upd_same nr
    split at q2
    case isFalse => exact q2.elim
    rename_i hz
    have hlen : kvs.length = kds.length := by have := congrArg List.length r2.1; simpa using this
    refine ⟨hp2, by omega, ?_⟩
    have hz2 : mu2.z p := by rw [e2.zz]; exact .inr rfl
    have s3 := sr_zput (o := .dK (mergeK [] kvs)) s2 hz2
    have rm : KRel X.K cl S2.length mu2 (upd H2 p (.dK (mergeK [] kvs))) (mergeK [] kvs) (mergeD [] kds) := KRel.merge (r2.pr (pr_zput hz2)) .nil
    have ex : Ext S.length mu H S2.length (zOff mu2 mu) (upd H2 p (.dK (mergeK [] kvs))) := by
      refine ⟨e2.le, fun a o h f => ?_, e2.old, fun l a hl h => ?_, fun a h => ?_, rfl⟩
      · have ne := ne_of_none h hp
        rw [upd_ne ne]
        exact e2.keep a o (by rw [upd_ne ne]; exact h) f
      · have := e2.new l a hl h
        by_cases e : a = p
        · rw [e]; exact hp
        · rw [upd_ne e] at this; exact this
      · by_cases e : a = p
        · rw [e]; exact hp
        · rw [upd_ne e] at h
          have := e2.trk a h
          rw [upd_ne e] at this
          exact this
    cases live with
    | false =>
      obtain ⟨a1, a2, a3⟩ := adopt ex s3 e2.zz hp (s.ot hp).2
      exact q2 _ _ _ ex a1 (.dic' ⟨.inl upd_same, a3⟩ (rm.pr a2))
    | true =>
      obtain ⟨mu3, b1, b2, b3⟩ := adoptL (o := .dic (mergeD [] kds)) ex s3 e2.zz hp (s.ot hp).2 fun mu' n' pr => .dic' upd_same (rm.pr pr)
      exact q2 _ _ mu3 b1 b2 b3
  have rd := pairs_ok l s1 (r.pr (pr_zadd hp)) q2
  have wk : ∀ (trs : List (TE × TE)), (∀ p ∈ trs, (∀ σ H Q Q', (∀ v H', Q v H' → Q' v H') → p.1 σ H Q → p.1 σ H Q') ∧ (∀ σ H Q Q', (∀ v H', Q v H' → Q' v H') → p.2 σ H Q → p.2 σ H Q')) → ∀ (σ : St) (H : Hp) (Q Q' : List (V × V) → Hp → Prop), (∀ x H', Q x H' → Q' x H') → tPairs trs σ H Q → tPairs trs σ H Q' := fun trs => by
      induction trs with
      | nil => intro _ σ H Q Q' i q; exact i _ _ q
      | cons p trs ih =>
        intro hm σ H Q Q' i q
        obtain ⟨m1, m2⟩ := hm p List.mem_cons_self
        refine m1 _ _ _ _ (fun x H1 q => ?_) q
        refine m2 _ _ _ _ (fun y H2 q => ?_) q
        exact ih (fun p hp => hm p (List.mem_cons_of_mem _ hp)) _ _ _ _ (fun ps H3 q => i _ _ q) q
  refine wk _ (fun p hp => ?_) _ _ _ _ (fun ps H2 ⟨kvs, e, q1, q2, q3⟩ => ⟨q1, kvs, e, q2, q3⟩) rd
  obtain ⟨p', _, rfl⟩ := List.mem_map.mp hp
  exact ⟨fun σ H Q Q' i q => i _ _ q, fun σ H Q Q' i ⟨mu, δ, S, s, r, q⟩ => ⟨mu, δ, S, s, r, q.mono i⟩⟩
end
end Mi
namespace Mi
open PySem PySem.Spec PyProof.Rows L2

/-- the law's own call, from the heap behind the top -/
theorem law_enter {P : Program} {w : World} {K : PySem.W.Frag} {mg mb : Str → Option Value} {k : Nat} {fa a : Addr} {fd : FuncData} {x : Str} {cl : Cl} {g : GD} {t : Shared} {us : List Value} {ns : List Int}
    (inK : K.In t.heap) (gl : t.heap.Ns mainGlobals mg) (bl : t.heap.Ns builtinsNs mb) (bb : ∀ y : Str, y ≠ "__name__" → mb y = bootBuiltins y) (nl : t.heap.NoLimit) (gen : t.gens = #[])
    (at_ : t.heap.get? a = some { cls := .type "list", data := .seq us.toArray }) (ii : IntsAre us ns) (few : ns.length ≤ sizeLine) (room : Room k callerA)
    (F : ∀ base : Heap, K.In base → base.Ns mainGlobals mg → FnG P w K mg base k fa fd [x] (spOf K cl 1 g)) (bind : ∀ (s : Shared) (u : Value), BindsTo s fd ⟨[u], []⟩ [(x, u)])
    (good : ∃ S, g [.scr (ns.map D.int)] [] = .ok (.bl true) S) :
    codeAny (model P w) callerA (.call (.ref fa) ⟨[.ref a], []⟩) (fun r s' => r = .ok (.ret (.bool true)) ∧ OldK t.heap s'.heap ∧ s'.os = t.os ∧ AllBare s'.gens) t := by
  have rv := vals_ints ii
  have len := ii.length
  suffices main : ∀ H : Hp, (∀ b u, H b = some u → b = a ∧ u = .frz { cls := .type "list", data := .seq us.toArray } (.lst (ns.map V.int))) → (H a ≠ none → K.lookup a = none) → SqL K H a (ns.map V.int) →
      codeAny (model P w) callerA (.call (.ref fa) ⟨[.ref a], []⟩) (fun r s' => r = .ok (.ret (.bool true)) ∧ OldK t.heap s'.heap ∧ s'.os = t.os ∧ AllBare s'.gens) t by
    cases hk : K.lookup a with
    | some o =>
      have e := inK a o hk
      rw [at_] at e
      cases e
      exact main (fun _ => none) (fun _ _ z => nomatch z) (fun z => absurd rfl z) (.inr ⟨_, us.toArray, _, hk, rfl, rfl, rfl, by rw [List.size_toArray, len]; exact few, by simpa using rv⟩)
    | none =>
      refine main (fun b => if b = a then some (.frz { cls := .type "list", data := .seq us.toArray } (.lst (ns.map V.int))) else none) (fun b u z => ?_) (fun _ => hk) (.inl (.inr ⟨_, if_pos rfl⟩))
      by_cases e : b = a
      · rw [if_pos e] at z; cases z; exact ⟨e, rfl⟩
      · rw [if_neg e] at z; cases z
  intro H one away sq
  have dictFree : ∀ {b : Addr} {m : Str → Option Value}, t.heap.Ns b m → (hidT t.heap H).Ns b m := by
    rintro b m ⟨o, es, ep, e, d, r⟩
    refine ⟨o, es, ep, hidT_get e ?_, d, r⟩
    cases z : H b with
    | none => rfl
    | some u =>
      obtain ⟨rfl, _⟩ := one b u z
      rw [at_] at e; cases e; cases d
  have baseK : K.In (hidT t.heap H) := by
    intro b o e
    refine hidT_get (inK b o e) ?_
    cases z : H b with
    | none => rfl
    | some u =>
      obtain ⟨rfl, _⟩ := one b u z
      rw [away (by rw [z]; exact fun y => nomatch y)] at e; cases e
  have hok : HOk P w H t.heap := by
    intro b u z
    obtain ⟨rfl, rfl⟩ := one b u z
    exact ⟨at_, by rw [List.length_map]; exact few, us, _, rv, at_⟩
  obtain ⟨mc, c1, c2⟩ := nl
  have md : Mod K mg (hidT t.heap H) := ⟨baseK, dictFree gl, ⟨mb, dictFree bl, bb⟩, mc, dictFree c1, c2⟩
  have en : Env0 P w K mg (hidT t.heap H) callerA [] t H := ⟨rfl, md, fun b o e => of_hidT e, Nat.le_of_eq (hidT_size _ _), trivial, (fun b hb => nomatch hb), hok, .of_eq gen⟩
  have vi : ∀ (l : List Int), VRels K cl 0 ⟨fun _ => none, fun _ => False⟩ H (l.map V.int) (l.map D.int) := fun l => by
    induction l with
    | nil => exact .nil
    | cons i l ih => exact .cons (.int i) ih
  have sc : ScrF K ⟨fun _ => none, fun _ => False⟩ H a (ns.map V.int) := sq.imp (fun h => ⟨h, (fun _ z => nomatch z), id⟩) id
  obtain ⟨S, hS⟩ := good
  have sp : spOf K cl 1 g [.ref a] H (fun v _ => v = .bl true) fun _ _ _ => False := by
    refine ⟨rfl, ⟨fun _ => none, fun _ => False⟩, [.scr (ns.map D.int)], [], ⟨(fun _ _ _ e => nomatch e), (fun l o e => by simp at e), (fun _ _ => rfl), (fun _ h => h.elim), fun _ _ e => nomatch e⟩, .cons (.scr sc (vi ns)) .nil, ?_⟩
    rw [hS]
    intro v H' mu' _ _ r
    cases r; rfl
  refine codeAny_mono ((F _ baseK (dictFree gl)).go callerA [] t H ⟨[.ref a], []⟩ [.ref a] [.ref a] _ _ room rfl en (bind t (.ref a)) (.cons rfl .nil) sp) fun r s' h => ?_
  cases r with
  | error e =>
    obtain ⟨_, _, _, _, _, _, _, _, _, _, _, _, z⟩ := h
    exact z.elim
  | ok fl => cases fl with
    | next => exact h.elim
    | brk => exact h.elim
    | cont => exact h.elim
    | ret u =>
      obtain ⟨v, H', os, bare, un, hok', r', q⟩ := h
      have q : v = .bl true := q
      subst q
      cases (show u = Value.bool true from r')
      refine ⟨rfl, OldK.of_keep fun b o e => ?_, os, bare⟩
      cases z : H b with
      | none => exact un.keep b o e z (fun y => nomatch y) (fun y => nomatch y)
      | some u =>
        obtain ⟨rfl, rfl⟩ := one b u z
        rw [at_] at e
        cases e
        exact (hok' _ _ (un.frzs _ _ _ z)).1
theorem loose_int {p : Program} {lv : List (Str × PySem.W.WData)} {mg : Str → Option Value} {h : Heap} {x : Str} {i : Int} (X : PySem.W.XL p lv mg h) (hm : (x, PySem.W.WData.int i) ∈ lv) : ∃ t, mg x = some (.int i t) := by
  obtain ⟨v, e, r⟩ := X.2.val _ hm
  cases r
  exact ⟨_, e⟩
theorem law_end {l : PySem.W.OpenLaw} {n k : Nat} {q : Program} {loose : List Str} {XP : (Str → Option Value) → Heap → Prop} {YP : World → Heap → Prop} {d : DefRec} {K : Params → PySem.W.Frag} {x : Str} {g : GD}
    (hn : l.most = some n) (hn2 : n ≤ sizeLine) (hdf : d.params.defaults = []) (hr : Room k callerA) (hY : ∀ (w : World) (h : Heap), YP w h → (K w.params).In h)
    (good : ∀ ns : List Int, ns.length ≤ n → (∀ z ∈ ns, Builtin.Int.intBits z ≤ 1048576) → ∃ S, g [.scr (ns.map D.int)] [] = .ok (.bl true) S)
    (F : ∀ (w : World) (mg : Str → Option Value) (fa : Addr) (h : Heap), (K w.params).In h → h.Ns mainGlobals mg → XP mg h → mg d.name = some (.ref fa) →
      ∃ (fd : FuncData) (cl : Cl), (∀ (s : Shared) (u : Value), BindsTo s fd ⟨[u], []⟩ [(x, u)]) ∧ ∀ base : Heap, (K w.params).In base → base.Ns mainGlobals mg → FnG l.prog w (K w.params) mg base k fa fd [x] (spOf (K w.params) cl 1 g)) :
    PySem.W.WalkO q loose XP YP l.row.toRowW d [] (fun f vs => PySem.call f vs) := by
  refine Att.attach_callB hn hdf fun w s₀ s₁ mg mb fa o pm cd doc a vs ns G Y ho hd hcd hmg hobj hints hlen hbits hg => ?_
  obtain ⟨fd, cl, hb, hF⟩ := F w mg fa _ (hY w _ Y) G.T.g G.X hmg
  exact law_enter (hY w _ Y) G.T.g G.T.b G.T.builtins G.T.nolimit hg hobj hints (Nat.le_trans hlen hn2) hr hF hb (good ns hlen hbits)
end Mi
namespace Mi
open PySem L2

/-- a def of the module as it is called by its name -/
structure Cal (P : Program) (w : World) (K : PySem.W.Frag) (mg : Str → Option Value) (base : Heap) (cl : Cl) (j np : Nat) (x : Str) (g : GD) : Prop where
  ex : ∃ (f : Addr) (fd : FuncData) (ps : List Str), mg x = some (.ref f) ∧ PySem.W.keepIn K (.ref f) = true ∧ Binds K fd ps [] ∧ FnG P w K mg base j f fd ps (spOf K cl np g)
theorem Cal.pure {P : Program} {w : World} {K : PySem.W.Frag} {mg : Str → Option Value} {base : Heap} {cl : Cl} {j np : Nat} {x : Str} {g : GD} (c : Cal P w K mg base cl j np x g) : Cal P w K mg base cl j np x (pureD g) := by
  obtain ⟨f, fd, ps, h1, h2, h3, h4⟩ := c.ex
  exact ⟨f, fd, ps, h1, h2, h3, h4.imp fun vs H Q E ⟨hl, mu, ds, S, s, r, q⟩ => pure_ok (σ := []) (W := W0) s r hl q⟩
section
variable {X : Cx} {cl : Cl} {W : WX} {pos p : Pos} {k j np : Nat} {x : Str} {g : GD} {e : Expr} {es : List Expr} {fa : DA}
theorem fe_callC (G : Good X W k) (c : Cal X.prog X.w X.K X.mg X.base cl j np x g) (hj : j ≤ k) (ha : FA X cl W (e :: es) fa) (hg : Gl X x := by rfl) (hdb : (x == ("__debug__" : Str)) = false := by decide)
    (he : starEach (e :: es) X.env = (false, eval e X.env) :: starEach es X.env := by rfl) (hpl : (backTo pos (starEach es X.env)).any (·.1) = false := by rfl) : FE X cl W (.Call (.Name x p) (e :: es) [] pos) (eCall np g [] fa) := by
  obtain ⟨f, fd, ps, h1, h2, h3, h4⟩ := c.ex
  exact fe_call (dvs := []) (dsv := []) G ⟨h4⟩ hj h1 h2 h3 .nil (fun _ _ _ => .nil) ha hg hdb he hpl
theorem fe_globI {i : Int} (h : ∃ t, X.mg x = some (.int i t)) (hg : Gl X x := by rfl) (hd : (x == ("__debug__" : Str)) = false := by decide) : FE X cl W (.Name x pos) (eC (.int i)) := by
  obtain ⟨t, h⟩ := h
  exact fe_const (v := .int i) (pe_glob hg h ⟨t, rfl⟩ hd) fun _ _ _ => .int i
theorem fe_globS {i : Str} (h : ∃ t, X.mg x = some (.str i t)) (hg : Gl X x := by rfl) (hd : (x == ("__debug__" : Str)) = false := by decide) : FE X cl W (.Name x pos) (eC (.str i)) := by
  obtain ⟨t, h⟩ := h
  exact fe_const (v := .str i) (pe_glob hg h ⟨t, rfl⟩ hd) fun _ _ _ => .str i
end
end Mi
namespace Mi
open PySem L2
theorem blkB {N N' : List Str} {sc sc' scope : Scope} {own : List (Str × Nat)} (h1 : N = N') (h2 : sc = sc') (h : blkC N' sc' scope own = true) : BlkOk N sc scope own := by
  subst h1 h2
  exact blkOk_by h
section
variable {X : Cx} {cl : Cl} {W : WX} {pos p apos cpos : Pos} {k : Nat} {o e : Expr} {fo : DE} {fa : DA}
/-! sign in text: its place -/
def mSIndex (x : D) : GD := fun ds S => match x, ds with
  | .str a, [.str b] => match Builtin.Str.occurrences a b 0 a.length 1 with
    | i :: _ => .ok (.int (i : Nat)) S
    | [] => .stuck
  | _, _ => .stuck
theorem mok_sindex : MOk X cl W "str" (fun x xs H Q => ∃ a b i rest, x = .str a ∧ xs = [.str b] ∧ Builtin.Str.occurrences a b 0 a.length 1 = i :: rest ∧ Q (.int (i : Nat)) H) mSIndex := fun mu S σ H v x vs ds Q s rx r q => by
  unfold mSIndex at q
  split at q
  · split at q
    · rename_i a b _ i rest h
      cases rx
      cases r with
      | cons h1 r =>
        cases r
        cases h1
        exact ⟨a, b, i, rest, rfl, rfl, h, Af.now q s (.int _)⟩
    · exact q.elim
  · exact q.elim
theorem fe_sindex (ho : FE X cl W o fo) (ha : FA X cl W [e] fa)
    (hbase : attributeBase o "index" X.env (eval o X.env) = eval o X.env := by rfl)
    (hfew : ((backTo cpos (starEach [e] X.env)).all (fun x => !x.1) && (backToKw cpos (keywordEach [] X.env)).all (fun x => x.1.isSome)
      && decide (([e] : List Expr).length + ([] : List Keyword).length + (if ([] : List Keyword).isEmpty then 0 else 1) < 30)) = true := by rfl)
    (hline : (apos.endLine == cpos.line) = true := by rfl) (hs : starEach [e] X.env = (false, eval e X.env) :: starEach [] X.env := by rfl) :
    FE X cl W (.Call (.Attribute o "index" apos) [e] [] cpos) (eM "str" mSIndex fo fa) := fe_m PySem.F.plainAttrs_str PySem.F.slot_str_index PySem.F.type_str_index mt_sindex mok_sindex ho ha hbase hfew hline hs rfl
end
end Mi
namespace Mi
open PySem L2
/-! the terms by rules -/
section
variable {δ : Env} {S : Store} {f g h : DE} {t t' : DT} {a : DA} {i j : Nat} {d : D} {gg : G2} {z z' : DS} {x y : Int} {u v : Str} {b c : Bool} {xs ys : List D}
@[simp] theorem sSeq_ap : sSeq z z' δ S = (z δ S).then z' := rfl
@[simp] theorem sSet_ap : sSet i f δ S = toS δ (f δ S) fun d S1 => .nx (δ.set i (some d)) S1 := rfl
@[simp] theorem sIf_ap : sIf t z z' δ S = toS δ (t δ S) fun b S1 => if b then z δ S1 else z' δ S1 := rfl
@[simp] theorem sRet_ap : sRet f δ S = toS δ (f δ S) fun d S1 => .rt d S1 := rfl
@[simp] theorem sRetN_ap : sRetN δ S = .rt .non S := rfl
@[simp] theorem sExpr_ap : sExpr f δ S = toS δ (f δ S) fun _ S1 => .nx δ S1 := rfl
@[simp] theorem sNext_ap : sNext δ S = .nx δ S := rfl
@[simp] theorem sBreak_ap : sBreak δ S = .bk δ S := rfl
@[simp] theorem sCont_ap : sCont δ S = .ct δ S := rfl
@[simp] theorem sPar_ap : sPar i j a δ S = toS δ (a δ S) fun ds S1 => match ds with | [x, y] => .nx ((δ.set i (some x)).set j (some y)) S1 | _ => .stuck := rfl
@[simp] theorem sAsg_ap {g : DG} : sAsg g f δ S = toS δ (f δ S) fun d S1 => match g d S1 with | some da => .nx (setAll δ da) S1 | none => .stuck := rfl
@[simp] theorem gName_ap : gName i d S = some [(i, d)] := rfl
@[simp] theorem sFor_ap {w : DI} {g : DG} : sFor w g z δ S = toS δ (w δ S) fun p S1 => forD p.2 g z p.1 δ S1 := rfl
@[simp] theorem eVar_0 : eVar 0 (some d :: δ) S = .ok d S := rfl
@[simp] theorem eVar_s {o : Option D} : eVar (i + 1) (o :: δ) S = eVar i δ S := rfl
@[simp] theorem eC_ap : eC d δ S = .ok d S := rfl
@[simp] theorem aNil_ap : aNil δ S = .ok [] S := rfl
@[simp] theorem aCons_ap : aCons f a δ S = (f δ S).bind fun x S1 => (a δ S1).bind fun xs S2 => .ok (x :: xs) S2 := rfl
@[simp] theorem e2_ap : e2 gg f g δ S = (f δ S).bind fun x S1 => (g δ S1).bind fun y S2 => gg x y S2 := rfl
@[simp] theorem e3_ap {g1 g2 : G2} : e3 g1 g2 f g h δ S = (f δ S).bind fun x S1 => (g δ S1).bind fun y S2 => (toB (g1 x y S2)).bind fun t S3 => if t then (h δ S3).bind fun z S4 => g2 y z S4 else .ok (.bl false) S3 := rfl
@[simp] theorem toB_stuck : toB .stuck = .stuck := rfl
@[simp] theorem tV_ap : tV f δ S = toB (f δ S) := rfl
@[simp] theorem tAnd_ap : tAndD t t' δ S = (t δ S).bind fun b S1 => if b then t' δ S1 else .ok false S1 := rfl
@[simp] theorem tOr_ap : tOrD t t' δ S = (t δ S).bind fun b S1 => if b then .ok true S1 else t' δ S1 := rfl
@[simp] theorem tNot_ap : tNotD t δ S = (t δ S).bind fun b S1 => .ok (!b) S1 := rfl
@[simp] theorem eAnd_ap : eAndD f g δ S = (toB (f δ S)).bind fun b S1 => if b then g δ S1 else .ok (.bl false) S1 := rfl
@[simp] theorem eOr_ap : eOrD f g δ S = (toB (f δ S)).bind fun b S1 => if b then .ok (.bl true) S1 else g δ S1 := rfl
@[simp] theorem eNot_ap : eNotD f δ S = (toB (f δ S)).bind fun b S1 => .ok (.bl (!b)) S1 := rfl
@[simp] theorem eIf_ap : eIf t f g δ S = (t δ S).bind fun b S1 => if b then f δ S1 else g δ S1 := rfl
@[simp] theorem eNeg_ap : eNeg f δ S = (f δ S).bind fun x S1 => match x with | .int i => .ok (.int (-i)) S1 | _ => .stuck := rfl
@[simp] theorem eTup_ap : eTup a δ S = (a δ S).bind fun xs S1 => if xs.length ≤ sizeLine then .ok (.tup xs) S1 else .stuck := rfl
@[simp] theorem eLst_ap : eLst a δ S = (a δ S).bind fun xs S1 => if xs.length ≤ sizeLine then .ok (.lst xs) S1 else .stuck := rfl
@[simp] theorem eLstL_ap : eLstL a δ S = (a δ S).bind fun xs S1 => if xs.length ≤ sizeLine then .ok (.ref S1.length) (S1 ++ [some (.lst xs)]) else .stuck := rfl
@[simp] theorem eB_ap {k : GD} : eB k a δ S = (a δ S).bind k := rfl
@[simp] theorem eIsi_ap {n : String} : eIsi n f δ S = (f δ S).bind fun x S1 => match tyName S1 x with | some t => .ok (.bl (isT t n)) S1 | none => .stuck := rfl
@[simp] theorem eCall_ap {n : Nat} {k : GD} {dv : List D} : eCall n k dv a δ S = (a δ S).bind fun ds S1 => callD n k dv ds S1 := rfl
@[simp] theorem eM_ap {T : String} {k : D → GD} : eM T k f a δ S = (f δ S).bind fun x S1 => if isTy T S1 x = true then (a δ S1).bind fun ds S2 => k x ds S2 else .stuck := rfl
@[simp] theorem eM0_ap {T : String} {k : D → GD} : eM0 T k f δ S = (f δ S).bind fun x S1 => if isTy T S1 x = true then k x [] S1 else .stuck := rfl
@[simp] theorem eIsN_ap : eIsN f δ S = (f δ S).bind fun x S1 => match isNone x with | some b => .ok (.bl b) S1 | none => .stuck := rfl
@[simp] theorem eNotN_ap : eNotN f δ S = (f δ S).bind fun x S1 => match isNone x with | some b => .ok (.bl (!b)) S1 | none => .stuck := rfl
@[simp] theorem oNone_ap : oNone δ S = .ok none S := rfl
@[simp] theorem oSome_ap : oSome f δ S = (f δ S).bind fun x S1 => match x with | .int i => .ok (some i) S1 | _ => .stuck := rfl
@[simp] theorem eSl_ap {l k : DO} : eSl f l k δ S = (f δ S).bind fun x S1 => (l δ S1).bind fun lo S2 => (k δ S2).bind fun hi S3 => dSl x lo hi S3 := rfl
@[simp] theorem iTup_ap : iTup f δ S = (f δ S).bind fun x S1 => match x with | .tup xs => .ok (xs, none) S1 | _ => .stuck := rfl
@[simp] theorem iStr_ap : iStr f δ S = (f δ S).bind fun x S1 => match x with | .str z => .ok (z.cps.toList.map fun c => .str ⟨#[c]⟩, none) S1 | _ => .stuck := rfl
@[simp] theorem iRange1_ap : iRange1 a δ S = (a δ S).bind fun ds S1 => match ds with
  | [.int j] => if -(2 ^ 62) ≤ j ∧ j < 2 ^ 62 then .ok (rngD 0 j.toNat, none) S1 else .stuck
  | _ => .stuck := rfl
@[simp] theorem iRange2_ap : iRange2 a δ S = (a δ S).bind fun ds S1 => match ds with
  | [.int i, .int j] => if -(2 ^ 62) ≤ i ∧ i < 2 ^ 62 ∧ -(2 ^ 62) ≤ j ∧ j < 2 ^ 62 then .ok (rngD i (j - i).toNat, none) S1 else .stuck
  | _ => .stuck := rfl
@[simp] theorem setAll_nil {α : Type} {l : List (Option α)} : setAll l [] = l := rfl
@[simp] theorem setAll_cons {α : Type} {l : List (Option α)} {p : Nat × α} {r : List (Nat × α)} : setAll l (p :: r) = setAll (l.set p.1 (some p.2)) r := rfl
@[simp] theorem wipeD_nil : wipeD δ [] = δ := rfl
@[simp] theorem wipeD_cons {l : List Nat} : wipeD δ (i :: l) = (wipeD δ l).set i none := rfl
@[simp] theorem ckS_none : ckS none S = True := rfl
/-! operators -/
@[simp] theorem dAdd_int : dAdd (.int x) (.int y) S = .ok (.int (x + y)) S := rfl
@[simp] theorem dAdd_str : dAdd (.str u) (.str v) S = if u.length + v.length ≤ sizeLine then .ok (.str (u ++ v)) S else .stuck := rfl
@[simp] theorem dAdd_tup : dAdd (.tup xs) (.tup ys) S = if xs.length + ys.length ≤ sizeLine then .ok (.tup (xs ++ ys)) S else .stuck := rfl
@[simp] theorem dSub_int : dSub (.int x) (.int y) S = .ok (.int (x - y)) S := rfl
theorem dMul_int (h : IntMulOk x y) : dMul (.int x) (.int y) S = .ok (.int (x * y)) S := if_pos h
theorem dDiv_int (h : 0 < y) (h' : y.natAbs.log2 < 9000) : dDiv (.int x) (.int y) S = .ok (.int (x / y)) S := if_pos ⟨h, h'⟩
theorem dMod_int (h : 0 < y) : dMod (.int x) (.int y) S = .ok (.int (x % y)) S := if_pos h
theorem dPow_int (h : CPow x y) : dPow (.int x) (.int y) S = .ok (.int (x ^ y.toNat)) S := if_pos h
@[simp] theorem dLt_int : dLt (.int x) (.int y) S = .ok (.bl (decide (x < y))) S := rfl
@[simp] theorem dLe_int : dLe (.int x) (.int y) S = .ok (.bl (decide (x ≤ y))) S := rfl
@[simp] theorem dLe_str : dLe (.str u) (.str v) S = .ok (.bl (!ltS v u)) S := rfl
@[simp] theorem dGt_int : dGt (.int x) (.int y) S = .ok (.bl (decide (y < x))) S := rfl
@[simp] theorem dGe_int : dGe (.int x) (.int y) S = .ok (.bl (decide (y ≤ x))) S := rfl
@[simp] theorem dEq_int {n : Nat} : dEq n (.int x) (.int y) S = .ok (.bl (decide (x = y))) S := rfl
@[simp] theorem dEq_str {n : Nat} : dEq n (.str u) (.str v) S = .ok (.bl (decide (u = v))) S := rfl
@[simp] theorem dNe_int {n : Nat} : dNe n (.int x) (.int y) S = .ok (.bl (!decide (x = y))) S := rfl
@[simp] theorem dNe_str {n : Nat} : dNe n (.str u) (.str v) S = .ok (.bl (!decide (u = v))) S := rfl
@[simp] theorem bMin2_int : bMin2 [.int x, .int y] S = .ok (.int (if y < x then y else x)) S := rfl
@[simp] theorem bMax2_int : bMax2 [.int x, .int y] S = .ok (.int (if y > x then y else x)) S := rfl
@[simp] theorem bAbs_int : bAbs [.int x] S = .ok (.int (if x < 0 then -x else x)) S := rfl
@[simp] theorem bLen_str : bLen [.str u] S = if u.length ≤ sizeLine then .ok (.int u.length) S else .stuck := rfl
@[simp] theorem bLen_lst : bLen [.lst xs] S = .ok (.int xs.length) S := rfl
@[simp] theorem bLen_tup : bLen [.tup xs] S = .ok (.int xs.length) S := rfl
@[simp] theorem bLen_scr : bLen [.scr xs] S = .ok (.int xs.length) S := rfl
@[simp] theorem dIx_lst : dIx (.lst xs) (.int x) S = (match atD xs x with | some d => .ok d S | none => .stuck) := rfl
@[simp] theorem dIx_tup : dIx (.tup xs) (.int x) S = (match atD xs x with | some d => .ok d S | none => .stuck) := rfl
@[simp] theorem dIx_scr : dIx (.scr xs) (.int x) S = (match atD xs x with | some d => .ok d S | none => .stuck) := rfl
@[simp] theorem dIx_str : dIx (.str u) (.int x) S = (match atD u.cps.toList x with | some c => if u.length ≤ sizeLine then .ok (.str ⟨#[c]⟩) S else .stuck | none => .stuck) := rfl
/-! calls -/
def endD (o : OS) : Out D := match o with
  | .nx _ S' => .ok .non S'
  | .rt d S' => .ok d S'
  | .exc C fs _ S' => .exc C fs S'
  | _ => .stuck
@[simp] theorem endD_nx : endD (.nx δ S) = .ok .non S := rfl
@[simp] theorem endD_rt : endD (.rt d S) = .ok d S := rfl
@[simp] theorem endD_exc {C : Str} {fs : List (Str × D)} : endD (.exc C fs δ S) = .exc C fs S := rfl
theorem runD_ap {n : Nat} {ds : List D} : runD n z ds S = endD (z (ds.map some ++ List.replicate (n - ds.length) none) S) := by
  unfold runD endD
  rfl
theorem call_pure {n : Nat} {k : GD} {ds : List D} {r : D} (hl : ds.length = n) (h1 : norefs ds = true) (h2 : ∃ S', k ds [] = .ok r S') (h3 : noref r = true) : callD n (pureD k) [] ds S = .ok r S := by
  obtain ⟨S', h2⟩ := h2
  unfold callD
  rw [List.append_nil, if_pos hl]
  unfold pureD
  rw [if_pos h1, h2]
  exact if_pos h3
theorem call_mut {n : Nat} {k : GD} {ds : List D} (hl : ds.length = n) : callD n k [] ds S = k ds S := by
  unfold callD
  rw [List.append_nil, if_pos hl]
@[simp] theorem lcEnd_f : lcEnd false xs ys S = .ok (.lst (xs ++ ys)) S := rfl
@[simp] theorem lcEnd_t : lcEnd true xs ys S = .ok (.ref S.length) (S ++ [some (.lst (xs ++ ys))]) := rfl
@[simp] theorem bAll_lst : bAll [.lst xs] S = match blsOf xs with | some bs => .ok (.bl (bs.all fun b => b)) S | none => .stuck := by cases h : blsOf xs <;> simp [bAll, seq1, seqOf, lstOf, h]
@[simp] theorem bAny_lst : bAny [.lst xs] S = match blsOf xs with | some bs => .ok (.bl (bs.any fun b => b)) S | none => .stuck := by cases h : blsOf xs <;> simp [bAny, seq1, seqOf, lstOf, h]
@[simp] theorem bSum_lst : bSum [.lst xs] S = match intsOf xs with | some bs => .ok (.int bs.sum) S | none => .stuck := by cases h : intsOf xs <;> simp [bSum, seq1, seqOf, lstOf, h]
@[simp] theorem eLc_ap {live : Bool} {vs : List Nat} {w : DI} {gg : DG} : eLc live vs w gg t f δ S = (w δ S).bind fun p S1 => if p.1.length ≤ sizeLine then
  (compD gg t f p.2 (wipeD δ vs) p.1 S1).bind (lcEnd live []) else .stuck := rfl
/-! loops -/
theorem atD_nat {α : Type} {l : List α} {k : Nat} {e : α} (h : l[k]? = some e) : atD l (k : Int) = some e := by
  unfold atD ixN
  obtain ⟨hk, he⟩ := List.getElem?_eq_some_iff.mp h
  simp [hk, he]
theorem atD_int {α : Type} {l : List α} {x : Int} (h0 : 0 ≤ x) (h1 : x < l.length) : ∃ e, l[x.toNat]? = some e ∧ atD l x = some e := by
  have hk : x.toNat < l.length := by omega
  refine ⟨l[x.toNat], List.getElem?_eq_getElem hk, ?_⟩
  have := atD_nat (l := l) (k := x.toNat) (List.getElem?_eq_getElem hk)
  rwa [Int.toNat_of_nonneg h0] at this
theorem for_inv (I : Env → Store → Prop) {g : DG} {f : DS} : ∀ {items : List D} {δ : Env} {S : Store}, I δ S →
    (∀ d ∈ items, ∀ δ S, I δ S → ∃ da, g d S = some da ∧ ∃ δ' S', (f (setAll δ da) S = .nx δ' S' ∨ f (setAll δ da) S = .ct δ' S') ∧ I δ' S') → ∃ δ' S', forD none g f items δ S = .nx δ' S' ∧ I δ' S'
  | [], δ, S, h, _ => ⟨δ, S, by unfold forD; exact if_pos trivial, h⟩
  | d :: items, δ, S, h, hs => by
    obtain ⟨da, h1, δ', S', h2, h3⟩ := hs d (List.mem_cons_self ..) δ S h
    obtain ⟨δ2, S2, h4, h5⟩ := for_inv I (items := items) h3 fun d hd => hs d (List.mem_cons_of_mem _ hd)
    refine ⟨δ2, S2, ?_, h5⟩
    unfold forD
    rw [if_pos (show ckS none S from trivial), h1]
    rcases h2 with h2 | h2 <;> (simp only [h2]; exact h4)
theorem comp_map {g : DG} {t : DT} {f : DE} {δ : Env} {S : Store} (k : D → D) : ∀ {items : List D}, (∀ d ∈ items, ∃ da, g d S = some da ∧ t (setAll δ da) S = .ok true S ∧ f (setAll δ da) S = .ok (k d) S) → compD g t f none δ items S = .ok (items.map k) S
  | [], _ => by unfold compD; exact if_pos trivial
  | d :: items, h => by
    obtain ⟨da, h1, h2, h3⟩ := h d (List.mem_cons_self ..)
    have ih := comp_map k (items := items) fun d hd => h d (List.mem_cons_of_mem _ hd)
    unfold compD
    rw [if_pos (show ckS none S from trivial), h1]
    simp only [h2, h3, noX, bind_ok, if_true, ih, List.map_cons]
theorem comp_filter {g : DG} {t : DT} {f : DE} {δ : Env} {S : Store} (p : D → Bool) (k : D → D) : ∀ {items : List D}, (∀ d ∈ items, ∃ da, g d S = some da ∧ t (setAll δ da) S = .ok (p d) S ∧ (p d = true → f (setAll δ da) S = .ok (k d) S)) → compD g t f none δ items S = .ok ((items.filter p).map k) S
  | [], _ => by unfold compD; exact if_pos trivial
  | d :: items, h => by
    obtain ⟨da, h1, h2, h3⟩ := h d (List.mem_cons_self ..)
    have ih := comp_filter p k (items := items) fun d hd => h d (List.mem_cons_of_mem _ hd)
    unfold compD
    rw [if_pos (show ckS none S from trivial), h1]
    cases hp : p d with
    | true => simp only [h2, hp, h3 hp, noX, bind_ok, if_true, ih, List.map_cons, List.filter_cons]
    | false => simp [h2, hp, noX, ih]
theorem comp_ex (P : D → Prop) {g : DG} {t : DT} {f : DE} {δ : Env} {S : Store} : ∀ {items : List D}, (∀ d ∈ items, ∃ da, g d S = some da ∧ t (setAll δ da) S = .ok true S ∧ ∃ y, f (setAll δ da) S = .ok y S ∧ P y) → ∃ ys, compD g t f none δ items S = .ok ys S ∧ ys.length = items.length ∧ ∀ y ∈ ys, P y
  | [], _ => ⟨[], by unfold compD; exact if_pos trivial, rfl, fun _ h => nomatch h⟩
  | d :: items, h => by
    obtain ⟨da, h1, h2, y, h3, h4⟩ := h d (List.mem_cons_self ..)
    obtain ⟨ys, e1, e2, e3⟩ := comp_ex P (items := items) fun d hd => h d (List.mem_cons_of_mem _ hd)
    refine ⟨y :: ys, ?_, by simp [e2], fun z hz => ?_⟩
    · unfold compD
      rw [if_pos (show ckS none S from trivial), h1]
      simp only [h2, h3, noX, bind_ok, if_true, e1]
    · rcases List.mem_cons.mp hz with rfl | hz
      · exact h4
      · exact e3 z hz
theorem mem_rng {lo : Int} {n : Nat} {d : D} (h : d ∈ rngD lo n) : ∃ i : Nat, i < n ∧ d = .int (lo + i) := by
  unfold rngD at h
  obtain ⟨i, hi, rfl⟩ := List.mem_map.mp h
  exact ⟨i, List.mem_range.mp hi, rfl⟩
/-! texts of bounded length, of real signs -/
structure TX (n : Nat) (s : Str) : Prop where
  len : s.length ≤ n
  cps : ∀ c ∈ s.cps.toList, c < 1114112
theorem TX.app {n m : Nat} {s t : Str} (h : TX n s) (h' : TX m t) : TX (n + m) (s ++ t) := by
  have e : (s ++ t).cps.toList = s.cps.toList ++ t.cps.toList := by show (s.cps ++ t.cps).toList = _; simp
  refine ⟨?_, fun c hc => ?_⟩
  · have : (s ++ t).length = s.length + t.length := by show (s.cps ++ t.cps).size = _; simp [Str.length]
    rw [this]; exact Nat.add_le_add h.len h'.len
  · rw [e] at hc
    rcases List.mem_append.mp hc with hc | hc
    · exact h.cps c hc
    · exact h'.cps c hc
theorem TX.le {n m : Nat} {s : Str} (h : TX n s) (l : n ≤ m) : TX m s := ⟨Nat.le_trans h.len l, h.cps⟩
theorem TX.cut {n : Nat} {s : Str} (h : TX n s) (lo hi : Option Int) : TX n (cutS s lo hi) := by
  refine ⟨Nat.le_trans (cutS_length s lo hi) h.len, fun c hc => ?_⟩
  unfold cutS at hc
  simp only [List.toList_toArray] at hc
  exact h.cps c (List.mem_of_mem_drop (List.mem_of_mem_take hc))
theorem TX.one {c : Nat} (h : c < 1114112) : TX 1 ⟨#[c]⟩ := ⟨Nat.le_refl _, fun d hd => by have : d ∈ [c] := hd; rw [List.mem_singleton.mp this]; exact h⟩
def txB (n : Nat) (s : Str) : Bool := decide (s.length ≤ n) && s.cps.toList.all fun c => decide (c < 1114112)
theorem TX.of {n : Nat} {s : Str} (h : txB n s = true) : TX n s := by
  rw [txB, Bool.and_eq_true] at h
  exact ⟨of_decide_eq_true h.1, fun c hc => of_decide_eq_true (List.all_eq_true.mp h.2 c hc)⟩
theorem TX.join {n : Nat} : ∀ {l : List Str}, (∀ s ∈ l, TX n s) → TX (l.length * n) (Str.join Str.empty l)
  | [], _ => ⟨Nat.zero_le _, fun c h => by have : c ∈ ([] : List Nat) := h; cases this⟩
  | [x], h => by rw [List.length_singleton, Nat.one_mul]; exact h x (List.mem_singleton.mpr rfl)
  | x :: y :: r, h => by
    have ih := TX.join (l := y :: r) fun s hs => h s (List.mem_cons_of_mem _ hs)
    have e : Str.join Str.empty (x :: y :: r) = x ++ Str.empty ++ Str.join Str.empty (y :: r) := rfl
    rw [e]
    refine (((h x (List.mem_cons_self ..)).app (m := 0) ⟨Nat.le_refl _, fun c h => by have : c ∈ ([] : List Nat) := h; cases this⟩).app ih).le ?_
    simp only [List.length_cons]
    rw [Nat.add_one_mul (r.length + 1)]
    omega
theorem tx_str {n : Nat} (h : n < 10 ^ 600) : TX 601 (Str.ofString (toString (n : Int))) := by
  have e : Str.ofString (toString (n : Int)) = ⟨((Nat.toDigits 10 n).map Char.toNat).toArray⟩ := PyProof.Rows.text_ofNat n
  rw [e]
  refine ⟨?_, fun c hc => ?_⟩
  · show ((Nat.toDigits 10 n).map Char.toNat).toArray.size ≤ 601
    rw [List.size_toArray, List.length_map]
    exact Nat.le_trans (m := 600) (PyProof.Rows.digits10_le (k := 600) (by decide) h) (by decide)
  · simp only [List.toList_toArray] at hc
    obtain ⟨d, _, rfl⟩ := List.mem_map.mp hc
    have := d.valid
    show d.val.toNat < 1114112
    rcases this with h | h
    · exact Nat.lt_trans h (by decide)
    · exact h.2
@[simp] theorem bRepr_bl {n : Nat} {b : Bool} : bRepr n [.bl b] S = .ok (.str (if b then "True" else "False")) S := by
  cases n <;> cases b <;> (unfold bRepr; simp only [pyOf, pyG]; exact if_pos (by decide +kernel))
@[simp] theorem bRepr_non {n : Nat} : bRepr n [.non] S = .ok (.str "None") S := by
  cases n <;> (unfold bRepr; simp only [pyOf, pyG]; exact if_pos (by decide +kernel))
theorem bRepr_int {n : Nat} {x : Int} (h : x.natAbs.log2 < 1920) : bRepr n [.int x] S = .ok (.str (toString x)) S := by
  cases n <;> (unfold bRepr; simp only [pyOf, pyG]; exact if_pos ⟨decide_eq_true h, rfl, by simp [PyData.depth], by simpa [PyData.shown] using int_text_fits h⟩)
@[simp] theorem blsOf_map {α : Type} (k : α → Bool) (l : List α) : blsOf (l.map fun x => .bl (k x)) = some (l.map k) := by
  induction l with
  | nil => rfl
  | cons x l ih => simp only [List.map_cons, blsOf, ih, Option.map_some]
@[simp] theorem intsOf_map {α : Type} (k : α → Int) (l : List α) : intsOf (l.map fun x => .int (k x)) = some (l.map k) := by
  induction l with
  | nil => rfl
  | cons x l ih => simp only [List.map_cons, intsOf, ih, Option.map_some]
@[simp] theorem strsOf_map {α : Type} (k : α → Str) (l : List α) : strsOf (l.map fun x => .str (k x)) = some (l.map k) := by
  induction l with
  | nil => rfl
  | cons x l ih => simp only [List.map_cons, strsOf, ih, Option.map_some]
end
end Mi
namespace Q
open PySem L2 Mi

def top (i : Nat) : Stmt := PySem.Challenge.pw_craneyard_k01_words.main.body.getD i (.Pass ⟨0, 0, 0, 0⟩)
/-- what the walk asks of the module's names -/
structure Tx (mg : Str → Option Value) : Prop where
  n_all : mg "all" = none
  n_bool : mg "bool" = none
  n_int : mg "int" = none
  n_isinstance : mg "isinstance" = none
  n_len : mg "len" = none
  n_min : mg "min" = none
  n_range : mg "range" = none
  n_repr : mg "repr" = none
  n_str : mg "str" = none
  c_FIGURES : ∃ t, mg "FIGURES" = some (.str "0123456789" t)
  c_LETTERS : ∃ t, mg "LETTERS" = some (.str "abcdefghijklmnopqrstuvwxyz" t)
  c_MOST_FIGURES : ∃ t, mg "MOST_FIGURES" = some (.int 13 t)
  c_MOST_LETTERS : ∃ t, mg "MOST_LETTERS" = some (.int 8 t)
  c_MOST_NUMBER : ∃ t, mg "MOST_NUMBER" = some (.int 1000000000000 t)
section
variable {P : Program} {w : World} {K : PySem.W.Frag} {mg : Str → Option Value} {base : Heap} {cl : Cl}
/-! _law_mixed -/
abbrev s__law_mixed : Stmt := top 10
noncomputable def z__law_mixed : DS := (sSeq (sSet 2 (e2 dMod (e2 dMul (e2 dAdd (e2 dAdd (e2 dAdd (e2 dMod (eVar 0) (eC (.int 1000000007))) (e2 dMul (e2 dMul (eC (.int 7919)) (eVar 1)) (eVar 1))) (e2 dMul (eC (.int 31)) (eVar 1))) (eC (.int 17))) (eC (.int 48271))) (eC (.int 2147483647))))
    (sRet (e2 dDiv (e2 dMod (e2 dMul (eVar 2) (e2 dAdd (e2 dMod (eVar 2) (eC (.int 65521))) (eC (.int 16807)))) (eC (.int 2147483629))) (eC (.int 4)))))
noncomputable def m__law_mixed : GD := runD 3 z__law_mixed
theorem sc__law_mixed : FnScope ["_law_cell", "_law_k", "_law_number_here"] ["_law_cell", "_law_k"] (defScope s__law_mixed) := ⟨rfl, rfl, rfl, by decide +kernel, rfl, by decide +kernel, by decide +kernel⟩
theorem ok__law_mixed {f : Addr} {fd : FuncData} (F : Fun K "_law_mixed" "_law_mixed" s__law_mixed f fd) (T : Tx mg)  : FnG P w K mg base 1 f fd ["_law_cell", "_law_k"] (spOf K cl 2 m__law_mixed) :=
  def_ok (k := 0) F sc__law_mixed rfl z__law_mixed fun cdv A outer s H E W G =>
    (fss_cons (fs_set (i := 2) G (fe_mod (fe_mul (fe_add (fe_add (fe_add (fe_mod (fe_var (pv 0)) fe_int) (fe_mul (fe_mul fe_int (fe_var (pv 1))) (fe_var (pv 1)))) (fe_mul fe_int (fe_var (pv 1)))) fe_int) fe_int) fe_int))
    (fss_one (fs_ret (fe_div (fe_mod (fe_mul (fe_var (pv 2)) (fe_add (fe_mod (fe_var (pv 2)) fe_int) fe_int)) fe_int) fe_int))))
/-! _law_number -/
abbrev s__law_number : Stmt := top 11
noncomputable def z__law_number : DS := (sSeq (sSet 2 (eC (.int 0)))
    (sSeq (sIf (tV (e2 dGt (eB bLen (aCons (eVar 0) aNil)) (eC (.int 0)))) (sSeq (sSet 2 (e2 dIx (eVar 0) (e2 dMod (eVar 1) (eB bLen (aCons (eVar 0) aNil)))))
    (sIf (tV (e2 (dEq 0) (e2 dMod (e2 dIx (eVar 0) (eC (.int 0))) (eC (.int 2))) (eC (.int 1)))) (sSeq (sFor (iRange1 (aCons (eB bMin2 (aCons (eC (.int 60)) (aCons (e2 dDiv (eVar 1) (eB bLen (aCons (eVar 0) aNil))) aNil))) aNil)) (gName 3) (sSet 2 (e2 dDiv (eVar 2) (e2 dPow (eC (.int 10)) (eC (.int 9))))))
    (sRet (e2 dMod (eVar 2) (e2 dPow (eC (.int 10)) (eC (.int 9)))))) sNext)) sNext)
    (sRet (eCall 2 (pureD m__law_mixed) [] (aCons (eVar 2) (aCons (eVar 1) aNil))))))
noncomputable def m__law_number : GD := runD 4 z__law_number
theorem sc__law_number : FnScope ["_law_script", "_law_k", "_law_cell", "_law_time"] ["_law_script", "_law_k"] (defScope s__law_number) := ⟨rfl, rfl, rfl, by decide +kernel, rfl, by decide +kernel, by decide +kernel⟩
theorem ok__law_number {f : Addr} {fd : FuncData} (F : Fun K "_law_number" "_law_number" s__law_number f fd) (T : Tx mg) (C__law_mixed : Cal P w K mg base cl 1 2 "_law_mixed" m__law_mixed) : FnG P w K mg base 2 f fd ["_law_script", "_law_k"] (spOf K cl 2 m__law_number) :=
  def_ok (k := 1) F sc__law_number rfl z__law_number fun cdv A outer s H E W G =>
    (fss_cons (fs_set (i := 2) G fe_int)
    (fss_cons (fs_if (ft_gt (fe_len T.n_len (fa_cons (fe_var (pv 0)) fa_nil)) fe_int) (fss_cons (fs_set (i := 2) G (fe_ix G (fe_var (pv 0)) (fe_mod (fe_var (pv 1)) (fe_len T.n_len (fa_cons (fe_var (pv 0)) fa_nil)))))
    (fss_one (fs_if (ft_eq G (n := 0) (fe_mod (fe_ix G (fe_var (pv 0)) fe_int) fe_int) fe_int) (fss_cons (fs_for G (fi_range1 T.n_range (fa_cons (fe_min2 G T.n_min (fa_cons fe_int (fa_cons (fe_div (fe_var (pv 1)) (fe_len T.n_len (fa_cons (fe_var (pv 0)) fa_nil))) fa_nil))) fa_nil)) (fg_name 3 G.nd) (fss_one (fs_set (i := 2) G (fe_div (fe_var (pv 2)) (fe_pow fe_int fe_int)))))
    (fss_one (fs_ret (fe_mod (fe_var (pv 2)) (fe_pow fe_int fe_int))))) fss_nil))) fss_nil)
    (fss_one (fs_ret (fe_callC G C__law_mixed.pure (by decide) (fa_cons (fe_var (pv 2)) (fa_cons (fe_var (pv 1)) fa_nil)))))))
/-! _law_figures -/
abbrev s__law_figures : Stmt := top 15
noncomputable def z__law_figures : DS := (sSeq (sSet 2 (e2 dIx (eLst (aCons (e2 dMod (e2 dDiv (eVar 0) (eC (.int 8))) (eC (.int 100))) (aCons (eVar 1) (aCons (e2 dSub (e2 dPow (eC (.int 10)) (eC (.int 12))) (e2 dMod (e2 dDiv (eVar 0) (eC (.int 8))) (eC (.int 3)))) (aCons (e2 dAdd (e2 dPow (eC (.int 10)) (eC (.int 12))) (e2 dMod (e2 dDiv (eVar 0) (eC (.int 8))) (eC (.int 3)))) (aCons (e2 dMul (eVar 1) (eC (.int 48271))) aNil)))))) (e2 dMod (eVar 0) (eC (.int 5)))))
    (sSeq (sSet 3 (eB bStr (aCons (eVar 2) aNil)))
    (sSeq (sSet 4 (e2 dIx (eLst (aCons (eC (.str "")) (aCons (eC (.str "")) (aCons (eC (.str "0")) (aCons (eC (.str "+")) (aCons (eC (.str "-")) (aCons (eC (.str " ")) aNil))))))) (e2 dMod (e2 dDiv (eVar 0) (eC (.int 40))) (eC (.int 6)))))
    (sSeq (sSet 5 (e2 dIx (eLst (aCons (eC (.str "")) (aCons (eC (.str "")) (aCons (eC (.str "")) (aCons (eC (.str "0")) (aCons (eC (.str " ")) (aCons (eC (.str ".0")) (aCons (eC (.str "_1")) (aCons (eC (.str "a")) aNil))))))))) (e2 dMod (e2 dDiv (eVar 0) (eC (.int 240))) (eC (.int 8)))))
    (sRet (e2 dAdd (e2 dAdd (eVar 4) (eVar 3)) (eVar 5)))))))
noncomputable def m__law_figures : GD := runD 6 z__law_figures
theorem sc__law_figures : FnScope ["_law_cell", "_law_more", "_law_number_here", "_law_text_here", "_law_ahead", "_law_after"] ["_law_cell", "_law_more"] (defScope s__law_figures) := ⟨rfl, rfl, rfl, by decide +kernel, rfl, by decide +kernel, by decide +kernel⟩
theorem ok__law_figures {f : Addr} {fd : FuncData} (F : Fun K "_law_figures" "_law_figures" s__law_figures f fd) (T : Tx mg)  : FnG P w K mg base 1 f fd ["_law_cell", "_law_more"] (spOf K cl 2 m__law_figures) :=
  def_ok (k := 0) F sc__law_figures rfl z__law_figures fun cdv A outer s H E W G =>
    (fss_cons (fs_set (i := 2) G (fe_ix G (fe_lst (fa_cons (fe_mod (fe_div (fe_var (pv 0)) fe_int) fe_int) (fa_cons (fe_var (pv 1)) (fa_cons (fe_sub (fe_pow fe_int fe_int) (fe_mod (fe_div (fe_var (pv 0)) fe_int) fe_int)) (fa_cons (fe_add (fe_pow fe_int fe_int) (fe_mod (fe_div (fe_var (pv 0)) fe_int) fe_int)) (fa_cons (fe_mul (fe_var (pv 1)) fe_int) fa_nil)))))) (fe_mod (fe_var (pv 0)) fe_int)))
    (fss_cons (fs_set (i := 3) G (fe_strc T.n_str (fa_cons (fe_var (pv 2)) fa_nil)))
    (fss_cons (fs_set (i := 4) G (fe_ix G (fe_lst (fa_cons fe_str (fa_cons fe_str (fa_cons fe_str (fa_cons fe_str (fa_cons fe_str (fa_cons fe_str fa_nil))))))) (fe_mod (fe_div (fe_var (pv 0)) fe_int) fe_int)))
    (fss_cons (fs_set (i := 5) G (fe_ix G (fe_lst (fa_cons fe_str (fa_cons fe_str (fa_cons fe_str (fa_cons fe_str (fa_cons fe_str (fa_cons fe_str (fa_cons fe_str (fa_cons fe_str fa_nil))))))))) (fe_mod (fe_div (fe_var (pv 0)) fe_int) fe_int)))
    (fss_one (fs_ret (fe_add (fe_add (fe_var (pv 4)) (fe_var (pv 3))) (fe_var (pv 5)))))))))
/-! _law_text -/
abbrev s__law_text : Stmt := top 14
noncomputable def z__law_text : DS := (sSeq (sSet 2 (eC (.str "abcdefghijklmnopqrstuvwxyz")))
    (sSeq (sSet 3 (e2 dMod (e2 dDiv (eVar 0) (eC (.int 8))) (eC (.int 11))))
    (sSeq (sSet 4 (eM "str" mJoin (eC (.str "")) (aCons (eLc false [7] (iRange1 (aCons (eVar 3) aNil)) (gName 7) tYesD (e2 dIx (eVar 2) (e2 dMod (e2 dDiv (eCall 2 (pureD m__law_mixed) [] (aCons (eVar 0) (aCons (e2 dAdd (eVar 1) (eVar 7)) aNil))) (eC (.int 5))) (eC (.int 26))))) aNil)))
    (sSeq (sSet 5 (e2 dMod (e2 dDiv (eVar 0) (eC (.int 100))) (e2 dAdd (eVar 3) (eC (.int 1)))))
    (sSeq (sSet 6 (e2 dIx (eC (.str "AZ09 -_.'#[^~@{`Q/")) (e2 dMod (e2 dDiv (eVar 0) (eC (.int 2000))) (eC (.int 18)))))
    (sSeq (sIf (tV (e2 (dEq 0) (e2 dMod (eVar 0) (eC (.int 4))) (eC (.int 1)))) (sRet (e2 dAdd (e2 dAdd (eSl (eVar 4) oNone (oSome (eVar 5))) (eVar 6)) (eSl (eVar 4) (oSome (eVar 5)) oNone))) sNext)
    (sRet (eIf (tV (e2 (dEq 0) (e2 dMod (eVar 0) (eC (.int 4))) (eC (.int 2)))) (e2 dAdd (e2 dAdd (eSl (eVar 4) oNone (oSome (eVar 5))) (eVar 6)) (eSl (eVar 4) (oSome (e2 dAdd (eVar 5) (eC (.int 1)))) oNone)) (eVar 4)))))))))
noncomputable def m__law_text : GD := runD 8 z__law_text
theorem sc__law_text : FnScope ["_law_cell", "_law_k", "_law_letters", "_law_size", "_law_text_here", "_law_at", "_law_sign", "_law_j"] ["_law_cell", "_law_k"] (defScope s__law_text) := ⟨rfl, rfl, rfl, by decide +kernel, rfl, by decide +kernel, by decide +kernel⟩
theorem ok__law_text {f : Addr} {fd : FuncData} (F : Fun K "_law_text" "_law_text" s__law_text f fd) (T : Tx mg) (C__law_mixed : Cal P w K mg base cl 1 2 "_law_mixed" m__law_mixed) : FnG P w K mg base 2 f fd ["_law_cell", "_law_k"] (spOf K cl 2 m__law_text) :=
  def_ok (k := 1) F sc__law_text rfl z__law_text fun cdv A outer s H E W G =>
    (fss_cons (fs_set (i := 2) G fe_str)
    (fss_cons (fs_set (i := 3) G (fe_mod (fe_div (fe_var (pv 0)) fe_int) fe_int))
    (fss_cons (fs_set (i := 4) G (fe_join fe_str (fa_cons (fe_lc (live := false) (own := [("_law_j", 7)]) G (fi_range1 T.n_range (fa_cons (fe_var (pv 3)) fa_nil)) (blkB (N' := ["_law_cell", "_law_k", "_law_letters", "_law_size", "_law_text_here", "_law_at", "_law_sign", "_law_j"]) (sc' := defScope s__law_text) rfl rfl (by decide +kernel)) gix_name (fun s1 H1 D1 e1 p1 => (fg_name 7 (G.blk s1 H1 D1 e1 p1).nd)) (fun s1 H1 D1 e1 p1 => fts_nil) (fun s1 H1 D1 e1 p1 => (fe_ix (G.blk s1 H1 D1 e1 p1) (fe_var (pv 2)) (fe_mod (fe_div (fe_callC (G.blk s1 H1 D1 e1 p1) C__law_mixed.pure (by decide) (fa_cons (fe_var (pv 0)) (fa_cons (fe_add (fe_var (pv 1)) (fe_var (pv 7))) fa_nil))) fe_int) fe_int)))) fa_nil)))
    (fss_cons (fs_set (i := 5) G (fe_mod (fe_div (fe_var (pv 0)) fe_int) (fe_add (fe_var (pv 3)) fe_int)))
    (fss_cons (fs_set (i := 6) G (fe_ix G fe_str (fe_mod (fe_div (fe_var (pv 0)) fe_int) fe_int)))
    (fss_cons (fs_if (ft_eq G (n := 0) (fe_mod (fe_var (pv 0)) fe_int) fe_int) (fss_one (fs_ret (fe_add (fe_add (fe_sl (fe_var (pv 4)) fo_none (fo_some (fe_var (pv 5)))) (fe_var (pv 6))) (fe_sl (fe_var (pv 4)) (fo_some (fe_var (pv 5))) fo_none)))) fss_nil)
    (fss_one (fs_ret (fe_if (ft_eq G (n := 0) (fe_mod (fe_var (pv 0)) fe_int) fe_int) (fe_add (fe_add (fe_sl (fe_var (pv 4)) fo_none (fo_some (fe_var (pv 5)))) (fe_var (pv 6))) (fe_sl (fe_var (pv 4)) (fo_some (fe_add (fe_var (pv 5)) fe_int)) fo_none)) (fe_var (pv 4)))))))))))
/-! is_name -/
abbrev s_is_name : Stmt := top 6
noncomputable def z_is_name : DS := (sSeq (sIf (tOrD (tNotD (tV (eIsi "str" (eVar 0)))) (tNotD (tV (e3 dLe dLe (eC (.int 1)) (eB bLen (aCons (eVar 0) aNil)) (eC (.int 8)))))) (sRet (eC (.bl false))) sNext)
    (sRet (eB bAll (aCons (eLc false [1] (iStr (eVar 0)) (gName 1) tYesD (e2 dIn (eVar 1) (eC (.str "abcdefghijklmnopqrstuvwxyz")))) aNil))))
noncomputable def m_is_name : GD := runD 2 z_is_name
theorem sc_is_name : FnScope ["thing", "sign"] ["thing"] (defScope s_is_name) := ⟨rfl, rfl, rfl, by decide +kernel, rfl, by decide +kernel, by decide +kernel⟩
theorem ok_is_name {f : Addr} {fd : FuncData} (F : Fun K "is_name" "is_name" s_is_name f fd) (T : Tx mg)  : FnG P w K mg base 1 f fd ["thing"] (spOf K cl 1 m_is_name) :=
  def_ok (k := 0) F sc_is_name rfl z_is_name fun cdv A outer s H E W G =>
    (fss_cons (fs_if (ft_w (fw_or (ft_not (ft_val (fe_isi T.n_isinstance T.n_str (by decide +kernel) (fe_var (pv 0))))) (fw_or1 (ft_not (ft_lele fe_int (fe_len T.n_len (fa_cons (fe_var (pv 0)) fa_nil)) (fe_globI T.c_MOST_LETTERS)))))) (fss_one (fs_ret fe_bl)) fss_nil)
    (fss_one (fs_ret (fe_all G T.n_all (fa_cons (fe_lc (live := false) (own := [("sign", 1)]) G (fi_str (fe_var (pv 0))) (blkB (N' := ["thing", "sign"]) (sc' := defScope s_is_name) rfl rfl (by decide +kernel)) gix_name (fun s1 H1 D1 e1 p1 => (fg_name 1 (G.blk s1 H1 D1 e1 p1).nd)) (fun s1 H1 D1 e1 p1 => fts_nil) (fun s1 H1 D1 e1 p1 => (fe_in (G.blk s1 H1 D1 e1 p1) (fe_var (pv 1)) (fe_globS T.c_LETTERS)))) fa_nil)))))
/-! _law_is_name -/
abbrev s__law_is_name : Stmt := top 12
noncomputable def z__law_is_name : DS := (sSeq (sIf (tOrD (tNotD (tV (eIsi "str" (eVar 0)))) (tNotD (tV (e3 dLe dLe (eC (.int 1)) (eB bLen (aCons (eVar 0) aNil)) (eC (.int 8)))))) (sRet (eC (.bl false))) sNext)
    (sRet (e2 (dEq 0) (eLc false [1] (iStr (eVar 0)) (gName 1) (tNotD (tV (e3 dLe dLe (eC (.str "a")) (eVar 1) (eC (.str "z"))))) (eVar 1)) (eLst aNil))))
noncomputable def m__law_is_name : GD := runD 2 z__law_is_name
theorem sc__law_is_name : FnScope ["_law_thing", "_law_sign"] ["_law_thing"] (defScope s__law_is_name) := ⟨rfl, rfl, rfl, by decide +kernel, rfl, by decide +kernel, by decide +kernel⟩
theorem ok__law_is_name {f : Addr} {fd : FuncData} (F : Fun K "_law_is_name" "_law_is_name" s__law_is_name f fd) (T : Tx mg)  : FnG P w K mg base 1 f fd ["_law_thing"] (spOf K cl 1 m__law_is_name) :=
  def_ok (k := 0) F sc__law_is_name rfl z__law_is_name fun cdv A outer s H E W G =>
    (fss_cons (fs_if (ft_w (fw_or (ft_not (ft_val (fe_isi T.n_isinstance T.n_str (by decide +kernel) (fe_var (pv 0))))) (fw_or1 (ft_not (ft_lele fe_int (fe_len T.n_len (fa_cons (fe_var (pv 0)) fa_nil)) fe_int))))) (fss_one (fs_ret fe_bl)) fss_nil)
    (fss_one (fs_ret (fe_eq G (n := 0) (fe_lc (live := false) (own := [("_law_sign", 1)]) G (fi_str (fe_var (pv 0))) (blkB (N' := ["_law_thing", "_law_sign"]) (sc' := defScope s__law_is_name) rfl rfl (by decide +kernel)) gix_name (fun s1 H1 D1 e1 p1 => (fg_name 1 (G.blk s1 H1 D1 e1 p1).nd)) (fun s1 H1 D1 e1 p1 => fts_one (ft_not (ft_lele fe_str (fe_var (pv 1)) fe_str))) (fun s1 H1 D1 e1 p1 => (fe_var (pv 1)))) (fe_lst fa_nil)))))
/-! number_of -/
abbrev s_number_of : Stmt := top 8
noncomputable def z_number_of : DS := (sSeq (sIf (tOrD (tNotD (tV (eIsi "str" (eVar 0)))) (tNotD (tV (e3 dLe dLe (eC (.int 1)) (eB bLen (aCons (eVar 0) aNil)) (eC (.int 13)))))) (sRet (eC .non)) sNext)
    (sSeq (sIf (tOrD (tNotD (tV (eB bAll (aCons (eLc false [1] (iStr (eVar 0)) (gName 1) tYesD (e2 dIn (eVar 1) (eC (.str "0123456789")))) aNil)))) (tOrD (tAndD (tV (e2 (dEq 0) (e2 dIx (eVar 0) (eC (.int 0))) (eC (.str "0")))) (tV (e2 (dNe 0) (eVar 0) (eC (.str "0"))))) (tV (e2 dGt (eB bInt (aCons (eVar 0) aNil)) (eC (.int 1000000000000)))))) (sRet (eC .non)) sNext)
    (sRet (eB bInt (aCons (eVar 0) aNil)))))
noncomputable def m_number_of : GD := runD 2 z_number_of
theorem sc_number_of : FnScope ["word", "sign"] ["word"] (defScope s_number_of) := ⟨rfl, rfl, rfl, by decide +kernel, rfl, by decide +kernel, by decide +kernel⟩
theorem ok_number_of {f : Addr} {fd : FuncData} (F : Fun K "number_of" "number_of" s_number_of f fd) (T : Tx mg)  : FnG P w K mg base 1 f fd ["word"] (spOf K cl 1 m_number_of) :=
  def_ok (k := 0) F sc_number_of rfl z_number_of fun cdv A outer s H E W G =>
    (fss_cons (fs_if (ft_w (fw_or (ft_not (ft_val (fe_isi T.n_isinstance T.n_str (by decide +kernel) (fe_var (pv 0))))) (fw_or1 (ft_not (ft_lele fe_int (fe_len T.n_len (fa_cons (fe_var (pv 0)) fa_nil)) (fe_globI T.c_MOST_FIGURES)))))) (fss_one (fs_ret fe_non)) fss_nil)
    (fss_cons (fs_if (ft_w (fw_or (ft_not (ft_val (fe_all G T.n_all (fa_cons (fe_lc (live := false) (own := [("sign", 1)]) G (fi_str (fe_var (pv 0))) (blkB (N' := ["word", "sign"]) (sc' := defScope s_number_of) rfl rfl (by decide +kernel)) gix_name (fun s1 H1 D1 e1 p1 => (fg_name 1 (G.blk s1 H1 D1 e1 p1).nd)) (fun s1 H1 D1 e1 p1 => fts_nil) (fun s1 H1 D1 e1 p1 => (fe_in (G.blk s1 H1 D1 e1 p1) (fe_var (pv 1)) (fe_globS T.c_FIGURES)))) fa_nil)))) (fw_or (ft_w (fw_and (ft_eq G (n := 0) (fe_ix G (fe_var (pv 0)) fe_int) fe_str) (fw_and1 (ft_ne G (n := 0) (fe_var (pv 0)) fe_str)))) (fw_or1 (ft_gt (fe_intc T.n_int (fa_cons (fe_var (pv 0)) fa_nil)) (fe_globI T.c_MOST_NUMBER)))))) (fss_one (fs_ret fe_non)) fss_nil)
    (fss_one (fs_ret (fe_intc T.n_int (fa_cons (fe_var (pv 0)) fa_nil))))))
/-! _law_number_of -/
abbrev s__law_number_of : Stmt := top 13
noncomputable def z__law_number_of : DS := (sSeq (sIf (tOrD (tNotD (tV (eIsi "str" (eVar 0)))) (tOrD (tV (e2 (dEq 0) (eVar 0) (eC (.str "")))) (tV (e2 dGt (eB bLen (aCons (eVar 0) aNil)) (eC (.int 13)))))) (sRet (eC .non)) sNext)
    (sSeq (sSet 1 (eC (.int 0)))
    (sSeq (sFor (iStr (eVar 0)) (gName 2) (sSeq (sIf (tV (e2 dNotIn (eVar 2) (eC (.str "0123456789")))) (sRet (eC .non)) sNext)
    (sSet 1 (e2 dAdd (e2 dMul (eC (.int 10)) (eVar 1)) (eM "str" mSIndex (eC (.str "0123456789")) (aCons (eVar 2) aNil))))))
    (sRet (eIf (tAndD (tV (e2 (dEq 0) (eB bStr (aCons (eVar 1) aNil)) (eVar 0))) (tV (e2 dLe (eVar 1) (e2 dPow (eC (.int 10)) (eC (.int 12)))))) (eVar 1) (eC .non))))))
noncomputable def m__law_number_of : GD := runD 3 z__law_number_of
theorem sc__law_number_of : FnScope ["_law_thing", "_law_found", "_law_sign"] ["_law_thing"] (defScope s__law_number_of) := ⟨rfl, rfl, rfl, by decide +kernel, rfl, by decide +kernel, by decide +kernel⟩
theorem ok__law_number_of {f : Addr} {fd : FuncData} (F : Fun K "_law_number_of" "_law_number_of" s__law_number_of f fd) (T : Tx mg)  : FnG P w K mg base 1 f fd ["_law_thing"] (spOf K cl 1 m__law_number_of) :=
  def_ok (k := 0) F sc__law_number_of rfl z__law_number_of fun cdv A outer s H E W G =>
    (fss_cons (fs_if (ft_w (fw_or (ft_not (ft_val (fe_isi T.n_isinstance T.n_str (by decide +kernel) (fe_var (pv 0))))) (fw_or (ft_eq G (n := 0) (fe_var (pv 0)) fe_str) (fw_or1 (ft_gt (fe_len T.n_len (fa_cons (fe_var (pv 0)) fa_nil)) fe_int))))) (fss_one (fs_ret fe_non)) fss_nil)
    (fss_cons (fs_set (i := 1) G fe_int)
    (fss_cons (fs_for G (fi_str (fe_var (pv 0))) (fg_name 2 G.nd) (fss_cons (fs_if (ft_notIn G (fe_var (pv 2)) fe_str) (fss_one (fs_ret fe_non)) fss_nil)
    (fss_one (fs_set (i := 1) G (fe_add (fe_mul fe_int (fe_var (pv 1))) (fe_sindex fe_str (fa_cons (fe_var (pv 2)) fa_nil)))))))
    (fss_one (fs_ret (fe_if (ft_w (fw_and (ft_eq G (n := 0) (fe_strc T.n_str (fa_cons (fe_var (pv 1)) fa_nil)) (fe_var (pv 0))) (fw_and1 (ft_le (fe_var (pv 1)) (fe_pow fe_int fe_int))))) (fe_var (pv 1)) fe_non))))))
/-! is_among -/
abbrev s_is_among : Stmt := top 7
noncomputable def z_is_among : DS := (sRet (eAndD (eIsi "int" (eVar 0)) (eAndD (eNotD (eIsi "bool" (eVar 0))) (e3 dLe dLe (eVar 1) (eVar 0) (eVar 2)))))
noncomputable def m_is_among : GD := runD 3 z_is_among
theorem sc_is_among : FnScope ["thing", "least", "most"] ["thing", "least", "most"] (defScope s_is_among) := ⟨rfl, rfl, rfl, by decide +kernel, rfl, by decide +kernel, by decide +kernel⟩
theorem ok_is_among {f : Addr} {fd : FuncData} (F : Fun K "is_among" "is_among" s_is_among f fd) (T : Tx mg)  : FnG P w K mg base 1 f fd ["thing", "least", "most"] (spOf K cl 3 m_is_among) :=
  def_ok (k := 0) F sc_is_among rfl z_is_among fun cdv A outer s H E W G =>
    (fss_one (fs_ret (fe_and (fe_isi T.n_isinstance T.n_int (by decide +kernel) (fe_var (pv 0))) (fe_and (fe_not (fe_isi T.n_isinstance T.n_bool (by decide +kernel) (fe_var (pv 0)))) (fe_one (fe_lele (fe_var (pv 1)) (fe_var (pv 0)) (fe_var (pv 2))))))))
/-! law -/
abbrev s_law : Stmt := top 16
noncomputable def z_law : DS := (sSeq (sSet 1 (eLst (aCons (eC .non) (aCons (eC (.bl true)) (aCons (eC (.bl false)) (aCons (eLst aNil) (aCons (eTup aNil) (aCons (eDic0 false) (aCons (eLst (aCons (eC (.str "a")) aNil)) (aCons (eTup (aCons (eC (.str "a")) aNil)) (aCons (eDic false ((.inl 1, (eC (.int 2))) :: [])) (aCons (eC (.int 0)) (aCons (eC (.int 5)) (aCons (eNeg (eC (.int 1))) (aCons (eLst (aCons (eC (.int 5)) aNil)) (aCons (eTup (aCons (eC (.str "5")) aNil)) aNil))))))))))))))))
    (sSeq (sFor (iRange1 (aCons (e2 dAdd (eC (.int 1)) (eB bMin2 (aCons (eC (.int 63)) (aCons (eB bLen (aCons (eVar 0) aNil)) aNil)))) aNil)) (gName 2) (sSeq (sPar 3 4 (aCons (eCall 2 (pureD m__law_number) [] (aCons (eVar 0) (aCons (eVar 2) aNil))) (aCons (eCall 2 (pureD m__law_number) [] (aCons (eVar 0) (aCons (e2 dAdd (eVar 2) (eC (.int 100))) aNil))) aNil)))
    (sSeq (sSet 5 (e2 dIx (eVar 1) (e2 dMod (e2 dDiv (eVar 3) (eC (.int 7))) (eC (.int 14)))))
    (sSeq (sFor (iTup (eTup (aCons (eCall 2 (pureD m__law_text) [] (aCons (eVar 3) (aCons (e2 dAdd (eC (.int 100)) (eVar 2)) aNil))) (aCons (eCall 2 (pureD m__law_figures) [] (aCons (eVar 4) (aCons (eVar 3) aNil))) (aCons (eVar 5) (aCons (eC (.str "0")) (aCons (eC (.str "00")) (aCons (eC (.str "")) aNil)))))))) (gName 6) (sSeq (sIf (tV (e2 (dNe 0) (eB (bRepr 0) (aCons (eCall 1 (pureD m_is_name) [] (aCons (eVar 6) aNil)) aNil)) (eB (bRepr 0) (aCons (eCall 1 (pureD m__law_is_name) [] (aCons (eVar 6) aNil)) aNil)))) (sRet (eC (.bl false))) sNext)
    (sIf (tV (e2 (dNe 0) (eB (bRepr 0) (aCons (eCall 1 (pureD m_number_of) [] (aCons (eVar 6) aNil)) aNil)) (eB (bRepr 0) (aCons (eCall 1 (pureD m__law_number_of) [] (aCons (eVar 6) aNil)) aNil)))) (sRet (eC (.bl false))) sNext)))
    (sSeq (sSet 7 (e2 dSub (e2 dMod (eVar 4) (eC (.int 40))) (eC (.int 20))))
    (sSeq (sSet 8 (e2 dAdd (eVar 7) (e2 dMod (eVar 3) (eC (.int 9)))))
    (sSeq (sSet 9 (e2 dSub (e2 dAdd (eVar 7) (e2 dMod (e2 dDiv (eVar 3) (eC (.int 9))) (eC (.int 13)))) (eC (.int 2))))
    (sSeq (sIf (tV (e2 (dNe 0) (eB (bRepr 0) (aCons (eCall 3 (pureD m_is_among) [] (aCons (eVar 9) (aCons (eVar 7) (aCons (eVar 8) aNil)))) aNil)) (eB (bRepr 0) (aCons (e3 dLe dLe (eVar 7) (eVar 9) (eVar 8)) aNil)))) (sRet (eC (.bl false))) sNext)
    (sSeq (sSet 10 (eAndD (eIsi "int" (eVar 5)) (eAndD (eNotD (eIsi "bool" (eVar 5))) (e3 dLe dLe (eVar 7) (eVar 5) (eVar 8)))))
    (sIf (tV (e2 (dNe 0) (eB (bRepr 0) (aCons (eCall 3 (pureD m_is_among) [] (aCons (eVar 5) (aCons (eVar 7) (aCons (eVar 8) aNil)))) aNil)) (eB (bRepr 0) (aCons (eVar 10) aNil)))) (sRet (eC (.bl false))) sNext))))))))))
    (sRet (eC (.bl true)))))
noncomputable def m_law : GD := runD 11 z_law
theorem sc_law : FnScope ["_law_script", "_law_some", "_law_k", "_law_cell", "_law_more", "_law_odd", "_law_thing", "_law_least", "_law_most", "_law_number_here", "_law_due"] ["_law_script"] (defScope s_law) := ⟨rfl, rfl, rfl, by decide +kernel, rfl, by decide +kernel, by decide +kernel⟩
theorem ok_law {f : Addr} {fd : FuncData} (F : Fun K "law" "law" s_law f fd) (T : Tx mg) (C__law_figures : Cal P w K mg base cl 1 2 "_law_figures" m__law_figures) (C__law_is_name : Cal P w K mg base cl 1 1 "_law_is_name" m__law_is_name) (C__law_number : Cal P w K mg base cl 2 2 "_law_number" m__law_number) (C__law_number_of : Cal P w K mg base cl 1 1 "_law_number_of" m__law_number_of) (C__law_text : Cal P w K mg base cl 2 2 "_law_text" m__law_text) (C_is_among : Cal P w K mg base cl 1 3 "is_among" m_is_among) (C_is_name : Cal P w K mg base cl 1 1 "is_name" m_is_name) (C_number_of : Cal P w K mg base cl 1 1 "number_of" m_number_of) : FnG P w K mg base 3 f fd ["_law_script"] (spOf K cl 1 m_law) :=
  def_ok (k := 2) F sc_law rfl z_law fun cdv A outer s H E W G =>
    (fss_cons (fs_set (i := 1) G (fe_lst (fa_cons fe_non (fa_cons fe_bl (fa_cons fe_bl (fa_cons (fe_lst fa_nil) (fa_cons (fe_tup fa_nil) (fa_cons (fe_dic0 (live := false)) (fa_cons (fe_lst (fa_cons fe_str fa_nil)) (fa_cons (fe_tup (fa_cons fe_str fa_nil)) (fa_cons (fe_dic (live := false) (fps_int fe_int fps_nil)) (fa_cons fe_int (fa_cons fe_int (fa_cons (fe_neg fe_int) (fa_cons (fe_lst (fa_cons fe_int fa_nil)) (fa_cons (fe_tup (fa_cons fe_str fa_nil)) fa_nil))))))))))))))))
    (fss_cons (fs_for G (fi_range1 T.n_range (fa_cons (fe_add fe_int (fe_min2 G T.n_min (fa_cons fe_int (fa_cons (fe_len T.n_len (fa_cons (fe_var (pv 0)) fa_nil)) fa_nil)))) fa_nil)) (fg_name 2 G.nd) (fss_cons (fs_par (i := 3) (j := 4) G (fa_cons (fe_callC G C__law_number.pure (by decide) (fa_cons (fe_var (pv 0)) (fa_cons (fe_var (pv 2)) fa_nil))) (fa_cons (fe_callC G C__law_number.pure (by decide) (fa_cons (fe_var (pv 0)) (fa_cons (fe_add (fe_var (pv 2)) fe_int) fa_nil))) fa_nil)))
    (fss_cons (fs_set (i := 5) G (fe_ix G (fe_var (pv 1)) (fe_mod (fe_div (fe_var (pv 3)) fe_int) fe_int)))
    (fss_cons (fs_for G (fi_tup (fe_tup (fa_cons (fe_callC G C__law_text.pure (by decide) (fa_cons (fe_var (pv 3)) (fa_cons (fe_add fe_int (fe_var (pv 2))) fa_nil))) (fa_cons (fe_callC G C__law_figures.pure (by decide) (fa_cons (fe_var (pv 4)) (fa_cons (fe_var (pv 3)) fa_nil))) (fa_cons (fe_var (pv 5)) (fa_cons fe_str (fa_cons fe_str (fa_cons fe_str fa_nil)))))))) (fg_name 6 G.nd) (fss_cons (fs_if (ft_ne G (n := 0) (fe_repr (n := 0) G T.n_repr (fa_cons (fe_callC G C_is_name.pure (by decide) (fa_cons (fe_var (pv 6)) fa_nil)) fa_nil)) (fe_repr (n := 0) G T.n_repr (fa_cons (fe_callC G C__law_is_name.pure (by decide) (fa_cons (fe_var (pv 6)) fa_nil)) fa_nil))) (fss_one (fs_ret fe_bl)) fss_nil)
    (fss_one (fs_if (ft_ne G (n := 0) (fe_repr (n := 0) G T.n_repr (fa_cons (fe_callC G C_number_of.pure (by decide) (fa_cons (fe_var (pv 6)) fa_nil)) fa_nil)) (fe_repr (n := 0) G T.n_repr (fa_cons (fe_callC G C__law_number_of.pure (by decide) (fa_cons (fe_var (pv 6)) fa_nil)) fa_nil))) (fss_one (fs_ret fe_bl)) fss_nil))))
    (fss_cons (fs_set (i := 7) G (fe_sub (fe_mod (fe_var (pv 4)) fe_int) fe_int))
    (fss_cons (fs_set (i := 8) G (fe_add (fe_var (pv 7)) (fe_mod (fe_var (pv 3)) fe_int)))
    (fss_cons (fs_set (i := 9) G (fe_sub (fe_add (fe_var (pv 7)) (fe_mod (fe_div (fe_var (pv 3)) fe_int) fe_int)) fe_int))
    (fss_cons (fs_if (ft_ne G (n := 0) (fe_repr (n := 0) G T.n_repr (fa_cons (fe_callC G C_is_among.pure (by decide) (fa_cons (fe_var (pv 9)) (fa_cons (fe_var (pv 7)) (fa_cons (fe_var (pv 8)) fa_nil)))) fa_nil)) (fe_repr (n := 0) G T.n_repr (fa_cons (fe_lele (fe_var (pv 7)) (fe_var (pv 9)) (fe_var (pv 8))) fa_nil))) (fss_one (fs_ret fe_bl)) fss_nil)
    (fss_cons (fs_set (i := 10) G (fe_and (fe_isi T.n_isinstance T.n_int (by decide +kernel) (fe_var (pv 5))) (fe_and (fe_not (fe_isi T.n_isinstance T.n_bool (by decide +kernel) (fe_var (pv 5)))) (fe_one (fe_lele (fe_var (pv 7)) (fe_var (pv 5)) (fe_var (pv 8)))))))
    (fss_one (fs_if (ft_ne G (n := 0) (fe_repr (n := 0) G T.n_repr (fa_cons (fe_callC G C_is_among.pure (by decide) (fa_cons (fe_var (pv 5)) (fa_cons (fe_var (pv 7)) (fa_cons (fe_var (pv 8)) fa_nil)))) fa_nil)) (fe_repr (n := 0) G T.n_repr (fa_cons (fe_var (pv 10)) fa_nil))) (fss_one (fs_ret fe_bl)) fss_nil)))))))))))
    (fss_one (fs_ret fe_bl))))
end
theorem all_mk {l : PySem.W.OpenLaw} {w : World} {K : PySem.W.Frag} {h : Heap} {mg : Str → Option Value} {fa f0 f1 f2 f3 f4 f5 f6 f7 f8 f9 : Addr} (X : K.In h) (G : h.Ns mainGlobals mg) (hfa : mg "law" = some (.ref fa))
    {od0 an0 od1 an1 od2 an2 od3 an3 od4 an4 od5 an5 od6 an6 od7 an7 od8 an8 od9 an9 : Option Addr} {sl0 sl1 sl2 sl3 sl4 sl5 sl6 sl7 sl8 sl9 : Array (Option Value)} {oc0 kV0 dc0 pm0 cd0 ct0 oc1 kV1 dc1 pm1 cd1 ct1 oc2 kV2 dc2 pm2 cd2 ct2 oc3 kV3 dc3 pm3 cd3 ct3 oc4 kV4 dc4 pm4 cd4 ct4 oc5 kV5 dc5 pm5 cd5 ct5 oc6 kV6 dc6 pm6 cd6 ct6 oc7 kV7 dc7 pm7 cd7 ct7 oc8 kV8 dc8 pm8 cd8 ct8 oc9 kV9 dc9 pm9 cd9 ct9 : Value}
    {t_FIGURES t_LETTERS t_MOST_FIGURES t_MOST_LETTERS : Tok}
    (a0 : PySem.W.nsIn K mainGlobals "_law_mixed" = some (some (.ref f0))) (l0 : K.lookup f0 = some ⟨oc0, od0, .func (PySem.W.fnOf "_law_mixed" "_law_mixed" (defArgs s__law_mixed) (defBody s__law_mixed) (defScope s__law_mixed) .none kV0 dc0 pm0 an0 cd0 ct0), sl0⟩) (c0 : PySem.W.codeIn K cd0 "_law_mixed" = true) (k0 : PySem.W.keepIn K (.ref f0) = true)
    (a1 : PySem.W.nsIn K mainGlobals "_law_number" = some (some (.ref f1))) (l1 : K.lookup f1 = some ⟨oc1, od1, .func (PySem.W.fnOf "_law_number" "_law_number" (defArgs s__law_number) (defBody s__law_number) (defScope s__law_number) .none kV1 dc1 pm1 an1 cd1 ct1), sl1⟩) (c1 : PySem.W.codeIn K cd1 "_law_number" = true) (k1 : PySem.W.keepIn K (.ref f1) = true)
    (a2 : PySem.W.nsIn K mainGlobals "_law_figures" = some (some (.ref f2))) (l2 : K.lookup f2 = some ⟨oc2, od2, .func (PySem.W.fnOf "_law_figures" "_law_figures" (defArgs s__law_figures) (defBody s__law_figures) (defScope s__law_figures) .none kV2 dc2 pm2 an2 cd2 ct2), sl2⟩) (c2 : PySem.W.codeIn K cd2 "_law_figures" = true) (k2 : PySem.W.keepIn K (.ref f2) = true)
    (a3 : PySem.W.nsIn K mainGlobals "_law_text" = some (some (.ref f3))) (l3 : K.lookup f3 = some ⟨oc3, od3, .func (PySem.W.fnOf "_law_text" "_law_text" (defArgs s__law_text) (defBody s__law_text) (defScope s__law_text) .none kV3 dc3 pm3 an3 cd3 ct3), sl3⟩) (c3 : PySem.W.codeIn K cd3 "_law_text" = true) (k3 : PySem.W.keepIn K (.ref f3) = true)
    (a4 : PySem.W.nsIn K mainGlobals "is_name" = some (some (.ref f4))) (l4 : K.lookup f4 = some ⟨oc4, od4, .func (PySem.W.fnOf "is_name" "is_name" (defArgs s_is_name) (defBody s_is_name) (defScope s_is_name) .none kV4 dc4 pm4 an4 cd4 ct4), sl4⟩) (c4 : PySem.W.codeIn K cd4 "is_name" = true) (k4 : PySem.W.keepIn K (.ref f4) = true)
    (a5 : PySem.W.nsIn K mainGlobals "_law_is_name" = some (some (.ref f5))) (l5 : K.lookup f5 = some ⟨oc5, od5, .func (PySem.W.fnOf "_law_is_name" "_law_is_name" (defArgs s__law_is_name) (defBody s__law_is_name) (defScope s__law_is_name) .none kV5 dc5 pm5 an5 cd5 ct5), sl5⟩) (c5 : PySem.W.codeIn K cd5 "_law_is_name" = true) (k5 : PySem.W.keepIn K (.ref f5) = true)
    (a6 : PySem.W.nsIn K mainGlobals "number_of" = some (some (.ref f6))) (l6 : K.lookup f6 = some ⟨oc6, od6, .func (PySem.W.fnOf "number_of" "number_of" (defArgs s_number_of) (defBody s_number_of) (defScope s_number_of) .none kV6 dc6 pm6 an6 cd6 ct6), sl6⟩) (c6 : PySem.W.codeIn K cd6 "number_of" = true) (k6 : PySem.W.keepIn K (.ref f6) = true)
    (a7 : PySem.W.nsIn K mainGlobals "_law_number_of" = some (some (.ref f7))) (l7 : K.lookup f7 = some ⟨oc7, od7, .func (PySem.W.fnOf "_law_number_of" "_law_number_of" (defArgs s__law_number_of) (defBody s__law_number_of) (defScope s__law_number_of) .none kV7 dc7 pm7 an7 cd7 ct7), sl7⟩) (c7 : PySem.W.codeIn K cd7 "_law_number_of" = true) (k7 : PySem.W.keepIn K (.ref f7) = true)
    (a8 : PySem.W.nsIn K mainGlobals "is_among" = some (some (.ref f8))) (l8 : K.lookup f8 = some ⟨oc8, od8, .func (PySem.W.fnOf "is_among" "is_among" (defArgs s_is_among) (defBody s_is_among) (defScope s_is_among) .none kV8 dc8 pm8 an8 cd8 ct8), sl8⟩) (c8 : PySem.W.codeIn K cd8 "is_among" = true) (k8 : PySem.W.keepIn K (.ref f8) = true)
    (a9 : PySem.W.nsIn K mainGlobals "law" = some (some (.ref f9))) (l9 : K.lookup f9 = some ⟨oc9, od9, .func (PySem.W.fnOf "law" "law" (defArgs s_law) (defBody s_law) (defScope s_law) .none kV9 dc9 pm9 an9 cd9 ct9), sl9⟩) (c9 : PySem.W.codeIn K cd9 "law" = true) (k9 : PySem.W.keepIn K (.ref f9) = true)
    (n_all : PySem.W.nsIn K mainGlobals "all" = some none)
    (n_bool : PySem.W.nsIn K mainGlobals "bool" = some none)
    (n_int : PySem.W.nsIn K mainGlobals "int" = some none)
    (n_isinstance : PySem.W.nsIn K mainGlobals "isinstance" = some none)
    (n_len : PySem.W.nsIn K mainGlobals "len" = some none)
    (n_min : PySem.W.nsIn K mainGlobals "min" = some none)
    (n_range : PySem.W.nsIn K mainGlobals "range" = some none)
    (n_repr : PySem.W.nsIn K mainGlobals "repr" = some none)
    (n_str : PySem.W.nsIn K mainGlobals "str" = some none)
    (c_FIGURES : PySem.W.nsIn K mainGlobals "FIGURES" = some (some (.str "0123456789" t_FIGURES)))
    (c_LETTERS : PySem.W.nsIn K mainGlobals "LETTERS" = some (some (.str "abcdefghijklmnopqrstuvwxyz" t_LETTERS)))
    (c_MOST_FIGURES : PySem.W.nsIn K mainGlobals "MOST_FIGURES" = some (some (.int 13 t_MOST_FIGURES)))
    (c_MOST_LETTERS : PySem.W.nsIn K mainGlobals "MOST_LETTERS" = some (some (.int 8 t_MOST_LETTERS)))
    (c_MOST_NUMBER : ∃ t, mg "MOST_NUMBER" = some (.int 1000000000000 t))
    : ∃ (fd : FuncData) (cl : Cl), (∀ (s : Shared) (u : Value), BindsTo s fd ⟨[u], []⟩ [("_law_script", u)]) ∧ ∀ base : Heap, K.In base → base.Ns mainGlobals mg → FnG l.prog w K mg base 3 fa fd ["_law_script"] (spOf K cl 1 m_law) := by
  have e := hfa.symm.trans (PySem.W.mg_of X G a9)
  cases e
  have T : Tx mg := ⟨PySem.W.mg_none_of X G n_all, PySem.W.mg_none_of X G n_bool, PySem.W.mg_none_of X G n_int, PySem.W.mg_none_of X G n_isinstance, PySem.W.mg_none_of X G n_len, PySem.W.mg_none_of X G n_min, PySem.W.mg_none_of X G n_range, PySem.W.mg_none_of X G n_repr, PySem.W.mg_none_of X G n_str, ⟨_, PySem.W.mg_of X G c_FIGURES⟩, ⟨_, PySem.W.mg_of X G c_LETTERS⟩, ⟨_, PySem.W.mg_of X G c_MOST_FIGURES⟩, ⟨_, PySem.W.mg_of X G c_MOST_LETTERS⟩, c_MOST_NUMBER⟩
  have F0 := fun_mk (st := s__law_mixed) l0 c0 k0
  have F1 := fun_mk (st := s__law_number) l1 c1 k1
  have F2 := fun_mk (st := s__law_figures) l2 c2 k2
  have F3 := fun_mk (st := s__law_text) l3 c3 k3
  have F4 := fun_mk (st := s_is_name) l4 c4 k4
  have F5 := fun_mk (st := s__law_is_name) l5 c5 k5
  have F6 := fun_mk (st := s_number_of) l6 c6 k6
  have F7 := fun_mk (st := s__law_number_of) l7 c7 k7
  have F8 := fun_mk (st := s_is_among) l8 c8 k8
  have F9 := fun_mk (st := s_law) l9 c9 k9
  have b0 := F0.binds (ps := ["_law_cell", "_law_k"]) fun _ _ _ _ _ _ us hl => match us, hl with | [_, _], _ => rfl
  have b1 := F1.binds (ps := ["_law_script", "_law_k"]) fun _ _ _ _ _ _ us hl => match us, hl with | [_, _], _ => rfl
  have b2 := F2.binds (ps := ["_law_cell", "_law_more"]) fun _ _ _ _ _ _ us hl => match us, hl with | [_, _], _ => rfl
  have b3 := F3.binds (ps := ["_law_cell", "_law_k"]) fun _ _ _ _ _ _ us hl => match us, hl with | [_, _], _ => rfl
  have b4 := F4.binds (ps := ["thing"]) fun _ _ _ _ _ _ us hl => match us, hl with | [_], _ => rfl
  have b5 := F5.binds (ps := ["_law_thing"]) fun _ _ _ _ _ _ us hl => match us, hl with | [_], _ => rfl
  have b6 := F6.binds (ps := ["word"]) fun _ _ _ _ _ _ us hl => match us, hl with | [_], _ => rfl
  have b7 := F7.binds (ps := ["_law_thing"]) fun _ _ _ _ _ _ us hl => match us, hl with | [_], _ => rfl
  have b8 := F8.binds (ps := ["thing", "least", "most"]) fun _ _ _ _ _ _ us hl => match us, hl with | [_, _, _], _ => rfl
  refine ⟨PySem.W.fnOf "law" "law" (defArgs s_law) (defBody s_law) (defScope s_law) .none kV9 dc9 pm9 an9 cd9 ct9, (fun _ => none), fun s v => .of_eq rfl, fun base _ _ => ?_⟩
  have C0 : Cal l.prog w K mg base (fun _ => none) 1 2 "_law_mixed" m__law_mixed := ⟨f0, _, _, PySem.W.mg_of X G a0, k0, b0, ok__law_mixed F0 T ⟩
  have C1 : Cal l.prog w K mg base (fun _ => none) 2 2 "_law_number" m__law_number := ⟨f1, _, _, PySem.W.mg_of X G a1, k1, b1, ok__law_number F1 T C0⟩
  have C2 : Cal l.prog w K mg base (fun _ => none) 1 2 "_law_figures" m__law_figures := ⟨f2, _, _, PySem.W.mg_of X G a2, k2, b2, ok__law_figures F2 T ⟩
  have C3 : Cal l.prog w K mg base (fun _ => none) 2 2 "_law_text" m__law_text := ⟨f3, _, _, PySem.W.mg_of X G a3, k3, b3, ok__law_text F3 T C0⟩
  have C4 : Cal l.prog w K mg base (fun _ => none) 1 1 "is_name" m_is_name := ⟨f4, _, _, PySem.W.mg_of X G a4, k4, b4, ok_is_name F4 T ⟩
  have C5 : Cal l.prog w K mg base (fun _ => none) 1 1 "_law_is_name" m__law_is_name := ⟨f5, _, _, PySem.W.mg_of X G a5, k5, b5, ok__law_is_name F5 T ⟩
  have C6 : Cal l.prog w K mg base (fun _ => none) 1 1 "number_of" m_number_of := ⟨f6, _, _, PySem.W.mg_of X G a6, k6, b6, ok_number_of F6 T ⟩
  have C7 : Cal l.prog w K mg base (fun _ => none) 1 1 "_law_number_of" m__law_number_of := ⟨f7, _, _, PySem.W.mg_of X G a7, k7, b7, ok__law_number_of F7 T ⟩
  have C8 : Cal l.prog w K mg base (fun _ => none) 1 3 "is_among" m_is_among := ⟨f8, _, _, PySem.W.mg_of X G a8, k8, b8, ok_is_among F8 T ⟩
  exact ok_law F9 T C2 C5 C1 C7 C3 C8 C4 C6
end Q
namespace Q
open PySem L2 Mi
theorem imR {x y : Int} (h : -(2 ^ 62) ≤ y) (h' : y ≤ 2 ^ 62) : IntMulOk x y := (show CMul x y from .inr ⟨by omega, by omega⟩).ok
theorem imL {x y : Int} (h : -(2 ^ 62) ≤ x) (h' : x ≤ 2 ^ 62) : IntMulOk x y := (show CMul x y from .inl ⟨by omega, by omega⟩).ok
def nh (c k : Int) : Int := (c % 1000000007 + 7919 * k * k + 31 * k + 17) * 48271 % 2147483647
def mixed (c k : Int) : Int := nh c k * (nh c k % 65521 + 16807) % 2147483629 / 4
theorem mixed_ge (c k : Int) : 0 ≤ mixed c k := by unfold mixed; omega
theorem mixed_lt (c k : Int) : mixed c k < 2 ^ 29 := by unfold mixed; omega
theorem v_mixed (c k : Int) (h0 : 0 ≤ k) (h1 : k < 2 ^ 40) (S : Store) : m__law_mixed [.int c, .int k] S = .ok (.int (mixed c k)) S := by
  have n0 : 0 ≤ nh c k := by unfold nh; omega
  have n1 : nh c k < 2147483647 := by unfold nh; omega
  have i1 : IntMulOk 7919 k := imL (by decide) (by decide)
  have i2 : IntMulOk (7919 * k) k := imR (by omega) (by omega)
  have i3 : IntMulOk 31 k := imL (by decide) (by decide)
  have i4 : ∀ x, IntMulOk x 48271 := fun x => imR (by decide) (by decide)
  have i5 : ∀ x, IntMulOk (nh c k) x := fun x => imL (by omega) (by omega)
  have n : (c % 1000000007 + 7919 * k * k + 31 * k + 17) * 48271 % 2147483647 = nh c k := rfl
  rw [m__law_mixed, runD_ap, z__law_mixed]
  simp [dMod_int, dMul_int, i1, i2, i3, i4, i5, n]
  simp [dDiv_int, show Nat.log2 4 < 9000 by decide +kernel, mixed]
theorem v_number (cs : List Int) (hl : cs.length ≤ 63) (k : Int) (h0 : 0 ≤ k) (h1 : k < 2 ^ 40) (S : Store) : ∃ r : Int, 0 ≤ r ∧ r < 2 ^ 30 ∧ m__law_number [.scr (cs.map .int), .int k] S = .ok (.int r) S := by
  have d9 : dPow (.int 10) (.int 9) S = .ok (.int 1000000000) S := by rw [dPow_int (by decide)]; rfl
  rw [m__law_number]
  cases cs with
  | nil =>
    refine ⟨_, mixed_ge 0 k, Int.lt_trans (mixed_lt 0 k) (by decide), ?_⟩
    rw [runD_ap, z__law_number]
    simp [call_pure (n := 2) rfl rfl ⟨_, v_mixed 0 k h0 h1 []⟩ rfl]
  | cons c cs => 
    have hp : (0 : Int) < cs.length + 1 := by omega
    have hb : ((cs.length : Int) + 1).natAbs.log2 < 9000 := by
      have : ((cs.length : Int) + 1).natAbs < 2 ^ 10 := by simp at hl; omega
      exact Nat.lt_of_lt_of_le (PySem.Flt.log2_lt_of (by decide) this) (by decide)
    obtain ⟨e, he, ha⟩ := atD_int (l := (c :: cs).map D.int) (x := k % (cs.length + 1)) (Int.emod_nonneg _ (by omega)) (by simpa using Int.emod_lt_of_pos _ hp)
    have hz : atD ((c :: cs).map D.int) 0 = some (.int c) := by rw [show (0 : Int) = ((0 : Nat) : Int) from rfl]; exact atD_nat rfl
    obtain ⟨x, rfl⟩ : ∃ x, e = .int x := by
      rw [List.getElem?_map] at he
      cases z : (c :: cs)[(k % (cs.length + 1)).toNat]? with
      | none => rw [z] at he; cases he
      | some x => rw [z] at he; cases he; exact ⟨x, rfl⟩
    simp only [List.map_cons] at ha hz
    by_cases hc : c % 2 = 1
    · have q0 : 0 ≤ k / (cs.length + 1 : Int) := Int.ediv_nonneg h0 (by omega)
      have q1 : k / (cs.length + 1 : Int) ≤ k := Int.ediv_le_self _ h0
      obtain ⟨δ', S', hf, rfl, y, o, rfl⟩ := for_inv (fun δ S' => S' = S ∧ ∃ x o, δ = [some (.scr (D.int c :: cs.map D.int)), some (.int k), some (.int x), o]) (g := gName 3) (f := sSet 2 (e2 dDiv (eVar 2) (e2 dPow (eC (.int 10)) (eC (.int 9)))))
        (items := rngD 0 (if k / (cs.length + 1 : Int) < 60 then k / (cs.length + 1 : Int) else 60).toNat) (δ := [some (.scr (D.int c :: cs.map D.int)), some (.int k), some (.int x), none]) (S := S) ⟨rfl, x, none, rfl⟩ (by
          rintro d hd δ S' ⟨rfl, y, o, rfl⟩
          refine ⟨_, rfl, _, _, .inl (by simp [d9, dDiv_int, show Nat.log2 1000000000 < 9000 by decide +kernel]; exact ⟨rfl, rfl⟩), rfl, _, _, rfl⟩)
      refine ⟨y % 1000000000, Int.emod_nonneg _ (by decide), by omega, ?_⟩
      rw [runD_ap, z__law_number]
      simp [dMod_int, hp, ha, hz, hc, dDiv_int, hb]
      rw [if_pos (by split <;> omega)]
      simp [hf, d9, dMod_int]
    · refine ⟨_, mixed_ge x k, Int.lt_trans (mixed_lt x k) (by decide), ?_⟩
      rw [runD_ap, z__law_number]
      simp [dMod_int, hp, ha, hz, hc, call_pure (n := 2) rfl rfl ⟨_, v_mixed x k h0 h1 []⟩ rfl]

def chr (c : Nat) : D := .str ⟨#[c]⟩
def nameB (s : Str) : Bool := decide (1 ≤ s.length) && decide (s.length ≤ 8) && s.cps.toList.all fun c => decide (97 ≤ c ∧ c ≤ 122)
theorem letter_in (c : Nat) (S : Store) : dIn (chr c) (.str "abcdefghijklmnopqrstuvwxyz") S = .ok (.bl (decide (97 ≤ c ∧ c ≤ 122))) S := by
  have h : decide (c ∈ (Str.ofString "abcdefghijklmnopqrstuvwxyz").cps.toList) = decide (97 ≤ c ∧ c ≤ 122) := by
    rw [show (Str.ofString "abcdefghijklmnopqrstuvwxyz").cps.toList = [97,98,99,100,101,102,103,104,105,106,107,108,109,110,111,112,113,114,115,116,117,118,119,120,121,122] by decide +kernel]
    simp only [List.mem_cons, List.not_mem_nil, or_false, decide_eq_decide]
    omega
  show (match inB S (chr c) (.str "abcdefghijklmnopqrstuvwxyz") with | some b => Out.ok (D.bl b) S | none => .stuck) = _
  have h2 : inB S (chr c) (.str "abcdefghijklmnopqrstuvwxyz") = some (decide (c ∈ (Str.ofString "abcdefghijklmnopqrstuvwxyz").cps.toList)) := rfl
  rw [h2, h]
theorem digit_in (c : Nat) (S : Store) : inB S (chr c) (.str "0123456789") = some (decide (48 ≤ c ∧ c ≤ 57)) := by
  have h : decide (c ∈ (Str.ofString "0123456789").cps.toList) = decide (48 ≤ c ∧ c ≤ 57) := by
    rw [show (Str.ofString "0123456789").cps.toList = [48,49,50,51,52,53,54,55,56,57] by decide +kernel]
    simp only [List.mem_cons, List.not_mem_nil, or_false, decide_eq_decide]
    omega
  have h2 : inB S (chr c) (.str "0123456789") = some (decide (c ∈ (Str.ofString "0123456789").cps.toList)) := rfl
  rw [h2, h]
theorem v_is_name (s : Str) (hl : s.length ≤ 1000) (S : Store) : m_is_name [.str s] S = .ok (.bl (nameB s)) S := by
  have hs : s.length ≤ sizeLine := Nat.le_trans hl (by decide)
  rw [m_is_name, runD_ap, z_is_name]
  by_cases h1 : 1 ≤ s.length
  · by_cases h8 : s.length ≤ 8
    · have h1' : (1 : Int) ≤ s.length := by omega
      have h8' : (s.length : Int) ≤ 8 := by omega
      have hm : compD (gName 1) tYesD (e2 dIn (eVar 1) (eC (.str "abcdefghijklmnopqrstuvwxyz"))) none [some (.str s), none] (s.cps.toList.map fun c => .str ⟨#[c]⟩) S = .ok (s.cps.toList.map fun c => .bl (decide (97 ≤ c ∧ c ≤ 122))) S := by
        refine (comp_map (fun d => match d with | .str z => .bl (decide (97 ≤ z.cps.getD 0 0 ∧ z.cps.getD 0 0 ≤ 122)) | d => d) ?_).trans ?_
        · intro d hd
          obtain ⟨c, _, rfl⟩ := List.mem_map.mp hd
          exact ⟨_, rfl, rfl, letter_in c S⟩
        · rw [List.map_map]; rfl
      have hz : s.cps.size ≤ sizeLine := hs
      simp only [sSeq_ap, sIf_ap, tOr_ap, tNot_ap, tV_ap, eIsi_ap, eVar_0, tyName, isT, List.map, bind_ok, toB_bl, beq_self_eq_true, Bool.true_or, Bool.not_true, if_false, Bool.false_eq_true, e3_ap, eC_ap, eB_ap, aCons_ap, aNil_ap, bLen_str, hs, if_true, dLe_int, h1', h8', decide_true, toS_ok, sNext_ap, then_nx,
        List.length_cons, List.length_nil, List.replicate, List.append_eq, List.cons_append, List.nil_append, sRet_ap, eLc_ap, iStr_ap, List.length_map, Array.length_toList, hz, wipeD_cons, wipeD_nil, List.set_cons_succ, List.set_cons_zero, hm, lcEnd_f, bAll_lst, blsOf_map]
      simp [nameB, h1, h8]
    · have h8' : ¬ (s.length : Int) ≤ 8 := by omega
      simp [tyName, isT, hs, h8', nameB, h8]
  · have h1' : ¬ (1 : Int) ≤ s.length := by omega
    simp [tyName, isT, hs, h1', nameB, h1]
theorem ltS_chr (a c : Nat) : ltS ⟨#[a]⟩ ⟨#[c]⟩ = decide (a < c) := by
  show decide ([a] < [c]) = decide (a < c)
  rw [decide_eq_decide, List.cons_lt_cons_iff]
  exact ⟨fun h => h.elim id fun h => absurd h.2 (List.not_lt_nil _), .inl⟩
theorem filter_all (p : Nat → Bool) (l : List Nat) : (l.filter fun c => !p c).isEmpty = l.all p := by
  induction l with
  | nil => rfl
  | cons c l ih => cases h : p c <;> simp [List.filter_cons, h, ih]
theorem pyGs_str (r : Nat → Option PyData) (l : List Nat) : pyGs r (l.map chr) = some (l.map fun c => PyData.str ⟨#[c]⟩) := by
  induction l with
  | nil => rfl
  | cons c l ih => simp only [List.map_cons, pyGs, ih]; rfl
theorem lay_str (l : List Nat) (h : ∀ c ∈ l, c < 1114112) : PyData.canLayAll0 (l.map fun c => PyData.str ⟨#[c]⟩) = true := by
  induction l with
  | nil => rfl
  | cons c l ih =>
    have := h c (List.mem_cons_self ..)
    simp [PyData.canLayAll0, PyData.canLay0, PyData.strOk, this, ih fun d hd => h d (List.mem_cons_of_mem _ hd)]
theorem depth_str (l : List Nat) : PyData.depthAll (l.map fun c => PyData.str ⟨#[c]⟩) ≤ 1 := by
  induction l with
  | nil => decide
  | cons c l ih => simp only [List.map_cons, PyData.depthAll, PyData.depth]; omega
theorem v_lis_name (s : Str) (hl : s.length ≤ 1000) (ho : ∀ c ∈ s.cps.toList, c < 1114112) (S : Store) : m__law_is_name [.str s] S = .ok (.bl (nameB s)) S := by
  have hs : s.length ≤ sizeLine := Nat.le_trans hl (by decide)
  rw [m__law_is_name, runD_ap, z__law_is_name]
  by_cases h1 : 1 ≤ s.length
  · by_cases h8 : s.length ≤ 8
    · have h1' : (1 : Int) ≤ s.length := by omega
      have h8' : (s.length : Int) ≤ 8 := by omega
      have hm : compD (gName 1) (tNotD (tV (e3 dLe dLe (eC (.str "a")) (eVar 1) (eC (.str "z"))))) (eVar 1) none [some (.str s), none] (s.cps.toList.map fun c => .str ⟨#[c]⟩) S = .ok ((s.cps.toList.filter fun c => !decide (97 ≤ c ∧ c ≤ 122)).map chr) S := by
        refine (comp_filter (fun d => match d with | .str z => !decide (97 ≤ z.cps.getD 0 0 ∧ z.cps.getD 0 0 ≤ 122) | d => false) (fun d => d) ?_).trans ?_
        · intro d hd
          obtain ⟨c, _, rfl⟩ := List.mem_map.mp hd
          refine ⟨_, rfl, ?_, fun _ => rfl⟩
          have ea : (Str.ofString "a") = ⟨#[97]⟩ := by decide +kernel
          have ez : (Str.ofString "z") = ⟨#[122]⟩ := by decide +kernel
          simp only [setAll_cons, setAll_nil, List.set_cons_succ, List.set_cons_zero, tNot_ap, tV_ap, e3_ap, eC_ap, bind_ok, eVar_s, eVar_0, ea, ez, dLe_str, ltS_chr, toB_bl]
          by_cases hc : 97 ≤ c
          · by_cases hd : c ≤ 122
            · simp [hc, hd, Nat.not_lt.mpr hc, Nat.not_lt.mpr hd]
            · simp [hc, hd, Nat.not_lt.mpr hc, Nat.lt_of_not_le hd]
          · simp [hc, Nat.lt_of_not_le hc]
        · rw [List.filter_map, List.map_map]; rfl
      have hz : s.cps.size ≤ sizeLine := hs
      have he : ∀ l : List Nat, (∀ c ∈ l, c < 1114112) → dEq 0 (.lst (l.map chr)) (.lst []) S = .ok (.bl l.isEmpty) S := fun l hq => by
        have q : dEqB 0 S (.lst (l.map chr)) (.lst []) = some l.isEmpty := by
          have q1 : pyOf S 0 (.lst (l.map chr)) = some (.list (l.map fun c => PyData.str ⟨#[c]⟩)) := by
            show (pyGs _ (l.map chr)).map PyData.list = _
            rw [pyGs_str]; rfl
          have q2 : pyOf S 0 (.lst []) = some (.list []) := rfl
          unfold dEqB
          simp only [q1, q2]
          rw [if_pos]
          · cases l <;> rfl
          · refine ⟨?_, rfl⟩
            unfold SeqAt.shaped
            have := depth_str l
            rw [Bool.and_eq_true]
            exact ⟨lay_str l hq, decide_eq_true (by simp only [PyData.depth]; omega)⟩
        unfold dEq
        rw [q]
      simp only [sSeq_ap, sIf_ap, tOr_ap, tNot_ap, tV_ap, eIsi_ap, eVar_0, tyName, isT, List.map, bind_ok, toB_bl, beq_self_eq_true, Bool.true_or, Bool.not_true, if_false, Bool.false_eq_true, e3_ap, eC_ap, eB_ap, aCons_ap, aNil_ap, bLen_str, hs, if_true, dLe_int, h1', h8', decide_true, toS_ok, sNext_ap, then_nx,
        List.length_cons, List.length_nil, List.replicate, List.append_eq, List.cons_append, List.nil_append, sRet_ap, eLc_ap, iStr_ap, List.length_map, Array.length_toList, hz, wipeD_cons, wipeD_nil, List.set_cons_succ, List.set_cons_zero, hm, lcEnd_f, e2_ap, eLst_ap, he _ (fun c hc => ho c (List.mem_filter.mp hc).1), Nat.zero_le]
      rw [filter_all]
      simp [nameB, h1, h8]
    · have h8' : ¬ (s.length : Int) ≤ 8 := by omega
      simp [tyName, isT, hs, h8', nameB, h8]
  · have h1' : ¬ (1 : Int) ≤ s.length := by omega
    simp [tyName, isT, hs, h1', nameB, h1]

def digs (l : List Nat) : Bool := l.all fun c => decide (48 ≤ c ∧ c ≤ 57)
theorem digs_all {l : List Nat} (h : digs l = true) : NumText.AllDigits l := fun c hc => of_decide_eq_true (List.all_eq_true.mp h c hc)
theorem foldl_lt : ∀ (l : List Nat) (a : Nat), NumText.AllDigits l → l.foldl (fun acc c => acc * 10 + (c - 48)) a < (a + 1) * 10 ^ l.length
  | [], a, _ => by simp
  | c :: l, a, h => by
    have hc := h.head
    have ih := foldl_lt l (a * 10 + (c - 48)) h.tail
    refine Nat.lt_of_lt_of_le ih ?_
    have : (a * 10 + (c - 48) + 1) ≤ (a + 1) * 10 := by omega
    rw [List.length_cons, Nat.pow_succ, Nat.mul_comm (10 ^ l.length) 10, ← Nat.mul_assoc]
    exact Nat.mul_le_mul_right _ this
theorem val_lt {l : List Nat} (h : NumText.AllDigits l) (hl : l.length ≤ 13) : NumText.digitsVal l < 10 ^ 13 := by
  have := foldl_lt l 0 h
  have h2 : 10 ^ l.length ≤ 10 ^ 13 := Nat.pow_le_pow_right (by decide) hl
  unfold NumText.digitsVal
  omega
def numB (s : Str) : Bool := decide (1 ≤ s.length) && decide (s.length ≤ 13) && digs s.cps.toList && !(decide (s.cps.toList[0]? = some 48) && !decide (s = "0")) && decide (NumText.digitsVal s.cps.toList ≤ 1000000000000)
def numR (s : Str) : D := if numB s = true then .int (NumText.digitsVal s.cps.toList : Nat) else .non
theorem v_number_of (s : Str) (hl : s.length ≤ 1000) (S : Store) : m_number_of [.str s] S = .ok (numR s) S := by
  have hs : s.length ≤ sizeLine := Nat.le_trans hl (by decide)
  rw [m_number_of, runD_ap, z_number_of]
  by_cases h1 : 1 ≤ s.length
  · by_cases h8 : s.length ≤ 13
    · have h1' : (1 : Int) ≤ s.length := by omega
      have h8' : (s.length : Int) ≤ 13 := by omega
      have hm : compD (gName 1) tYesD (e2 dIn (eVar 1) (eC (.str "0123456789"))) none [some (.str s), none] (s.cps.toList.map fun c => .str ⟨#[c]⟩) S = .ok (s.cps.toList.map fun c => .bl (decide (48 ≤ c ∧ c ≤ 57))) S := by
        refine (comp_map (fun d => match d with | .str z => .bl (decide (48 ≤ z.cps.getD 0 0 ∧ z.cps.getD 0 0 ≤ 57)) | d => d) ?_).trans ?_
        · intro d hd
          obtain ⟨c, _, rfl⟩ := List.mem_map.mp hd
          refine ⟨_, rfl, rfl, ?_⟩
          simp only [setAll_cons, setAll_nil, List.set_cons_succ, List.set_cons_zero, e2_ap, eVar_s, eVar_0, bind_ok, eC_ap]
          unfold dIn
          rw [show D.str ⟨#[c]⟩ = chr c from rfl, digit_in]
          rfl
        · rw [List.map_map]; rfl
      have hz : s.cps.size ≤ sizeLine := hs
      obtain ⟨c, l, hcl⟩ : ∃ c l, s.cps.toList = c :: l := by
        cases hh : s.cps.toList with
        | nil => have : s.cps.toList.length = s.length := rfl; rw [hh] at this; simp at this; omega
        | cons c l => exact ⟨c, l, rfl⟩
      have hx : atD s.cps.toList 0 = some c := by rw [show (0 : Int) = ((0 : Nat) : Int) from rfl]; exact atD_nat (by rw [hcl]; rfl)
      have h0 : (Str.ofString "0") = ⟨#[48]⟩ := by decide +kernel
      by_cases hd : digs s.cps.toList = true
      · have hi := intText_digits (x := s) (digs_all hd) (by rw [hcl]; exact fun h => nomatch h) (by omega)
        have hbi : bInt [.str s] S = .ok (.int (NumText.digitsVal s.cps.toList : Nat)) S := by
          unfold bInt
          simp only [hi]
          rw [if_pos (by omega)]
        have ha : (List.map (fun c => decide (48 ≤ c ∧ c ≤ 57)) s.cps.toList).all (fun b => b) = true := by
          rw [List.all_map]; exact hd
        have g0 : s.cps.toList[0]? = some c := by rw [hcl]; rfl
        simp only [sSeq_ap, sIf_ap, tOr_ap, tAnd_ap, tNot_ap, tV_ap, eIsi_ap, eVar_0, tyName, isT, List.map, bind_ok, toB_bl, beq_self_eq_true, Bool.true_or, Bool.not_true, if_false, Bool.false_eq_true, e3_ap, eC_ap, eB_ap, aCons_ap, aNil_ap, bLen_str, hs, if_true, dLe_int, h1', h8', decide_true, toS_ok, sNext_ap, then_nx,
          List.length_cons, List.length_nil, List.replicate, List.append_eq, List.cons_append, List.nil_append, sRet_ap, eLc_ap, iStr_ap, List.length_map, Array.length_toList, hz, wipeD_cons, wipeD_nil, List.set_cons_succ, List.set_cons_zero, hm, lcEnd_f, bAll_lst, blsOf_map, ha, e2_ap, dIx_str, hx, dEq_str, dNe_str, hbi, dGt_int]
        unfold numR numB
        by_cases e1 : c = 48
        · by_cases e2 : s = "0"
          · have e2p : (s = (⟨#[48]⟩ : Str)) = True := eq_true (e2.trans h0)
            by_cases e3 : NumText.digitsVal s.cps.toList ≤ 1000000000000
            · have e3' : ¬ (1000000000000 : Int) < (NumText.digitsVal s.cps.toList : Nat) := by omega
              simp [h0, e1, h1, h8, hd, g0, e3, e3', e2p, hbi]
            · have e3' : (1000000000000 : Int) < (NumText.digitsVal s.cps.toList : Nat) := by omega
              simp [h0, e1, h1, h8, hd, g0, e3, e3', e2p, hbi]
          · have e2' : ¬ s = ⟨#[48]⟩ := by rw [← h0]; exact e2
            simp [h0, e1, h1, h8, hd, g0, e2']
        · have e2 : ¬ (⟨#[c]⟩ : Str) = ⟨#[48]⟩ := fun z => e1 (by cases z; rfl)
          by_cases e3 : NumText.digitsVal s.cps.toList ≤ 1000000000000
          · have e3' : ¬ (1000000000000 : Int) < (NumText.digitsVal s.cps.toList : Nat) := by omega
            simp [h0, e1, h1, h8, hd, g0, e3, e3', hbi]
          · have e3' : (1000000000000 : Int) < (NumText.digitsVal s.cps.toList : Nat) := by omega
            simp [h0, e1, h1, h8, hd, g0, e3, e3', hbi]
      · have ha : (List.map (fun c => decide (48 ≤ c ∧ c ≤ 57)) s.cps.toList).all (fun b => b) = false := by
          rw [List.all_map]; exact Bool.eq_false_iff.mpr hd
        simp only [sSeq_ap, sIf_ap, tOr_ap, tAnd_ap, tNot_ap, tV_ap, eIsi_ap, eVar_0, tyName, isT, List.map, bind_ok, toB_bl, beq_self_eq_true, Bool.true_or, Bool.not_true, if_false, Bool.false_eq_true, e3_ap, eC_ap, eB_ap, aCons_ap, aNil_ap, bLen_str, hs, if_true, dLe_int, h1', h8', decide_true, toS_ok, sNext_ap, then_nx,
          List.length_cons, List.length_nil, List.replicate, List.append_eq, List.cons_append, List.nil_append, sRet_ap, eLc_ap, iStr_ap, List.length_map, Array.length_toList, hz, wipeD_cons, wipeD_nil, List.set_cons_succ, List.set_cons_zero, hm, lcEnd_f, bAll_lst, blsOf_map, ha]
        simp [numR, numB, hd]
    · have h8' : ¬ (s.length : Int) ≤ 13 := by omega
      simp [tyName, isT, hs, h8', numR, numB, h8]
  · have h1' : ¬ (1 : Int) ≤ s.length := by omega
    simp [tyName, isT, hs, h1', numR, numB, h1]
theorem at_index : ∀ c, 48 ≤ c → c ≤ 57 → ∀ S, mSIndex (.str "0123456789") [.str ⟨#[c]⟩] S = .ok (.int ((c - 48 : Nat) : Int)) S := by
  intro c h1 h2 S
  have main : ∀ j : Nat, Builtin.Str.occurrences (Str.ofString "0123456789") ⟨#[c]⟩ 0 (Str.ofString "0123456789").length 1 = [j] → j = c - 48 → mSIndex (.str "0123456789") [.str ⟨#[c]⟩] S = .ok (.int ((c - 48 : Nat) : Int)) S := by
    rintro j h rfl
    unfold mSIndex
    simp only [h]
  have : c = 48 ∨ c = 49 ∨ c = 50 ∨ c = 51 ∨ c = 52 ∨ c = 53 ∨ c = 54 ∨ c = 55 ∨ c = 56 ∨ c = 57 := by omega
  rcases this with h | h | h | h | h | h | h | h | h | h <;> (subst h; exact main _ (by decide +kernel) rfl)
theorem loop_num (s : D) (S : Store) : ∀ (l : List Nat) (a : Nat) (o : Option D),
    (digs l = true → ∃ o', forD none (gName 2) (sSeq (sIf (tV (e2 dNotIn (eVar 2) (eC (.str "0123456789")))) (sRet (eC .non)) sNext)
    (sSet 1 (e2 dAdd (e2 dMul (eC (.int 10)) (eVar 1)) (eM "str" mSIndex (eC (.str "0123456789")) (aCons (eVar 2) aNil))))) (l.map fun c => .str ⟨#[c]⟩) [some s, some (.int (a : Nat)), o] S = .nx [some s, some (.int (l.foldl (fun acc c => acc * 10 + (c - 48)) a : Nat)), o'] S) ∧
    (digs l = false → forD none (gName 2) (sSeq (sIf (tV (e2 dNotIn (eVar 2) (eC (.str "0123456789")))) (sRet (eC .non)) sNext)
    (sSet 1 (e2 dAdd (e2 dMul (eC (.int 10)) (eVar 1)) (eM "str" mSIndex (eC (.str "0123456789")) (aCons (eVar 2) aNil))))) (l.map fun c => .str ⟨#[c]⟩) [some s, some (.int (a : Nat)), o] S = .rt .non S)
  | [], a, o => ⟨fun _ => ⟨o, by simp [forD]⟩, fun h => nomatch h⟩
  | c :: l, a, o => by
    have hn : dNotIn (.str ⟨#[c]⟩) (.str "0123456789") S = .ok (.bl (!decide (48 ≤ c ∧ c ≤ 57))) S := by
      unfold dNotIn
      rw [show (D.str ⟨#[c]⟩) = chr c from rfl, digit_in]
    by_cases hc : 48 ≤ c ∧ c ≤ 57
    · have hm : ∀ x, dMul (.int 10) (.int x) S = .ok (.int (10 * x)) S := fun x => dMul_int (imL (by decide) (by decide))
      have ih := loop_num s S l (a * 10 + (c - 48)) (some (.str ⟨#[c]⟩))
      have hd : digs (c :: l) = digs l := by simp [digs, hc]
      have ev : (10 * (a : Int) + ((c - 48 : Nat) : Int)) = ((a * 10 + (c - 48) : Nat) : Int) := by omega
      have st : (forD none (gName 2) (sSeq (sIf (tV (e2 dNotIn (eVar 2) (eC (.str "0123456789")))) (sRet (eC .non)) sNext)
    (sSet 1 (e2 dAdd (e2 dMul (eC (.int 10)) (eVar 1)) (eM "str" mSIndex (eC (.str "0123456789")) (aCons (eVar 2) aNil))))) ((c :: l).map fun c => .str ⟨#[c]⟩) [some s, some (.int (a : Nat)), o] S) =
         forD none (gName 2) (sSeq (sIf (tV (e2 dNotIn (eVar 2) (eC (.str "0123456789")))) (sRet (eC .non)) sNext)
    (sSet 1 (e2 dAdd (e2 dMul (eC (.int 10)) (eVar 1)) (eM "str" mSIndex (eC (.str "0123456789")) (aCons (eVar 2) aNil))))) (l.map fun c => .str ⟨#[c]⟩) [some s, some (.int (a * 10 + (c - 48) : Nat)), some (.str ⟨#[c]⟩)] S := by
        rw [List.map_cons, forD]
        simp [hn, hc.1, hc.2, hm, at_index c hc.1 hc.2, isTy]
        rw [Int.mul_comm]
      rw [st, hd]
      exact ih
    · have hd : digs (c :: l) = false := by simp only [digs, List.all_cons, decide_eq_false hc, Bool.false_and]
      refine ⟨(fun h => by rw [hd] at h; cases h), fun _ => ?_⟩
      rw [List.map_cons, forD]
      simp [hn, hc]
end Q
namespace Q
open PySem L2 Mi
theorem map_back (l : List Nat) (h : NumText.AllDigits l) : (l.map Char.ofNat).map Char.toNat = l := by
  induction l with
  | nil => rfl
  | cons c l ih =>
    have hc := h.head
    rw [List.map_cons, List.map_cons, ih h.tail]
    congr 1
    have : c = 48 ∨ c = 49 ∨ c = 50 ∨ c = 51 ∨ c = 52 ∨ c = 53 ∨ c = 54 ∨ c = 55 ∨ c = 56 ∨ c = 57 := by omega
    rcases this with h | h | h | h | h | h | h | h | h | h <;> (subst h; rfl)
theorem str_eq {a b : Str} (h : a.cps.toList = b.cps.toList) : a = b := by
  cases a; cases b
  congr 1
  exact Array.toList_inj.mp h
theorem dw_len (l : List Nat) : (l.dropWhile (· == 48)).length ≤ l.length := (List.dropWhile_suffix _).sublist.length_le
theorem back {s : Str} {c : Nat} {l : List Nat} (hcl : s.cps.toList = c :: l) (hd : digs s.cps.toList = true) : decide ((Str.ofString (toString ((NumText.digitsVal s.cps.toList : Nat) : Int))) = s) = !(decide (c = 48) && !decide (s = "0")) := by
  have ha := digs_all hd
  have e := PyProof.Rows.text_ofNat (NumText.digitsVal s.cps.toList)
  rw [show (Int.ofNat (NumText.digitsVal s.cps.toList)) = ((NumText.digitsVal s.cps.toList : Nat) : Int) from rfl, NumText.toDigits_all _ ha] at e
  have h0 : (Str.ofString "0") = ⟨#[48]⟩ := by decide +kernel
  rw [e]
  by_cases hc : c = 48
  · subst hc
    cases l with
    | nil =>
      have hs : s = ⟨#[48]⟩ := str_eq (by rw [hcl])
      rw [hcl, hs, h0]
      rfl
    | cons d l =>
      have hs : ¬ s = ⟨#[48]⟩ := fun z => by rw [z] at hcl; cases hcl
      have hn : ¬ (⟨(List.map Char.toNat (match List.dropWhile (· == 48) s.cps.toList with | [] => ['0'] | c :: r => (c :: r).map Char.ofNat)).toArray⟩ : Str) = s := fun z => by
        have z2 := congrArg (fun t : Str => t.cps.toList.length) z
        simp only [List.length_map] at z2
        rw [hcl] at z2
        simp only [List.dropWhile_cons, beq_self_eq_true, if_true] at z2
        have dl := dw_len l
        split at z2
        · simp at z2
        · rename_i c' r hr
          split at hr
          · rw [hr] at dl
            simp at z2 dl
            omega
          · cases hr
            simp at z2
      exact (decide_eq_false hn).trans (by simp [h0, hs])
  · have hdw : List.dropWhile (· == 48) s.cps.toList = s.cps.toList := by
      rw [hcl, List.dropWhile_cons, if_neg (by rw [beq_iff_eq]; exact hc)]
    have hs : (⟨(List.map Char.toNat (match List.dropWhile (· == 48) s.cps.toList with | [] => ['0'] | c :: r => (c :: r).map Char.ofNat)).toArray⟩ : Str) = s := by
      apply str_eq
      simp only [hdw]
      rw [hcl]
      simp only
      rw [map_back _ (by rw [← hcl]; exact ha)]
    exact (decide_eq_true hs).trans (by simp [hc])
theorem v_lnumber_of (s : Str) (hl : s.length ≤ 1000) (S : Store) : m__law_number_of [.str s] S = .ok (numR s) S := by
  have hs : s.length ≤ sizeLine := Nat.le_trans hl (by decide)
  have d12 : dPow (.int 10) (.int 12) S = .ok (.int 1000000000000) S := by rw [dPow_int (by decide)]; rfl
  rw [m__law_number_of, runD_ap, z__law_number_of]
  have he : Str.ofString "" = ⟨#[]⟩ := by decide +kernel
  by_cases h1 : 1 ≤ s.length
  · have hne : ¬ s = ⟨#[]⟩ := fun z => by rw [z] at h1; exact absurd h1 (by decide)
    by_cases h8 : s.length ≤ 13
    · have h8' : ¬ (13 : Int) < s.length := by omega
      obtain ⟨c, l, hcl⟩ : ∃ c l, s.cps.toList = c :: l := by
        cases hh : s.cps.toList with
        | nil => have : s.cps.toList.length = s.length := rfl; rw [hh] at this; simp at this; omega
        | cons c l => exact ⟨c, l, rfl⟩
      have g0 : s.cps.toList[0]? = some c := by rw [hcl]; rfl
      have lp := loop_num (.str s) S s.cps.toList 0 none
      by_cases hd : digs s.cps.toList = true
      · obtain ⟨o', lp⟩ := lp.1 hd
        have vl := val_lt (digs_all hd) h8
        have lg : (NumText.digitsVal s.cps.toList).log2 < 1920 := Nat.lt_of_lt_of_le (m := 44) (PySem.Flt.log2_lt_of (by decide) (Nat.lt_of_lt_of_le vl (by decide))) (by decide)
        have bk := back hcl hd
        have lp' : forD none (gName 2) (sSeq (sIf (tV (e2 dNotIn (eVar 2) (eC (.str "0123456789")))) (sRet (eC .non)) sNext)
            (sSet 1 (e2 dAdd (e2 dMul (eC (.int 10)) (eVar 1)) (eM "str" mSIndex (eC (.str "0123456789")) (aCons (eVar 2) aNil))))) (s.cps.toList.map fun c => .str ⟨#[c]⟩) [some (.str s), some (.int 0), none] S = .nx [some (.str s), some (.int (NumText.digitsVal s.cps.toList : Nat)), o'] S := lp
        simp only [sSeq_ap, sIf_ap, tOr_ap, tAnd_ap, tNot_ap, tV_ap, eIsi_ap, eVar_0, tyName, isT, List.map, bind_ok, toB_bl, beq_self_eq_true, Bool.true_or, Bool.not_true, if_false, Bool.false_eq_true, e2_ap, eC_ap, eB_ap, aCons_ap, aNil_ap, bLen_str, hs, if_true, dGt_int, dEq_str, he, hne, h8', decide_false, toS_ok, sNext_ap, then_nx,
          List.length_cons, List.length_nil, List.replicate, List.append_eq, List.cons_append, List.nil_append, sSet_ap, List.set_cons_succ, List.set_cons_zero, sFor_ap, iStr_ap, lp', sRet_ap, eIf_ap, eVar_s, bStr, Int.natAbs_natCast, lg, bk, d12, dLe_int]
        unfold numR numB
        have e3 : decide (((NumText.digitsVal s.cps.toList : Nat) : Int) ≤ 1000000000000) = decide (NumText.digitsVal s.cps.toList ≤ 1000000000000) := by rw [decide_eq_decide]; omega
        rw [e3, hd, g0]
        cases q1 : decide (c = 48) <;> cases q2 : decide (s = "0") <;> cases q3 : decide (NumText.digitsVal s.cps.toList ≤ 1000000000000) <;> simp_all
      · have lp' := lp.2 (Bool.eq_false_iff.mpr hd)
        have lp'' : forD none (gName 2) (sSeq (sIf (tV (e2 dNotIn (eVar 2) (eC (.str "0123456789")))) (sRet (eC .non)) sNext)
            (sSet 1 (e2 dAdd (e2 dMul (eC (.int 10)) (eVar 1)) (eM "str" mSIndex (eC (.str "0123456789")) (aCons (eVar 2) aNil))))) (s.cps.toList.map fun c => .str ⟨#[c]⟩) [some (.str s), some (.int 0), none] S = .rt .non S := lp'
        simp [tyName, isT, hs, he, hne, h8', lp'', numR, numB, hd]
    · have h8' : (13 : Int) < s.length := by omega
      simp [tyName, isT, hs, he, hne, h8', numR, numB, h8]
  · have hne : s = ⟨#[]⟩ := by
      apply str_eq
      have : s.cps.toList.length = s.length := rfl
      exact List.eq_nil_of_length_eq_zero (by omega)
    have hq : (s = ⟨#[]⟩) = True := eq_true hne
    simp [tyName, isT, he, hq, numR, numB, h1]
end Q
namespace Q
open PySem L2 Mi
theorem item_tx {z : Str} {n : Nat} {x : Int} (h : TX n z) (h0 : 0 ≤ x) (h1 : x < z.length) (hn : z.length ≤ sizeLine) (S : Store) : ∃ c, c < 1114112 ∧ dIx (.str z) (.int x) S = .ok (.str ⟨#[c]⟩) S := by
  obtain ⟨c, hc, he⟩ := atD_int (l := z.cps.toList) (x := x) h0 h1
  refine ⟨c, h.cps c (List.mem_of_getElem? hc), ?_⟩
  rw [dIx_str, he]
  exact if_pos hn
theorem pick {xs : List D} {x : Int} (P : D → Prop) (h0 : 0 ≤ x) (h1 : x < xs.length) (h : ∀ d ∈ xs, P d) (S : Store) : ∃ d, P d ∧ dIx (.lst xs) (.int x) S = .ok d S := by
  obtain ⟨c, hc, he⟩ := atD_int (l := xs) (x := x) h0 h1
  refine ⟨c, h c (List.mem_of_getElem? hc), ?_⟩
  rw [dIx_lst, he]
theorem add_tx {n m : Nat} {s t : Str} (h : TX n s) (h' : TX m t) (hl : n + m ≤ sizeLine) (S : Store) : dAdd (.str s) (.str t) S = .ok (.str (s ++ t)) S := by
  rw [dAdd_str, if_pos]
  exact Nat.le_trans (Nat.add_le_add h.len h'.len) hl
theorem sl_tx {n : Nat} {s : Str} (h : TX n s) (hl : n ≤ sizeLine) (lo hi : Option Int) (S : Store) : dSl (.str s) lo hi S = .ok (.str (cutS s lo hi)) S := if_pos (Nat.le_trans h.len hl)
def AllChr (ys : List D) : Prop := ∀ y ∈ ys, ∃ c, y = .str ⟨#[c]⟩ ∧ c < 1114112
theorem join_chr : ∀ {ys : List D}, (AllChr ys) → ∃ l : List Str, strsOf ys = some l ∧ l.length = ys.length ∧ (∀ s ∈ l, TX 1 s) ∧ (l.map (·.length)).sum = l.length
  | [], _ => ⟨[], rfl, rfl, (fun _ h => nomatch h), rfl⟩
  | y :: ys, h => by
    obtain ⟨c, rfl, hc⟩ := h y (List.mem_cons_self ..)
    obtain ⟨l, e1, e2, e3, e4⟩ := join_chr (ys := ys) fun z hz => h z (List.mem_cons_of_mem _ hz)
    refine ⟨⟨#[c]⟩ :: l, by simp [strsOf, e1], by simp [e2], fun s hs => ?_, ?_⟩
    · rcases List.mem_cons.mp hs with rfl | hs
      · exact TX.one hc
      · exact e3 s hs
    · simp only [List.map_cons, List.sum_cons, e4, List.length_cons]
      rw [Nat.add_comm]; rfl
theorem mjoin_tx {ys : List D} (h : AllChr ys) (hl : ys.length ≤ 100) (S : Store) : ∃ s, TX ys.length s ∧ mJoin (.str "") [.lst ys] S = .ok (.str s) S := by
  obtain ⟨l, e1, e2, e3, e4⟩ := join_chr h
  have he : Str.ofString "" = Str.empty := by decide +kernel
  refine ⟨Txt.join "" l, ?_, ?_⟩
  · rw [TL.join_eq, he]
    have := TX.join e3
    rwa [Nat.mul_one, e2] at this
  · unfold mJoin
    simp only [anyOf, seqOf, lstOf, e1]
    rw [if_pos]
    rw [e4, he, show Str.empty.length = 0 from rfl]; omega
theorem v_text (c k : Int) (h0 : 0 ≤ c) (k0 : 0 ≤ k) (k1 : k < 2 ^ 30) (S : Store) : ∃ s, TX 40 s ∧ m__law_text [.int c, .int k] S = .ok (.str s) S := by
  have dv : ∀ (x y : Int), y = 8 ∨ y = 100 ∨ y = 2000 ∨ y = 5 → dDiv (.int x) (.int y) S = .ok (.int (x / y)) S := fun x y h => by
    rcases h with rfl | rfl | rfl | rfl <;> exact dDiv_int (by decide) (by decide +kernel)
  have md : ∀ (x y : Int), 0 < y → dMod (.int x) (.int y) S = .ok (.int (x % y)) S := fun x y h => dMod_int h
  have lt : TX 26 (Str.ofString "abcdefghijklmnopqrstuvwxyz") := TX.of (by decide +kernel)
  have ls : TX 18 (Str.ofString "AZ09 -_.'#[^~@{`Q/") := TX.of (by decide +kernel)
  have n0 : 0 ≤ c / 8 % 11 := Int.emod_nonneg _ (by decide)
  have n1 : c / 8 % 11 < 11 := Int.emod_lt_of_pos _ (by decide)
  obtain ⟨ys, e1, e2, e3⟩ := comp_ex (fun y => ∃ c, y = .str ⟨#[c]⟩ ∧ c < 1114112) (g := gName 7) (t := tYesD) (f := e2 dIx (eVar 2) (e2 dMod (e2 dDiv (eCall 2 (pureD m__law_mixed) [] (aCons (eVar 0) (aCons (e2 dAdd (eVar 1) (eVar 7)) aNil))) (eC (.int 5))) (eC (.int 26))))
    (δ := [some (.int c), some (.int k), some (.str "abcdefghijklmnopqrstuvwxyz"), some (.int (c / 8 % 11)), none, none, none, none]) (S := S) (items := rngD 0 (c / 8 % 11).toNat) (by
      intro d hd
      obtain ⟨i, hi, rfl⟩ := mem_rng hd
      have hi' : (i : Int) < 11 := by omega
      have q0 : 0 ≤ mixed c (k + (0 + i)) / 5 % 26 := Int.emod_nonneg _ (by decide)
      have q1 : mixed c (k + (0 + i)) / 5 % 26 < 26 := Int.emod_lt_of_pos _ (by decide)
      obtain ⟨ch, hc, hx⟩ := item_tx lt q0 (by rw [show (Str.ofString "abcdefghijklmnopqrstuvwxyz").length = 26 by decide +kernel]; exact q1) (by decide +kernel) S
      refine ⟨_, rfl, rfl, _, ?_, ch, rfl, hc⟩
      simp only [setAll_cons, setAll_nil, List.set_cons_succ, List.set_cons_zero, e2_ap, eVar_s, eVar_0, bind_ok, eC_ap, eCall_ap, aCons_ap, aNil_ap, dAdd_int]
      rw [call_pure (n := 2) rfl rfl ⟨_, v_mixed c (k + (0 + i)) (by omega) (by omega) []⟩ rfl, bind_ok, dv _ _ (by simp), bind_ok, md _ _ (by decide), bind_ok, hx])
  rw [show (rngD 0 (c / 8 % 11).toNat).length = (c / 8 % 11).toNat by simp [rngD]] at e2
  obtain ⟨t, t1, t2⟩ := mjoin_tx e3 (by omega) S
  have t1 : TX 10 t := t1.le (by omega)
  have a0 : 0 ≤ c / 2000 % 18 := Int.emod_nonneg _ (by decide)
  have a1 : c / 2000 % 18 < 18 := Int.emod_lt_of_pos _ (by decide)
  obtain ⟨ch, hc, hx⟩ := item_tx ls a0 (by rw [show (Str.ofString "AZ09 -_.'#[^~@{`Q/").length = 18 by decide +kernel]; exact a1) (by decide +kernel) S
  have tc := TX.one hc
  have tl := fun hi => t1.cut none (some hi)
  have tr := fun lo => t1.cut (some lo) none
  have rl : (rngD 0 (c / 8 % 11).toNat).length ≤ sizeLine := by simp only [rngD, List.length_map, List.length_range]; exact Nat.le_trans (m := 11) (by omega) (by decide)
  have hr : -(2 ^ 62) ≤ c / 8 % 11 ∧ c / 8 % 11 < 2 ^ 62 := ⟨by omega, by omega⟩
  have hp : 0 < c / 8 % 11 + 1 := by omega
  have fin : ∃ s, TX 40 s ∧ endD (z__law_text [some (.int c), some (.int k), none, none, none, none, none, none] S) = .ok (.str s) S := by
    rw [z__law_text]
    simp only [sSeq_ap, sSet_ap, eC_ap, toS_ok, then_nx, List.set_cons_succ, List.set_cons_zero, e2_ap, eVar_0, eVar_s, bind_ok, dv _ 8 (by simp), md _ 11 (by decide), eM_ap, isTy, beq_self_eq_true, if_true, aCons_ap, aNil_ap, eLc_ap, iRange1_ap, if_pos hr, if_pos rl, wipeD_cons, wipeD_nil, e1, lcEnd_f, List.nil_append, t2, dv _ 100 (by simp), dAdd_int, md _ _ hp, dv _ 2000 (by simp), md _ 18 (by decide), hx, sIf_ap, tV_ap, md _ 4 (by decide), dEq_int, toB_bl]
    by_cases h1 : c % 4 = 1
    · refine ⟨cutS t none (some (c / 100 % (c / 8 % 11 + 1))) ++ ⟨#[ch]⟩ ++ cutS t (some (c / 100 % (c / 8 % 11 + 1))) none, (((tl _).app tc).app (tr _)).le (by decide), ?_⟩
      · simp only [h1, decide_true, if_true, sRet_ap, e2_ap, eSl_ap, eVar_0, eVar_s, bind_ok, oNone_ap, oSome_ap, sl_tx t1 (by decide), add_tx (tl _) tc (by decide), add_tx ((tl _).app tc) (tr _) (by decide), toS_ok, then_rt, endD_rt]
    · by_cases h2 : c % 4 = 2
      · refine ⟨cutS t none (some (c / 100 % (c / 8 % 11 + 1))) ++ ⟨#[ch]⟩ ++ cutS t (some (c / 100 % (c / 8 % 11 + 1) + 1)) none, (((tl _).app tc).app (tr _)).le (by decide), ?_⟩
        · simp only [h2, show ¬ (2 : Int) = 1 by decide, decide_false, Bool.false_eq_true, if_false, sNext_ap, decide_true, if_true, sRet_ap, eIf_ap, tV_ap, eC_ap, md _ 4 (by decide), dEq_int, toB_bl, e2_ap, eSl_ap, eVar_0, eVar_s, bind_ok, oNone_ap, oSome_ap, sl_tx t1 (by decide), dAdd_int, add_tx (tl _) tc (by decide), add_tx ((tl _).app tc) (tr _) (by decide), toS_ok, then_rt, then_nx, endD_rt]
      · refine ⟨t, t1.le (by decide), ?_⟩
        simp only [h1, h2, decide_false, Bool.false_eq_true, if_false, sNext_ap, sRet_ap, eIf_ap, tV_ap, eC_ap, md _ 4 (by decide), dEq_int, toB_bl, e2_ap, eVar_0, eVar_s, bind_ok, toS_ok, then_rt, then_nx, endD_rt]
  obtain ⟨s, h1, h2⟩ := fin
  refine ⟨s, h1, ?_⟩
  rw [m__law_text, runD_ap]
  exact h2
theorem v_figures (c m : Int) (h0 : 0 ≤ c) (m0 : 0 ≤ m) (m1 : m < 2 ^ 30) (S : Store) : ∃ s, TX 700 s ∧ m__law_figures [.int c, .int m] S = .ok (.str s) S := by
  have dv : ∀ (x y : Int), y = 8 ∨ y = 40 ∨ y = 240 → dDiv (.int x) (.int y) S = .ok (.int (x / y)) S := fun x y h => by
    rcases h with rfl | rfl | rfl <;> exact dDiv_int (by decide) (by decide +kernel)
  have md : ∀ (x y : Int), 0 < y → dMod (.int x) (.int y) S = .ok (.int (x % y)) S := fun x y h => dMod_int h
  have d12 : dPow (.int 10) (.int 12) S = .ok (.int 1000000000000) S := by rw [dPow_int (by decide)]; rfl
  have mu : dMul (.int m) (.int 48271) S = .ok (.int (m * 48271)) S := dMul_int (imR (by decide) (by decide))
  obtain ⟨d, ⟨n, rfl, hn⟩, hx⟩ := pick (xs := [.int (c / 8 % 100), .int m, .int (1000000000000 - c / 8 % 3), .int (1000000000000 + c / 8 % 3), .int (m * 48271)]) (x := c % 5) (fun d => ∃ n : Nat, d = .int (n : Int) ∧ n < 2 ^ 63)
    (Int.emod_nonneg _ (by decide)) (Int.emod_lt_of_pos _ (by decide)) (by
      have w : ∀ x : Int, 0 ≤ x → x < 2 ^ 63 → ∃ n : Nat, D.int x = .int (n : Int) ∧ n < 2 ^ 63 := fun x h1 h2 => ⟨x.toNat, by rw [Int.toNat_of_nonneg h1], by omega⟩
      intro d hd
      simp only [List.mem_cons, List.not_mem_nil, or_false] at hd
      rcases hd with rfl | rfl | rfl | rfl | rfl <;> exact w _ (by omega) (by omega)) S
  have lg : n.log2 < 1920 := Nat.lt_of_lt_of_le (m := 63) (PySem.Flt.log2_lt_of (by decide) hn) (by decide)
  have ts := tx_str (n := n) (Nat.lt_of_lt_of_le hn (by decide +kernel))
  have pk : ∀ (l : List Str) (x : Int), 0 ≤ x → x < l.length → l.all (txB 4) = true → ∃ s, TX 4 s ∧ dIx (.lst (l.map .str)) (.int x) S = .ok (.str s) S := fun l x h0 h1 h2 => by
    obtain ⟨d, ⟨s, rfl, hs⟩, hx⟩ := pick (xs := l.map .str) (x := x) (fun d => ∃ s, d = .str s ∧ TX 4 s) h0 (by simpa using h1) (by
      intro d hd
      obtain ⟨s, hs, rfl⟩ := List.mem_map.mp hd
      exact ⟨s, rfl, TX.of (List.all_eq_true.mp h2 s hs)⟩) S
    exact ⟨s, hs, hx⟩
  obtain ⟨s1, k1, p1⟩ := pk ["", "", "0", "+", "-", " "] (c / 40 % 6) (Int.emod_nonneg _ (by decide)) (Int.emod_lt_of_pos _ (by decide)) (by decide +kernel)
  obtain ⟨s2, k2, p2⟩ := pk ["", "", "", "0", " ", ".0", "_1", "a"] (c / 240 % 8) (Int.emod_nonneg _ (by decide)) (Int.emod_lt_of_pos _ (by decide)) (by decide +kernel)
  simp only [List.map_cons, List.map_nil] at p1 p2
  refine ⟨s1 ++ Str.ofString (toString (n : Int)) ++ s2, ((k1.app ts).app k2).le (by decide), ?_⟩
  have z5 : 5 ≤ sizeLine := by decide
  have z6 : 6 ≤ sizeLine := by decide
  have z8 : 8 ≤ sizeLine := by decide
  rw [m__law_figures, runD_ap, z__law_figures]
  simp only [List.map_cons, List.map_nil, List.length_cons, List.length_nil, List.replicate, List.cons_append, List.nil_append, sSeq_ap, sSet_ap, eC_ap, toS_ok, then_nx, List.set_cons_succ, List.set_cons_zero, e2_ap, eVar_0, eVar_s, bind_ok, dv _ 8 (by simp), md _ 100 (by decide), eLst_ap, aCons_ap, aNil_ap, d12, md _ 3 (by decide), dSub_int, dAdd_int, mu, Nat.zero_add, Nat.reduceAdd, if_pos z5, if_pos z6, if_pos z8, md _ 5 (by decide), hx, eB_ap, bStr, Int.natAbs_natCast, lg, if_true,
    dv _ 40 (by simp), md _ 6 (by decide), p1, dv _ 240 (by simp), md _ 8 (by decide), p2, sRet_ap, add_tx k1 ts (by decide), add_tx (k1.app ts) k2 (by decide), endD_rt]
end Q
namespace Q
open PySem L2 Mi
def someD : List D := [.non, .bl true, .bl false, .lst [], .tup [], .dic [], .lst [.str "a"], .tup [.str "a"], .dic [(.inl 1, .int 2)], .int 0, .int 5, .int (-1), .lst [.int 5], .tup [.str "5"]]
def shownOf (d : D) : Str := match d with | .non => "None" | .bl b => if b then "True" else "False" | .int i => toString i | _ => ""
def Plain (x : D) : Prop := x = .non ∨ (∃ b, x = .bl b) ∨ ∃ i : Int, x = .int i ∧ i.natAbs.log2 < 1920
theorem plain_nr {x : D} (h : Plain x) : noref x = true := by
  rcases h with rfl | ⟨b, rfl⟩ | ⟨i, rfl, _⟩ <;> rfl
theorem plain_repr {x : D} (h : Plain x) (S : Store) : bRepr 0 [x] S = .ok (.str (shownOf x)) S := by
  rcases h with rfl | ⟨b, rfl⟩ | ⟨i, rfl, h⟩
  · exact bRepr_non
  · exact bRepr_bl
  · exact bRepr_int h
/-- what is asked of a thing: both tell the same -/
structure Th (d : D) : Prop where
  nr : noref d = true
  name : ∃ b, m_is_name [d] [] = .ok (.bl b) [] ∧ m__law_is_name [d] [] = .ok (.bl b) []
  num : ∃ x, Plain x ∧ m_number_of [d] [] = .ok x [] ∧ m__law_number_of [d] [] = .ok x []
theorem numR_plain (s : Str) : Plain (numR s) := by
  unfold numR
  split
  · rename_i h
    unfold numB at h
    simp only [Bool.and_eq_true, decide_eq_true_eq] at h
    refine .inr (.inr ⟨_, rfl, ?_⟩)
    rw [Int.natAbs_natCast]
    exact Nat.lt_of_lt_of_le (m := 41) (PySem.Flt.log2_lt_of (by decide) (Nat.lt_of_le_of_lt h.2 (by decide))) (by decide)
  · exact .inl rfl
theorem th_str {s : Str} (h : TX 1000 s) : Th (.str s) :=
  ⟨rfl, ⟨_, v_is_name s h.len [], v_lis_name s h.len h.cps []⟩, ⟨_, numR_plain s, v_number_of s h.len [], v_lnumber_of s h.len []⟩⟩
theorem th_other {d : D} (hn : noref d = true) {t : String} (ht : tyName [] d = some t) (hs : isT t "str" = false) : Th d := by
  refine ⟨hn, ⟨false, ?_, ?_⟩, ⟨.non, .inl rfl, ?_, ?_⟩⟩
  · rw [m_is_name, runD_ap, z_is_name]; simp [ht, hs]
  · rw [m__law_is_name, runD_ap, z__law_is_name]; simp [ht, hs]
  · rw [m_number_of, runD_ap, z_number_of]; simp [ht, hs]
  · rw [m__law_number_of, runD_ap, z__law_number_of]; simp [ht, hs]
/-- of a number and its bounds -/
def amB (d : D) (lo hi : Int) : Bool := match d with | .int i => decide (lo ≤ i) && decide (i ≤ hi) | _ => false
theorem v_among_int (i lo hi : Int) (S : Store) : m_is_among [.int i, .int lo, .int hi] S = .ok (.bl (amB (.int i) lo hi)) S := by
  rw [m_is_among, runD_ap, z_is_among]
  by_cases h : lo ≤ i <;> simp [tyName, isT, amB, h]
def Odd (d : D) : Prop := (∃ i, d = .int i ∧ (i = 0 ∨ i = 5 ∨ i = -1)) ∨ (noref d = true ∧ (∃ b, d = .bl b) ∨ noref d = true ∧ ∃ t, (∀ S, tyName S d = some t) ∧ isT t "int" = false ∧ isT t "str" = false)
theorem odd_th {d : D} (h : Odd d) : Th d := by
  rcases h with ⟨i, rfl, _⟩ | ⟨hn, b, rfl⟩ | ⟨hn, t, ht, _, hs⟩
  · exact th_other rfl rfl rfl
  · exact th_other rfl rfl rfl
  · exact th_other hn (ht []) hs
theorem odd_all : ∀ d ∈ someD, Odd d := by
  intro d hd
  simp only [someD, List.mem_cons, List.not_mem_nil, or_false] at hd
  rcases hd with rfl | rfl | rfl | rfl | rfl | rfl | rfl | rfl | rfl | rfl | rfl | rfl | rfl | rfl <;>
    first
    | exact .inl ⟨_, rfl, by simp⟩
    | exact .inr (.inl ⟨rfl, _, rfl⟩)
    | exact .inr (.inr ⟨rfl, _, fun _ => rfl, rfl, rfl⟩)
theorem odd_nr {d : D} (h : Odd d) : noref d = true := by
  rcases h with ⟨i, rfl, _⟩ | ⟨hn, _⟩ | ⟨hn, _⟩
  · rfl
  · exact hn
  · exact hn
theorem v_among {d : D} (h : Odd d) (lo hi : Int) (S : Store) : m_is_among [d, .int lo, .int hi] S = .ok (.bl (amB d lo hi)) S := by
  rcases h with ⟨i, rfl, _⟩ | ⟨hn, b, rfl⟩ | ⟨hn, t, ht, hx, hs⟩
  · exact v_among_int i lo hi S
  · rw [m_is_among, runD_ap, z_is_among]; simp [tyName, isT, amB]
  · rw [m_is_among, runD_ap, z_is_among]
    have e : amB d lo hi = false := by
      cases d <;> first | rfl | (have := ht S; cases this; cases hx)
    simp [ht, hx, e]
def scrD (cs : List Int) : D := .scr (cs.map .int)
theorem nr_ints (l : List Int) : norefs (l.map .int) = true := by
  induction l with
  | nil => rfl
  | cons x l ih => simp [norefs, noref, ih]
theorem nr_scr (cs : List Int) (i : Int) : norefs [scrD cs, .int i] = true := by simp [norefs, noref, scrD, nr_ints]
theorem nx_of {I : Mi.Env → Store → Prop} {o : OS} {δ' : Mi.Env} {S' : Store} (hI : I δ' S') (h : o = .nx δ' S') : ∃ δ' S', (o = .nx δ' S' ∨ o = .ct δ' S') ∧ I δ' S' := ⟨δ', S', .inl h, hI⟩
/-- the checks of all things -/
theorem loop_things (cs : List Int) (o : List (Option D)) (a1 a2 a3 a4 a5 a6 : Option D) (items : List D) (h : ∀ d ∈ items, Th d) : ∃ a6',
    forD none (gName 6) (sSeq (sIf (tV (e2 (dNe 0) (eB (bRepr 0) (aCons (eCall 1 (pureD m_is_name) [] (aCons (eVar 6) aNil)) aNil)) (eB (bRepr 0) (aCons (eCall 1 (pureD m__law_is_name) [] (aCons (eVar 6) aNil)) aNil)))) (sRet (eC (.bl false))) sNext)
    (sIf (tV (e2 (dNe 0) (eB (bRepr 0) (aCons (eCall 1 (pureD m_number_of) [] (aCons (eVar 6) aNil)) aNil)) (eB (bRepr 0) (aCons (eCall 1 (pureD m__law_number_of) [] (aCons (eVar 6) aNil)) aNil)))) (sRet (eC (.bl false))) sNext)) items (some (scrD cs) :: a1 :: a2 :: a3 :: a4 :: a5 :: a6 :: o) [] = .nx (some (scrD cs) :: a1 :: a2 :: a3 :: a4 :: a5 :: a6' :: o) [] := by
  obtain ⟨δ', S', h1, rfl, a6', rfl⟩ := for_inv (fun δ S => S = [] ∧ ∃ a6', δ = some (scrD cs) :: a1 :: a2 :: a3 :: a4 :: a5 :: a6' :: o) (g := gName 6) (f := (sSeq (sIf (tV (e2 (dNe 0) (eB (bRepr 0) (aCons (eCall 1 (pureD m_is_name) [] (aCons (eVar 6) aNil)) aNil)) (eB (bRepr 0) (aCons (eCall 1 (pureD m__law_is_name) [] (aCons (eVar 6) aNil)) aNil)))) (sRet (eC (.bl false))) sNext)
    (sIf (tV (e2 (dNe 0) (eB (bRepr 0) (aCons (eCall 1 (pureD m_number_of) [] (aCons (eVar 6) aNil)) aNil)) (eB (bRepr 0) (aCons (eCall 1 (pureD m__law_number_of) [] (aCons (eVar 6) aNil)) aNil)))) (sRet (eC (.bl false))) sNext)))
    (items := items) (δ := some (scrD cs) :: a1 :: a2 :: a3 :: a4 :: a5 :: a6 :: o) (S := []) ⟨rfl, _, rfl⟩ (by
      rintro d hd δ S ⟨rfl, a6', rfl⟩
      obtain ⟨nr, ⟨b, n1, n2⟩, x, px, m1, m2⟩ := h d hd
      have nrs : norefs [d] = true := by simp [norefs, nr]
      have c1 := call_pure (S := []) (n := 1) rfl nrs ⟨_, n1⟩ rfl
      have c2 := call_pure (S := []) (n := 1) rfl nrs ⟨_, n2⟩ rfl
      have c3 := call_pure (S := []) (n := 1) rfl nrs ⟨_, m1⟩ (plain_nr px)
      have c4 := call_pure (S := []) (n := 1) rfl nrs ⟨_, m2⟩ (plain_nr px)
      refine ⟨_, rfl, _, _, .inl ?_, rfl, some d, rfl⟩
      simp [c1, c2, c3, c4, plain_repr px])
  exact ⟨a6', h1⟩
theorem law_good (cs : List Int) (hl : cs.length ≤ 63) : m_law [scrD cs] [] = .ok (.bl true) [] := by
  rw [m_law, runD_ap, z_law]
  have sl : sizeLine = 16777216 := rfl
  have hd : dNe 0 = dNe 0 := rfl
  have e1 : (sSet 1 (eLst (aCons (eC .non) (aCons (eC (.bl true)) (aCons (eC (.bl false)) (aCons (eLst aNil) (aCons (eTup aNil) (aCons (eDic0 false) (aCons (eLst (aCons (eC (.str "a")) aNil)) (aCons (eTup (aCons (eC (.str "a")) aNil)) (aCons (eDic false ((.inl 1, (eC (.int 2))) :: [])) (aCons (eC (.int 0)) (aCons (eC (.int 5)) (aCons (eNeg (eC (.int 1))) (aCons (eLst (aCons (eC (.int 5)) aNil)) (aCons (eTup (aCons (eC (.str "5")) aNil)) aNil)))))))))))))))) [some (scrD cs), none, none, none, none, none, none, none, none, none, none] [] = .nx [some (scrD cs), some (.lst someD), none, none, none, none, none, none, none, none, none] [] := by
    rfl
  rw [sSeq_ap]
  simp only [List.map_cons, List.map_nil, List.length_cons, List.length_nil, List.replicate, List.cons_append, List.nil_append]
  rw [e1, then_nx, sSeq_ap, sFor_ap]
  have hr : ∀ x : Int, 0 ≤ x → x ≤ 64 → -(2 ^ 62) ≤ x ∧ x < 2 ^ 62 := fun x h1 h2 => ⟨by omega, by omega⟩
  have e2 : (iRange1 (aCons (e2 dAdd (eC (.int 1)) (eB bMin2 (aCons (eC (.int 63)) (aCons (eB bLen (aCons (eVar 0) aNil)) aNil)))) aNil)) [some (scrD cs), some (.lst someD), none, none, none, none, none, none, none, none, none] [] = .ok (rngD 0 (1 + if (cs.length : Int) < 63 then (cs.length : Int) else 63).toNat, none) [] := by
    simp only [iRange1_ap, aCons_ap, e2_ap, eC_ap, eB_ap, eVar_0, aNil_ap, bind_ok, scrD, bLen_scr, List.length_map, bMin2_int, dAdd_int]
    exact if_pos (hr _ (by split <;> omega) (by split <;> omega))
  rw [e2, toS_ok]
  obtain ⟨δ', S', h1, rfl, o2, o3, o4, o5, o6, o7, o8, o9, o10, rfl⟩ := for_inv (fun δ S => S = [] ∧ ∃ o2 o3 o4 o5 o6 o7 o8 o9 o10, δ = [some (scrD cs), some (.lst someD), o2, o3, o4, o5, o6, o7, o8, o9, o10]) (g := gName 2) (f := (sSeq (sPar 3 4 (aCons (eCall 2 (pureD m__law_number) [] (aCons (eVar 0) (aCons (eVar 2) aNil))) (aCons (eCall 2 (pureD m__law_number) [] (aCons (eVar 0) (aCons (Mi.e2 dAdd (eVar 2) (eC (.int 100))) aNil))) aNil)))
    (sSeq (sSet 5 (Mi.e2 dIx (eVar 1) (Mi.e2 dMod (Mi.e2 dDiv (eVar 3) (eC (.int 7))) (eC (.int 14)))))
    (sSeq (sFor (iTup (eTup (aCons (eCall 2 (pureD m__law_text) [] (aCons (eVar 3) (aCons (Mi.e2 dAdd (eC (.int 100)) (eVar 2)) aNil))) (aCons (eCall 2 (pureD m__law_figures) [] (aCons (eVar 4) (aCons (eVar 3) aNil))) (aCons (eVar 5) (aCons (eC (.str "0")) (aCons (eC (.str "00")) (aCons (eC (.str "")) aNil)))))))) (gName 6) (sSeq (sIf (tV (Mi.e2 (dNe 0) (eB (bRepr 0) (aCons (eCall 1 (pureD m_is_name) [] (aCons (eVar 6) aNil)) aNil)) (eB (bRepr 0) (aCons (eCall 1 (pureD m__law_is_name) [] (aCons (eVar 6) aNil)) aNil)))) (sRet (eC (.bl false))) sNext)
    (sIf (tV (Mi.e2 (dNe 0) (eB (bRepr 0) (aCons (eCall 1 (pureD m_number_of) [] (aCons (eVar 6) aNil)) aNil)) (eB (bRepr 0) (aCons (eCall 1 (pureD m__law_number_of) [] (aCons (eVar 6) aNil)) aNil)))) (sRet (eC (.bl false))) sNext)))
    (sSeq (sSet 7 (Mi.e2 dSub (Mi.e2 dMod (eVar 4) (eC (.int 40))) (eC (.int 20))))
    (sSeq (sSet 8 (Mi.e2 dAdd (eVar 7) (Mi.e2 dMod (eVar 3) (eC (.int 9)))))
    (sSeq (sSet 9 (Mi.e2 dSub (Mi.e2 dAdd (eVar 7) (Mi.e2 dMod (Mi.e2 dDiv (eVar 3) (eC (.int 9))) (eC (.int 13)))) (eC (.int 2))))
    (sSeq (sIf (tV (Mi.e2 (dNe 0) (eB (bRepr 0) (aCons (eCall 3 (pureD m_is_among) [] (aCons (eVar 9) (aCons (eVar 7) (aCons (eVar 8) aNil)))) aNil)) (eB (bRepr 0) (aCons (e3 dLe dLe (eVar 7) (eVar 9) (eVar 8)) aNil)))) (sRet (eC (.bl false))) sNext)
    (sSeq (sSet 10 (eAndD (eIsi "int" (eVar 5)) (eAndD (eNotD (eIsi "bool" (eVar 5))) (e3 dLe dLe (eVar 7) (eVar 5) (eVar 8)))))
    (sIf (tV (Mi.e2 (dNe 0) (eB (bRepr 0) (aCons (eCall 3 (pureD m_is_among) [] (aCons (eVar 5) (aCons (eVar 7) (aCons (eVar 8) aNil)))) aNil)) (eB (bRepr 0) (aCons (eVar 10) aNil)))) (sRet (eC (.bl false))) sNext))))))))))
    (items := rngD 0 (1 + if (cs.length : Int) < 63 then (cs.length : Int) else 63).toNat) (δ := [some (scrD cs), some (.lst someD), none, none, none, none, none, none, none, none, none]) (S := []) ⟨rfl, _, _, _, _, _, _, _, _, _, rfl⟩ (by
      rintro d hd δ S ⟨rfl, o2, o3, o4, o5, o6, o7, o8, o9, o10, rfl⟩
      obtain ⟨i, hi, rfl⟩ := mem_rng hd
      have hi : (i : Int) ≤ 63 := by split at hi <;> omega
      rw [Int.zero_add]
      obtain ⟨c, c0, c1, hc⟩ := v_number cs hl i (by omega) (by omega) []
      obtain ⟨m, m0, m1, hm⟩ := v_number cs hl (i + 100) (by omega) (by omega) []
      obtain ⟨t, tt, ht⟩ := v_text c (100 + i) c0 (by omega) (by omega) []
      obtain ⟨u, tu, hu⟩ := v_figures m c m0 c0 c1 []
      obtain ⟨odd, ho, hx⟩ := pick (xs := someD) (x := c / 7 % 14) Odd (Int.emod_nonneg _ (by decide)) (Int.emod_lt_of_pos _ (by decide)) odd_all []
      have b1 := call_pure (S := []) (n := 2) (ds := [scrD cs, .int i]) rfl (nr_scr cs _) ⟨_, hc⟩ rfl
      have b2 := call_pure (S := []) (n := 2) (ds := [scrD cs, .int (i + 100)]) rfl (nr_scr cs _) ⟨_, hm⟩ rfl
      have b3 := call_pure (S := []) (n := 2) rfl rfl ⟨_, ht⟩ rfl
      have b4 := call_pure (S := []) (n := 2) rfl rfl ⟨_, hu⟩ rfl
      have dv : ∀ (x y : Int), y = 7 ∨ y = 9 → dDiv (.int x) (.int y) [] = .ok (.int (x / y)) [] := fun x y h => by
        rcases h with rfl | rfl <;> exact dDiv_int (by decide) (by decide +kernel)
      have md : ∀ (x y : Int), 0 < y → dMod (.int x) (.int y) [] = .ok (.int (x % y)) [] := fun x y h => dMod_int h
      have six : 6 ≤ sizeLine := by decide
      obtain ⟨a6', lp⟩ := loop_things cs [o7, o8, o9, o10] (some (.lst someD)) (some (.int i)) (some (.int c)) (some (.int m)) (some odd) o6 [.str t, .str u, odd, .str "0", .str "00", .str ""] (by
        intro d hd
        simp only [List.mem_cons, List.not_mem_nil, or_false] at hd
        rcases hd with rfl | rfl | rfl | rfl | rfl | rfl
        · exact th_str (tt.le (by decide))
        · exact th_str (tu.le (by decide))
        · exact odd_th ho
        · exact th_str (TX.of (by decide +kernel))
        · exact th_str (TX.of (by decide +kernel))
        · exact th_str (TX.of (by decide +kernel)))
      have w1 := fun x lo hi => call_pure (S := []) (n := 3) rfl rfl ⟨_, v_among_int x lo hi []⟩ rfl
      have w2 := fun lo hi => call_pure (S := []) (n := 3) (ds := [odd, .int lo, .int hi]) rfl (by simp [norefs, noref, odd_nr ho]) ⟨_, v_among ho lo hi []⟩ rfl
      have w3 : ∀ lo hi : Int, (eAndD (eIsi "int" (eVar 5)) (eAndD (eNotD (eIsi "bool" (eVar 5))) (e3 dLe dLe (eVar 7) (eVar 5) (eVar 8)))) [some (scrD cs), some (.lst someD), some (.int i), some (.int c), some (.int m), some odd, a6', some (.int lo), some (.int hi), some (.int (lo + c / 9 % 13 - 2)), o10] [] = .ok (.bl (amB odd lo hi)) [] := fun lo hi => by
        rcases ho with ⟨j, rfl, _⟩ | ⟨hn, b, rfl⟩ | ⟨hn, ty, ht, hx, hs⟩
        · by_cases h : lo ≤ j <;> simp [tyName, isT, amB, h]
        · simp [tyName, isT, amB]
        · have e : amB odd lo hi = false := by
            cases odd <;> first | rfl | (have := ht []; cases this; cases hx)
          simp [ht, hx, e]
      have tri : ∀ (x lo hi : Int), (if decide (lo ≤ x) = true then (Out.ok (.bl (decide (x ≤ hi))) [] : Out D) else .ok (.bl false) []) = .ok (.bl (amB (.int x) lo hi)) [] := fun x lo hi => by
        by_cases h : lo ≤ x <;> simp [h, amB]
      refine ⟨_, rfl, ?_⟩
      apply nx_of
      rotate_left 1
      simp only [setAll_cons, setAll_nil, List.set_cons_succ, List.set_cons_zero, sSeq_ap, sPar_ap, aCons_ap, aNil_ap, eCall_ap, eVar_0, eVar_s, bind_ok, b1, b2, e2_ap, eC_ap, dAdd_int, toS_ok, then_nx, sSet_ap, dv _ 7 (by simp), md _ 14 (by decide), hx, sFor_ap, iTup_ap, eTup_ap, b3, b4, List.length_cons, List.length_nil, Nat.zero_add, Nat.reduceAdd, if_pos six, lp,
        md _ 40 (by decide), dSub_int, md _ 9 (by decide), dv _ 9 (by simp), md _ 13 (by decide), sIf_ap, tV_ap, eB_ap, w1, w2, w3, bRepr_bl, e3_ap, dLe_int, toB_bl, tri]
      simp only [bRepr_bl, bind_ok, dNe_str, decide_true, Bool.not_true, Bool.false_eq_true, if_false, sNext_ap, then_nx, toS_ok, toB_bl, List.set_cons_succ, List.set_cons_zero, sSeq_ap, sIf_ap, tV_ap, eB_ap, aCons_ap, aNil_ap, eCall_ap, eVar_0, eVar_s, e2_ap, sSet_ap, w2, w3]
      rfl
      exact ⟨rfl, _, _, _, _, _, _, _, _, _, rfl⟩)
  rw [h1, then_nx]
  rfl
theorem law_ok : ∀ ns : List Int, ns.length ≤ 63 → (∀ z ∈ ns, Builtin.Int.intBits z ≤ 1048576) → ∃ S, m_law [.scr (ns.map D.int)] [] = .ok (.bl true) S := fun ns hl _ => ⟨[], law_good ns hl⟩
end Q
open PySem PySem.W PyProof.Rows
set_option maxRecDepth 100000 in
set_option maxHeartbeats 0 in
theorem PySem.Challenge.cw_craneyard_k01_words_holds : PySem.Challenge.rw_craneyard_k01_words.Holds := by
  w_on; o_law; k_head; (case hw => w_witness2)
  k_fill
  refine Mi.law_end (l := PySem.Challenge.rw_craneyard_k01_words) (n := 63) (k := 3) (x := "_law_script") (g := Q.m_law) rfl (by decide) rfl ⟨rfl, by decide, by decide⟩ (fun w h Y => PySem.W.kIn_of Y) Q.law_ok ?F
  case F =>
    intro w mg fa h KX G HX hmg
    refine' Q.all_mk KX G hmg ?a0 ?l0 ?c0 ?k0 ?a1 ?l1 ?c1 ?k1 ?a2 ?l2 ?c2 ?k2 ?a3 ?l3 ?c3 ?k3 ?a4 ?l4 ?c4 ?k4 ?a5 ?l5 ?c5 ?k5 ?a6 ?l6 ?c6 ?k6 ?a7 ?l7 ?c7 ?k7 ?a8 ?l8 ?c8 ?k8 ?a9 ?l9 ?c9 ?k9 ?n_all ?n_bool ?n_int ?n_isinstance ?n_len ?n_min ?n_range ?n_repr ?n_str ?c_FIGURES ?c_LETTERS ?c_MOST_FIGURES ?c_MOST_LETTERS ?c_MOST_NUMBER
    (case a0 => k_is); (case l0 => k_is); (case c0 => k_is); (case k0 => k_is); (case a1 => k_is); (case l1 => k_is); (case c1 => k_is); (case k1 => k_is); (case a2 => k_is); (case l2 => k_is); (case c2 => k_is); (case k2 => k_is); (case a3 => k_is); (case l3 => k_is); (case c3 => k_is); (case k3 => k_is); (case a4 => k_is); (case l4 => k_is); (case c4 => k_is); (case k4 => k_is); (case a5 => k_is); (case l5 => k_is); (case c5 => k_is); (case k5 => k_is); (case a6 => k_is); (case l6 => k_is); (case c6 => k_is); (case k6 => k_is); (case a7 => k_is); (case l7 => k_is); (case c7 => k_is); (case k7 => k_is); (case a8 => k_is); (case l8 => k_is); (case c8 => k_is); (case k8 => k_is); (case a9 => k_is); (case l9 => k_is); (case c9 => k_is); (case k9 => k_is); (case n_all => k_is); (case n_bool => k_is); (case n_int => k_is); (case n_isinstance => k_is); (case n_len => k_is); (case n_min => k_is); (case n_range => k_is); (case n_repr => k_is); (case n_str => k_is); (case c_FIGURES => k_is); (case c_LETTERS => k_is); (case c_MOST_FIGURES => k_is); (case c_MOST_LETTERS => k_is); (case c_MOST_NUMBER => exact Mi.loose_int HX (by repeat (first | exact List.Mem.head _ | apply List.Mem.tail)))
#print axioms PySem.Challenge.cw_craneyard_k01_words_holds
