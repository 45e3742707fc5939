import PyProof.Rows.All
import Wide.All
import OpenK.AllK
import Wide.FinOn
import HandS.ForMost
import HandS.ForExc
import HandS.IsInst
import HandS.ExcIs
import HandS.TryMany
import HandS.Deep
import HandS.SortInts
import HandS.Flow
import HandS.Defaults
import HandS.NoneIn
import HandS.Dict
import HandS.TupMul
import KE.GoesEnum
import KE.GoesZip
import HandS.SetFor
import HandS.Set
import HandS.Strs
import KE.DataMinMax
import KE.KDictDisplayH
import HandS.TupLen
import HandS.Iter
import KE.KDictWalk
import HandS.Style
import PySem.Challenge.RW_keymasks_k40_whole_traps
set_option Elab.async false
set_option linter.all false
set_option maxRecDepth 100000
set_option maxHeartbeats 4000000
namespace PD
open PySem PySem.Spec PyProof.Rows L2
/-- plain data -/
inductive D where
  | non | bl (b : Bool) | int (i : Int) | str (l : List Nat) | lst (ds : List D) | tup (ds : List D) | scr (ns : List Int) | dct (ks : List (List (Option Int))) (vs : List D)
  deriving Inhabited
def okS (l : List Nat) : Bool := l.all fun c => decide (c < 0x110000)
def mkS (l : List Nat) : Str := ⟨l.toArray⟩
theorem mkS_len (l : List Nat) : (mkS l).length = l.length := by simp [mkS, Str.length]
theorem mkS_cps (l : List Nat) : (mkS l).cps.toList = l := by simp [mkS]
theorem mkS_inj {a b : List Nat} (h : mkS a = mkS b) : a = b := by
  have := congrArg (fun x : Str => x.cps.toList) h
  simpa [mkS] using this
theorem of_mkS (x : Str) : x = mkS x.cps.toList := by
  obtain ⟨c⟩ := x
  simp [mkS]
/-- a dict by its entries -/
def DO (a : Addr) (L : List DictEntry) (ep : Nat) : HO := .ext fun h => ∃ o es, h.get? a = some o ∧ o.ExactDict ∧ o.data = .dict es ep ∧ es.toList = L
def oV : Option Int → V
  | none => .non
  | some i => .int i
def oK : Option Int → Option Key := Option.map Sum.inl
def oH : Option Int → Int
  | none => reduceHash 0xFCA86420
  | some i => hashInt i
def hashK (k : List (Option Int)) : Int := reduceHash (Builtin.Tuple.tupleHashOf (k.map oH))
mutual
inductive DV (K : PySem.W.Frag) (F : Hp) : V → D → Prop
  | non : DV K F .non .non
  | bl (b : Bool) : DV K F (.bl b) (.bl b)
  | int (i : Int) : DV K F (.int i) (.int i)
  | str (l : List Nat) (h : okS l = true) (hl : l.length ≤ sizeLine) : DV K F (.str (mkS l)) (.str l)
  | lst {a : Addr} {xs : List V} {ds : List D} : F a = some (.lst xs) → xs.length ≤ sizeLine → DVs K F xs ds → DV K F (.ref a) (.lst ds)
  | scr {a : Addr} {ns : List Int} : SqL K F a (ns.map V.int) → ns.length ≤ sizeLine → DV K F (.ref a) (.scr ns)
  | tup {a : Addr} {xs : List V} {ds : List D} : SqT K F a xs → xs.length ≤ sizeLine → DVs K F xs ds → DV K F (.ref a) (.tup ds)
  | dct {a : Addr} {L : List DictEntry} {ep : Nat} {ks : List (List (Option Int))} {vs : List D} : F a = some (DO a L ep) → (a == sysModules) = false → L.length ≤ sizeLine → ks.Nodup → DEs K F L ks vs → DV K F (.ref a) (.dct ks vs)
inductive DVs (K : PySem.W.Frag) (F : Hp) : List V → List D → Prop
  | nil : DVs K F [] []
  | cons {v : V} {vs : List V} {d : D} {ds : List D} : DV K F v d → DVs K F vs ds → DVs K F (v :: vs) (d :: ds)
inductive DEs (K : PySem.W.Frag) (F : Hp) : List DictEntry → List (List (Option Int)) → List D → Prop
  | nil : DEs K F [] [] []
  | cons {u : Value} {b : Addr} {k : List (Option Int)} {v : V} {d : D} {L : List DictEntry} {ks : List (List (Option Int))} {ds : List D} : SqT K F b (k.map oV) → L2.RelV v u → DV K F v d → DEs K F L ks ds → DEs K F (⟨hashK k, .ref b, u⟩ :: L) (k :: ks) (d :: ds)
end
section
variable {K : PySem.W.Frag} {F F' : Hp}
theorem Rd.mono {H H' : Hp} {a : Addr} {u : HO} (e : Same H H') (h : Rd H a u) : Rd H' a u := by
  rcases h with h | ⟨o, h⟩
  · exact .inl (e _ _ h)
  · exact .inr ⟨o, e _ _ h⟩
theorem sqL_mono {H H' : Hp} {a : Addr} {xs : List V} (e : Same H H') (h : SqL K H a xs) : SqL K H' a xs := by
  rcases h with h | h
  · exact .inl (Rd.mono e h)
  · exact .inr h
theorem sqT_mono {H H' : Hp} {a : Addr} {xs : List V} (e : Same H H') (h : SqT K H a xs) : SqT K H' a xs := by
  rcases h with h | h
  · exact .inl (Rd.mono e h)
  · exact .inr h
mutual
theorem DV.mono (e : Same F F') : ∀ {v : V} {d : D}, DV K F v d → DV K F' v d
  | _, _, .non => .non
  | _, _, .bl b => .bl b
  | _, _, .int i => .int i
  | _, _, .str l h hl => .str l h hl
  | _, _, .lst s z r => .lst (e _ _ s) z (DVs.mono e r)
  | _, _, .scr s z => .scr (sqL_mono e s) z
  | _, _, .tup s z r => .tup (sqT_mono e s) z (DVs.mono e r)
  | _, _, .dct s y z n r => .dct (e _ _ s) y z n (DEs.mono e r)
theorem DVs.mono (e : Same F F') : ∀ {vs : List V} {ds : List D}, DVs K F vs ds → DVs K F' vs ds
  | _, _, .nil => .nil
  | _, _, .cons a r => .cons (DV.mono e a) (DVs.mono e r)
theorem DEs.mono (e : Same F F') : ∀ {L : List DictEntry} {ks : List (List (Option Int))} {ds : List D}, DEs K F L ks ds → DEs K F' L ks ds
  | _, _, _, .nil => .nil
  | _, _, _, .cons s r a t => .cons (sqT_mono e s) r (DV.mono e a) (DEs.mono e t)
end
theorem DVs.length : ∀ {vs : List V} {ds : List D}, DVs K F vs ds → vs.length = ds.length
  | _, _, .nil => rfl
  | _, _, .cons _ r => by simp [DVs.length r]
theorem DVs.append : ∀ {vs us : List V} {ds es : List D}, DVs K F vs ds → DVs K F us es → DVs K F (vs ++ us) (ds ++ es)
  | _, _, _, _, .nil, s => s
  | _, _, _, _, .cons a r, s => .cons a (DVs.append r s)
theorem DVs.get : ∀ {vs : List V} {ds : List D} {i : Nat} {v : V}, DVs K F vs ds → vs[i]? = some v → ∃ d, ds[i]? = some d ∧ DV K F v d
  | _, _, _, _, .nil, e => by simp at e
  | _, _, 0, _, .cons a _, e => by simp at e; subst e; exact ⟨_, rfl, a⟩
  | _, _, i + 1, v, .cons _ t, e => by
    obtain ⟨u, h1, h2⟩ := DVs.get (i := i) (v := v) t (by simpa using e)
    exact ⟨u, by simpa using h1, h2⟩
theorem DVs.get' : ∀ {vs : List V} {ds : List D} {i : Nat} {d : D}, DVs K F vs ds → ds[i]? = some d → ∃ v, vs[i]? = some v ∧ DV K F v d
  | _, _, _, _, .nil, e => by simp at e
  | _, _, 0, _, .cons a _, e => by simp at e; subst e; exact ⟨_, rfl, a⟩
  | _, _, i + 1, v, .cons _ t, e => by
    obtain ⟨u, h1, h2⟩ := DVs.get' (i := i) (d := v) t (by simpa using e)
    exact ⟨u, by simpa using h1, h2⟩
theorem DVs.take : ∀ {vs : List V} {ds : List D} (n : Nat), DVs K F vs ds → DVs K F (vs.take n) (ds.take n)
  | _, _, 0, _ => by simp; exact .nil
  | _, _, _ + 1, .nil => .nil
  | _, _, n + 1, .cons a t => .cons a (DVs.take n t)
theorem DVs.drop : ∀ {vs : List V} {ds : List D} (n : Nat), DVs K F vs ds → DVs K F (vs.drop n) (ds.drop n)
  | _, _, 0, r => r
  | _, _, _ + 1, .nil => .nil
  | _, _, n + 1, .cons _ t => DVs.drop n t
theorem DVs.reverse {vs : List V} {ds : List D} (h : DVs K F vs ds) : DVs K F vs.reverse ds.reverse := by
  induction vs generalizing ds with
  | nil => cases h; exact .nil
  | cons v vs ih =>
    cases h with
    | cons a r =>
      simp only [List.reverse_cons]
      exact DVs.append (ih r) (.cons a .nil)
theorem DVs.set : ∀ {vs : List V} {ds : List D} (i : Nat) {v : V} {d : D}, DVs K F vs ds → DV K F v d → DVs K F (vs.set i v) (ds.set i d)
  | _, _, _, _, _, .nil, _ => .nil
  | _, _, 0, _, _, .cons _ t, h => .cons h t
  | _, _, i + 1, _, _, .cons a t, h => .cons a (DVs.set i t h)
end
structure Ext (F H F' H' : Hp) : Prop where
  ff : Same F F'
  hh : Same H H'
  fh : Same F' H'
  nw : ∀ b o, F' b = some o → F b = none → H b = none
section
variable {F H F' H' F1 H1 : Hp}
theorem Ext.refl (h : Same F H) : Ext F H F H := ⟨fun _ _ e => e, fun _ _ e => e, h, fun b o e n => by rw [n] at e; cases e⟩
theorem Ext.trans (a : Ext F H F1 H1) (b : Ext F1 H1 F' H') : Ext F H F' H' := by
  refine ⟨a.ff.trans b.ff, a.hh.trans b.hh, b.fh, fun c o e n => ?_⟩
  cases q : F1 c with
  | some u => exact a.nw c u q n
  | none => exact a.hh.free (b.nw c o e q)
theorem same_new {H : Hp} {p : Addr} {o : HO} (h : H p = none) : Same H (upd H p o) := fun b x e => by
  rw [upd_ne (ne_of_none e h)]; exact e
theorem upd_same2 {F H : Hp} {p : Addr} {o : HO} (h : Same F H) : Same (upd F p o) (upd H p o) := fun b x e => by
  by_cases hb : b = p
  · subst hb; rw [upd_same] at e ⊢; exact e
  · rw [upd_ne hb] at e ⊢; exact h _ _ e
/-- a new object, frozen from the start -/
theorem Ext.new {p : Addr} {o : HO} (h : Same F H) (hp : H p = none) : Ext F H (upd F p o) (upd H p o) := by
  have fp : F p = none := h.free hp
  refine ⟨same_new fp, same_new hp, upd_same2 h, fun b u e n => ?_⟩
  by_cases hb : b = p
  · rw [hb]; exact hp
  · rw [upd_ne hb, n] at e; cases e
/-- a new object, not frozen -/
theorem Ext.free {p : Addr} {o : HO} (h : Same F H) (hp : H p = none) : Ext F H F (upd H p o) :=
  ⟨fun _ _ e => e, same_new hp, h.trans (same_new hp), fun b u e n => by rw [n] at e; cases e⟩
end
/-- what a slot may own: a list, a dict -/
inductive OC where
  | l (ds : List D) | d (ks : List (List (Option Int))) (vs : List D)
inductive S where
  | none | dat (d : D) | ow (c : OC) | hid | exc (c : Nat)
  deriving Inhabited
abbrev S.own (ds : List D) : S := .ow (.l ds)
abbrev S.dow (ks : List (List (Option Int))) (vs : List D) : S := .ow (.d ks vs)
def OwnOk (K : PySem.W.Frag) (F : Hp) (a : Addr) (o : HO) : OC → Prop
  | .l ds => ∃ vs, o = .lst vs ∧ vs.length ≤ sizeLine ∧ DVs K F vs ds
  | .d ks ds => ∃ L ep, o = DO a L ep ∧ (a == sysModules) = false ∧ L.length ≤ sizeLine ∧ ks.Nodup ∧ DEs K F L ks ds
theorem OwnOk.mono {K : PySem.W.Frag} {F F' : Hp} (e : Same F F') {a : Addr} {o : HO} : ∀ {c : OC}, OwnOk K F a o c → OwnOk K F' a o c
  | .l _, ⟨vs, h1, h2, h3⟩ => ⟨vs, h1, h2, h3.mono e⟩
  | .d _ _, ⟨L, ep, h1, h2, h3, h4, h5⟩ => ⟨L, ep, h1, h2, h3, h4, h5.mono e⟩
/-- what a body keeps: what was frozen at its entry, what must stay as it is, hidden slots, the held exception -/
structure Bg where
  F0 : Hp
  G : Hp
  hv : Nat → V
  ea : Addr
  ek : Nat
def dOf : OC → D
  | .l ds => .lst ds
  | .d ks vs => .dct ks vs
theorem OwnOk.dv {K : PySem.W.Frag} {F F' : Hp} {a : Addr} {o : HO} (e : Same F F') (h : F' a = some o) : ∀ {c : OC}, OwnOk K F a o c → DV K F' (.ref a) (dOf c)
  | .l _, ⟨vs, h1, h2, h3⟩ => .lst (h1 ▸ h) h2 (h3.mono e)
  | .d _ _, ⟨L, ep, h1, h2, h3, h4, h5⟩ => .dct (h1 ▸ h) h2 h3 h4 (h5.mono e)
def SlotOk (K : PySem.W.Frag) (B : Bg) (F H : Hp) (i : Nat) (v : Option V) : S → Prop
  | .none => True
  | .dat d => ∃ x, v = some x ∧ DV K F x d
  | .ow c => ∃ a o, v = some (.ref a) ∧ F a = none ∧ B.G a = none ∧ H a = some o ∧ OwnOk K F a o c
  | .hid => v = some (B.hv i)
  | .exc k => v = some (.ref B.ea) ∧ k = B.ek
def OwnAt (δ : List S) (σ : L2.St) (i : Nat) (a : Addr) : Prop := (∃ c, δ[i]? = some (.ow c)) ∧ σ[i]? = some (some (.ref a))
structure Rel (K : PySem.W.Frag) (B : Bg) (F : Hp) (δ : List S) (σ : L2.St) (H : Hp) : Prop where
  sub : Same F H
  keep : Same B.G H
  nw : ∀ b o, F b = some o → B.F0 b = none → B.G b = none
  len : δ.length = σ.length
  slot : ∀ i s, δ[i]? = some s → ∃ v, σ[i]? = some v ∧ SlotOk K B F H i v s
  sep : ∀ i j a, OwnAt δ σ i a → OwnAt δ σ j a → i = j
section
variable {K : PySem.W.Frag} {B : Bg} {F F' H H' : Hp} {δ : List S} {σ : L2.St}
theorem Rel.ext (r : Rel K B F δ σ H) (e : Ext F H F' H') : Rel K B F' δ σ H' := by
  refine ⟨e.fh, r.keep.trans e.hh, fun b o q n => ?_, r.len, fun i s q => ?_, r.sep⟩
  · cases z : F b with
    | some u => exact r.nw b u z n
    | none => exact r.keep.free (e.nw b o q z)
  · obtain ⟨v, h1, h2⟩ := r.slot i s q
    refine ⟨v, h1, ?_⟩
    cases s with
    | none => trivial
    | dat d => obtain ⟨x, e1, e2⟩ := h2; exact ⟨x, e1, e2.mono e.ff⟩
    | ow c =>
      obtain ⟨a, o, e1, e2, e3, e4, e5⟩ := h2
      refine ⟨a, o, e1, ?_, e3, e.hh _ _ e4, e5.mono e.ff⟩
      cases z : F' a with
      | none => rfl
      | some u => have := e.nw a u z e2; rw [e4] at this; cases this
    | hid => exact h2
    | exc c => exact h2
theorem Rel.refl_ext (r : Rel K B F δ σ H) : Ext F H F H := Ext.refl r.sub
theorem Rel.dat (r : Rel K B F δ σ H) {i : Nat} {d : D} (h : δ[i]? = some (.dat d)) : ∃ x, σ[i]? = some (some x) ∧ DV K F x d := by
  obtain ⟨v, h1, x, e, q⟩ := r.slot i _ h
  subst e
  exact ⟨x, h1, q⟩
theorem Rel.own (r : Rel K B F δ σ H) {i : Nat} {ds : List D} (h : δ[i]? = some (.own ds)) :
    ∃ a vs, σ[i]? = some (some (.ref a)) ∧ F a = none ∧ B.G a = none ∧ H a = some (.lst vs) ∧ vs.length ≤ sizeLine ∧ DVs K F vs ds := by
  obtain ⟨v, h1, a, o, e, q1, q2, q3, vs, q4, q5, q6⟩ := r.slot i _ h
  subst e q4
  exact ⟨a, vs, h1, q1, q2, q3, q5, q6⟩
theorem Rel.dow (r : Rel K B F δ σ H) {i : Nat} {ks : List (List (Option Int))} {ds : List D} (h : δ[i]? = some (.dow ks ds)) :
    ∃ a L ep, σ[i]? = some (some (.ref a)) ∧ F a = none ∧ B.G a = none ∧ H a = some (DO a L ep) ∧ (a == sysModules) = false ∧ L.length ≤ sizeLine ∧ ks.Nodup ∧ DEs K F L ks ds := by
  obtain ⟨v, h1, a, o, e, q1, q2, q3, L, ep, q4, q5⟩ := r.slot i _ h
  subst e q4
  exact ⟨a, L, ep, h1, q1, q2, q3, q5⟩
end
inductive R (α : Type) where
  | ok (a : α) | exc (c : Nat) | bad
def R.bind {α β : Type} : R α → (α → R β) → R β
  | .ok a, f => f a
  | .exc c, _ => .exc c
  | .bad, _ => .bad
@[simp] theorem R.bind_ok {α β : Type} (a : α) (f : α → R β) : (R.ok a).bind f = f a := rfl
@[simp] theorem R.bind_exc {α β : Type} (c : Nat) (f : α → R β) : (R.exc c : R α).bind f = .exc c := rfl
@[simp] theorem R.bind_bad {α β : Type} (f : α → R β) : (R.bad : R α).bind f = .bad := rfl
def R.of {α : Type} : Option α → R α
  | some a => .ok a
  | none => .bad
/-- how the result of an expression lies: borrowed (frozen, or a list that is held by a slot or new) -/
def DVB (K : PySem.W.Frag) (F H : Hp) (v : V) (d : D) : Prop :=
  DV K F v d ∨ ∃ a vs ds, v = .ref a ∧ d = .lst ds ∧ H a = some (.lst vs) ∧ vs.length ≤ sizeLine ∧ DVs K F vs ds
inductive DVBs (K : PySem.W.Frag) (F H : Hp) : List V → List D → Prop
  | nil : DVBs K F H [] []
  | cons {v : V} {vs : List V} {d : D} {ds : List D} : DVB K F H v d → DVBs K F H vs ds → DVBs K F H (v :: vs) (d :: ds)
/-- a new list -/
def DVN (K : PySem.W.Frag) (H F' H' : Hp) (v : V) (ds : List D) : Prop :=
  ∃ p vs, v = .ref p ∧ H p = none ∧ F' p = none ∧ H' p = some (.lst vs) ∧ vs.length ≤ sizeLine ∧ DVs K F' vs ds
section
variable {K : PySem.W.Frag} {F H F' H' : Hp}
theorem DVB.ext {v : V} {d : D} (h : DVB K F H v d) (e : Ext F H F' H') : DVB K F' H' v d := by
  rcases h with h | ⟨a, vs, ds, h1, h2, h3, h4, h5⟩
  · exact .inl (h.mono e.ff)
  · exact .inr ⟨a, vs, ds, h1, h2, e.hh _ _ h3, h4, h5.mono e.ff⟩
theorem DVBs.ext (e : Ext F H F' H') : ∀ {vs : List V} {ds : List D}, DVBs K F H vs ds → DVBs K F' H' vs ds
  | _, _, .nil => .nil
  | _, _, .cons a r => .cons (a.ext e) (DVBs.ext e r)
/-- a list to be read: its items are frozen -/
theorem DVB.list {v : V} {ds : List D} (s : Same F H) (h : DVB K F H v (.lst ds)) : ∃ a vs, v = .ref a ∧ H a = some (.lst vs) ∧ vs.length ≤ sizeLine ∧ DVs K F vs ds := by
  rcases h with h | ⟨a, vs, es, h1, h2, h3, h4, h5⟩
  · cases h with
    | lst q z r => exact ⟨_, _, rfl, s _ _ q, z, r⟩
  · cases h2
    exact ⟨a, vs, h1, h3, h4, h5⟩
theorem DVB.tuple {v : V} {ds : List D} (s : Same F H) (h : DVB K F H v (.tup ds)) : ∃ a vs, v = .ref a ∧ SqT K H a vs ∧ vs.length ≤ sizeLine ∧ DVs K F vs ds := by
  rcases h with h | ⟨a, vs, es, h1, h2, h3, h4, h5⟩
  · cases h with
    | tup q z r => exact ⟨_, _, rfl, sqT_mono s q, z, r⟩
  · cases h2
theorem DVB.str {v : V} {l : List Nat} (h : DVB K F H v (.str l)) : v = .str (mkS l) ∧ okS l = true ∧ l.length ≤ sizeLine := by
  rcases h with h | ⟨a, vs, es, h1, h2, h3, h4, h5⟩
  · cases h with
    | str l h hl => exact ⟨rfl, h, hl⟩
  · cases h2
theorem DVB.int {v : V} {i : Int} (h : DVB K F H v (.int i)) : v = .int i := by
  rcases h with h | ⟨a, vs, es, h1, h2, h3, h4, h5⟩
  · cases h; rfl
  · cases h2
theorem DVB.bl {v : V} {i : Bool} (h : DVB K F H v (.bl i)) : v = .bl i := by
  rcases h with h | ⟨a, vs, es, h1, h2, h3, h4, h5⟩
  · cases h; rfl
  · cases h2
theorem DVB.non {v : V} (h : DVB K F H v .non) : v = .non := by
  rcases h with h | ⟨a, vs, es, h1, h2, h3, h4, h5⟩
  · cases h; rfl
  · cases h2
end
end PD
namespace PD
open PySem PySem.Spec PyProof.Rows L2
structure Cfg where
  K : PySem.W.Frag
  B : Bg
  cv : Nat → Value
  W : WX
/-- what is wanted behind an evaluation -/
def Aft {α β : Type} (c : Cfg) (σ : L2.St) (P : Hp → Hp → Hp → β → α → Prop) (F H : Hp) (r : R α) (Q : β → Hp → Prop) : Prop :=
  match r with
  | .ok a => ∀ v F' H', Ext F H F' H' → P H F' H' v a → Q v H'
  | .exc k => ∀ F' H', Ext F H F' H' → c.W (c.cv k) none σ H'
  | .bad => False
def tG {α β : Type} (c : Cfg) (P : Hp → Hp → Hp → β → α → Prop) (f : List S → R α) : L2.St → Hp → (β → Hp → Prop) → Prop :=
  fun σ H Q => ∃ F δ, Rel c.K c.B F δ σ H ∧ Aft c σ P F H (f δ) Q
abbrev pD (c : Cfg) : Hp → Hp → Hp → V → D → Prop := fun _ F' _ v d => DV c.K F' v d
abbrev pB (c : Cfg) : Hp → Hp → Hp → V → D → Prop := fun _ F' H' v d => DVB c.K F' H' v d
abbrev pN (c : Cfg) : Hp → Hp → Hp → V → List D → Prop := fun H F' H' v ds => DVN c.K H F' H' v ds
abbrev pT : Hp → Hp → Hp → Bool → Bool → Prop := fun _ _ _ v b => v = b
abbrev pA (c : Cfg) : Hp → Hp → Hp → List V → List D → Prop := fun _ F' _ vs ds => DVs c.K F' vs ds
abbrev pAB (c : Cfg) : Hp → Hp → Hp → List V → List D → Prop := fun _ F' H' vs ds => DVBs c.K F' H' vs ds
abbrev tD (c : Cfg) (f : List S → R D) : TE := tG c (pD c) f
abbrev tB (c : Cfg) (f : List S → R D) : TE := tG c (pB c) f
abbrev tN (c : Cfg) (f : List S → R (List D)) : TE := tG c (pN c) f
abbrev tT (c : Cfg) (f : List S → R Bool) : TT := tG c pT f
abbrev tAD (c : Cfg) (f : List S → R (List D)) : TA := tG c (pA c) f
abbrev tAB (c : Cfg) (f : List S → R (List D)) : TA := tG c (pAB c) f
/-- a result's relation does not hang on what stood before -/
def Anti {α β : Type} (P : Hp → Hp → Hp → β → α → Prop) : Prop := ∀ H H1 F' H' v a, Same H H1 → P H1 F' H' v a → P H F' H' v a
theorem anti_D {c : Cfg} : Anti (pD c) := fun _ _ _ _ _ _ _ h => h
theorem anti_B {c : Cfg} : Anti (pB c) := fun _ _ _ _ _ _ _ h => h
theorem anti_T : Anti pT := fun _ _ _ _ _ _ _ h => h
theorem anti_A {c : Cfg} : Anti (pA c) := fun _ _ _ _ _ _ _ h => h
theorem anti_AB {c : Cfg} : Anti (pAB c) := fun _ _ _ _ _ _ _ h => h
theorem anti_N {c : Cfg} : Anti (pN c) := fun _ _ _ _ _ _ s ⟨p, vs, h1, h2, h3⟩ => ⟨p, vs, h1, s.free h2, h3⟩
section
variable {α β γ ε : Type} {c : Cfg} {σ : L2.St} {F H F1 H1 : Hp} {P : Hp → Hp → Hp → β → α → Prop} {P' : Hp → Hp → Hp → ε → γ → Prop}
theorem Aft.ext {r : R α} {Q : β → Hp → Prop} (h : Aft c σ P F H r Q) (e : Ext F H F1 H1) (an : Anti P) : Aft c σ P F1 H1 r Q := by
  cases r with
  | ok a => exact fun v F' H' e' p => h v F' H' (e.trans e') (an _ _ _ _ _ _ e.hh p)
  | exc k => exact fun F' H' e' => h F' H' (e.trans e')
  | bad => exact h
theorem Aft.mono {r : R α} {Q Q' : β → Hp → Prop} (h : Aft c σ P F H r Q) (m : ∀ v H', Q v H' → Q' v H') : Aft c σ P F H r Q' := by
  cases r with
  | ok a => exact fun v F' H' e' p => m _ _ (h v F' H' e' p)
  | exc k => exact h
  | bad => exact h
/-- one after the other -/
theorem Aft.bind {r : R α} {g : α → R γ} {Q : ε → Hp → Prop} (an : Anti P') (h : Aft c σ P' F H (r.bind g) Q) :
    Aft c σ P F H r (fun v H1 => ∃ a F1, Ext F H F1 H1 ∧ P H F1 H1 v a ∧ Aft c σ P' F1 H1 (g a) Q) := by
  cases r with
  | ok a => exact fun v F' H' e' p => ⟨a, F', e', p, h.ext e' an⟩
  | exc k => exact h
  | bad => exact h
theorem Aft.ret {a : α} {v : β} {Q : β → Hp → Prop} (s : Same F H) (h : Aft c σ P F H (.ok a) Q) (p : P H F H v a) : Q v H := h v F H (Ext.refl s) p
end
theorem _root_.L2.PE.impD {X : Cx} {e : Expr} {t t' : TE} (h : PE X e t) (m : ∀ σ H Q, t' σ H Q → t σ H Q) : PE X e t' := ⟨fun pins s σ H Q I q => h.run pins s σ H Q I (m _ _ _ q)⟩
theorem _root_.L2.PT.impD {X : Cx} {e : Expr} {t t' : TT} (h : PT X e t) (m : ∀ σ H Q, t' σ H Q → t σ H Q) : PT X e t' := ⟨fun pins s σ H Q I q => h.run pins s σ H Q I (m _ _ _ q)⟩
theorem _root_.L2.PW.impD {X : Cx} {e : Expr} {t t' : TT} (h : PW X e t) (m : ∀ σ H Q, t' σ H Q → t σ H Q) : PW X e t' := ⟨fun wh pins s σ H Q I q => h.run wh pins s σ H Q I (m _ _ _ q)⟩
theorem _root_.L2.PA.impD {X : Cx} {es : List Expr} {t t' : TA} (h : PA X es t) (m : ∀ σ H Q, t' σ H Q → t σ H Q) : PA X es t' := ⟨fun pos pins s σ H Q I q => h.run pos pins s σ H Q I (m _ _ _ q)⟩
theorem _root_.L2.PS.impD {X : Cx} {st : Stmt} {t t' : TS} (h : PS X st t) (m : ∀ D σ H, t' D σ H → t D σ H) : PS X st t' := ⟨fun pins s σ H D I q => h.run pins s σ H D I (m _ _ _ q)⟩
theorem _root_.L2.PSs.impD {X : Cx} {st : List Stmt} {t t' : TS} (h : PSs X st t) (m : ∀ D σ H, t' D σ H → t D σ H) : PSs X st t' := ⟨fun pins s σ H D I q => h.run pins s σ H D I (m _ _ _ q)⟩
section
variable {X : Cx} {c : Cfg} {e : Expr} {pos : Pos}
theorem e_b {f : List S → R D} (h : PE X e (tD c f)) : PE X e (tB c f) :=
  h.impD fun σ H Q ⟨F, δ, r, a⟩ => ⟨F, δ, r, by
    cases q : f δ with
    | ok d => rw [q] at a; exact fun v F' H' e p => a v F' H' e (.inl p)
    | exc k => rw [q] at a; exact a
    | bad => rw [q] at a; exact a⟩
def mapL : R (List D) → R D
  | .ok ds => .ok (.lst ds)
  | .exc k => .exc k
  | .bad => .bad
/-- a new list, frozen -/
theorem n_e {f : List S → R (List D)} (h : PE X e (tN c f)) : PE X e (tD c fun δ => mapL (f δ)) :=
  h.impD fun σ H Q ⟨F, δ, r, a⟩ => ⟨F, δ, r, by
    cases q : f δ with
    | ok ds =>
      dsimp only at a; rw [q] at a
      intro v F' H' e ⟨p, vs, h1, h2, h3, h4, h5, h6⟩
      subst h1
      have sm : Same F' (upd F' p (.lst vs)) := same_new h3
      refine a (.ref p) (upd F' p (.lst vs)) H' ⟨e.ff.trans sm, e.hh, fun b o z => ?_, fun b o z n => ?_⟩ (.lst upd_same h5 (h6.mono sm))
      · by_cases hb : b = p
        · subst hb; rw [upd_same] at z; rw [← z]; exact h4
        · rw [upd_ne hb] at z; exact e.fh _ _ z
      · by_cases hb : b = p
        · rw [hb]; exact h2
        · rw [upd_ne hb] at z; exact e.nw _ _ z n
    | exc k => dsimp only at a; rw [q] at a; exact a
    | bad => dsimp only at a; rw [q] at a; exact a⟩
def slD (δ : List S) (i : Nat) : R D := match δ[i]? with
  | some (.dat d) => .ok d
  | _ => .bad
def slB (δ : List S) (i : Nat) : R D := match δ[i]? with
  | some (.dat d) => .ok d
  | some (.ow (.l ds)) => .ok (.lst ds)
  | _ => .bad
theorem e_var {i : Nat} {x : Str} (hN : X.N[i]? = some x) (hv : Vis X.env.scope x) (hd : (x == ("__debug__" : Str)) = false) (hcd : (x == ("__classdict__" : Str)) = false) : PE X (.Name x pos) (tD c fun δ => slD δ i) :=
  (pe_var hN hv hd hcd).impD fun σ H Q ⟨F, δ, r, a⟩ => by
    dsimp only [slD] at a
    cases q : δ[i]? with
    | none => rw [q] at a; exact a.elim
    | some s =>
      rw [q] at a
      cases s with
      | dat d =>
        obtain ⟨x, h1, h2⟩ := r.dat q
        exact ⟨x, h1, a.ret r.sub h2⟩
      | none => exact a.elim
      | ow _ => exact a.elim
      | hid => exact a.elim
      | exc _ => exact a.elim
theorem b_var {i : Nat} {x : Str} (hN : X.N[i]? = some x) (hv : Vis X.env.scope x) (hd : (x == ("__debug__" : Str)) = false) (hcd : (x == ("__classdict__" : Str)) = false) : PE X (.Name x pos) (tB c fun δ => slB δ i) :=
  (pe_var hN hv hd hcd).impD fun σ H Q ⟨F, δ, r, a⟩ => by
    dsimp only [slB] at a
    cases q : δ[i]? with
    | none => rw [q] at a; exact a.elim
    | some s =>
      rw [q] at a
      cases s with
      | dat d =>
        obtain ⟨x, h1, h2⟩ := r.dat q
        exact ⟨x, h1, a.ret r.sub (.inl h2)⟩
      | none => exact a.elim
      | ow c =>
        cases c with
        | l ds =>
          obtain ⟨p, vs, h1, h2, h3, h4, h5, h6⟩ := r.own q
          exact ⟨_, h1, a.ret r.sub (.inr ⟨p, vs, ds, rfl, rfl, h4, h5, h6⟩)⟩
        | d ks ds => exact a.elim
      | hid => exact a.elim
      | exc _ => exact a.elim
theorem e_con {v : V} {d : D} (h : PE X e (tC v)) (hd : ∀ F, DV c.K F v d) : PE X e (tD c fun _ => .ok d) :=
  h.impD fun σ H Q ⟨F, δ, r, a⟩ => a.ret r.sub (hd F)
theorem e_two {α : Type} {P' : Hp → Hp → Hp → V → α → Prop} {x y : Expr} {f g : List S → R D} {h : D → D → R α} {r : R2} (an : Anti P')
    (hx : PE X x (tB c f)) (hy : PE X y (tB c g)) {z : Expr} (hz : ∀ {ta tb : TE}, PE X x ta → PE X y tb → PE X z (tOp r ta tb))
    (ho : ∀ (σ : L2.St) (F H : Hp) (u v : V) (du dv : D) (Q : VK), Same F H → DVB c.K F H u du → DVB c.K F H v dv → Aft c σ P' F H (h du dv) Q → r u v H Q) :
    PE X z (tG c P' fun δ => (f δ).bind fun a => (g δ).bind fun b => h a b) :=
  (hz hx hy).impD fun σ H Q ⟨F, δ, rl, a⟩ => ⟨F, δ, rl, (a.bind an).mono fun u H1 ⟨du, F1, e1, p1, a1⟩ =>
    ⟨F1, δ, rl.ext e1, (a1.bind an).mono fun v H2 ⟨dv, F2, e2, p2, a2⟩ => ho σ F2 H2 u v du dv Q e2.fh (p1.ext e2) p2 a2⟩⟩
theorem e_one {α : Type} {P' : Hp → Hp → Hp → V → α → Prop} {x : Expr} {f : List S → R D} {h : D → R α} {r : V → Hp → VK → Prop} (an : Anti P')
    (hx : PE X x (tB c f)) {z : Expr} (hz : ∀ {ta : TE}, PE X x ta → PE X z (tUn r ta))
    (ho : ∀ (σ : L2.St) (F H : Hp) (u : V) (du : D) (Q : VK), Same F H → DVB c.K F H u du → Aft c σ P' F H (h du) Q → r u H Q) :
    PE X z (tG c P' fun δ => (f δ).bind fun a => h a) :=
  (hz hx).impD fun σ H Q ⟨F, δ, rl, a⟩ => ⟨F, δ, rl, (a.bind an).mono fun u H1 ⟨du, F1, e1, p1, a1⟩ => ho σ F1 H1 u du Q e1.fh p1 a1⟩
end
end PD
namespace PD
open PySem PySem.Spec PyProof.Rows L2
abbrev szN : Nat := 16777216
theorem szN_eq : sizeLine = szN := sizeLine_eq
theorem two24 : szN ≤ 2 ^ 62 := by decide
mutual
def eqD : D → D → Bool
  | .non, .non => true
  | .bl a, .bl b => a == b
  | .bl a, .int j => (if a then 1 else 0) == j
  | .int i, .bl b => i == (if b then 1 else 0)
  | .int i, .int j => i == j
  | .str x, .str y => x == y
  | .lst xs, .lst ys => eqDs xs ys
  | .tup xs, .tup ys => eqDs xs ys
  | _, _ => false
def eqDs : List D → List D → Bool
  | [], [] => true
  | x :: xs, y :: ys => eqD x y && eqDs xs ys
  | _, _ => false
end
mutual
def noScr : D → Bool
  | .scr _ => false
  | .dct _ _ => false
  | .lst xs => noScrs xs
  | .tup xs => noScrs xs
  | _ => true
def noScrs : List D → Bool
  | [] => true
  | x :: xs => noScr x && noScrs xs
end
mutual
def dep : D → Nat
  | .lst xs => deps xs + 1
  | .tup xs => deps xs + 1
  | _ => 0
def deps : List D → Nat
  | [] => 0
  | x :: xs => max (dep x) (deps xs)
end
mutual
def toPy : D → PyData
  | .non => .none
  | .bl b => .bool b
  | .int i => .int i
  | .str l => .str (mkS l)
  | .lst xs => .list (toPys xs)
  | .tup xs => .tuple (toPys xs)
  | .scr ns => .list (ns.map PyData.int)
  | .dct _ _ => .none
def toPys : List D → List PyData
  | [] => []
  | x :: xs => toPy x :: toPys xs
end
mutual
theorem eq_toPy : ∀ a b : D, noScr a = true → noScr b = true → PyData.eqv (toPy a) (toPy b) = eqD a b
  | .non, b, _, h => by cases b <;> simp_all [toPy, PyData.eqv, eqD, noScr]
  | .bl x, b, _, h => by cases b <;> simp_all [toPy, PyData.eqv, eqD, noScr]
  | .int x, b, _, h => by cases b <;> simp_all [toPy, PyData.eqv, eqD, noScr]
  | .str x, b, _, h => by
    cases b <;> simp_all [toPy, PyData.eqv, eqD, noScr]
    rename_i y
    by_cases e : x = y
    · subst e; simp
    · have : mkS x ≠ mkS y := fun z => e (mkS_inj z)
      rw [beq_eq_false_iff_ne.mpr this, beq_eq_false_iff_ne.mpr e]
  | .lst xs, b, ha, h => by
    cases b <;> simp_all [toPy, PyData.eqv, eqD, noScr]
    exact eq_toPys _ _ ha h
  | .tup xs, b, ha, h => by
    cases b <;> simp_all [toPy, PyData.eqv, eqD, noScr]
    exact eq_toPys _ _ ha h
  | .scr _, _, ha, _ => by simp [noScr] at ha
  | .dct _ _, _, ha, _ => by simp [noScr] at ha
theorem eq_toPys : ∀ a b : List D, noScrs a = true → noScrs b = true → PyData.eqvAll (toPys a) (toPys b) = eqDs a b
  | [], [], _, _ => rfl
  | [], _ :: _, _, _ => rfl
  | _ :: _, [], _, _ => rfl
  | x :: xs, y :: ys, h, g => by
    simp only [noScrs, Bool.and_eq_true] at h g
    simp only [toPys, PyData.eqvAll, eqDs, eq_toPy x y h.1 g.1, eq_toPys xs ys h.2 g.2]
end
section
variable {K : PySem.W.Frag} {F H : Hp}
theorem dpAll_ints (ns : List Int) : DpAll K H (ns.map V.int) (ns.map PyData.int) := by
  induction ns with
  | nil => exact .nil
  | cons n ns ih => exact .cons (.int n) ih
mutual
theorem DV.dp (s : Same F H) : ∀ {v : V} {d : D}, noScr d = true → DV K F v d → Dp K H v (toPy d)
  | _, _, _, .non => by simp only [toPy]; exact .non
  | _, _, _, .bl b => by simp only [toPy]; exact .bl b
  | _, _, _, .int i => by simp only [toPy]; exact .int i
  | _, _, _, .str l h hl => by simp only [toPy]; exact .str _
  | _, _, n, .lst e z r => by simp only [toPy]; rw [noScr] at n; exact .lst (SqL.of (s _ _ e)) (DVs.dp s n r)
  | _, _, n, .tup e z r => by simp only [toPy]; rw [noScr] at n; exact .tup (sqT_mono s e) (DVs.dp s n r)
  | _, _, n, .scr e z => by simp [noScr] at n
  | _, _, n, .dct _ _ _ _ _ => by simp [noScr] at n
theorem DVs.dp (s : Same F H) : ∀ {vs : List V} {ds : List D}, noScrs ds = true → DVs K F vs ds → DpAll K H vs (toPys ds)
  | _, _, _, .nil => .nil
  | _, _, n, .cons a r => by
    rw [noScrs, Bool.and_eq_true] at n
    exact .cons (DV.dp s n.1 a) (DVs.dp s n.2 r)
end
theorem DVB.dp {v : V} {d : D} (s : Same F H) (n : noScr d = true) (h : DVB K F H v d) : Dp K H v (toPy d) := by
  rcases h with h | ⟨a, vs, es, h1, h2, h3, h4, h5⟩
  · exact h.dp s n
  · subst h1 h2
    simp only [toPy]
    rw [noScr] at n
    exact .lst (SqL.of h3) (h5.dp s n)
theorem strOk_mkS {l : List Nat} (h : okS l = true) : PyData.strOk (mkS l) = true := by
  simp only [okS, List.all_eq_true, decide_eq_true_eq] at h
  simp only [PyData.strOk, mkS, Array.all_eq_true]
  intro i hi
  exact decide_eq_true (h _ (by simp))
theorem canLay_ints : ∀ ns : List Int, PyData.canLayAll0 (ns.map PyData.int) = true
  | [] => rfl
  | _ :: ns => by simp [PyData.canLayAll0, PyData.canLay0, canLay_ints ns]
mutual
theorem DV.lay : ∀ {v : V} {d : D}, DV K F v d → (toPy d).canLay0 = true
  | _, _, .non => rfl
  | _, _, .bl b => rfl
  | _, _, .int i => rfl
  | _, _, .str l h hl => by simp only [toPy, PyData.canLay0]; exact strOk_mkS h
  | _, _, .lst e z r => by simp only [toPy, PyData.canLay0]; exact DVs.lay r
  | _, _, .tup e z r => by simp only [toPy, PyData.canLay0]; exact DVs.lay r
  | _, _, .scr e z => by simp only [toPy, PyData.canLay0]; exact canLay_ints _
  | _, _, .dct _ _ _ _ _ => rfl
theorem DVs.lay : ∀ {vs : List V} {ds : List D}, DVs K F vs ds → PyData.canLayAll0 (toPys ds) = true
  | _, _, .nil => rfl
  | _, _, .cons a r => by simp only [toPys, PyData.canLayAll0, DV.lay a, DVs.lay r]; rfl
end
theorem DVB.lay {v : V} {d : D} (h : DVB K F H v d) : (toPy d).canLay0 = true := by
  rcases h with h | ⟨a, vs, es, h1, h2, h3, h4, h5⟩
  · exact h.lay
  · subst h2
    simp only [toPy, PyData.canLay0]
    exact h5.lay
mutual
theorem depth_toPy : ∀ d : D, noScr d = true → (toPy d).depth = dep d
  | .non, _ => rfl
  | .bl _, _ => rfl
  | .int _, _ => rfl
  | .str _, _ => rfl
  | .lst xs, h => by simp only [toPy, PyData.depth, dep, depth_toPys xs h]
  | .tup xs, h => by simp only [toPy, PyData.depth, dep, depth_toPys xs h]
  | .scr _, h => by simp [noScr] at h
  | .dct _ _, h => by simp [noScr] at h
theorem depth_toPys : ∀ d : List D, noScrs d = true → PyData.depthAll (toPys d) = deps d
  | [], _ => rfl
  | x :: xs, h => by
    simp only [noScrs, Bool.and_eq_true] at h
    simp only [toPys, PyData.depthAll, deps, depth_toPy x h.1, depth_toPys xs h.2]
end
end
/-- may two things be compared here -/
def eqOk (a b : D) : Bool := noScr a && noScr b && decide (min (dep a) (dep b) ≤ 60)
section
variable {X : Cx}
def rEqX (K : PySem.W.Frag) (neg : Bool) : R2 := fun x y H Q => ∃ F a b, Same F H ∧ DVB K F H x a ∧ DVB K F H y b ∧ eqOk a b = true ∧ Q (.bl (if neg then !eqD a b else eqD a b)) H
theorem op_eqX (hu : X.A.units + 64 < cLine) : OpR X (compareOp .Eq) (rEqX X.K false) := by
  intro pins s σ H x y v u Q I rx ry h
  obtain ⟨F, a, b, sm, ha, hb, ok, q⟩ := h
  simp only [eqOk, Bool.and_eq_true, decide_eq_true_eq] at ok
  obtain ⟨as, r1⟩ := Dp.reads I _ x v (ha.dp sm ok.1.1) rx
  obtain ⟨bs, r2⟩ := Dp.reads I _ y u (hb.dp sm ok.1.2) ry
  refine SeqAt.compareEq_reads r1 r2 ha.lay hb.lay (by rw [depth_toPy a ok.1.1, depth_toPy b ok.1.2]; omega) ⟨.bl _, H, I, rfl, ?_⟩
  rw [eq_toPy a b ok.1.1 ok.1.2]
  exact q
theorem op_neX (hu : X.A.units + 64 < cLine) : OpR X (compareOp .NotEq) (rEqX X.K true) := by
  intro pins s σ H x y v u Q I rx ry h
  obtain ⟨F, a, b, sm, ha, hb, ok, q⟩ := h
  simp only [eqOk, Bool.and_eq_true, decide_eq_true_eq] at ok
  obtain ⟨as, r1⟩ := Dp.reads I _ x v (ha.dp sm ok.1.1) rx
  obtain ⟨bs, r2⟩ := Dp.reads I _ y u (hb.dp sm ok.1.2) ry
  refine SeqAt.compareNe_reads r1 r2 ha.lay hb.lay (by rw [depth_toPy a ok.1.1, depth_toPy b ok.1.2]; omega) ⟨.bl _, H, I, rfl, ?_⟩
  rw [eq_toPy a b ok.1.1 ok.1.2]
  exact q
end
end PD
namespace PD
open PySem PySem.Spec PyProof.Rows L2
inductive AOp where
  | add | sub | mul | fdiv | mod | pow
  deriving DecidableEq
def binD : AOp → D → D → Option D
  | .add, .int a, .int b => some (.int (a + b))
  | .add, .str a, .str b => if a.length + b.length ≤ szN then some (.str (a ++ b)) else none
  | .add, .tup a, .tup b => if a.length + b.length ≤ szN then some (.tup (a ++ b)) else none
  | .add, .lst a, .lst b => if a.length + b.length ≤ szN then some (.lst (a ++ b)) else none
  | .sub, .int a, .int b => some (.int (a - b))
  | .mul, .int a, .int b => if a.natAbs < 2 ^ 64 ∨ b.natAbs < 2 ^ 64 then some (.int (a * b)) else none
  | .mul, .lst a, .int k => if k < 2 ^ 20 ∧ a.length * k.toNat ≤ szN ∧ -1 < k then some (.lst (List.replicate k.toNat a).flatten) else none
  | .mul, .tup a, .int k => if a ≠ [] ∧ 1 ≤ k ∧ k ≤ 1000 ∧ a.length ≤ 1000 then some (.tup (List.replicate k.toNat a).flatten) else none
  | .fdiv, .int a, .int b => if 0 < b ∧ b < 1073741824 then some (.int (a / b)) else none
  | .mod, .int a, .int b => if 0 < b then some (.int (a % b)) else none
  | .pow, .int a, .int b => if 0 ≤ b ∧ b ≤ 1000000 ∧ a.natAbs < 2 ^ 64 then some (.int (a ^ b.toNat)) else none
  | _, _, _ => none
def AOp.op : AOp → Operator
  | .add => .Add | .sub => .Sub | .mul => .Mult | .fdiv => .FloorDiv | .mod => .Mod | .pow => .Pow
/-- an operator by data -/
def rO (K : PySem.W.Frag) (g : D → D → Option D) : R2 := fun x y H Q => ∃ F a b d, Same F H ∧ DVB K F H x a ∧ DVB K F H y b ∧ g a b = some d ∧ ∀ v F' H', Ext F H F' H' → DV K F' v d → Q v H'
section
variable {K : PySem.W.Frag} {F H : Hp} {Q : VK}
theorem out_here {v : V} {d : D} (sm : Same F H) (q : ∀ v F' H', Ext F H F' H' → DV K F' v d → Q v H') (h : DV K F v d) : Q v H := q v F H (Ext.refl sm) h
theorem out_tup {vs : List V} {ds : List D} (sm : Same F H) (q : ∀ v F' H', Ext F H F' H' → DV K F' v (.tup ds) → Q v H') (h : DVs K F vs ds) (hz : vs.length ≤ sizeLine) : ∀ p, H p = none → Q (.ref p) (upd H p (.tup vs)) := fun p hp =>
  q _ (upd F p (.tup vs)) _ (Ext.new sm hp) (.tup (SqT.of upd_same) hz (h.mono (same_new (sm.free hp))))
theorem out_lst {vs : List V} {ds : List D} (sm : Same F H) (q : ∀ v F' H', Ext F H F' H' → DV K F' v (.lst ds) → Q v H') (h : DVs K F vs ds) (hz : vs.length ≤ sizeLine) : ∀ p, H p = none → Q (.ref p) (upd H p (.lst vs)) := fun p hp =>
  q _ (upd F p (.lst vs)) _ (Ext.new sm hp) (.lst upd_same hz (h.mono (same_new (sm.free hp))))
theorem okS_app {a b : List Nat} (h : okS a = true) (g : okS b = true) : okS (a ++ b) = true := by
  simp only [okS, List.all_append, Bool.and_eq_true] at *
  exact ⟨h, g⟩
theorem mkS_app (a b : List Nat) : mkS a ++ mkS b = mkS (a ++ b) := by
  show (⟨_⟩ : Str) = ⟨_⟩
  simp [mkS]
theorem flat_len {α : Type} (xs : List α) : ∀ k : Nat, (List.replicate k xs).flatten.length = xs.length * k
  | 0 => by simp
  | k + 1 => by simp [List.replicate_succ, flat_len xs k, Nat.mul_succ, Nat.add_comm]
theorem DVs.rep {vs : List V} {ds : List D} (h : DVs K F vs ds) : ∀ k : Nat, DVs K F (List.replicate k vs).flatten (List.replicate k ds).flatten
  | 0 => .nil
  | k + 1 => by simp only [List.replicate_succ, List.flatten_cons]; exact DVs.append h (DVs.rep h k)
theorem DVs.nil_iff {vs : List V} {ds : List D} (h : DVs K F vs ds) : vs = [] ↔ ds = [] := by
  cases h with
  | nil => simp
  | cons _ _ => simp
end
section
variable {X : Cx}
/-- () + t is t -/
theorem op_catT0 : OpR X (binaryOp .Add) (fun x y H Q => ∃ a b ys, x = .ref a ∧ y = .ref b ∧ SqT X.K H a [] ∧ SqT X.K H b ys ∧ Q (.ref b) H) := by
  intro pins s σ H x y v u Q I rx ry h
  obtain ⟨a, b, ys, rfl, rfl, ha, hb, q⟩ := h
  cases rx
  cases ry
  obtain ⟨its, r1, p1, _⟩ := I.tuple ha
  obtain ⟨its2, r2, p2, _⟩ := I.tuple hb
  have e : its = [] := r1.nil_iff.mpr rfl
  subst e
  obtain ⟨⟨cls, dd, data, sl⟩, ho, hc, n, hd⟩ := id p1
  obtain ⟨⟨cls2, dd2, data2, sl2⟩, ho2, hc2, n2, hd2⟩ := id p2
  simp only at hc hd hc2 hd2
  subst hc hd hc2 hd2
  exact concat_meets ⟨_, ho, rfl⟩ ⟨_, ho2, rfl⟩ noFill_tuple_add seq_tuple_add PySem.F.slot_tuple_add PySem.F.entry_tuple_add (PySem.F.args_tuple_add_2 _ _)
      (tuple_addW0 a b _ its2.toArray n n2 dd dd2 sl sl2 (by simp)) ⟨ho, ho2, ⟨.ref b, H, I, rfl, q⟩⟩
theorem op_addD : OpR X (binaryOp .Add) (rO X.K (binD .add)) := by
  intro pins s σ H x y v u Q I rx ry h
  obtain ⟨F, a, b, d, sm, ha, hb, e, q⟩ := h
  cases a <;> cases b <;> simp only [binD] at e <;> try (cases e; done)
  · cases e
    exact op_add pins s σ H x y v u Q I rx ry ⟨_, _, ha.int, hb.int, out_here sm q (.int _)⟩
  · split at e
    · cases e
      obtain ⟨ea, oa, la⟩ := ha.str
      obtain ⟨eb, ob, lb⟩ := hb.str
      refine op_add_str pins s σ H x y v u Q I rx ry ⟨_, _, ea, eb, by rw [mkS_len, mkS_len, szN_eq]; assumption, ?_⟩
      rw [mkS_app]
      exact out_here sm q (.str _ (okS_app oa ob) (by rw [szN_eq, List.length_append]; assumption))
    · cases e
  · split at e
    · cases e
      rename_i hz
      obtain ⟨p1, v1, e1, s1, z1, r1⟩ := ha.list sm
      obtain ⟨p2, v2, e2, s2, z2, r2⟩ := hb.list sm
      have hz' : v1.length + v2.length ≤ sizeLine := by rw [r1.length, r2.length, szN_eq]; exact hz
      exact op_cat pins s σ H x y v u Q I rx ry ⟨p1, p2, v1, v2, e1, e2, s1, s2, hz', out_lst sm q (r1.append r2) (by rw [List.length_append]; exact hz')⟩
    · cases e
  · split at e
    · cases e
      rename_i hz
      obtain ⟨p1, v1, e1, s1, z1, r1⟩ := ha.tuple sm
      obtain ⟨p2, v2, e2, s2, z2, r2⟩ := hb.tuple sm
      have hz' : v1.length + v2.length ≤ sizeLine := by rw [r1.length, r2.length, szN_eq]; exact hz
      by_cases hv : v1 = []
      · subst hv
        cases r1
        rcases hb with hb | ⟨_, _, _, _, z, _⟩
        · subst e2
          exact op_catT0 pins s σ H x _ v u Q I rx ry ⟨p1, p2, v2, e1, rfl, s1, s2, out_here sm q hb⟩
        · cases z
      · refine op_catT pins s σ H x y v u Q I rx ry ⟨p1, p2, v1, v2, e1, e2, s1, s2, hv, hz', fun z => ?_, fun _ => out_tup sm q (r1.append r2) (by rw [List.length_append]; exact hz')⟩
        subst z
        cases r2
        rcases ha with ha | ⟨_, _, _, _, z, _⟩
        · subst e1
          rw [List.append_nil] at q
          exact out_here sm q ha
        · cases z
    · cases e
theorem op_subD : OpR X (binaryOp .Sub) (rO X.K (binD .sub)) := by
  intro pins s σ H x y v u Q I rx ry h
  obtain ⟨F, a, b, d, sm, ha, hb, e, q⟩ := h
  cases a <;> cases b <;> simp only [binD] at e <;> try (cases e; done)
  cases e
  exact op_sub pins s σ H x y v u Q I rx ry ⟨_, _, ha.int, hb.int, out_here sm q (.int _)⟩
theorem bound64 {a : Int} (h : a.natAbs < 2 ^ 64) : -(2 ^ 64) < a ∧ a < 2 ^ 64 := by omega
theorem tup_mul1 (l : Addr) (its : Array Value) (n : Nat) (dd : Option Addr) (sl : Array (Option Value)) (u : Tok) (hp0 : its.isEmpty = false) :
    Meets (Builtin.«tuple.__mul__» ⟨[.ref l, .int 1 u], []⟩) (fun _ R s => s.heap.get? l = some { cls := .type "tuple", dict := dd, data := .seq its n, slots := sl } ∧ R (.ok (.ret (Value.ref l))) s) :=
  .of_wp fun prog w A R s h => by
    obtain ⟨hp, g, d, tk, os⟩ := s
    obtain ⟨hl, h⟩ := h
    have c1 : (its.isEmpty || (1 : Int) == 1) = true := by rw [hp0]; rfl
    have c0 : (decide ((1 : Int) < -(2 ^ 63)) || decide ((1 : Int) ≥ 2 ^ 63)) = false := rfl
    have f1 := AutoSeq1.idx_int
    wp_walk using wpAny_loadPart' hl
    exact ⟨_, rfl, h⟩
theorem op_repT1 : OpR X (binaryOp .Mult) (fun x y H Q => ∃ l xs, x = .ref l ∧ y = .int 1 ∧ SqT X.K H l xs ∧ xs ≠ [] ∧ Q (.ref l) H) := by
  intro pins s σ H x y v u Q I rx ry h
  obtain ⟨l, xs, rfl, rfl, hT, hne, q⟩ := h
  cases rx
  obtain ⟨t, rfl⟩ := ry
  obtain ⟨its, r, ⟨⟨cls, dd, data, sl⟩, ho, hc, n, hd⟩, hs⟩ := I.tuple hT
  simp only at hc hd
  subst hc hd
  have hi : its.toArray.isEmpty = false := by
    cases its with
    | nil => cases r; exact absurd rfl hne
    | cons a b => rfl
  exact wpAny_binaryOp_repeat_ref (T := "tuple") (U := "int") (by decide) ⟨_, ho, rfl⟩ (fun s' => typeIs_int s' 1 t) noFill_tuple_mul F.fills_int_mul F.slot_int_rmul repeat_tuple F.slot_int_index.lookup
    (call_meets F.slot_int_rmul (typeIs_int s 1 t) F.entry_int_rmul (F.args_int_rmul_2 _ _) (int_rmul_tuple 1 t l its.toArray n dd sl)
      ⟨ho, rfl, ⟨_, ho, rfl⟩, call_meets F.slot_tuple_mul ⟨_, ho, rfl⟩ F.entry_tuple_mul (F.args_tuple_mul_2 _ _) (tup_mul1 l its.toArray n dd sl t hi) ⟨ho, ⟨.ref l, H, I, rfl, q⟩⟩⟩)
theorem op_mulD : OpR X (binaryOp .Mult) (rO X.K (binD .mul)) := by
  intro pins s σ H x y v u Q I rx ry h
  obtain ⟨F, a, b, d, sm, ha, hb, e, q⟩ := h
  cases a <;> cases b <;> simp only [binD] at e <;> try (cases e; done)
  · split at e
    · cases e
      rename_i hz
      refine op_mul pins s σ H x y v u Q I rx ry ⟨_, _, ha.int, hb.int, ?_, out_here sm q (.int _)⟩
      rcases hz with hz | hz
      · exact .inl (bound64 hz)
      · exact .inr (bound64 hz)
    · cases e
  · split at e
    · cases e
      rename_i hz
      obtain ⟨p1, v1, e1, s1, z1, r1⟩ := ha.list sm
      rename_i ds k
      have hz' : v1.length * k.toNat ≤ sizeLine := by rw [r1.length, szN_eq]; exact hz.2.1
      exact op_rep pins s σ H x y v u Q I rx ry ⟨p1, _, v1, e1, hb.int, s1, by omega, by omega, hz', out_lst sm q (r1.rep _) (by rw [flat_len]; exact hz')⟩
    · cases e
  · split at e
    · cases e
      rename_i ds k hz
      have ha0 := ha
      obtain ⟨p1, v1, e1, s1, z1, r1⟩ := ha.tuple sm
      by_cases hk : k = 1
      · subst hk
        refine op_repT1 pins s σ H x y v u Q I rx ry ⟨p1, v1, e1, hb.int, s1, fun z => hz.1 (r1.nil_iff.mp z), ?_⟩
        have q' := q x F H (Ext.refl sm)
        rw [e1] at q'
        refine q' ?_
        rw [show (List.replicate (Int.toNat 1) ds).flatten = ds by simp]
        rw [e1] at ha0
        rcases ha0 with ha0 | ⟨_, _, _, _, h2, _⟩
        · exact ha0
        · cases h2
      refine op_repT pins s σ H x y v u Q I rx ry ⟨p1, _, v1, e1, hb.int, s1, fun z => hz.1 (r1.nil_iff.mp z), by omega, hz.2.2.1, by rw [r1.length]; exact hz.2.2.2, out_tup sm q (r1.rep _) ?_⟩
      rw [flat_len, szN_eq, r1.length]
      obtain ⟨_, h1, h2, h3⟩ := hz
      have : ds.length * k.toNat ≤ 1000 * 1000 := Nat.mul_le_mul h3 (by omega)
      exact Nat.le_trans this (by decide)
    · cases e
theorem op_fdivD : OpR X (binaryOp .FloorDiv) (rO X.K (binD .fdiv)) := by
  intro pins s σ H x y v u Q I rx ry h
  obtain ⟨F, a, b, d, sm, ha, hb, e, q⟩ := h
  cases a <;> cases b <;> simp only [binD] at e <;> try (cases e; done)
  split at e
  · cases e
    exact op_fdiv pins s σ H x y v u Q I rx ry ⟨_, _, ha.int, hb.int, by assumption, out_here sm q (.int _)⟩
  · cases e
theorem op_modD : OpR X (binaryOp .Mod) (rO X.K (binD .mod)) := by
  intro pins s σ H x y v u Q I rx ry h
  obtain ⟨F, a, b, d, sm, ha, hb, e, q⟩ := h
  cases a <;> cases b <;> simp only [binD] at e <;> try (cases e; done)
  split at e
  · cases e
    exact op_mod pins s σ H x y v u Q I rx ry ⟨_, _, ha.int, hb.int, by assumption, out_here sm q (.int _)⟩
  · cases e
theorem op_powD : OpR X (binaryOp .Pow) (rO X.K (binD .pow)) := by
  intro pins s σ H x y v u Q I rx ry h
  obtain ⟨F, a, b, d, sm, ha, hb, e, q⟩ := h
  cases a <;> cases b <;> simp only [binD] at e <;> try (cases e; done)
  split at e
  · cases e
    exact op_pow pins s σ H x y v u Q I rx ry ⟨_, _, ha.int, hb.int, by assumption, out_here sm q (.int _)⟩
  · cases e
theorem op_binD (o : AOp) : OpR X (binaryOp o.op) (rO X.K (binD o)) := by
  cases o
  · exact op_addD
  · exact op_subD
  · exact op_mulD
  · exact op_fdivD
  · exact op_modD
  · exact op_powD
end
inductive COp where
  | eq | ne | lt | le | gt | ge | inn | nin
  deriving DecidableEq
def COp.op : COp → CmpOp
  | .eq => .Eq | .ne => .NotEq | .lt => .Lt | .le => .LtE | .gt => .Gt | .ge => .GtE | .inn => .In | .nin => .NotIn
def inOk (a : D) (bs : List D) : Bool := noScr a && noScrs bs && decide (min (deps bs) (dep a) ≤ 60)
def anyD (a : D) : List D → Bool
  | [] => false
  | b :: bs => eqD b a || anyD a bs
def inD : D → D → Option Bool
  | .str [c], .str z => some (decide (c ∈ z))
  | a, .lst bs => if inOk a bs then some (anyD a bs) else none
  | a, .tup bs => if inOk a bs then some (anyD a bs) else none
  | _, _ => none
def cmpD : COp → D → D → Option Bool
  | .eq, a, b => if eqOk a b then some (eqD a b) else none
  | .ne, a, b => if eqOk a b then some (!eqD a b) else none
  | .lt, .int a, .int b => some (decide (a < b))
  | .le, .int a, .int b => some (decide (a ≤ b))
  | .gt, .int a, .int b => some (decide (b < a))
  | .ge, .int a, .int b => some (decide (b ≤ a))
  | .lt, .str a, .str b => some (decide (a < b))
  | .le, .str a, .str b => some (!decide (b < a))
  | .gt, .str a, .str b => some (decide (b < a))
  | .ge, .str a, .str b => some (!decide (a < b))
  | .inn, a, b => inD a b
  | .nin, a, b => (inD a b).map (! ·)
  | _, _, _ => none
def rC (K : PySem.W.Frag) (g : D → D → Option Bool) : R2 := fun x y H Q => ∃ F a b d, Same F H ∧ DVB K F H x a ∧ DVB K F H y b ∧ g a b = some d ∧ Q (.bl d) H
theorem any_toPys (a : D) (ha : noScr a = true) : ∀ bs : List D, noScrs bs = true → ((toPys bs).any fun z => PyData.eqv z (toPy a)) = anyD a bs
  | [], _ => rfl
  | b :: bs, h => by
    simp only [noScrs, Bool.and_eq_true] at h
    simp only [toPys, List.any_cons, anyD, eq_toPy b a h.1 ha, any_toPys a ha bs h.2]
section
variable {X : Cx}
theorem inD_cases {a b : D} {r : Bool} (h : inD a b = some r) : (∃ c z, a = .str [c] ∧ b = .str z ∧ r = decide (c ∈ z)) ∨ (∃ bs, (b = .lst bs ∨ b = .tup bs) ∧ inOk a bs = true ∧ r = anyD a bs) := by
  unfold inD at h
  split at h
  · cases h; exact .inl ⟨_, _, rfl, rfl, rfl⟩
  · split at h
    · cases h; exact .inr ⟨_, .inl rfl, by assumption, rfl⟩
    · cases h
  · split at h
    · cases h; exact .inr ⟨_, .inr rfl, by assumption, rfl⟩
    · cases h
  · cases h
theorem op_inX (hu : X.A.units + 64 < cLine) : OpR X (compareOp .In) (rC X.K inD) := by
  intro pins s σ H x y v u Q I rx ry h
  obtain ⟨F, a, b, d, sm, ha, hb, e, q⟩ := h
  rcases inD_cases e with ⟨c, z, rfl, rfl, rfl⟩ | ⟨bs, hbs, ok, rfl⟩
  · obtain ⟨ea, oa, la⟩ := ha.str
    obtain ⟨eb, ob, lb⟩ := hb.str
    refine op_in_sign pins s σ H x y v u Q I rx ry ⟨c, mkS z, ea, eb, ?_⟩
    rw [mkS_cps]; exact q
  · simp only [inOk, Bool.and_eq_true, decide_eq_true_eq] at ok
    have nb : noScr b = true := by rcases hbs with h | h <;> rw [h, noScr] <;> exact ok.1.2
    obtain ⟨as, r1⟩ := Dp.reads I _ x v (ha.dp sm ok.1.1) rx
    obtain ⟨bs', r2⟩ := Dp.reads I _ y u (hb.dp sm nb) ry
    have l2 := hb.lay
    have hq : Q (.bl ((toPys bs).any fun z => PyData.eqv z (toPy a))) H := by rw [any_toPys a ok.1.1 bs ok.1.2]; exact q
    have room : X.A.units + 1 + min (PyData.depthAll (toPys bs)) (toPy a).depth < cLine := by rw [depth_toPy a ok.1.1, depth_toPys bs ok.1.2]; omega
    rcases hbs with rfl | rfl
    · simp only [toPy] at r2 l2
      exact SeqAt.in_list_reads r2 r1 l2 ha.lay room ⟨.bl _, H, I, rfl, hq⟩
    · simp only [toPy] at r2 l2
      exact SeqAt.in_tuple_reads r2 r1 l2 ha.lay room ⟨.bl _, H, I, rfl, hq⟩
theorem op_ninX (hu : X.A.units + 64 < cLine) : OpR X (compareOp .NotIn) (rC X.K fun a b => (inD a b).map (! ·)) := by
  intro pins s σ H x y v u Q I rx ry h
  obtain ⟨F, a, b, d, sm, ha, hb, e, q⟩ := h
  dsimp only at e
  obtain ⟨k, e', rfl⟩ : ∃ k, inD a b = some k ∧ d = !k := by
    cases z : inD a b with
    | none => rw [z] at e; cases e
    | some k => rw [z] at e; cases e; exact ⟨k, rfl, rfl⟩
  clear e
  rcases inD_cases e' with ⟨c, z, rfl, rfl, rfl⟩ | ⟨bs, hbs, ok, rfl⟩
  · obtain ⟨ea, oa, la⟩ := ha.str
    obtain ⟨eb, ob, lb⟩ := hb.str
    refine op_notIn_sign pins s σ H x y v u Q I rx ry ⟨c, mkS z, ea, eb, ?_⟩
    rw [mkS_cps]; exact q
  · simp only [inOk, Bool.and_eq_true, decide_eq_true_eq] at ok
    have nb : noScr b = true := by rcases hbs with h | h <;> rw [h, noScr] <;> exact ok.1.2
    obtain ⟨as, r1⟩ := Dp.reads I _ x v (ha.dp sm ok.1.1) rx
    obtain ⟨bs', r2⟩ := Dp.reads I _ y u (hb.dp sm nb) ry
    have l2 := hb.lay
    have hq : Q (.bl (!(toPys bs).any fun z => PyData.eqv z (toPy a))) H := by rw [any_toPys a ok.1.1 bs ok.1.2]; exact q
    have room : X.A.units + 1 + min (PyData.depthAll (toPys bs)) (toPy a).depth < cLine := by rw [depth_toPy a ok.1.1, depth_toPys bs ok.1.2]; omega
    rcases hbs with rfl | rfl
    · simp only [toPy] at r2 l2
      exact SeqAt.notIn_list_reads r2 r1 l2 ha.lay room ⟨.bl _, H, I, rfl, hq⟩
    · simp only [toPy] at r2 l2
      exact SeqAt.notIn_tuple_reads r2 r1 l2 ha.lay room ⟨.bl _, H, I, rfl, hq⟩
theorem op_cmpD (hu : X.A.units + 64 < cLine) (o : COp) : OpR X (compareOp o.op) (rC X.K (cmpD o)) := by
  intro pins s σ H x y v u Q I rx ry h
  obtain ⟨F, a, b, d, sm, ha, hb, e, q⟩ := h
  cases o
  · simp only [cmpD] at e
    split at e
    · cases e
      exact op_eqX hu pins s σ H x y v u Q I rx ry ⟨F, a, b, sm, ha, hb, by assumption, q⟩
    · cases e
  · simp only [cmpD] at e
    split at e
    · cases e
      exact op_neX hu pins s σ H x y v u Q I rx ry ⟨F, a, b, sm, ha, hb, by assumption, q⟩
    · cases e
  · cases a <;> cases b <;> simp only [cmpD] at e <;> try (cases e; done)
    · cases e
      exact op_lt pins s σ H x y v u Q I rx ry ⟨_, _, ha.int, hb.int, q⟩
    · cases e
      refine op_lt_str pins s σ H x y v u Q I rx ry ⟨_, _, ha.str.1, hb.str.1, ?_⟩
      rw [mkS_cps, mkS_cps]; exact q
  · cases a <;> cases b <;> simp only [cmpD] at e <;> try (cases e; done)
    · cases e
      exact op_le pins s σ H x y v u Q I rx ry ⟨_, _, ha.int, hb.int, q⟩
    · cases e
      refine op_le_str pins s σ H x y v u Q I rx ry ⟨_, _, ha.str.1, hb.str.1, ?_⟩
      rw [mkS_cps, mkS_cps]; exact q
  · cases a <;> cases b <;> simp only [cmpD] at e <;> try (cases e; done)
    · cases e
      exact op_gt pins s σ H x y v u Q I rx ry ⟨_, _, ha.int, hb.int, q⟩
    · cases e
      refine op_gt_str pins s σ H x y v u Q I rx ry ⟨_, _, ha.str.1, hb.str.1, ?_⟩
      rw [mkS_cps, mkS_cps]; exact q
  · cases a <;> cases b <;> simp only [cmpD] at e <;> try (cases e; done)
    · cases e
      exact op_ge pins s σ H x y v u Q I rx ry ⟨_, _, ha.int, hb.int, q⟩
    · cases e
      refine op_ge_str pins s σ H x y v u Q I rx ry ⟨_, _, ha.str.1, hb.str.1, ?_⟩
      rw [mkS_cps, mkS_cps]; exact q
  · exact op_inX hu pins s σ H x y v u Q I rx ry ⟨F, a, b, d, sm, ha, hb, by cases a <;> cases b <;> exact e, q⟩
  · exact op_ninX hu pins s σ H x y v u Q I rx ry ⟨F, a, b, d, sm, ha, hb, by cases a <;> cases b <;> exact e, q⟩
end
end PD
namespace PD
open PySem PySem.Spec PyProof.Rows L2
section
variable {X : Cx} {c : Cfg} {x y z e : Expr} {pos : Pos} {f g h : List S → R D}
theorem kb (hK : c.K = X.K) {F H : Hp} {v : V} {d : D} (p : DVB c.K F H v d) : DVB X.K F H v d := hK ▸ p
def fBin (o : AOp) (f g : List S → R D) : List S → R D := fun δ => (f δ).bind fun a => (g δ).bind fun b => R.of (binD o a b)
theorem e_bin (hK : c.K = X.K) (o : AOp) (hx : PE X x (tB c f)) (hy : PE X y (tB c g)) : PE X (.BinOp x o.op y pos) (tD c (fBin o f g)) :=
  e_two (r := rO X.K (binD o)) anti_D hx hy (fun h1 h2 => pe_op (op_binD o) h1 h2) fun σ F H u v du dv Q sm h1 h2 a => by
    rw [hK] at h1 h2
    cases q : binD o du dv with
    | none => rw [q] at a; exact a.elim
    | some d =>
      rw [q] at a
      refine ⟨F, du, dv, d, sm, h1, h2, q, fun v F' H' e p => a v F' H' e ?_⟩
      show DV c.K F' v d
      rw [hK]; exact p
/-- list + list: a new list -/
def catD : D → D → R (List D)
  | .lst a, .lst b => if a.length + b.length ≤ szN then .ok (a ++ b) else .bad
  | _, _ => .bad
def fCat (f g : List S → R D) : List S → R (List D) := fun δ => (f δ).bind fun a => (g δ).bind fun b => catD a b
theorem n_cat (hK : c.K = X.K) (hx : PE X x (tB c f)) (hy : PE X y (tB c g)) : PE X (.BinOp x .Add y pos) (tN c (fCat f g)) :=
  e_two (r := rCat) anti_N hx hy (fun h1 h2 => pe_op op_cat h1 h2) fun σ F H u v du dv Q sm h1 h2 a => by
    unfold catD at a
    split at a
    · split at a
      · rename_i hz
        obtain ⟨p1, v1, e1, s1, z1, r1⟩ := h1.list sm
        obtain ⟨p2, v2, e2, s2, z2, r2⟩ := h2.list sm
        have hz' : v1.length + v2.length ≤ sizeLine := by rw [r1.length, r2.length, szN_eq]; exact hz
        refine ⟨p1, p2, v1, v2, e1, e2, s1, s2, hz', fun p hp => ?_⟩
        exact a (.ref p) F _ (Ext.free sm hp) ⟨p, v1 ++ v2, rfl, hp, sm.free hp, upd_same, by rw [List.length_append]; exact hz', r1.append r2⟩
      · exact a.elim
    · exact a.elim
def repD : D → D → R (List D)
  | .lst a, .int k => if k < 2 ^ 20 ∧ a.length * k.toNat ≤ szN ∧ -1 < k then .ok (List.replicate k.toNat a).flatten else .bad
  | _, _ => .bad
def fRep (f g : List S → R D) : List S → R (List D) := fun δ => (f δ).bind fun a => (g δ).bind fun b => repD a b
theorem n_rep (hK : c.K = X.K) (hx : PE X x (tB c f)) (hy : PE X y (tB c g)) : PE X (.BinOp x .Mult y pos) (tN c (fRep f g)) :=
  e_two (r := rRep) anti_N hx hy (fun h1 h2 => pe_op op_rep h1 h2) fun σ F H u v du dv Q sm h1 h2 a => by
    unfold repD at a
    split at a
    · split at a
      · rename_i ds k hz
        obtain ⟨p1, v1, e1, s1, z1, r1⟩ := h1.list sm
        have hz' : v1.length * k.toNat ≤ sizeLine := by rw [r1.length, szN_eq]; exact hz.2.1
        refine ⟨p1, k, v1, e1, h2.int, s1, by omega, by omega, hz', fun p hp => ?_⟩
        exact a (.ref p) F _ (Ext.free sm hp) ⟨p, _, rfl, hp, sm.free hp, upd_same, by rw [flat_len]; exact hz', r1.rep _⟩
      · exact a.elim
    · exact a.elim
def fCmp (o : COp) (f g : List S → R D) : List S → R D := fun δ => (f δ).bind fun a => (g δ).bind fun b => (R.of (cmpD o a b)).bind fun k => .ok (.bl k)
theorem of_bl {σ : L2.St} {F H : Hp} {o : Option Bool} {Q : VK} (a : Aft c σ (pD c) F H ((R.of o).bind fun k => .ok (.bl k)) Q) (sm : Same F H) : ∃ k, o = some k ∧ Q (.bl k) H := by
  cases o with
  | none => exact a.elim
  | some k => exact ⟨k, rfl, a.ret (v := .bl k) sm (.bl k)⟩
theorem mark_o (o : COp) (hb : ∀ es k p, y ≠ .Set es k p) : behindInMarks o.op y = false := by
  cases y <;> first | rfl | exact absurd rfl (hb _ _ _)
theorem e_cmp (hK : c.K = X.K) (hu : X.A.units + 64 < cLine) (o : COp) (hx : PE X x (tB c f)) (hy : PE X y (tB c g)) (hb : ∀ es k p, y ≠ .Set es k p) : PE X (.Compare x [o.op] [y] pos) (tD c (fCmp o f g)) :=
  e_two (r := rC X.K (cmpD o)) anti_D hx hy (fun h1 h2 => pe_cmpR (op_cmpD hu o) h1 h2 (mark_o o hb)) fun σ F H u v du dv Q sm h1 h2 a => by
    rw [hK] at h1 h2
    obtain ⟨k, e, q⟩ := of_bl a sm
    exact ⟨F, du, dv, k, sm, h1, h2, e, q⟩
def fChain (o o' : COp) (f g h : List S → R D) : List S → R D := fun δ => (f δ).bind fun a => (g δ).bind fun b => (R.of (cmpD o a b)).bind fun k => if k then (h δ).bind fun d => (R.of (cmpD o' b d)).bind fun k' => .ok (.bl k') else .ok (.bl false)
theorem e_chain (hK : c.K = X.K) (hu : X.A.units + 64 < cLine) (o o' : COp) (hx : PE X x (tB c f)) (hy : PE X y (tB c g)) (hz : PE X z (tB c h)) (hb : ∀ es k p, z ≠ .Set es k p) :
    PE X (.Compare x [o.op, o'.op] [y, z] pos) (tD c (fChain o o' f g h)) :=
  (pe_chain (op_cmpD hu o) (op_cmpD hu o') hx hy hz (by show behindInMarks o'.op z = false; exact mark_o o' hb)).impD fun σ H Q ⟨F, δ, rl, a⟩ => ⟨F, δ, rl, (a.bind anti_D).mono fun u H1 ⟨du, F1, e1, p1, a1⟩ =>
    ⟨F1, δ, rl.ext e1, (a1.bind anti_D).mono fun v H2 ⟨dv, F2, e2, p2, a2⟩ => by
      have p1' := p1.ext e2
      replace p1' := kb hK p1'; replace p2 := kb hK p2
      cases q : cmpD o du dv with
      | none => rw [q] at a2; exact a2.elim
      | some k =>
        rw [q] at a2
        refine ⟨F2, du, dv, k, e2.fh, p1', p2, q, k, rfl, ?_⟩
        cases k with
        | false => exact a2.ret (v := .bl false) e2.fh (.bl false)
        | true =>
          refine ⟨F2, δ, (rl.ext e1).ext e2, (Aft.bind anti_D (show Aft c σ (pD c) F2 H2 ((h δ).bind fun d => (R.of (cmpD o' dv d)).bind fun k' => .ok (.bl k')) Q from a2)).mono fun w H3 ⟨dw, F3, e3, p3, a3⟩ => ?_⟩
          obtain ⟨k', e', q'⟩ := of_bl a3 e3.fh
          replace p3 := kb hK p3
          exact ⟨F3, dv, dw, k', e3.fh, p2.ext e3, p3, e', q'⟩⟩⟩
def truD : D → Option Bool
  | .non => some false
  | .bl b => some b
  | .int i => some (i != 0)
  | .str l => some (!l.isEmpty)
  | .lst l => some (!l.isEmpty)
  | .tup l => some (!l.isEmpty)
  | .scr _ => none
  | .dct _ _ => none
theorem isEmpty_eq {K : PySem.W.Frag} {F : Hp} {vs : List V} {ds : List D} (h : DVs K F vs ds) : (!vs.isEmpty) = !ds.isEmpty := by cases h <;> rfl
theorem tru_of {F H : Hp} {v : V} {d : D} {k : Bool} (sm : Same F H) (h : DVB X.K F H v d) (e : truD d = some k) : TruV X.K v H k := by
  cases d with
  | non => rw [h.non]; cases e; rfl
  | bl b => rw [h.bl]; cases e; rfl
  | int i => rw [h.int]; cases e; rfl
  | str l =>
    obtain ⟨ea, oa, la⟩ := h.str
    rw [ea]
    cases e
    refine ⟨by rw [mkS_len]; exact la, ?_⟩
    rw [mkS_len]
    cases l <;> simp <;> omega
  | lst l =>
    obtain ⟨a, vs, ea, s1, z, r⟩ := h.list sm
    rw [ea]; cases e
    exact .inl ⟨vs, SqL.of s1, (isEmpty_eq r).symm⟩
  | tup l =>
    obtain ⟨a, vs, ea, s1, z, r⟩ := h.tuple sm
    rw [ea]; cases e
    exact .inr (.inl ⟨vs, s1, (isEmpty_eq r).symm⟩)
  | scr _ => cases e
  | dct _ _ => cases e
def plainT : Expr → Bool
  | .UnaryOp .Not _ _ => false
  | .BoolOp .. => false
  | .IfExp .. => false
  | .Compare .. => false
  | _ => true
theorem plain_true {env : Env} (hp : plainT e = true) (whole : Sem Value) : isTrue e env whole = (do let v ← whole; standAt e.pos; holding [v] (truthy v)) := by
  cases e <;> first | rfl | (exfalso; simp [plainT] at hp; done) | skip
  rename_i op _ _
  cases op <;> first | rfl | (exfalso; simp [plainT] at hp; done)
def fTru (f : List S → R D) : List S → R Bool := fun δ => (f δ).bind fun a => R.of (truD a)
theorem t_val (hK : c.K = X.K) (hx : PE X e (tB c f)) (hp : plainT e = true) : PT X e (tT c (fTru f)) :=
  (pt_truth hx (plain_true hp)).impD fun σ H Q ⟨F, δ, rl, a⟩ => ⟨F, δ, rl, (a.bind anti_T).mono fun u H1 ⟨du, F1, e1, p1, a1⟩ => by
    replace p1 := kb hK p1
    cases q : truD du with
    | none => rw [q] at a1; exact a1.elim
    | some k => rw [q] at a1; exact ⟨k, tru_of e1.fh p1 q, a1.ret e1.fh rfl⟩⟩
theorem t_cmp (hK : c.K = X.K) (hu : X.A.units + 64 < cLine) (o : COp) (hx : PE X x (tB c f)) (hy : PE X y (tB c g)) (hb : ∀ es k p, y ≠ .Set es k p) : PT X (.Compare x [o.op] [y] pos) (tT c (fTru (fCmp o f g))) :=
  (pt_cmpR (op_cmpD hu o) hx hy (mark_o o hb)).impD fun σ H Q ⟨F, δ, rl, a⟩ => by
    unfold fTru fCmp at a
    refine ⟨F, δ, rl, ?_⟩
    cases q1 : f δ with
    | exc k => simp only [q1, R.bind_ok, R.bind_exc, R.bind_bad, R.of, truD, if_true, if_false] at a; exact a
    | bad => simp only [q1, R.bind_ok, R.bind_exc, R.bind_bad, R.of, truD, if_true, if_false] at a; exact a
    | ok du =>
      simp only [q1, R.bind_ok, R.bind_exc, R.bind_bad, R.of, truD, if_true, if_false] at a
      refine fun u F1 H1 e1 p1 => ⟨F1, δ, rl.ext e1, ?_⟩
      cases q2 : g δ with
      | exc k => simp only [q2, R.bind_ok, R.bind_exc, R.bind_bad, R.of, truD, if_true, if_false] at a; exact fun F' H' e' => a F' H' (e1.trans e')
      | bad => simp only [q2, R.bind_ok, R.bind_exc, R.bind_bad, R.of, truD, if_true, if_false] at a; exact a
      | ok dv =>
        simp only [q2, R.bind_ok, R.bind_exc, R.bind_bad, R.of, truD, if_true, if_false] at a
        intro v F2 H2 e2 p2
        have p1' := DVB.ext p1 e2
        replace p1' := kb hK p1'; replace p2 := kb hK p2
        cases q : cmpD o du dv with
        | none => simp only [q, R.bind_ok, R.bind_exc, R.bind_bad, R.of, truD, if_true, if_false] at a; exact a.elim
        | some k =>
          simp only [q, R.bind_ok, R.bind_exc, R.bind_bad, R.of, truD, if_true, if_false] at a
          exact ⟨F2, du, dv, k, e2.fh, p1', p2, q, k, rfl, a k F2 H2 (e1.trans e2) rfl⟩
theorem t_chain (hK : c.K = X.K) (hu : X.A.units + 64 < cLine) (o o' : COp) (hx : PE X x (tB c f)) (hy : PE X y (tB c g)) (hz : PE X z (tB c h)) (hb : ∀ es k p, z ≠ .Set es k p) :
    PT X (.Compare x [o.op, o'.op] [y, z] pos) (tT c (fTru (fChain o o' f g h))) :=
  (pt_chain (op_cmpD hu o) (op_cmpD hu o') hx hy hz (by show behindInMarks o'.op z = false; exact mark_o o' hb)).impD fun σ H Q ⟨F, δ, rl, a⟩ => by
    unfold fTru fChain at a
    refine ⟨F, δ, rl, ?_⟩
    cases q1 : f δ with
    | exc k => simp only [q1, R.bind_ok, R.bind_exc, R.bind_bad, R.of, truD, if_true, if_false] at a; exact a
    | bad => simp only [q1, R.bind_ok, R.bind_exc, R.bind_bad, R.of, truD, if_true, if_false] at a; exact a
    | ok du =>
      simp only [q1, R.bind_ok, R.bind_exc, R.bind_bad, R.of, truD, if_true, if_false] at a
      refine fun u F1 H1 e1 p1 => ⟨F1, δ, rl.ext e1, ?_⟩
      cases q2 : g δ with
      | exc k => simp only [q2, R.bind_ok, R.bind_exc, R.bind_bad, R.of, truD, if_true, if_false] at a; exact fun F' H' e' => a F' H' (e1.trans e')
      | bad => simp only [q2, R.bind_ok, R.bind_exc, R.bind_bad, R.of, truD, if_true, if_false] at a; exact a
      | ok dv =>
        simp only [q2, R.bind_ok, R.bind_exc, R.bind_bad, R.of, truD, if_true, if_false] at a
        intro v F2 H2 e2 p2
        have p1' := DVB.ext p1 e2
        replace p1' := kb hK p1'; replace p2 := kb hK p2
        cases q : cmpD o du dv with
        | none => simp only [q, R.bind_ok, R.bind_exc, R.bind_bad, R.of, truD, if_true, if_false] at a; exact a.elim
        | some k =>
          simp only [q, R.bind_ok, R.bind_exc, R.bind_bad, R.of, truD, if_true, if_false] at a
          refine ⟨F2, du, dv, k, e2.fh, p1', p2, q, k, rfl, ?_⟩
          cases k with
          | false => exact ⟨false, rfl, a false F2 H2 (e1.trans e2) rfl⟩
          | true =>
            refine ⟨F2, δ, (rl.ext e1).ext e2, ?_⟩
            cases q3 : h δ with
            | exc k => simp only [q3, R.bind_ok, R.bind_exc, R.bind_bad, R.of, truD, if_true, if_false] at a; exact fun F' H' e' => a F' H' (e1.trans (e2.trans e'))
            | bad => simp only [q3, R.bind_ok, R.bind_exc, R.bind_bad, R.of, truD, if_true, if_false] at a; exact a
            | ok dw =>
              simp only [q3, R.bind_ok, R.bind_exc, R.bind_bad, R.of, truD, if_true, if_false] at a
              intro w F3 H3 e3 p3
              replace p3 := kb hK p3
              cases q' : cmpD o' dv dw with
              | none => simp only [q', R.bind_ok, R.bind_exc, R.bind_bad, R.of, truD, if_true, if_false] at a; exact a.elim
              | some k' =>
                simp only [q', R.bind_ok, R.bind_exc, R.bind_bad, R.of, truD, if_true, if_false] at a
                exact ⟨F3, dv, dw, k', e3.fh, DVB.ext p2 e3, p3, q', k', rfl, a k' F3 H3 (e1.trans (e2.trans e3)) rfl⟩
variable {tx ty : List S → R Bool} {rest : List Expr}
def fTNot (f : List S → R Bool) : List S → R Bool := fun δ => (f δ).bind fun k => .ok (!k)
def fTAnd (f g : List S → R Bool) : List S → R Bool := fun δ => (f δ).bind fun k => if k then g δ else .ok false
def fTOr (f g : List S → R Bool) : List S → R Bool := fun δ => (f δ).bind fun k => if k then .ok true else g δ
theorem t_not (hx : PT X e (tT c tx)) : PT X (.UnaryOp .Not e pos) (tT c (fTNot tx)) :=
  (pt_not hx).impD fun σ H Q ⟨F, δ, rl, a⟩ => ⟨F, δ, rl, (a.bind anti_T).mono fun u H1 ⟨du, F1, e1, p1, a1⟩ => by
    subst p1
    exact a1.ret e1.fh rfl⟩
theorem t_and (hx : PT X x (tT c tx)) (hy : PW X (.BoolOp .And (y :: rest) pos) (tT c ty)) : PW X (.BoolOp .And (x :: y :: rest) pos) (tT c (fTAnd tx ty)) :=
  (pw_and hx hy).impD fun σ H Q ⟨F, δ, rl, a⟩ => ⟨F, δ, rl, (a.bind anti_T).mono fun u H1 ⟨du, F1, e1, p1, a1⟩ => by
    subst p1
    cases u with
    | true => exact ⟨F1, δ, rl.ext e1, a1⟩
    | false => exact a1.ret e1.fh rfl⟩
theorem t_or (hx : PT X x (tT c tx)) (hy : PW X (.BoolOp .Or (y :: rest) pos) (tT c ty)) : PW X (.BoolOp .Or (x :: y :: rest) pos) (tT c (fTOr tx ty)) :=
  (pw_or hx hy).impD fun σ H Q ⟨F, δ, rl, a⟩ => ⟨F, δ, rl, (a.bind anti_T).mono fun u H1 ⟨du, F1, e1, p1, a1⟩ => by
    subst p1
    cases u with
    | false => exact ⟨F1, δ, rl.ext e1, a1⟩
    | true => exact a1.ret e1.fh rfl⟩
def fAnd (f g : List S → R D) : List S → R D := fun δ => (f δ).bind fun a => (R.of (truD a)).bind fun k => if k then g δ else .ok a
def fOr (f g : List S → R D) : List S → R D := fun δ => (f δ).bind fun a => (R.of (truD a)).bind fun k => if k then .ok a else g δ
def fNot (f : List S → R D) : List S → R D := fun δ => (f δ).bind fun a => (R.of (truD a)).bind fun k => .ok (.bl (!k))
theorem e_and (hK : c.K = X.K) (hx : PE X x (tD c f)) (hy : PE X (.BoolOp .And (y :: rest) pos) (tD c g)) : PE X (.BoolOp .And (x :: y :: rest) pos) (tD c (fAnd f g)) :=
  (pe_andT hx hy).impD fun σ H Q ⟨F, δ, rl, a⟩ => ⟨F, δ, rl, (a.bind anti_D).mono fun u H1 ⟨du, F1, e1, p1, a1⟩ => by
    cases q : truD du with
    | none => rw [q] at a1; exact a1.elim
    | some k =>
      rw [q] at a1
      refine ⟨k, tru_of e1.fh (.inl (by rw [← hK]; exact p1)) q, ?_⟩
      cases k with
      | true => exact ⟨F1, δ, rl.ext e1, a1⟩
      | false => exact a1.ret e1.fh p1⟩
theorem e_or (hK : c.K = X.K) (hx : PE X x (tD c f)) (hy : PE X (.BoolOp .Or (y :: rest) pos) (tD c g)) : PE X (.BoolOp .Or (x :: y :: rest) pos) (tD c (fOr f g)) :=
  (pe_orT hx hy).impD fun σ H Q ⟨F, δ, rl, a⟩ => ⟨F, δ, rl, (a.bind anti_D).mono fun u H1 ⟨du, F1, e1, p1, a1⟩ => by
    cases q : truD du with
    | none => rw [q] at a1; exact a1.elim
    | some k =>
      rw [q] at a1
      refine ⟨k, tru_of e1.fh (.inl (by rw [← hK]; exact p1)) q, ?_⟩
      cases k with
      | false => exact ⟨F1, δ, rl.ext e1, a1⟩
      | true => exact a1.ret e1.fh p1⟩
theorem e_not (hK : c.K = X.K) (hx : PE X x (tB c f)) : PE X (.UnaryOp .Not x pos) (tD c (fNot f)) :=
  (pe_notT hx).impD fun σ H Q ⟨F, δ, rl, a⟩ => ⟨F, δ, rl, (a.bind anti_D).mono fun u H1 ⟨du, F1, e1, p1, a1⟩ => by
    obtain ⟨k, e, q⟩ : ∃ k, truD du = some k ∧ Q (.bl (!k)) H1 := by
      cases q : truD du with
      | none => rw [q] at a1; exact a1.elim
      | some k => rw [q] at a1; exact ⟨k, rfl, a1.ret (v := .bl (!k)) e1.fh (.bl _)⟩
    exact ⟨k, tru_of e1.fh (by rw [← hK]; exact p1) e, q⟩⟩
def fNeg (f : List S → R D) : List S → R D := fun δ => (f δ).bind fun a => match a with | .int i => .ok (.int (-i)) | _ => .bad
theorem e_neg (hx : PE X x (tB c f)) : PE X (.UnaryOp .USub x pos) (tD c (fNeg f)) :=
  e_one anti_D hx (fun h => pe_un un_neg h) fun σ F H u du Q sm h1 a => by
    cases du <;> first | exact a.elim | skip
    exact ⟨_, h1.int, a.ret (v := .int _) sm (.int _)⟩
def fIf {α : Type} (t : List S → R Bool) (f g : List S → R α) : List S → R α := fun δ => (t δ).bind fun k => if k then f δ else g δ
theorem e_if {α : Type} {P : Hp → Hp → Hp → V → α → Prop} {f g : List S → R α} (an : Anti P) (ht : PT X z (tT c tx)) (hx : PE X x (tG c P f)) (hy : PE X y (tG c P g)) : PE X (.IfExp z x y pos) (tG c P (fIf tx f g)) :=
  (pe_ifExp ht hx hy).impD fun σ H Q ⟨F, δ, rl, a⟩ => ⟨F, δ, rl, (a.bind an).mono fun u H1 ⟨du, F1, e1, p1, a1⟩ => by
    subst p1
    cases u with
    | true => exact ⟨F1, δ, rl.ext e1, a1⟩
    | false => exact ⟨F1, δ, rl.ext e1, a1⟩⟩
end
end PD
namespace PD
open PySem PySem.Spec PyProof.Rows L2
section
variable {X : Cx} {c : Cfg} {x y z e : Expr} {es : List Expr} {pos : Pos} {f g h : List S → R D} {fs : List S → R (List D)}
def noStar : Expr → Bool
  | .Starred .. => false
  | _ => true
theorem star_cons (env : Env) (hs : noStar e = true) : starEach (e :: es) env = (false, eval e env) :: starEach es env := by
  cases e <;> first | rfl | (simp [noStar] at hs; done)
theorem star_none (env : Env) (p : Pos) : ∀ es : List Expr, es.all noStar = true → (backTo p (starEach es env)).any (·.1) = false
  | [], _ => rfl
  | e :: es, h => by
    simp only [List.all_cons, Bool.and_eq_true] at h
    have ih := star_none env p es h.2
    rw [star_cons env h.1]
    first
      | (simp only [backTo, List.map_cons, List.any_cons] at ih ⊢; simpa using ih)
      | (unfold backTo at ih ⊢; simpa using ih)
def fNil : List S → R (List D) := fun _ => .ok []
def fCons (f : List S → R D) (g : List S → R (List D)) : List S → R (List D) := fun δ => (f δ).bind fun d => (g δ).bind fun ds => .ok (d :: ds)
theorem a_nil : PA X [] (tAD c fNil) := pa_nil.impD fun σ H Q ⟨F, δ, rl, a⟩ => a.ret rl.sub .nil
theorem ab_nil : PA X [] (tAB c fNil) := pa_nil.impD fun σ H Q ⟨F, δ, rl, a⟩ => a.ret rl.sub .nil
theorem a_cons (hx : PE X e (tD c f)) (hr : PA X es (tAD c fs)) (hs : noStar e = true) : PA X (e :: es) (tAD c (fCons f fs)) :=
  (pa_cons hx hr (star_cons _ hs)).impD fun σ H Q ⟨F, δ, rl, a⟩ => ⟨F, δ, rl, (a.bind anti_A).mono fun u H1 ⟨du, F1, e1, p1, a1⟩ =>
    ⟨F1, δ, rl.ext e1, (a1.bind anti_A).mono fun us H2 ⟨ds, F2, e2, p2, a2⟩ => a2.ret e2.fh (.cons (p1.mono e2.ff) p2)⟩⟩
theorem ab_cons (hx : PE X e (tB c f)) (hr : PA X es (tAB c fs)) (hs : noStar e = true) : PA X (e :: es) (tAB c (fCons f fs)) :=
  (pa_cons hx hr (star_cons _ hs)).impD fun σ H Q ⟨F, δ, rl, a⟩ => ⟨F, δ, rl, (a.bind anti_AB).mono fun u H1 ⟨du, F1, e1, p1, a1⟩ =>
    ⟨F1, δ, rl.ext e1, (a1.bind anti_AB).mono fun us H2 ⟨ds, F2, e2, p2, a2⟩ => a2.ret e2.fh (.cons (DVB.ext p1 e2) p2)⟩⟩
def fTup (f : List S → R (List D)) : List S → R D := fun δ => (f δ).bind fun ds => if ds.length ≤ szN then .ok (.tup ds) else .bad
def fLst (f : List S → R (List D)) : List S → R (List D) := fun δ => (f δ).bind fun ds => if ds.length ≤ szN then .ok ds else .bad
theorem e_tup {k : Nat} (hx : PA X es (tAD c fs)) : PE X (.Tuple es k pos) (tD c (fTup fs)) :=
  (pe_tup hx).impD fun σ H Q ⟨F, δ, rl, a⟩ => ⟨F, δ, rl, (a.bind anti_D).mono fun us H1 ⟨ds, F1, e1, p1, a1⟩ => by
    split at a1
    · rename_i hz
      have hz' : us.length ≤ sizeLine := by rw [DVs.length p1, szN_eq]; exact hz
      exact ⟨hz', out_tup e1.fh a1 p1 hz'⟩
    · exact a1.elim⟩
theorem n_lst (hx : PA X es (tAD c fs)) : PE X (.List es pos) (tN c (fLst fs)) :=
  (pe_lst hx).impD fun σ H Q ⟨F, δ, rl, a⟩ => ⟨F, δ, rl, (a.bind anti_N).mono fun us H1 ⟨ds, F1, e1, p1, a1⟩ => by
    split at a1
    · rename_i hz
      have hz' : us.length ≤ sizeLine := by rw [DVs.length p1, szN_eq]; exact hz
      exact ⟨hz', fun p hp => a1 (.ref p) F1 _ (Ext.free e1.fh hp) ⟨p, us, rfl, hp, e1.fh.free hp, upd_same, hz', p1⟩⟩
    · exact a1.elim⟩
def idxD : D → D → Option D
  | .lst ds, .int i => atI ds i
  | .tup ds, .int i => atI ds i
  | .str l, .int i => (atI l i).map fun c => .str [c]
  | .scr ns, .int i => (atI ns i).map .int
  | _, _ => none
theorem atI_dvs {K : PySem.W.Frag} {F : Hp} {vs : List V} {ds : List D} {i : Int} {d : D} (h : DVs K F vs ds) (e : atI ds i = some d) : ∃ v, atI vs i = some v ∧ DV K F v d := by
  unfold atI at e ⊢
  rw [h.length]
  cases q : ixN ds.length i with
  | none => rw [q] at e; cases e
  | some j =>
    rw [q] at e
    simp only [Option.bind_some] at e ⊢
    exact h.get' e
theorem okS_mem {l : List Nat} (h : okS l = true) {k : Nat} (hk : k ∈ l) : k < 0x110000 := by
  simp only [okS, List.all_eq_true, decide_eq_true_eq] at h
  exact h k hk
theorem atI_mem {α : Type} {l : List α} {i : Int} {a : α} (h : atI l i = some a) : a ∈ l := by
  unfold atI at h
  cases q : ixN l.length i with
  | none => rw [q] at h; cases h
  | some j =>
    rw [q] at h
    simp only [Option.bind_some] at h
    exact List.mem_of_getElem? h
theorem atI_map {α β : Type} {m : α → β} {l : List α} {i : Int} : atI (l.map m) i = (atI l i).map m := by
  unfold atI
  rw [List.length_map]
  cases ixN l.length i with
  | none => rfl
  | some j => simp
def noSlice : Expr → Bool
  | .Slice .. => false
  | _ => true
theorem plainIx_of (hs : noSlice y = true) : PlainIx y := fun o i => by
  cases y <;> first | rfl | (simp [noSlice] at hs; done)
def fIdx (f g : List S → R D) : List S → R D := fun δ => (f δ).bind fun a => (g δ).bind fun b => R.of (idxD a b)
theorem e_idx (hK : c.K = X.K) (hx : PE X x (tB c f)) (hy : PE X y (tB c g)) (hs : noSlice y = true) : PE X (.Subscript x y pos) (tD c (fIdx f g)) :=
  e_two (r := rIx X.K) anti_D hx hy (fun h1 h2 => pe_ix ix_seq h1 h2 (plainIx_of hs)) fun σ F H u v du dv Q sm h1 h2 a => by
    cases q : idxD du dv with
    | none => rw [q] at a; exact a.elim
    | some d =>
      rw [q] at a
      cases du <;> cases dv <;> simp only [idxD] at q <;> try (cases q; done)
      · obtain ⟨ea, oa, la⟩ := h1.str
        obtain ⟨k, qk, rfl⟩ := Option.map_eq_some_iff.mp q
        refine .inr (.inr ⟨_, _, k, ea, h2.int, by rw [mkS_len]; exact la, by rw [mkS_cps]; exact qk, ?_⟩)
        refine a.ret (v := .str (mkS [k])) sm (.str [k] ?_ ?_)
        · simp only [okS, List.all_cons, List.all_nil, Bool.and_true, decide_eq_true_eq]
          exact okS_mem oa (atI_mem qk)
        · rw [szN_eq]; show 1 ≤ szN; decide
      · obtain ⟨p1, v1, e1, s1, z1, r1⟩ := h1.list sm
        obtain ⟨w, qw, pw⟩ := atI_dvs r1 q
        exact .inl ⟨p1, v1, _, w, e1, h2.int, SqL.of s1, qw, a.ret sm pw⟩
      · obtain ⟨p1, v1, e1, s1, z1, r1⟩ := h1.tuple sm
        obtain ⟨w, qw, pw⟩ := atI_dvs r1 q
        exact .inr (.inl ⟨p1, v1, _, w, e1, h2.int, by rw [← hK]; exact s1, qw, a.ret sm pw⟩)
      · rcases h1 with h1 | ⟨_, _, _, _, z, _⟩
        · cases h1 with
          | scr s1 z1 =>
            obtain ⟨k, qk, rfl⟩ := Option.map_eq_some_iff.mp q
            exact .inl ⟨_, _, _, .int k, rfl, h2.int, by rw [← hK]; exact sqL_mono sm s1, by rw [atI_map, qk]; rfl, a.ret sm (.int k)⟩
        · cases z
def cutL {α : Type} (xs : List α) (lo hi : Option Int) : List α := List.take (HT.sIx xs.length xs.length hi - HT.sIx xs.length 0 lo) (List.drop (HT.sIx xs.length 0 lo) xs)
theorem cutL_len {α : Type} (xs : List α) (lo hi : Option Int) : (cutL xs lo hi).length ≤ xs.length := by
  unfold cutL
  rw [List.length_take, List.length_drop]
  omega
theorem DVs.cut {K : PySem.W.Frag} {F : Hp} {vs : List V} {ds : List D} (h : DVs K F vs ds) (lo hi : Option Int) : DVs K F (cutV vs lo hi) (cutL ds lo hi) := by
  unfold cutV cutL
  rw [h.length]
  exact (h.drop _).take _
theorem okS_sub {l m : List Nat} (h : okS l = true) (s : ∀ k ∈ m, k ∈ l) : okS m = true := by
  simp only [okS, List.all_eq_true, decide_eq_true_eq] at *
  exact fun k hk => h k (s k hk)
theorem cutS_mk (l : List Nat) (lo hi : Option Int) : cutS (mkS l) lo hi = mkS (cutL l lo hi) := by
  unfold cutS cutL
  rw [mkS_len, mkS_cps]
  rfl
/-- the whole of a tuple: itself -/
def isAll (n : Nat) (lo hi : Option Int) : Bool := HT.sIx n 0 lo == 0 && HT.sIx n n hi == n
open HT in
theorem getItem_tuple_all {prog : Program} {w : World} {A : Around} {E : Value → Shared → Prop} {s : Shared} {t sl : Addr} {items : Array Value} {vl vu : Value} {lo hi : Option Int} {Q : Value → Shared → Prop} (ht : IsTup s.heap t items) (hs : s.heap.IsSliceOf sl vl vu .none) (pl : IsPart vl lo) (pu : IsPart vu hi)
    (hw : sIx items.size 0 lo = 0 ∧ sIx items.size items.size hi = items.size)
    (h : Q (.ref t) s) : wpAny (model prog w) A (getItem (.ref t) (.ref sl)) Q E s := by
  obtain ⟨os, hos, hcs, hds⟩ := id hs
  have hTs : s.TypeIs (.ref sl) "slice" := ⟨os, hos, hcs⟩
  unfold getItem
  try with_reducible refine wpAny_holding ?_
  first | refine wpAny_bind (wpAny_pure ?_) | skip
  refine wpAny_bind (wpAny_sequenceKey ht.typeIs (by decide) ?_)
  refine wpAny_bind (wpAny_callSpecial?_slot (name := Str.ofString "__getitem__") ht.typeIs PyProof.Rows.slot_tuple_getitem
    (wpAny_call_entry PyProof.Rows.slot_tuple_getitem ht.typeIs entry_tuple_getitem ?_ (args_tuple_getitem _ _)))
  show wpAny _ _ (Builtin.Tuple.tupleItemsOf (.ref t) >>= _) _ _ s
  refine wpAny_bind (tupleItemsOf_ ht ?_)
  refine wpAny_bind (wpAny_typeOf hTs ?_)
  rw [if_pos (by decide)]
  refine wpAny_bind (sliceApplied_gen hs pl pu ?_)
  have hyes : (((sIx items.size 0 lo : Nat) : Int) == 0 && (1 : Int) == 1 && (sIx items.size items.size hi - sIx items.size 0 lo) == items.size) = true := by
    rw [hw.1, hw.2]; simp
  show wpAny _ _ (if (((sIx items.size 0 lo : Nat) : Int) == 0 && (1 : Int) == 1 && (sIx items.size items.size hi - sIx items.size 0 lo) == items.size) = true then _ else _) _ _ s
  rw [if_pos hyes]
  unfold Builtin.Tuple.tupleIsExact
  refine wpAny_bind (wpAny_bind (wpAny_typeOf ht.typeIs (wpAny_pure ?_)))
  rw [if_pos (by decide)]
  exact wpAny_bind (wpAny_rule (wpAny_pure ⟨_, rfl, wpAny_pure h⟩))
def cutD (a : D) (lo hi : Option Int) : Option D := match a with
  | .str l => some (.str (cutL l lo hi))
  | .lst ds => some (.lst (cutL ds lo hi))
  | .tup ds => some (.tup (cutL ds lo hi))
  | _ => none
def rSlD (K : PySem.W.Frag) : V → Option Int → Option Int → Hp → VK → Prop := fun x lo hi H Q => ∃ F a d, Same F H ∧ DVB K F H x a ∧ cutD a lo hi = some d ∧ ∀ v F' H', Ext F H F' H' → DV K F' v d → Q v H'
theorem sl_D : SlR X (rSlD X.K) := by
  intro pins s σ H x v vl vu lo hi sl Q I rx hs pl pu h
  obtain ⟨F, a, d, sm, ha, e, q⟩ := h
  cases a <;> simp only [cutD] at e <;> try (cases e; done)
  · cases e
    obtain ⟨ea, oa, la⟩ := ha.str
    refine sl_str pins s σ H x v vl vu lo hi sl Q I rx hs pl pu ⟨_, ea, by rw [mkS_len]; exact la, ?_⟩
    rw [cutS_mk]
    exact out_here sm q (.str _ (okS_sub oa fun k hk => List.mem_of_mem_drop (List.mem_of_mem_take hk)) (Nat.le_trans (cutL_len _ _ _) la))
  · cases e
    obtain ⟨p1, v1, e1, s1, z1, r1⟩ := ha.list sm
    exact sl_list pins s σ H x v vl vu lo hi sl Q I rx hs pl pu ⟨p1, v1, e1, SqL.of s1, out_lst sm q (r1.cut lo hi) (Nat.le_trans (cutV_length v1 lo hi) z1)⟩
  · cases e
    obtain ⟨p1, v1, e1, s1, z1, r1⟩ := ha.tuple sm
    by_cases hw : HT.sIx v1.length 0 lo = 0 ∧ HT.sIx v1.length v1.length hi = v1.length
    · subst e1
      cases rx
      obtain ⟨its, r, ht, hz⟩ := I.tuple s1
      have hlen : its.toArray.size = v1.length := by rw [List.size_toArray]; exact r.length.symm
      refine ⟨"tuple", _, PyProof.Rows.slot_tuple_getitem.lookup, ht.typeIs, ?_⟩
      refine getItem_tuple_all ht hs pl pu (by rw [hlen]; exact hw) ⟨.ref p1, H, I, rfl, ?_⟩
      rcases ha with ha | ⟨_, _, _, _, z, _⟩
      · rename_i ds
        have : cutL ds lo hi = ds := by
          unfold cutL
          rw [← r1.length, hw.1, hw.2, List.drop_zero, Nat.sub_zero]
          exact List.take_of_length_le (by rw [r1.length]; exact Nat.le_refl _)
        rw [this] at q
        exact out_here sm q ha
      · cases z
    · exact sl_tup pins s σ H x v vl vu lo hi sl Q I rx hs pl pu ⟨p1, v1, e1, s1, hw, out_tup sm q (r1.cut lo hi) (Nat.le_trans (cutV_length v1 lo hi) z1)⟩
abbrev pO : Hp → Hp → Hp → Option Int → Option Int → Prop := fun _ _ _ v b => v = b
theorem anti_O : Anti pO := fun _ _ _ _ _ _ _ h => h
def intOf : D → R (Option Int)
  | .int i => .ok (some i)
  | _ => .bad
variable {fl fh : List S → R (Option Int)} {lo hi : Option Expr}
theorem o_none : PO X none (tG c pO fun _ => .ok none) := ⟨fun pins s σ H Q I h => by
  obtain ⟨F, δ, rl, a⟩ := h
  exact po_none.run pins s σ H Q I (a.ret rl.sub rfl)⟩
theorem o_some (hx : PE X e (tB c f)) : PO X (some e) (tG c pO fun δ => (f δ).bind intOf) := ⟨fun pins s σ H Q I h => by
  obtain ⟨F, δ, rl, a⟩ := h
  refine (po_some hx).run pins s σ H Q I ⟨F, δ, rl, (a.bind anti_O).mono fun u H1 ⟨du, F1, e1, p1, a1⟩ => ?_⟩
  cases du <;> first | exact a1.elim | skip
  exact ⟨_, DVB.int p1, a1.ret e1.fh rfl⟩⟩
def fCut (f : List S → R D) (fl fh : List S → R (Option Int)) : List S → R D := fun δ => (f δ).bind fun a => (fl δ).bind fun l => (fh δ).bind fun h => R.of (cutD a l h)
theorem e_cut {p2 : Pos} (hK : c.K = X.K) (hx : PE X x (tB c f)) (hl : PO X lo (tG c pO fl)) (hh : PO X hi (tG c pO fh)) : PE X (.Subscript x (.Slice lo hi none p2) pos) (tD c (fCut f fl fh)) :=
  (pe_slice sl_D hx hl hh).impD fun σ H Q ⟨F, δ, rl, a⟩ => ⟨F, δ, rl, (a.bind anti_D).mono fun u H1 ⟨du, F1, e1, p1, a1⟩ =>
    ⟨F1, δ, rl.ext e1, (a1.bind anti_D).mono fun l H2 ⟨dl, F2, e2, p2, a2⟩ => ⟨F2, δ, (rl.ext e1).ext e2, (a2.bind anti_D).mono fun h H3 ⟨dh, F3, e3, p3, a3⟩ => by
      subst p2 p3
      cases q : cutD du l h with
      | none => rw [q] at a3; exact a3.elim
      | some d =>
        rw [q] at a3
        exact ⟨F3, du, d, e3.fh, kb hK ((DVB.ext p1 e2).ext e3), q, fun v F' H' e p => a3 v F' H' e (by show DV c.K F' v d; rw [hK]; exact p)⟩⟩⟩⟩
def cutN : D → Option Int → Option Int → R (List D)
  | .lst ds, l, h => .ok (cutL ds l h)
  | _, _, _ => .bad
def fCutN (f : List S → R D) (fl fh : List S → R (Option Int)) : List S → R (List D) := fun δ => (f δ).bind fun a => (fl δ).bind fun l => (fh δ).bind fun h => cutN a l h
theorem n_cut {p2 : Pos} (hx : PE X x (tB c f)) (hl : PO X lo (tG c pO fl)) (hh : PO X hi (tG c pO fh)) : PE X (.Subscript x (.Slice lo hi none p2) pos) (tN c (fCutN f fl fh)) :=
  (pe_slice sl_list hx hl hh).impD fun σ H Q ⟨F, δ, rl, a⟩ => ⟨F, δ, rl, (a.bind anti_N).mono fun u H1 ⟨du, F1, e1, p1, a1⟩ =>
    ⟨F1, δ, rl.ext e1, (a1.bind anti_N).mono fun l H2 ⟨dl, F2, e2, p2, a2⟩ => ⟨F2, δ, (rl.ext e1).ext e2, (a2.bind anti_N).mono fun h H3 ⟨dh, F3, e3, p3, a3⟩ => by
      subst p2 p3
      unfold cutN at a3
      split at a3
      · obtain ⟨p1', v1, e1', s1, z1, r1⟩ := DVB.list e3.fh ((DVB.ext p1 e2).ext e3)
        exact ⟨p1', v1, e1', SqL.of s1, fun p hp => a3 (.ref p) F3 _ (Ext.free e3.fh hp) ⟨p, _, rfl, hp, e3.fh.free hp, upd_same, Nat.le_trans (cutV_length v1 _ _) z1, r1.cut _ _⟩⟩
      · exact a3.elim⟩⟩⟩
section
variable {α : Type} {P' : Hp → Hp → Hp → V → α → Prop} {hf : List D → R α} {r : List V → Hp → VK → Prop} {id T : String} {nm : Str} {p : Pos}
theorem e_callB (an : Anti P') (hc : CallR X (.builtin id) r) (hg : Gl X nm) (hm : X.mg nm = none) (hv : bootBuiltins nm = some (.builtin id)) (ha : PA X (e :: es) (tAB c fs)) (hs : (e :: es).all noStar = true)
    (hn : nm ≠ "__name__") (hdb : (nm == ("__debug__" : Str)) = false)
    (ho : ∀ (σ : L2.St) (F H : Hp) (vs : List V) (ds : List D) (Q : VK), Same F H → DVBs c.K F H vs ds → Aft c σ P' F H (hf ds) Q → r vs H Q) :
    PE X (.Call (.Name nm p) (e :: es) [] pos) (tG c P' fun δ => (fs δ).bind hf) := by
  have h2 := hs
  simp only [List.all_cons, Bool.and_eq_true] at h2
  exact (pe_callB hc hg hm hv ha hn hdb (star_cons _ h2.1) (star_none _ _ _ h2.2)).impD fun σ H Q ⟨F, δ, rl, a⟩ => ⟨F, δ, rl, (a.bind an).mono fun us H1 ⟨ds, F1, e1, p1, a1⟩ => ho σ F1 H1 us ds Q e1.fh p1 a1⟩
theorem e_callTy (an : Anti P') (hc : CallR X (.type T) r) (hg : Gl X nm) (hm : X.mg nm = none) (hv : bootBuiltins nm = some (.type T)) (ha : PA X (e :: es) (tAB c fs)) (hs : (e :: es).all noStar = true)
    (hn : nm ≠ "__name__") (hdb : (nm == ("__debug__" : Str)) = false)
    (ho : ∀ (σ : L2.St) (F H : Hp) (vs : List V) (ds : List D) (Q : VK), Same F H → DVBs c.K F H vs ds → Aft c σ P' F H (hf ds) Q → r vs H Q) :
    PE X (.Call (.Name nm p) (e :: es) [] pos) (tG c P' fun δ => (fs δ).bind hf) := by
  have h2 := hs
  simp only [List.all_cons, Bool.and_eq_true] at h2
  exact (pe_callTy hc hg hm hv ha hn hdb (star_cons _ h2.1) (star_none _ _ _ h2.2)).impD fun σ H Q ⟨F, δ, rl, a⟩ => ⟨F, δ, rl, (a.bind an).mono fun us H1 ⟨ds, F1, e1, p1, a1⟩ => ho σ F1 H1 us ds Q e1.fh p1 a1⟩
end
def spD (K : PySem.W.Frag) (cv : Nat → Value) (n : Nat) (g : List D → R D) : Sp := fun vs H Q E => ∃ F ds, Same F H ∧ DVs K F vs ds ∧ vs.length = n ∧
  (match g ds with
  | .ok d => ∀ v F' H', Ext F H F' H' → DV K F' v d → Q v H'
  | .exc k => ∀ F' H', Ext F H F' H' → E (cv k) none H'
  | .bad => False)
/-- the def of this name does this by data, at a level -/
def FnD (P : Program) (w : World) (K : PySem.W.Frag) (mg : Str → Option Value) (base : Heap) (cv : Nat → Value) (k : Nat) (nm : Str) (g : List D → R D) : Prop :=
  ∃ (n : Nat) (fa : Addr) (fd : FuncData) (ps : List Str), (∀ ds, ds.length ≠ n → g ds = .bad) ∧ FnOk P w K mg base (L2.CX P w) k fa fd ps (spD K cv n g) ∧ mg nm = some (.ref fa) ∧ PySem.W.keepIn K (.ref fa) = true ∧ Binds K fd ps []
end
end PD
namespace PD
open PySem PySem.Spec PyProof.Rows L2
def lenD : D → Option Nat
  | .str l => some l.length
  | .lst l => some l.length
  | .tup l => some l.length
  | .scr l => some l.length
  | _ => none
def intsOf : List D → Option (List Int)
  | [] => some []
  | .int i :: r => (intsOf r).map (i :: ·)
  | _ :: _ => none
def strI (i : Int) : List Nat := (toString i : String).toList.map Char.toNat
def insI (n : Int) : List Int → List Int
  | [] => [n]
  | m :: r => if n ≤ m then n :: m :: r else m :: insI n r
def sortI : List Int → List Int
  | [] => []
  | n :: r => insI n (sortI r)
def maxI : List Int → Option Int
  | [] => none
  | n :: r => some (r.foldl (fun a b => if a < b then b else a) n)
def minI : List Int → Option Int
  | [] => none
  | n :: r => some (r.foldl (fun a b => if b < a then b else a) n)
inductive Bf where
  | len | int | str | list | tuple | sorted | min | max | sum
  deriving DecidableEq
def Bf.nm : Bf → Str
  | .len => "len" | .int => "int" | .str => "str" | .list => "list" | .tuple => "tuple" | .sorted => "sorted" | .min => "min" | .max => "max" | .sum => "sum"
def newD : Bf → List D → Option (List D)
  | .list, [.lst ds] => some ds
  | .list, [.tup ds] => some ds
  | .sorted, [.lst ds] => (intsOf ds).map fun ns => (sortI ns).map .int
  | _, _ => none
def bfD : Bf → List D → Option D
  | .len, [d] => (lenD d).map fun (n : Nat) => D.int (n : Int)
  | .int, [.int i] => some (.int i)
  | .int, [.bl b] => some (.int (if b then 1 else 0))
  | .int, [.str l] => if l.length ≤ 640 then (PySem.intText? (mkS l)).map .int else none
  | .str, [.int i] => if i.natAbs.log2 < 1920 ∧ okS (strI i) = true ∧ (strI i).length ≤ szN then some (.str (strI i)) else none
  | .tuple, [.lst ds] => some (.tup ds)
  | .tuple, [.tup ds] => some (.tup ds)
  | .min, [.int a, .int b] => some (.int (if b < a then b else a))
  | .max, [.int a, .int b] => some (.int (if b > a then b else a))
  | .min, [.lst ds] => ((intsOf ds).bind minI).map .int
  | .max, [.lst ds] => ((intsOf ds).bind maxI).map .int
  | .sum, [.lst ds] => (intsOf ds).map fun ns => .int ns.sum
  | _, _ => none
theorem insI_perm (n : Int) : ∀ l : List Int, (insI n l).Perm (n :: l)
  | [] => .refl _
  | m :: r => by
    unfold insI
    split
    · exact .refl _
    · exact ((insI_perm n r).cons m).trans (.swap n m r)
theorem sortI_perm : ∀ l : List Int, (sortI l).Perm l
  | [] => .refl _
  | n :: r => (insI_perm n _).trans ((sortI_perm r).cons n)
theorem insI_sorted (n : Int) : ∀ l : List Int, l.Pairwise (· ≤ ·) → (insI n l).Pairwise (· ≤ ·)
  | [], _ => by simp [insI]
  | m :: r, h => by
    unfold insI
    rw [List.pairwise_cons] at h
    split
    · rename_i hn
      rw [List.pairwise_cons]
      refine ⟨fun a ha => ?_, List.pairwise_cons.mpr h⟩
      rcases List.mem_cons.mp ha with rfl | ha
      · exact hn
      · exact Int.le_trans hn (h.1 a ha)
    · rename_i hn
      rw [List.pairwise_cons]
      refine ⟨fun a ha => ?_, insI_sorted n r h.2⟩
      have := (insI_perm n r).mem_iff.mp ha
      rcases List.mem_cons.mp this with rfl | ha
      · omega
      · exact h.1 a ha
theorem sortI_sorted : ∀ l : List Int, (sortI l).Pairwise (· ≤ ·)
  | [] => .nil
  | n :: r => insI_sorted n _ (sortI_sorted r)
theorem sorted_unique {a b : List Int} (h : a.Perm b) (ha : a.Pairwise (· ≤ ·)) (hb : b.Pairwise (· ≤ ·)) : a = b := by
  induction a generalizing b with
  | nil => exact (List.Perm.nil_eq h)
  | cons x r ih =>
    cases b with
    | nil => exact absurd h.symm (by simp)
    | cons y s =>
      rw [List.pairwise_cons] at ha hb
      have e : x = y := by
        have h1 : y ∈ x :: r := h.mem_iff.mpr List.mem_cons_self
        have h2 : x ∈ y :: s := h.mem_iff.mp List.mem_cons_self
        rcases List.mem_cons.mp h1 with h1 | h1
        · exact h1.symm
        · rcases List.mem_cons.mp h2 with h2 | h2
          · exact h2
          · have := ha.1 y h1
            have := hb.1 x h2
            omega
      subst e
      rw [ih (List.Perm.cons_inv h) ha.2 hb.2]
theorem maxI_spec : ∀ (r : List Int) (n : Int), (r.foldl (fun a b => if a < b then b else a) n) ∈ n :: r ∧ ∀ y ∈ n :: r, y ≤ r.foldl (fun a b => if a < b then b else a) n
  | [], n => by simp
  | m :: r, n => by
    simp only [List.foldl_cons]
    have ih := maxI_spec r (if n < m then m else n)
    refine ⟨?_, fun y hy => ?_⟩
    · rcases List.mem_cons.mp ih.1 with h | h
      · rw [h]; split <;> simp
      · exact List.mem_cons_of_mem _ (List.mem_cons_of_mem _ h)
    · have h0 := ih.2 _ List.mem_cons_self
      have hn : n ≤ (if n < m then m else n) ∧ m ≤ (if n < m then m else n) := by split <;> omega
      rcases List.mem_cons.mp hy with rfl | hy
      · exact Int.le_trans hn.1 h0
      · rcases List.mem_cons.mp hy with rfl | hy
        · exact Int.le_trans hn.2 h0
        · exact ih.2 y (List.mem_cons_of_mem _ hy)
theorem minI_spec : ∀ (r : List Int) (n : Int), (r.foldl (fun a b => if b < a then b else a) n) ∈ n :: r ∧ ∀ y ∈ n :: r, r.foldl (fun a b => if b < a then b else a) n ≤ y
  | [], n => by simp
  | m :: r, n => by
    simp only [List.foldl_cons]
    have ih := minI_spec r (if m < n then m else n)
    refine ⟨?_, fun y hy => ?_⟩
    · rcases List.mem_cons.mp ih.1 with h | h
      · rw [h]; split <;> simp
      · exact List.mem_cons_of_mem _ (List.mem_cons_of_mem _ h)
    · have h0 := ih.2 _ List.mem_cons_self
      have hn : (if m < n then m else n) ≤ n ∧ (if m < n then m else n) ≤ m := by split <;> omega
      rcases List.mem_cons.mp hy with rfl | hy
      · exact Int.le_trans h0 hn.1
      · rcases List.mem_cons.mp hy with rfl | hy
        · exact Int.le_trans h0 hn.2
        · exact ih.2 y (List.mem_cons_of_mem _ hy)
section
variable {K : PySem.W.Frag} {F H : Hp}
theorem ints_of : ∀ {vs : List V} {ds : List D} {ns : List Int}, DVs K F vs ds → intsOf ds = some ns → vs = ns.map V.int
  | _, _, ns, .nil, e => by cases e; rfl
  | _, _, ns, .cons (d := d) a r, e => by
    cases d <;> simp only [intsOf] at e <;> try (cases e; done)
    obtain ⟨ms, e1, rfl⟩ := Option.map_eq_some_iff.mp e
    cases a
    rw [ints_of r e1]; rfl
theorem dvs_ints (ns : List Int) : DVs K F (ns.map V.int) (ns.map D.int) := by
  induction ns with
  | nil => exact .nil
  | cons n r ih => exact .cons (.int n) ih
theorem DVBs.one {vs : List V} {d : D} (h : DVBs K F H vs [d]) : ∃ v, vs = [v] ∧ DVB K F H v d := by
  cases h with
  | cons a r => cases r; exact ⟨_, rfl, a⟩
theorem DVBs.two {vs : List V} {d d' : D} (h : DVBs K F H vs [d, d']) : ∃ v v', vs = [v, v'] ∧ DVB K F H v d ∧ DVB K F H v' d' := by
  cases h with
  | cons a r => cases r with | cons b r => cases r; exact ⟨_, _, rfl, a, b⟩
end
section
variable {X : Cx} {c : Cfg} {e : Expr} {es : List Expr} {pos p : Pos} {fs : List S → R (List D)}
theorem len_v {F H : Hp} {v : V} {d : D} {n : Nat} (sm : Same F H) (h : DVB X.K F H v d) (e : lenD d = some n) : LenV X.K v H n := by
  cases d <;> simp only [lenD] at e <;> try (cases e; done)
  · cases e
    obtain ⟨ea, oa, la⟩ := h.str
    rw [ea]
    exact ⟨by rw [mkS_len]; exact la, (mkS_len _).symm⟩
  · cases e
    obtain ⟨p1, v1, e1, s1, z1, r1⟩ := h.list sm
    rw [e1]
    exact .inl ⟨v1, SqL.of s1, r1.length.symm⟩
  · cases e
    obtain ⟨p1, v1, e1, s1, z1, r1⟩ := h.tuple sm
    rw [e1]
    exact .inr ⟨v1, s1, r1.length.symm⟩
  · cases e
    rcases h with h | ⟨_, _, _, _, z, _⟩
    · cases h with
      | scr s1 z1 => exact .inl ⟨_, sqL_mono sm s1, by simp⟩
    · cases z
def fBf (b : Bf) (fs : List S → R (List D)) : List S → R D := fun δ => (fs δ).bind fun ds => R.of (bfD b ds)
theorem kbs (hK : c.K = X.K) {F H : Hp} {v : List V} {d : List D} (p : DVBs c.K F H v d) : DVBs X.K F H v d := hK ▸ p
theorem of_some {α β : Type} {σ : L2.St} {P : Hp → Hp → Hp → β → α → Prop} {F H : Hp} {o : Option α} {Q : β → Hp → Prop} (a : Aft c σ P F H (R.of o) Q) : ∃ d, o = some d ∧ ∀ v F' H', Ext F H F' H' → P H F' H' v d → Q v H' := by
  cases o with
  | none => exact a.elim
  | some d => exact ⟨d, rfl, a⟩
theorem strI_eq (i : Int) : Str.ofString (toString i) = mkS (strI i) := by
  rw [of_mkS (Str.ofString (toString i))]
  unfold strI
  rw [PyProof.Rows.signs_ofString]
theorem bf_len (hK : c.K = X.K) (hg : Gl X "len") (hm : X.mg "len" = none) (ha : PA X (e :: es) (tAB c fs)) (hs : (e :: es).all noStar = true) : PE X (.Call (.Name "len" p) (e :: es) [] pos) (tD c (fBf .len fs)) :=
  e_callB anti_D call_len hg hm (by decide +kernel) ha hs (by decide) (by decide) fun σ F H vs ds Q sm h a => by
    obtain ⟨d, e1, q⟩ := of_some a
    match ds, e1 with
    | [d0], e1 =>
      simp only [bfD] at e1
      obtain ⟨n, e2, rfl⟩ := Option.map_eq_some_iff.mp e1
      obtain ⟨v, rfl, hv⟩ := (kbs hK h).one
      exact ⟨v, n, rfl, len_v sm hv e2, out_here sm q (.int _)⟩
    | [], e1 => cases e1
    | _ :: _ :: _, e1 => simp [bfD] at e1
theorem bf_int (hK : c.K = X.K) (hg : Gl X "int") (hm : X.mg "int" = none) (ha : PA X (e :: es) (tAB c fs)) (hs : (e :: es).all noStar = true) : PE X (.Call (.Name "int" p) (e :: es) [] pos) (tD c (fBf .int fs)) := by
  refine e_callTy (T := "int") (r := fun xs H Q => ((∃ i, xs = [.int i] ∧ Q (.int i) H) ∨ ∃ k, xs = [.bl k] ∧ Q (.int (if k then 1 else 0)) H) ∨ (∃ a n, xs = [.str a] ∧ PySem.intText? a = some n ∧ a.length ≤ 640 ∧ Q (.int n) H)) anti_D ?_ hg hm (by decide +kernel) ha hs (by decide) (by decide) ?_
  · intro pins s σ H xs us Q I r h
    rcases h with h | h
    · exact call_int1 pins s σ H xs us Q I r h
    · exact call_int_str pins s σ H xs us Q I r h
  · intro σ F H vs ds Q sm h a
    obtain ⟨d, e1, q⟩ := of_some a
    match ds, e1 with
    | [.int i], e1 =>
      cases e1
      obtain ⟨v, rfl, hv⟩ := h.one
      exact .inl (.inl ⟨i, by rw [hv.int], out_here sm q (.int _)⟩)
    | [.bl b], e1 =>
      cases e1
      obtain ⟨v, rfl, hv⟩ := h.one
      exact .inl (.inr ⟨b, by rw [hv.bl], out_here sm q (.int _)⟩)
    | [.str l], e1 =>
      simp only [bfD] at e1
      split at e1
      · rename_i hl
        obtain ⟨n, e2, rfl⟩ := Option.map_eq_some_iff.mp e1
        obtain ⟨v, rfl, hv⟩ := h.one
        exact .inr ⟨mkS l, n, by rw [hv.str.1], e2, by rw [mkS_len]; exact hl, out_here sm q (.int _)⟩
      · cases e1
    | [], e1 => cases e1
    | [.non], e1 => cases e1
    | [.lst _], e1 => cases e1
    | [.tup _], e1 => cases e1
    | [.scr _], e1 => cases e1
    | [.dct _ _], e1 => cases e1
    | _ :: _ :: _, e1 => simp [bfD] at e1
theorem bf_str (hg : Gl X "str") (hm : X.mg "str" = none) (ha : PA X (e :: es) (tAB c fs)) (hs : (e :: es).all noStar = true) : PE X (.Call (.Name "str" p) (e :: es) [] pos) (tD c (fBf .str fs)) :=
  e_callTy anti_D call_str_int hg hm (by decide +kernel) ha hs (by decide) (by decide) fun σ F H vs ds Q sm h a => by
    obtain ⟨d, e1, q⟩ := of_some a
    match ds, e1 with
    | [.int i], e1 =>
      simp only [bfD] at e1
      split at e1
      · rename_i hz
        cases e1
        obtain ⟨v, rfl, hv⟩ := h.one
        refine ⟨i, by rw [hv.int], hz.1, ?_⟩
        rw [strI_eq]
        exact out_here sm q (.str _ hz.2.1 (by rw [szN_eq]; exact hz.2.2))
      · cases e1
    | [], e1 => cases e1
    | [.non], e1 => cases e1
    | [.bl _], e1 => cases e1
    | [.str _], e1 => cases e1
    | [.lst _], e1 => cases e1
    | [.tup _], e1 => cases e1
    | [.scr _], e1 => cases e1
    | [.dct _ _], e1 => cases e1
    | _ :: _ :: _, e1 => simp [bfD] at e1
theorem bf_tuple (hK : c.K = X.K) (hg : Gl X "tuple") (hm : X.mg "tuple" = none) (ha : PA X (e :: es) (tAB c fs)) (hs : (e :: es).all noStar = true) : PE X (.Call (.Name "tuple" p) (e :: es) [] pos) (tD c (fBf .tuple fs)) :=
  e_callTy anti_D call_tuple_of hg hm (by decide +kernel) ha hs (by decide) (by decide) fun σ F H vs ds Q sm h a => by
    obtain ⟨d, e1, q⟩ := of_some a
    match ds, e1 with
    | [.lst l], e1 =>
      cases e1
      obtain ⟨v, rfl, hv⟩ := h.one
      obtain ⟨p1, v1, e1, s1, z1, r1⟩ := hv.list sm
      exact ⟨p1, v1, by rw [e1], .inl ⟨SqL.of s1, out_tup sm q r1 z1⟩⟩
    | [.tup l], e1 =>
      cases e1
      obtain ⟨v, rfl, hv⟩ := h.one
      obtain ⟨p1, v1, e1, s1, z1, r1⟩ := hv.tuple sm
      refine ⟨p1, v1, by rw [e1], .inr ⟨by rw [← hK]; exact s1, ?_⟩⟩
      rcases hv with hv | ⟨_, _, _, _, z, _⟩
      · subst e1; exact out_here sm q hv
      · cases z
    | [], e1 => cases e1
    | [.non], e1 => cases e1
    | [.bl _], e1 => cases e1
    | [.int _], e1 => cases e1
    | [.str _], e1 => cases e1
    | [.scr _], e1 => cases e1
    | [.dct _ _], e1 => cases e1
    | _ :: _ :: _, e1 => simp [bfD] at e1
def fNew (b : Bf) (fs : List S → R (List D)) : List S → R (List D) := fun δ => (fs δ).bind fun ds => R.of (newD b ds)
theorem bn_list (hK : c.K = X.K) (hg : Gl X "list") (hm : X.mg "list" = none) (ha : PA X (e :: es) (tAB c fs)) (hs : (e :: es).all noStar = true) : PE X (.Call (.Name "list" p) (e :: es) [] pos) (tN c (fNew .list fs)) :=
  e_callTy anti_N call_list_of hg hm (by decide +kernel) ha hs (by decide) (by decide) fun σ F H vs ds Q sm h a => by
    obtain ⟨d, e1, q⟩ := of_some a
    match ds, e1 with
    | [.lst l], e1 =>
      cases e1
      obtain ⟨v, rfl, hv⟩ := h.one
      obtain ⟨p1, v1, e1, s1, z1, r1⟩ := hv.list sm
      exact ⟨p1, v1, by rw [e1], .inl (SqL.of s1), fun p hp => q (.ref p) F _ (Ext.free sm hp) ⟨p, v1, rfl, hp, sm.free hp, upd_same, z1, r1⟩⟩
    | [.tup l], e1 =>
      cases e1
      obtain ⟨v, rfl, hv⟩ := h.one
      obtain ⟨p1, v1, e1, s1, z1, r1⟩ := hv.tuple sm
      exact ⟨p1, v1, by rw [e1], .inr (by rw [← hK]; exact s1), fun p hp => q (.ref p) F _ (Ext.free sm hp) ⟨p, v1, rfl, hp, sm.free hp, upd_same, z1, r1⟩⟩
    | [], e1 => cases e1
    | [.non], e1 => cases e1
    | [.bl _], e1 => cases e1
    | [.int _], e1 => cases e1
    | [.str _], e1 => cases e1
    | [.scr _], e1 => cases e1
    | [.dct _ _], e1 => cases e1
    | _ :: _ :: _, e1 => simp [newD] at e1
theorem bn_sorted (hg : Gl X "sorted") (hm : X.mg "sorted" = none) (ha : PA X (e :: es) (tAB c fs)) (hs : (e :: es).all noStar = true) : PE X (.Call (.Name "sorted" p) (e :: es) [] pos) (tN c (fNew .sorted fs)) :=
  e_callB anti_N cr_sortedI hg hm (by decide +kernel) ha hs (by decide) (by decide) fun σ F H vs ds Q sm h a => by
    obtain ⟨d, e1, q⟩ := of_some a
    match ds, e1 with
    | [.lst l], e1 =>
      simp only [newD] at e1
      obtain ⟨ns, e2, rfl⟩ := Option.map_eq_some_iff.mp e1
      obtain ⟨v, rfl, hv⟩ := h.one
      obtain ⟨p1, v1, e1, s1, z1, r1⟩ := hv.list sm
      have ev := ints_of r1 e2
      subst ev
      refine ⟨p1, ns, by rw [e1], SqL.of s1, fun ns' p hpm hps hp => ?_⟩
      have : ns' = sortI ns := sorted_unique (hpm.trans (sortI_perm ns).symm) hps (sortI_sorted ns)
      subst this
      refine q (.ref p) F _ (Ext.free sm hp) ⟨p, _, rfl, hp, sm.free hp, upd_same, ?_, dvs_ints _⟩
      rw [List.length_map, hpm.length_eq]
      rw [List.length_map] at z1
      exact z1
    | [], e1 => cases e1
    | [.non], e1 => cases e1
    | [.bl _], e1 => cases e1
    | [.int _], e1 => cases e1
    | [.str _], e1 => cases e1
    | [.tup _], e1 => cases e1
    | [.scr _], e1 => cases e1
    | [.dct _ _], e1 => cases e1
    | _ :: _ :: _, e1 => simp [newD] at e1
theorem bf_sum (hc : X.calm = true) (hg : Gl X "sum") (hm : X.mg "sum" = none) (ha : PA X (e :: es) (tAB c fs)) (hs : (e :: es).all noStar = true) : PE X (.Call (.Name "sum" p) (e :: es) [] pos) (tD c (fBf .sum fs)) :=
  e_callB anti_D (cr_sum hc) hg hm (by decide +kernel) ha hs (by decide) (by decide) fun σ F H vs ds Q sm h a => by
    obtain ⟨d, e1, q⟩ := of_some a
    match ds, e1 with
    | [.lst l], e1 =>
      simp only [bfD] at e1
      obtain ⟨ns, e2, rfl⟩ := Option.map_eq_some_iff.mp e1
      obtain ⟨v, rfl, hv⟩ := h.one
      obtain ⟨p1, v1, e1, s1, z1, r1⟩ := hv.list sm
      have ev := ints_of r1 e2
      subst ev
      exact ⟨p1, ns, by rw [e1], SqL.of s1, out_here sm q (.int _)⟩
    | [], e1 => cases e1
    | [.non], e1 => cases e1
    | [.bl _], e1 => cases e1
    | [.int _], e1 => cases e1
    | [.str _], e1 => cases e1
    | [.tup _], e1 => cases e1
    | [.scr _], e1 => cases e1
    | [.dct _ _], e1 => cases e1
    | _ :: _ :: _, e1 => simp [bfD] at e1
theorem bf_min (hc : X.calm = true) (hg : Gl X "min") (hm : X.mg "min" = none) (ha : PA X (e :: es) (tAB c fs)) (hs : (e :: es).all noStar = true) : PE X (.Call (.Name "min" p) (e :: es) [] pos) (tD c (fBf .min fs)) := by
  refine e_callB (id := "min") (r := fun xs H Q => (∃ i j, xs = [.int i, .int j] ∧ Q (.int (if j < i then j else i)) H) ∨ rMin X.K xs H Q) anti_D ?_ hg hm (by decide +kernel) ha hs (by decide) (by decide) ?_
  · intro pins s σ H xs us Q I r h
    rcases h with h | h
    · exact call_min2 hc pins s σ H xs us Q I r h
    · exact cr_min hc pins s σ H xs us Q I r h
  · intro σ F H vs ds Q sm h a
    obtain ⟨d, e1, q⟩ := of_some a
    match ds, e1 with
    | [.int i, .int j], e1 =>
      cases e1
      obtain ⟨v, v', rfl, hv, hv'⟩ := h.two
      exact .inl ⟨i, j, by rw [hv.int, hv'.int], out_here sm q (.int _)⟩
    | [.lst l], e1 =>
      simp only [bfD] at e1
      obtain ⟨m, e2, rfl⟩ := Option.map_eq_some_iff.mp e1
      obtain ⟨ns, e3, e4⟩ := Option.bind_eq_some_iff.mp e2
      obtain ⟨v, rfl, hv⟩ := h.one
      obtain ⟨p1, v1, e9, s1, z1, r1⟩ := hv.list sm
      have ev := ints_of r1 e3
      subst ev
      cases ns with
      | nil => cases e4
      | cons n r =>
        cases e4
        refine .inr ⟨p1, n :: r, by rw [e9], SqL.of s1, by simp, fun m h1 h2 => ?_⟩
        have sp := minI_spec r n
        have : m = r.foldl (fun a b => if b < a then b else a) n := by
          have := h2 _ sp.1
          have := sp.2 m h1
          omega
        subst this
        exact out_here sm q (.int _)
    | [], e1 => cases e1
    | [.non], e1 => cases e1
    | [.bl _], e1 => cases e1
    | [.int _], e1 => cases e1
    | [.str _], e1 => cases e1
    | [.tup _], e1 => cases e1
    | [.scr _], e1 => cases e1
    | [.dct _ _], e1 => cases e1
    | .non :: _ :: _, e1 => simp [bfD] at e1
    | .bl _ :: _ :: _, e1 => simp [bfD] at e1
    | .str _ :: _ :: _, e1 => simp [bfD] at e1
    | .lst _ :: _ :: _, e1 => simp [bfD] at e1
    | .tup _ :: _ :: _, e1 => simp [bfD] at e1
    | .scr _ :: _ :: _, e1 => simp [bfD] at e1
    | .dct _ _ :: _ :: _, e1 => simp [bfD] at e1
    | .int _ :: .non :: _, e1 => simp [bfD] at e1
    | .int _ :: .bl _ :: _, e1 => simp [bfD] at e1
    | .int _ :: .str _ :: _, e1 => simp [bfD] at e1
    | .int _ :: .lst _ :: _, e1 => simp [bfD] at e1
    | .int _ :: .tup _ :: _, e1 => simp [bfD] at e1
    | .int _ :: .scr _ :: _, e1 => simp [bfD] at e1
    | .int _ :: .dct _ _ :: _, e1 => simp [bfD] at e1
    | .int _ :: .int _ :: _ :: _, e1 => simp [bfD] at e1
theorem bf_max (hc : X.calm = true) (hg : Gl X "max") (hm : X.mg "max" = none) (ha : PA X (e :: es) (tAB c fs)) (hs : (e :: es).all noStar = true) : PE X (.Call (.Name "max" p) (e :: es) [] pos) (tD c (fBf .max fs)) := by
  refine e_callB (id := "max") (r := fun xs H Q => (∃ i j, xs = [.int i, .int j] ∧ Q (.int (if j > i then j else i)) H) ∨ rMax X.K xs H Q) anti_D ?_ hg hm (by decide +kernel) ha hs (by decide) (by decide) ?_
  · intro pins s σ H xs us Q I r h
    rcases h with h | h
    · exact call_max2 hc pins s σ H xs us Q I r h
    · exact cr_max hc pins s σ H xs us Q I r h
  · intro σ F H vs ds Q sm h a
    obtain ⟨d, e1, q⟩ := of_some a
    match ds, e1 with
    | [.int i, .int j], e1 =>
      cases e1
      obtain ⟨v, v', rfl, hv, hv'⟩ := h.two
      exact .inl ⟨i, j, by rw [hv.int, hv'.int], out_here sm q (.int _)⟩
    | [.lst l], e1 =>
      simp only [bfD] at e1
      obtain ⟨m, e2, rfl⟩ := Option.map_eq_some_iff.mp e1
      obtain ⟨ns, e3, e4⟩ := Option.bind_eq_some_iff.mp e2
      obtain ⟨v, rfl, hv⟩ := h.one
      obtain ⟨p1, v1, e9, s1, z1, r1⟩ := hv.list sm
      have ev := ints_of r1 e3
      subst ev
      cases ns with
      | nil => cases e4
      | cons n r =>
        cases e4
        refine .inr ⟨p1, n :: r, by rw [e9], SqL.of s1, by simp, fun m h1 h2 => ?_⟩
        have sp := maxI_spec r n
        have : m = r.foldl (fun a b => if a < b then b else a) n := by
          have := h2 _ sp.1
          have := sp.2 m h1
          omega
        subst this
        exact out_here sm q (.int _)
    | [], e1 => cases e1
    | [.non], e1 => cases e1
    | [.bl _], e1 => cases e1
    | [.int _], e1 => cases e1
    | [.str _], e1 => cases e1
    | [.tup _], e1 => cases e1
    | [.scr _], e1 => cases e1
    | [.dct _ _], e1 => cases e1
    | .non :: _ :: _, e1 => simp [bfD] at e1
    | .bl _ :: _ :: _, e1 => simp [bfD] at e1
    | .str _ :: _ :: _, e1 => simp [bfD] at e1
    | .lst _ :: _ :: _, e1 => simp [bfD] at e1
    | .tup _ :: _ :: _, e1 => simp [bfD] at e1
    | .scr _ :: _ :: _, e1 => simp [bfD] at e1
    | .dct _ _ :: _ :: _, e1 => simp [bfD] at e1
    | .int _ :: .non :: _, e1 => simp [bfD] at e1
    | .int _ :: .bl _ :: _, e1 => simp [bfD] at e1
    | .int _ :: .str _ :: _, e1 => simp [bfD] at e1
    | .int _ :: .lst _ :: _, e1 => simp [bfD] at e1
    | .int _ :: .tup _ :: _, e1 => simp [bfD] at e1
    | .int _ :: .scr _ :: _, e1 => simp [bfD] at e1
    | .int _ :: .dct _ _ :: _, e1 => simp [bfD] at e1
    | .int _ :: .int _ :: _ :: _, e1 => simp [bfD] at e1
end
end PD
namespace PD
open PySem PySem.Spec PyProof.Rows L2
section
variable {X : Cx} {c : Cfg} {e x y z tg : Expr} {es : List Expr} {pos p p2 : Pos} {f : List S → R D} {fs : List S → R (List D)}
def fCall (g : List D → R D) (fs : List S → R (List D)) : List S → R D := fun δ => (fs δ).bind g
theorem e_call {k : Nat} {nm : Str} {g : List D → R D} (hK : c.K = X.K) (G : FnD X.prog X.w X.K X.mg X.base c.cv k nm g) (hr : Room k X.A) (hg : Gl X nm) (tk : Takes X c.W) (ha : PA X (e :: es) (tAD c fs)) (hs : (e :: es).all noStar = true)
    (hdb : (nm == ("__debug__" : Str)) = false) : PE X (.Call (.Name nm p) (e :: es) [] pos) (tD c (fCall g fs)) := by
  obtain ⟨n, fa, fd, ps, hn, F, hm, hk, hb⟩ := G
  have h2 := hs
  simp only [List.all_cons, Bool.and_eq_true] at h2
  refine (pe_callS F hr hg hm hk hb (fun σ => passAt tk σ) ha hdb (star_cons _ h2.1) (star_none _ _ _ h2.2)).impD fun σ H Q ⟨F, δ, rl, a⟩ => ⟨F, δ, rl, (a.bind anti_D).mono fun us H1 ⟨ds, F1, e1, p1, a1⟩ => ?_⟩
  have p1' : DVs X.K F1 us ds := by rw [← hK]; exact p1
  have hl : us.length = n := by
    rw [p1'.length]
    by_cases hl : ds.length = n
    · exact hl
    · rw [hn ds hl] at a1; exact a1.elim
  refine ⟨F1, ds, e1.fh, p1', hl, ?_⟩
  cases q : g ds with
  | ok d => rw [q] at a1; exact fun v F' H' e p => a1 v F' H' e (by show DV c.K F' v d; rw [hK]; exact p)
  | exc k => rw [q] at a1; exact a1
  | bad => rw [q] at a1; exact a1
inductive Ty where
  | int | str | tuple | list | bool
  deriving DecidableEq
def Ty.s : Ty → String
  | .int => "int" | .str => "str" | .tuple => "tuple" | .list => "list" | .bool => "bool"
def Ty.nm (t : Ty) : Str := Str.ofString t.s
def tyN : D → String
  | .non => "NoneType" | .bl _ => "bool" | .int _ => "int" | .str _ => "str" | .lst _ => "list" | .tup _ => "tuple" | .scr _ => "list" | .dct _ _ => "dict"
def isiD : Ty → D → Bool
  | .int, .int _ => true
  | .int, .bl _ => true
  | .bool, .bl _ => true
  | .str, .str _ => true
  | .tuple, .tup _ => true
  | .list, .lst _ => true
  | .list, .scr _ => true
  | _, _ => false
theorem kit_tab (t : Ty) (d : D) : kitB (tyN d) t.s = some (isiD t d) := by
  cases t <;> cases d <;> (simp only [tyN, Ty.s, isiD]; decide +kernel)
theorem boot_ty (t : Ty) : bootBuiltins t.nm = some (.type t.s) := by cases t <;> decide +kernel
theorem ty_ne (t : Ty) : t.nm ≠ "__name__" := by cases t <;> decide
theorem ty_db (t : Ty) : (t.nm == ("__debug__" : Str)) = false := by cases t <;> decide
theorem tyx_of {F H : Hp} {v : V} {d : D} (sm : Same F H) (nd : ∀ ks vs, d ≠ .dct ks vs) (h : DVB X.K F H v d) : TyX X.K H v (.type (tyN d)) := by
  have hl : ∀ {a : Addr} {xs : List V}, SqL X.K H a xs → TyX X.K H (.ref a) (.type "list") := fun {a xs} q => by
    rcases q with (q | ⟨o, q⟩) | ⟨o, its, n, q1, q2, _⟩
    · exact .base (.lst q)
    · exact .base (.frz q)
    · exact .kList q1 q2
  cases d with
  | non => rw [h.non]; exact .base .non
  | bl b => rw [h.bl]; exact .base (.bl b)
  | int i => rw [h.int]; exact .base (.int i)
  | str l => rw [h.str.1]; exact .base (.str _)
  | lst l =>
    obtain ⟨a, vs, ea, s1, z, r⟩ := h.list sm
    rw [ea]; exact .base (.lst s1)
  | tup l =>
    obtain ⟨a, vs, ea, s1, z, r⟩ := h.tuple sm
    rw [ea]
    rcases s1 with (q | ⟨o, q⟩) | ⟨o, its, n, q1, q2, _⟩
    · exact .base (.tup q)
    · exact .fTuple q
    · exact .kTuple q1 q2
  | scr ns =>
    rcases h with h | ⟨_, _, _, _, z, _⟩
    · cases h with
      | scr s1 z1 => exact hl (sqL_mono sm s1)
    · cases z
  | dct ks vs => exact absurd rfl (nd ks vs)
def rIsiDct : List V → Hp → VK → Prop := fun xs H Q => ∃ (a : Addr) (L : List DictEntry) (ep : Nat) (t : Ty), xs = [.ref a, .ty t.s] ∧ H a = some (DO a L ep) ∧ Q (.bl false) H
theorem call_isiDct : CallR X (.builtin "isinstance") rIsiDct := by
  intro pins s σ H xs us Q I r h
  obtain ⟨a, L, ep, t, rfl, ha, q⟩ := h
  obtain ⟨u1, u2, rfl, r1, r2⟩ := vals2 r
  cases (show u1 = Value.ref a from r1)
  cases (show u2 = Value.type t.s from r2)
  obtain ⟨⟨o, es, h1, h2, _⟩, _⟩ := (show ObjOk X.prog X.w H s.heap a (DO a L ep) from I.hok a _ ha)
  have fin : EP X pins σ Q (.bool false) { s with toks := s.toks + 1 } := ⟨.bl false, H, I.tok _, rfl, q⟩
  cases t
  · exact PySem.IsiPair.dict_int h1 h2.1 fin
  · exact PySem.IsiPair.dict_str h1 h2.1 fin
  · exact PySem.IsiPair.dict_tuple h1 h2.1 fin
  · exact PySem.IsiPair.dict_list h1 h2.1 fin
  · exact PySem.IsiPair.dict_bool h1 h2.1 fin
def fIsi (t : Ty) (f : List S → R D) : List S → R D := fun δ => (f δ).bind fun d => .ok (.bl (isiD t d))
theorem e_isi (hK : c.K = X.K) (t : Ty) (hg : Gl X "isinstance") (hm : X.mg "isinstance" = none) (hgt : Gl X t.nm) (hmt : X.mg t.nm = none) (hx : PE X e (tB c f)) (hs : noStar e = true) :
    PE X (.Call (.Name "isinstance" p) [e, .Name t.nm p2] [] pos) (tD c (fIsi t f)) :=
  (pe_callB (CallR.or call_isi call_isiDct) hg hm (by decide +kernel) (pa_cons hx (pa_cons (pe_bltn hgt hmt (boot_ty t) (v := .ty t.s) rfl (ty_ne t) (ty_db t)) pa_nil) (star_cons _ hs)) (by decide) (by decide) (star_cons _ hs) rfl).impD fun σ H Q ⟨F, δ, rl, a⟩ => ⟨F, δ, rl, (a.bind anti_D).mono fun u H1 ⟨du, F1, e1, p1, a1⟩ =>
    by
      by_cases nd : ∃ ks vs, du = .dct ks vs
      · obtain ⟨ks, vs, rfl⟩ := nd
        rcases p1 with p1 | ⟨_, _, _, _, z, _⟩
        · cases p1 with
          | dct s y z n r => exact .inr ⟨_, _, _, t, rfl, e1.fh _ _ s, by cases t <;> exact a1.ret e1.fh (.bl _)⟩
        · cases z
      · exact .inl ⟨u, .ty t.s, _, _, _, rfl, .ty t.s, tyx_of e1.fh (fun ks vs e => nd ⟨ks, vs, e⟩) (kb hK p1), kit_ty (kit_tab t du), a1.ret e1.fh (.bl _)⟩⟩
end
structure ItD (K : PySem.W.Frag) (C : Hp → Hp → Prop) (J : It) (ds : List D) : Prop where
  go : ∀ i F1 H1 d, C F1 H1 → ds[i]? = some d → J.go i H1 ∧ ∀ x H2, J.yld i H1 x H2 → ∃ F2, Ext F1 H1 F2 H2 ∧ DV K F2 x d
  stop : ∀ i F1 H1, C F1 H1 → ds.length ≤ i → J.stop i H1
/-- the source is frozen; it is kept as it lies -/
def Cf (F' : Hp) : Hp → Hp → Prop := fun F1 H1 => Same F' F1 ∧ Same F1 H1
def Cb (F' H' : Hp) : Hp → Hp → Prop := fun F1 H1 => Same F' F1 ∧ Same F1 H1 ∧ Same H' H1
def tI (c : Cfg) (C : Hp → Hp → Hp → Hp → Prop) (f : List S → R (List D)) : TI := tG (β := It) c (fun _ F' H' J ds => ItD c.K (C F' H') J ds ∧ ds.length ≤ szN) f
section
variable {X : Cx} {c : Cfg} {e x y z tg : Expr} {es : List Expr} {pos p p2 : Pos} {f : List S → R D} {fs : List S → R (List D)}
theorem pi_any {te : TE} (he : PE X e te) : PI X tg e (fun σ H R => te σ H fun x H1 => (∃ a xs, x = .ref a ∧ SqL X.K H1 a xs ∧ R (Itl X.K a) H1) ∨ (∃ a xs, x = .ref a ∧ SqT X.K H1 a xs ∧ R (Itt X.K a) H1) ∨ (∃ z, x = .str z ∧ R (Its z) H1)) := by
  refine ⟨fun pins s σ H R I h => ?_⟩
  refine thn (he.run pins s σ H _ I h) fun v s1 ⟨x, H1, I1, r1, q1⟩ => ?_
  rcases q1 with ⟨a, xs, e, hq, q⟩ | ⟨a, xs, e, hq, q⟩ | ⟨z, e, q⟩
  · subst e
    cases r1
    obtain ⟨its, rv, p, hz⟩ := I1.list hq
    refine wpAny_pyIter_list p.isList ?_
    refine ⟨s1.heap.objs.size, [s1.heap.objs.size], _, _, H1, rfl, I1.kept (t' := s1.toks) fun b o e => Heap.get?_push_of_some _ e, turn_list a _, ⟨_, Heap.get?_push_size _ rfl, rfl, rfl⟩, fun b hb => ?_, q⟩
    have e : b = s1.heap.objs.size := by simpa using hb
    subst e
    exact I1.fpOk (Nat.le_refl _) (I1.hok.fresh (Nat.le_refl _))
  · subst e
    cases r1
    obtain ⟨its, rv, p, hz⟩ := I1.tuple hq
    refine wpAny_pyIter_tuple (show s1.heap.IsTuple a its.toArray from p) ?_
    refine ⟨s1.heap.objs.size, [s1.heap.objs.size], _, _, H1, rfl, I1.kept (t' := s1.toks) fun b o e => Heap.get?_push_of_some _ e, turn_tuple a _, ⟨_, Heap.get?_push_size _ rfl, rfl, rfl⟩, fun b hb => ?_, q⟩
    have e : b = s1.heap.objs.size := by simpa using hb
    subst e
    exact I1.fpOk (Nat.le_refl _) (I1.hok.fresh (Nat.le_refl _))
  · subst e
    obtain ⟨t, rfl⟩ := r1
    cases ha : z.cps.all (· < 128)
    · exact wpAny_pyIter_wide ha (pi_one (tk := s1.toks) I1 _ (turn_str _ z t "str_iterator" (.inr rfl)) ⟨_, Heap.get?_push_size _ rfl, rfl, rfl⟩ q)
    · exact wpAny_pyIter_ascii ha (pi_one (tk := s1.toks) I1 _ (turn_str _ z t "str_ascii_iterator" (.inl rfl)) ⟨_, Heap.get?_push_size _ rfl, rfl, rfl⟩ q)
def itemsD : D → R (List D)
  | .lst ds => .ok ds
  | .tup ds => .ok ds
  | .str l => .ok (l.map fun k => .str [k])
  | _ => .bad
theorem itl_ok {K : PySem.W.Frag} {F' : Hp} {C : Hp → Hp → Prop} {a : Addr} {xs : List V} {ds : List D} (hC : ∀ F1 H1, C F1 H1 → Same F' F1 ∧ Same F1 H1 ∧ SqL K H1 a xs) (inj : ∀ F1 H1 ys, C F1 H1 → SqL K H1 a ys → ys = xs) (r : DVs K F' xs ds) : ItD K C (Itl K a) ds := by
  refine ⟨fun i F1 H1 d hc hd => ?_, fun i F1 H1 hc hi => ⟨xs, (hC F1 H1 hc).2.2, by rw [r.length]; exact hi⟩⟩
  obtain ⟨s1, s2, s3⟩ := hC F1 H1 hc
  obtain ⟨v, hv, pv⟩ := r.get' hd
  refine ⟨⟨xs, v, s3, hv⟩, fun x H2 hy => ?_⟩
  obtain ⟨rfl, hy⟩ := hy
  have := hy xs s3
  rw [hv] at this
  cases this
  exact ⟨F1, Ext.refl s2, pv.mono s1⟩
theorem itl_ok' {K : PySem.W.Frag} {F' : Hp} {C : Hp → Hp → Prop} {a : Addr} {xs : List V} {ds : List D} (hC : ∀ F1 H1, C F1 H1 → Same F' F1 ∧ Same F1 H1 ∧ SqL K H1 a xs) (r : DVs K F' xs ds) : ItD K C (Itl K a) ds := by
  refine ⟨fun i F1 H1 d hc hd => ?_, fun i F1 H1 hc hi => ⟨xs, (hC F1 H1 hc).2.2, by rw [r.length]; exact hi⟩⟩
  obtain ⟨s1, s2, s3⟩ := hC F1 H1 hc
  obtain ⟨v, hv, pv⟩ := r.get' hd
  refine ⟨⟨xs, v, s3, hv⟩, fun x H2 hy => ?_⟩
  obtain ⟨rfl, hy⟩ := hy
  have := hy xs s3
  rw [hv] at this
  cases this
  exact ⟨F1, Ext.refl s2, pv.mono s1⟩
theorem itt_ok {K : PySem.W.Frag} {F' : Hp} {C : Hp → Hp → Prop} {a : Addr} {xs : List V} {ds : List D} (hC : ∀ F1 H1, C F1 H1 → Same F' F1 ∧ Same F1 H1 ∧ SqT K H1 a xs) (r : DVs K F' xs ds) : ItD K C (Itt K a) ds := by
  refine ⟨fun i F1 H1 d hc hd => ?_, fun i F1 H1 hc hi => ⟨xs, (hC F1 H1 hc).2.2, by rw [r.length]; exact hi⟩⟩
  obtain ⟨s1, s2, s3⟩ := hC F1 H1 hc
  obtain ⟨v, hv, pv⟩ := r.get' hd
  refine ⟨⟨xs, v, s3, hv⟩, fun x H2 hy => ?_⟩
  obtain ⟨rfl, hy⟩ := hy
  have := hy xs s3
  rw [hv] at this
  cases this
  exact ⟨F1, Ext.refl s2, pv.mono s1⟩
theorem okS_one {l : List Nat} {k : Nat} (h : okS l = true) (hk : k ∈ l) : okS [k] = true := by
  simp only [okS, List.all_cons, List.all_nil, Bool.and_true, decide_eq_true_eq]
  exact okS_mem h hk
theorem its_ok {K : PySem.W.Frag} {C : Hp → Hp → Prop} {l : List Nat} (hC : ∀ F1 H1, C F1 H1 → Same F1 H1) (h : okS l = true) : ItD K C (Its (mkS l)) (l.map fun k => .str [k]) := by
  have hsz : (mkS l).cps.size = l.length := by simp [mkS]
  refine ⟨fun i F1 H1 d hc hd => ?_, fun i F1 H1 hc hi => ?_⟩
  · rw [List.getElem?_map] at hd
    obtain ⟨k, hk, rfl⟩ := Option.map_eq_some_iff.mp hd
    have hi : i < l.length := by
      rcases Nat.lt_or_ge i l.length with h | h
      · exact h
      · rw [List.getElem?_eq_none h] at hk; cases hk
    refine ⟨by show i < (mkS l).cps.size; rw [hsz]; exact hi, fun x H2 hy => ?_⟩
    obtain ⟨rfl, k', hk', rfl⟩ := hy
    have e : (mkS l).cps[i]? = l[i]? := by simp [mkS]
    rw [e, hk] at hk'
    cases hk'
    exact ⟨F1, Ext.refl (hC _ _ hc), .str [k] (okS_one h (List.mem_of_getElem? hk)) (by rw [szN_eq]; show 1 ≤ szN; decide)⟩
  · show (mkS l).cps.size ≤ i
    rw [hsz]
    simpa using hi
theorem anti_I {C : Hp → Hp → Hp → Hp → Prop} : Anti (β := It) (α := List D) (fun _ F' H' J ds => ItD c.K (C F' H') J ds ∧ ds.length ≤ szN) := fun _ _ _ _ _ _ _ h => h
/-- anything that is walked: borrowed (a comprehension), frozen (a for) -/
theorem i_anyB (hK : c.K = X.K) (hx : PE X e (tB c f)) : PI X tg e (tI c Cb fun δ => (f δ).bind itemsD) := ⟨fun pins s σ H R I h => by
  refine (pi_any hx).run pins s σ H R I ?_
  obtain ⟨F, δ, rl, a⟩ := h
  refine ⟨F, δ, rl, (Aft.bind anti_I a).mono fun v H1 ⟨d, F1, e1, p1, a1⟩ => ?_⟩
  cases d <;> first | exact a1.elim | skip
  · obtain ⟨ea, oa, la⟩ := DVB.str p1
    exact .inr (.inr ⟨_, ea, a1.ret (v := Its (mkS _)) e1.fh ⟨its_ok (fun _ _ h => h.2.1) oa, by rw [List.length_map, ← szN_eq]; exact la⟩⟩)
  · obtain ⟨p1', v1, e1', s1, z1, r1⟩ := DVB.list e1.fh p1
    refine .inl ⟨p1', v1, e1', SqL.of s1, a1.ret (v := Itl X.K p1') e1.fh ⟨?_, by rw [← r1.length, ← szN_eq]; exact z1⟩⟩
    rw [hK]
    exact itl_ok' (fun F2 H2 h => ⟨h.1, h.2.1, SqL.of (h.2.2 _ _ s1)⟩) (by rw [← hK]; exact r1)
  · obtain ⟨p1', v1, e1', s1, z1, r1⟩ := DVB.tuple e1.fh p1
    rw [hK] at s1
    refine .inr (.inl ⟨p1', v1, e1', s1, a1.ret (v := Itt X.K p1') e1.fh ⟨?_, by rw [← r1.length, ← szN_eq]; exact z1⟩⟩)
    rw [hK]
    exact itt_ok (fun F2 H2 h => ⟨h.1, h.2.1, sqT_mono h.2.2 s1⟩) (by rw [← hK]; exact r1)⟩
theorem i_anyF (hK : c.K = X.K) (hx : PE X e (tD c f)) : PI X tg e (tI c (fun F' _ => Cf F') fun δ => (f δ).bind itemsD) := ⟨fun pins s σ H R I h => by
  refine (pi_any hx).run pins s σ H R I ?_
  obtain ⟨F, δ, rl, a⟩ := h
  refine ⟨F, δ, rl, (Aft.bind anti_I a).mono fun v H1 ⟨d, F1, e1, p1, a1⟩ => ?_⟩
  cases p1 with
  | non => exact a1.elim
  | bl _ => exact a1.elim
  | int _ => exact a1.elim
  | scr _ _ => exact a1.elim
  | dct _ _ _ _ _ => exact a1.elim
  | str l oa la => exact .inr (.inr ⟨_, rfl, a1.ret (v := Its (mkS _)) e1.fh ⟨its_ok (fun _ _ h => h.2) oa, by rw [List.length_map, ← szN_eq]; exact la⟩⟩)
  | lst s1 z1 r1 =>
    refine .inl ⟨_, _, rfl, SqL.of (e1.fh _ _ s1), a1.ret (v := Itl X.K _) e1.fh ⟨?_, by rw [← r1.length, ← szN_eq]; exact z1⟩⟩
    rw [hK]
    exact itl_ok' (fun F2 H2 h => ⟨h.1, h.2, SqL.of (h.2 _ _ (h.1 _ _ s1))⟩) (by rw [← hK]; exact r1)
  | tup s1 z1 r1 =>
    rw [hK] at s1
    refine .inr (.inl ⟨_, _, rfl, sqT_mono e1.fh s1, a1.ret (v := Itt X.K _) e1.fh ⟨?_, by rw [← r1.length, ← szN_eq]; exact z1⟩⟩)
    rw [hK]
    exact itt_ok (fun F2 H2 h => ⟨h.1, h.2, sqT_mono h.2 (sqT_mono h.1 s1)⟩) (by rw [← hK]; exact r1)⟩
def rngL (lo : Int) (n : Nat) : List D := (List.range n).map fun (i : Nat) => D.int (lo + (i : Int))
def rng1 : D → R (List D)
  | .int j => if -(2 ^ 62) ≤ j ∧ j < szN then .ok (rngL 0 j.toNat) else .bad
  | _ => .bad
def rng2 : D → D → R (List D)
  | .int i, .int j => if -(2 ^ 62) ≤ i ∧ i < 2 ^ 62 ∧ -(2 ^ 62) ≤ j ∧ j < 2 ^ 62 ∧ j - i < szN then .ok (rngL i (j - i).toNat) else .bad
  | _, _ => .bad
theorem rng_len (lo : Int) (n : Nat) : (rngL lo n).length = n := by simp [rngL]
theorem itr_ok {K : PySem.W.Frag} {C : Hp → Hp → Prop} {lo : Int} {n : Nat} (hC : ∀ F1 H1, C F1 H1 → Same F1 H1) : ItD K C (Itr lo n) (rngL lo n) := by
  refine ⟨fun i F1 H1 d hc hd => ?_, fun i F1 H1 hc hi => ?_⟩
  · have hi : i < n := by
      rcases Nat.lt_or_ge i n with h | h
      · exact h
      · rw [List.getElem?_eq_none (by rw [rng_len]; exact h)] at hd; cases hd
    unfold rngL at hd
    rw [List.getElem?_map, List.getElem?_range hi] at hd
    cases hd
    refine ⟨hi, fun x H2 hy => ?_⟩
    obtain ⟨rfl, rfl⟩ := hy
    exact ⟨F1, Ext.refl (hC _ _ hc), .int _⟩
  · rw [rng_len] at hi
    exact hi
theorem i_range1 {C : Hp → Hp → Hp → Hp → Prop} (hC : ∀ F' H' F1 H1, C F' H' F1 H1 → Same F1 H1) (hg : Gl X "range") (hm : X.mg "range" = none) (hx : PE X x (tB c f)) (hs : noStar x = true) : PI X tg (.Call (.Name "range" p) [x] [] pos) (tI c C fun δ => (f δ).bind rng1) := ⟨fun pins s σ H R I h => by
  refine (pi_range1 hg hm (pa_cons hx pa_nil (star_cons _ hs)) (star_cons _ hs)).run pins s σ H R I ?_
  obtain ⟨F, δ, rl, a⟩ := h
  refine ⟨F, δ, rl, (Aft.bind anti_I a).mono fun v H1 ⟨d, F1, e1, p1, a1⟩ => ?_⟩
  cases d <;> first | exact a1.elim | skip
  rename_i j
  simp only [rng1] at a1
  split at a1
  · rename_i hj
    have hz : (rngL 0 j.toNat).length ≤ szN := by rw [rng_len]; have := hj.2; simp only [szN] at *; omega
    exact ⟨j, by rw [DVB.int p1], hj.1, by have := hj.2; simp only [szN] at *; omega, a1.ret (v := Itr 0 j.toNat) e1.fh ⟨itr_ok (hC F1 H1), hz⟩⟩
  · exact a1.elim⟩
variable {g : List S → R D}
theorem i_range2 {C : Hp → Hp → Hp → Hp → Prop} (hC : ∀ F' H' F1 H1, C F' H' F1 H1 → Same F1 H1) (hg : Gl X "range") (hm : X.mg "range" = none) (hx : PE X x (tB c f)) (hy : PE X y (tB c g)) (hs : noStar x = true) (hs2 : noStar y = true) : PI X tg (.Call (.Name "range" p) [x, y] [] pos) (tI c C fun δ => (f δ).bind fun a => (g δ).bind fun b => rng2 a b) := ⟨fun pins s σ H R I h => by
  refine (pi_range2 hg hm (pa_cons hx (pa_cons hy pa_nil (star_cons _ hs2)) (star_cons _ hs)) (by rw [star_cons _ hs, star_cons _ hs2]; rfl) (star_cons _ hs2)).run pins s σ H R I ?_
  obtain ⟨F, δ, rl, a⟩ := h
  refine ⟨F, δ, rl, (Aft.bind anti_I a).mono fun v H1 ⟨d, F1, e1, p1, a1⟩ => ⟨F1, δ, rl.ext e1, (Aft.bind anti_I a1).mono fun v2 H2 ⟨d2, F2, e2, p2, a2⟩ => ?_⟩⟩
  cases d with
  | int i =>
    cases d2 with
    | int j =>
      simp only [rng2] at a2
      split at a2
      · rename_i hj
        obtain ⟨h1, h2, h3, h4, h5⟩ := hj
        have hz : (rngL i (j - i).toNat).length ≤ szN := by rw [rng_len]; simp only [szN] at *; omega
        exact ⟨i, j, by rw [DVB.int p1, DVB.int p2], ⟨h1, h2, h3, h4⟩, a2.ret (v := Itr i (j - i).toNat) e2.fh ⟨itr_ok (hC F2 H2), hz⟩⟩
      · exact a2.elim
    | _ => exact a2.elim
  | _ => cases d2 <;> exact a2.elim⟩
inductive Tg where
  | nm (i : Nat) | tup (is : List Nat)
def setS : List Nat → List D → List S → Option (List S)
  | [], [], δ => some δ
  | i :: is, d :: ds, δ => if i < δ.length then setS is ds (δ.set i (.dat d)) else none
  | _, _, _ => none
def setT : Tg → D → List S → Option (List S)
  | .nm i, d, δ => if i < δ.length then some (δ.set i (.dat d)) else none
  | .tup is, .tup ds, δ => setS is ds δ
  | _, _, _ => none
def Tg.slots : Tg → List Nat
  | .nm i => [i]
  | .tup is => is
theorem Rel.setD {K : PySem.W.Frag} {B : Bg} {F H : Hp} {δ : List S} {σ : L2.St} {i : Nat} {v : V} {d : D} (r : Rel K B F δ σ H) (h : DV K F v d) : Rel K B F (δ.set i (.dat d)) (σ.set i (some v)) H := by
  refine ⟨r.sub, r.keep, r.nw, by simp [r.len], fun j s q => ?_, fun j k a h1 h2 => ?_⟩
  · by_cases hj : i = j
    · subst hj
      by_cases hl : i < δ.length
      · rw [List.getElem?_set_self hl] at q
        cases q
        exact ⟨some v, List.getElem?_set_self (by rw [← r.len]; exact hl), v, rfl, h⟩
      · rw [List.getElem?_eq_none (by simpa using Nat.le_of_not_lt hl)] at q; cases q
    · rw [List.getElem?_set_ne hj] at q
      rw [List.getElem?_set_ne hj]
      exact r.slot j s q
  · obtain ⟨⟨d1, q1⟩, z1⟩ := h1
    obtain ⟨⟨d2, q2⟩, z2⟩ := h2
    have ne : ∀ m ds, (δ.set i (S.dat d))[m]? = some (.ow ds) → i ≠ m := fun m ds q e => by
      subst e
      by_cases hl : i < δ.length
      · rw [List.getElem?_set_self hl] at q; cases q
      · rw [List.getElem?_eq_none (by simpa using Nat.le_of_not_lt hl)] at q; cases q
    have n1 := ne j d1 q1
    have n2 := ne k d2 q2
    rw [List.getElem?_set_ne n1] at q1 z1
    rw [List.getElem?_set_ne n2] at q2 z2
    exact r.sep j k a ⟨⟨d1, q1⟩, z1⟩ ⟨⟨d2, q2⟩, z2⟩
/-- a target's reading -/
def gD (c : Cfg) (t : Tg) : TG := fun v σ H Q => ∃ F δ d, Rel c.K c.B F δ σ H ∧ DV c.K F v d ∧ ∃ δ', setT t d δ = some δ' ∧ ∀ σ', Rel c.K c.B F δ' σ' H → (∀ j, j ∉ t.slots → σ'[j]? = σ[j]?) → σ'.length = σ.length → Q σ' H
theorem _root_.L2.PG.impD {X : Cx} {e : Expr} {t t' : TG} (h : PG X e t) (m : ∀ v σ H Q, t' v σ H Q → t v σ H Q) : PG X e t' := ⟨fun pins s σ H v u Q I r q => h.run pins s σ H v u Q I r (m _ _ _ _ q)⟩
theorem g_nm {i : Nat} {nm : Str} (hN : X.N.Nodup) (hi : X.N[i]? = some nm) (hx : Loc X.env.scope nm) (hf : X.fn nm = true ∨ X.env.scope.names.lookup nm = some .local) : PG X (.Name nm pos) (gD c (.nm i)) :=
  (pg_name hN hi hx hf).impD fun v σ H Q ⟨F, δ, d, rl, hv, δ', e, q⟩ => by
    simp only [setT] at e
    split at e
    · cases e
      refine q _ (rl.setD hv) (fun j hj => ?_) (by simp)
      exact List.getElem?_set_ne (fun z => hj (by simp [Tg.slots, z]))
    · cases e
/-- several names -/
inductive NamesOk (X : Cx) : List Expr → List Nat → Prop
  | nil : NamesOk X [] []
  | cons {i : Nat} {nm : Str} {pos : Pos} {es : List Expr} {is : List Nat} (hi : X.N[i]? = some nm) (hx : Loc X.env.scope nm) (hf : X.fn nm = true ∨ X.env.scope.names.lookup nm = some .local) (r : NamesOk X es is) : NamesOk X (.Name nm pos :: es) (i :: is)
def gsD (c : Cfg) (is : List Nat) : TGs := fun vs σ H Q => ∃ F δ ds, Rel c.K c.B F δ σ H ∧ DVs c.K F vs ds ∧ ∃ δ', setS is ds δ = some δ' ∧ ∀ σ', Rel c.K c.B F δ' σ' H → (∀ j, j ∉ is → σ'[j]? = σ[j]?) → σ'.length = σ.length → Q σ' H
theorem gs_names (hN : X.N.Nodup) {is : List Nat} (h : NamesOk X es is) : PGs X es (gsD c is) := by
  induction h with
  | nil =>
    refine ⟨fun pins s σ H vs us Q I r q => pgs_nil.run pins s σ H vs us Q I r ?_⟩
    obtain ⟨F, δ, ds, rl, hv, δ', e, q⟩ := q
    cases hv with
    | nil => cases e; exact ⟨rfl, q σ rl (fun _ _ => rfl) rfl⟩
    | cons _ _ => cases e
  | cons hi hx hf r ih =>
    refine ⟨fun pins s σ H vs us Q I r q => (pgs_cons (pg_name hN hi hx hf) ih rfl).run pins s σ H vs us Q I r ?_⟩
    obtain ⟨F, δ, ds, rl, hv, δ', e, q⟩ := q
    cases hv with
    | nil => cases e
    | cons h1 h2 =>
      simp only [setS] at e
      split at e
      · refine ⟨_, _, rfl, F, _, _, rl.setD h1, h2, δ', e, fun σ' r' h3 h4 => q σ' r' (fun j hj => ?_) (by rw [h4]; simp)⟩
        rw [h3 j (fun z => hj (List.mem_cons_of_mem _ z))]
        exact List.getElem?_set_ne (fun z => hj (by simp [z]))
      · cases e
theorem names_len (env : Env) {is : List Nat} (h : NamesOk X es is) : (assignEach es env).length = is.length ∧ (assignEach es env).findIdx? (·.1) = none := by
  induction h with
  | nil => exact ⟨rfl, rfl⟩
  | cons hi hx hf r ih =>
    refine ⟨by show (assignEach _ env).length + 1 = _; rw [ih.1]; rfl, ?_⟩
    show List.findIdx? (·.1) ((false, _) :: assignEach _ env) = none
    rw [List.findIdx?_cons]
    simp [ih.2]
theorem setS_len : ∀ {is : List Nat} {ds : List D} {δ δ' : List S}, setS is ds δ = some δ' → is.length = ds.length
  | [], [], _, _, _ => rfl
  | [], _ :: _, _, _, e => by cases e
  | _ :: _, [], _, _, e => by cases e
  | i :: is, d :: ds, δ, δ', e => by
    simp only [setS] at e
    split at e
    · simp [setS_len e]
    · cases e
theorem g_tup {is : List Nat} {k : Nat} (hK : c.K = X.K) (hc : X.calm = true) (hN : X.N.Nodup) (h : NamesOk X es is) : PG X (.Tuple es k pos) (gD c (.tup is)) :=
  (pg_tup hc (gs_names (c := c) hN h) (names_len _ h).1 (names_len _ h).2).impD fun v σ H Q ⟨F, δ, d, rl, hv, δ', e, q⟩ => by
    cases hv with
    | tup s1 z1 r1 =>
      simp only [setT] at e
      refine ⟨_, _, rfl, by rw [← hK]; exact sqT_mono rl.sub s1, by rw [r1.length, setS_len e], F, δ, _, rl, r1, δ', e, q⟩
    | _ => cases e
end
end PD
namespace PD
open PySem PySem.Spec PyProof.Rows L2
/-- new tuples, row by row -/
def ItW (rows : List (List V)) (has : Hp → Prop) : It :=
  ⟨fun i H => has H ∧ i < rows.length, fun i H v H' => ∃ T vs, v = .ref T ∧ H T = none ∧ H' = upd H T (.tup vs) ∧ rows[i]? = some vs, fun i H => has H ∧ rows.length ≤ i⟩
theorem turn_walks {P : Program} {w : World} {K : PySem.W.Frag} {elts : List Expr} {kk : Nat} {tpos : Pos} {fp wr : List Addr} {b0 : Addr} {tn : Nat → Heap → Prop} {rows : List (List V)} {has : Hp → Prop} (mem : b0 ∈ fp)
    (obj : ∀ i h, tn i h → ∀ b ∈ fp, ∃ o, h.get? b = some o ∧ ∀ v, o.data ≠ .cell v)
    (keep : ∀ i h h', tn i h → (∀ b ∈ fp, ∀ o, h.get? b = some o → h'.get? b = some o) → tn i h')
    (bnd : ∀ i h, tn i h → i ≤ rows.length) (sub : ∀ b ∈ wr, b ∈ fp) (small : ∀ r ∈ rows, r.length ≤ 3)
    (walk : ∀ (X : Cx), X.prog = P → X.w = w → X.K = K → X.calm = true → ∀ (i : Nat) (pins : List (Addr × Obj)) (s : Shared) (σ : L2.St) (H : Hp), Inv X pins σ H s → tn i s.heap → has H →
      ∃ fp' Pt St Mid, WalksT P w X.A b0 fp' wr rows.length Pt St Mid ∧ St i s.heap ∧ (∀ j vals, Pt j vals → ∃ vs, rows[j]? = some vs ∧ Vals vs vals.toList) ∧ ∀ j h', St j h' → j ≤ rows.length → tn j h')
    (self : ∀ (A : Around) (i : Nat) (s : Shared) (Q : Value → Shared → Prop) (E : Value → Shared → Prop), tn i s.heap → Q (.ref b0) s → wpAny (model P w) A (pyIter (.ref b0)) Q E s) :
    Turn P w K (.Tuple elts kk tpos) (ItW rows has) fp b0 tn where
  mem := mem
  obj := obj
  keep := keep
  item := by
    intro X hP hw hK hc i pins s σ H E I hf st hg
    obtain ⟨fp', Pt, St, Mid, W, s1, hv, back⟩ := walk X hP hw hK hc i pins s σ H I st hg.1
    subst hP hw
    refine W.item i s _ E hg.2 s1 fun T vals h' tk hp hT hu hM hk => ?_
    refine ⟨_, rfl, W.go elts kk tpos i T _ _ E hM fun h2 s2 hk2 => ?_⟩
    obtain ⟨vs, hr, hvs⟩ := hv i vals hp
    have hTw := W.apart i T h' hM
    obtain ⟨oT, gT, cT, n, dT⟩ := hu
    have gT2 := hk2 T oT hTw gT
    have hl : vs.length ≤ sizeLine := Nat.le_trans (small vs (List.mem_of_getElem? hr)) (by rw [szN_eq]; decide)
    have new : ObjOk X.prog X.w (upd H T (.tup vs)) h2 T (.tup vs) := ⟨hl, vals.toList, hvs, ⟨oT, gT2, cT, n, by simpa using dT⟩⟩
    have I1 := I.turnedNew (t' := tk) (ch := wr) (fun b o hb q => hk2 b o hb (hk b o hb q)) (fun b hb => hf b (sub b hb)) hT new
    refine ⟨.ref T, _, I1, rfl, ⟨T, vs, rfl, I.hok.fresh hT, rfl, hr⟩, back (i + 1) h2 s2 hg.2, fun b hb => ?_⟩
    obtain ⟨o, ho, _⟩ := obj i s.heap st b hb
    have hlt : b < T := Nat.lt_of_lt_of_le (Heap.lt_size ho) hT
    rw [upd_ne (Nat.ne_of_lt hlt)]
    exact (hf b hb).1
  done := by
    intro X hP hw hK hc i pins s σ H E I hf st hg
    obtain ⟨fp', Pt, St, Mid, W, s1, hv, back⟩ := walk X hP hw hK hc i pins s σ H I st hg.1
    subst hP hw
    have hi : i = rows.length := Nat.le_antisymm (bnd i _ st) hg.2
    subst hi
    exact W.done s _ E s1 fun h' tk hk => ⟨rfl, I.turnedL (t' := tk) (ch := wr) (fun b o hb q => hk b o hb q) (fun b hb => hf b (sub b hb))⟩
  self := self
inductive Src where
  | lst (a : Addr) | tup (a : Addr) | str (l : List Nat)
def Src.fp : Src → List Addr
  | .lst a => [a]
  | .tup a => [a]
  | .str _ => []
def Src.val : Src → V
  | .lst a => .ref a
  | .tup a => .ref a
  | .str l => .str (mkS l)
def Src.has (K : PySem.W.Frag) (xs : List V) : Src → Hp → Prop
  | .lst a, H => SqL K H a xs
  | .tup a, H => SqT K H a xs
  | .str l, _ => xs = l.map fun c => V.str ⟨#[c]⟩
def Src.it (b : Addr) (i : Nat) (h : Heap) : Src → Prop
  | .lst a => h.IsListIter b a i
  | .tup a => h.IsTupleIter b a i
  | .str l => ∃ t, h.IsStrIter b (strIterType (mkS l)) (mkS l) t i
def Src.obj (v : Value) : Src → Obj
  | .lst a => { cls := .type "list_iterator", data := .fields #[.ref a, .int 0 0] }
  | .tup a => { cls := .type "tuple_iterator", data := .fields #[.ref a, .int 0 0] }
  | .str l => { cls := .type (strIterType (mkS l)), data := .fields #[v, .int 0 0] }
theorem Src.it_at {q : Src} {b : Addr} {i : Nat} {h h' : Heap} (k : ∀ o, h.get? b = some o → h'.get? b = some o) (z : q.it b i h) : q.it b i h' := by
  cases q with
  | lst a => obtain ⟨o, ho, r⟩ := z; exact ⟨o, k o ho, r⟩
  | tup a => obtain ⟨o, ho, r⟩ := z; exact ⟨o, k o ho, r⟩
  | str l => obtain ⟨t, o, ho, r⟩ := z; exact ⟨t, o, k o ho, r⟩
theorem Src.it_obj {q : Src} {b : Addr} {i : Nat} {h : Heap} (z : q.it b i h) : ∃ o, h.get? b = some o ∧ ∀ v, o.data ≠ .cell v := by
  cases q with
  | lst a => obtain ⟨o, ho, _, hd⟩ := z; exact ⟨o, ho, fun v e => by rw [hd] at e; cases e⟩
  | tup a => obtain ⟨o, ho, _, hd⟩ := z; exact ⟨o, ho, fun v e => by rw [hd] at e; cases e⟩
  | str l => obtain ⟨t, o, ho, _, hd⟩ := z; exact ⟨o, ho, fun v e => by rw [hd] at e; cases e⟩
theorem vals_get {vs : List V} {us : List Value} (r : Vals vs us) {i : Nat} {u : Value} (h : us[i]? = some u) : ∃ v, vs[i]? = some v ∧ RelV v u := by
  induction r generalizing i with
  | nil => cases h
  | cons a _ ih =>
    cases i with
    | zero => cases h; exact ⟨_, rfl, a⟩
    | succ i => exact ih (by simpa using h)
theorem Src.draws {X : Cx} {pins : List (Addr × Obj)} {σ : L2.St} {H : Hp} {s : Shared} {b : Addr} {i : Nat} {xs : List V} (q : Src) (hb : b ∉ q.fp) (hh : X.A.in1.handled = none) (I : Inv X pins σ H s) (has : q.has X.K xs H) (st : q.it b i s.heap) :
    ∃ (Pd : Nat → Value → Prop) (St : Nat → Heap → Prop), Draws X.prog X.w X.A.in1 b (b :: q.fp) xs.length Pd St ∧ St i s.heap ∧ (∀ j v, Pd j v → ∃ x, xs[j]? = some x ∧ RelV x v) ∧ ∀ j h', St j h' → q.it b j h' := by
  cases q with
  | lst a =>
    obtain ⟨its, rv, p, hz⟩ := I.list has
    have hl := rv.length
    have D := Draws.list (prog := X.prog) (w := X.w) hh b a (fun e => hb (by simp [Src.fp, e])) its.toArray
    rw [show its.toArray.size = xs.length by simp [hl]] at D
    exact ⟨_, _, D, ⟨st, p.isList⟩, fun j v hv => vals_get rv (by simpa using hv), fun j h' z => z.1⟩
  | tup a =>
    obtain ⟨its, rv, p, hz⟩ := I.tuple has
    have hl := rv.length
    have D := Draws.tuple (prog := X.prog) (w := X.w) hh b a (fun e => hb (by simp [Src.fp, e])) its.toArray
    rw [show its.toArray.size = xs.length by simp [hl]] at D
    exact ⟨_, _, D, ⟨st, p⟩, fun j v hv => vals_get rv (by simpa using hv), fun j h' z => z.1⟩
  | str l =>
    obtain ⟨t, st⟩ := st
    have has' : xs = l.map fun c => V.str ⟨#[c]⟩ := has
    have D := Draws.text (prog := X.prog) (w := X.w) hh b (mkS l) t
    rw [show (mkS l).cps.size = xs.length by rw [has']; simp [mkS]] at D
    refine ⟨_, _, D, st, fun j v hv => ?_, fun j h' z => ⟨t, z⟩⟩
    obtain ⟨k, u, hk, rfl⟩ := hv
    have e : (mkS l).cps[j]? = l[j]? := by simp [mkS]
    rw [e] at hk
    exact ⟨.str ⟨#[k]⟩, by rw [has', List.getElem?_map, hk]; rfl, u, rfl⟩
/-- iter(v) -/
theorem Src.begins {X : Cx} {pins : List (Addr × Obj)} {σ : L2.St} {H : Hp} {s : Shared} {xs : List V} {v : Value} (q : Src) (I : Inv X pins σ H s) (has : q.has X.K xs H) (r : RelV q.val v) :
    ∃ Hb, Begins v (q.obj v) Hb ∧ Hb s.heap ∧ ∀ h' b, h'.get? b = some (q.obj v) → q.it b 0 h' := by
  cases q with
  | lst a =>
    cases r
    obtain ⟨its, rv, p, hz⟩ := I.list has
    exact ⟨_, begins_list a its.toArray, p.isList, fun h' b e => ⟨_, e, rfl, rfl⟩⟩
  | tup a =>
    cases r
    obtain ⟨its, rv, p, hz⟩ := I.tuple has
    exact ⟨_, begins_tuple a its.toArray, p, fun h' b e => ⟨_, e, rfl, rfl⟩⟩
  | str l =>
    obtain ⟨t, rfl⟩ := r
    exact ⟨_, begins_text (mkS l) t, trivial, fun h' b e => ⟨t, _, e, rfl, rfl⟩⟩
theorem Src.lt {X : Cx} {pins : List (Addr × Obj)} {σ : L2.St} {H : Hp} {s : Shared} {xs : List V} (q : Src) (I : Inv X pins σ H s) (has : q.has X.K xs H) : ∀ b ∈ q.fp, b < s.heap.objs.size := by
  intro b hb
  cases q with
  | lst a =>
    obtain ⟨its, rv, p, hz⟩ := I.list has
    rw [show b = a by simpa [Src.fp] using hb]
    exact p.lt
  | tup a =>
    obtain ⟨its, rv, ⟨o, ho, _⟩, hz⟩ := I.tuple has
    rw [show b = a by simpa [Src.fp] using hb]
    exact Heap.lt_size ho
  | str l => cases hb
end PD
namespace PD
open PySem PySem.Spec PyProof.Rows L2
abbrev enObj (b : Addr) : Obj := { cls := .type "enumerate", data := .fields #[.none, .bool false, .ref b, rawInt 0, .none, .none] }
theorem meets_en {v : Value} {ob : Obj} {Hb : Heap → Prop} (B : Begins v ob Hb) :
    Meets (Builtin.«enumerate.__new__» ⟨[.type "enumerate", v], []⟩) (fun _ R s => Hb s.heap ∧ R (.ok (.ret (.ref (s.heap.push ob).objs.size))) { s with heap := (s.heap.push ob).push (enObj s.heap.objs.size) }) :=
  .of_wp fun prog w A R s h => by
    obtain ⟨hp, g, dd, tk, os⟩ := s
    obtain ⟨hb, h⟩ := h
    have hsub := sub_enumerate
    have go : ∀ {A' : Around} {E : Value → Shared → Prop} {Q : Value → Shared → Prop}, Q (.ref hp.objs.size) ⟨hp.push ob, g, dd, tk, os⟩ → wpAny (model prog w) A' (pyIter v) Q E ⟨hp, g, dd, tk, os⟩ :=
      fun z => B.iter prog w _ _ ⟨hp, g, dd, tk, os⟩ _ hb z
    wp_walk using go
    refine wpAny_stack_any fun _ => wpAny_pure ?_
    split
    · rename_i cc _ _ _ _ _
      cases (cc == Value.type "enumerate") <;> (wp_walk using go; exact ⟨_, rfl, h⟩)
    · wp_walk using go; exact ⟨_, rfl, h⟩
theorem call_en {prog : Program} {w : World} {A : Around} {E : Value → Shared → Prop} {s : Shared} {v : Value} {ob : Obj} {Hb : Heap → Prop} {Q : Value → Shared → Prop} (B : Begins v ob Hb) (hb : Hb s.heap)
    (q : ∀ h', IsEnum h' (s.heap.objs.size + 1) s.heap.objs.size 0 .none → h'.get? s.heap.objs.size = some ob → (∀ b o, s.heap.get? b = some o → h'.get? b = some o) → Q (.ref (s.heap.objs.size + 1)) { s with heap := h' }) :
    wpAny (model prog w) A (call (.type "enumerate") [v]) Q E s := by
  refine callType_new F.called_enumerate (by decide) (F.typeCall_enumerate_1 _) (F.newCall_enumerate_1 _) (fun obj => F.args_object_init_2 obj _) F.entry_enumerate_new (meets_en B) ⟨hb, ?_⟩
  have hz : (s.heap.push ob).objs.size = s.heap.objs.size + 1 := Heap.size_push ..
  have g1 := Heap.get?_push_size (s.heap.push ob) (o := enObj s.heap.objs.size) rfl
  show _ ∧ _
  rw [hz] at g1 ⊢
  exact ⟨⟨_, g1, rfl⟩, q _ g1 (Heap.get?_push_of_some _ (Heap.get?_push_size _ B.free)) fun b o x => Heap.get?_push_of_some _ (Heap.get?_push_of_some _ x)⟩
def rowsE (xs : List V) : List (List V) := xs.mapIdx fun i x => [V.int (i : Nat), x]
theorem rowsE_len (xs : List V) : (rowsE xs).length = xs.length := by simp [rowsE]
theorem rowsE_get {xs : List V} {i : Nat} {x : V} (h : xs[i]? = some x) : (rowsE xs)[i]? = some [V.int (i : Nat), x] := by simp [rowsE, List.getElem?_mapIdx, h]
theorem rowsE_small {xs : List V} : ∀ r ∈ rowsE xs, r.length ≤ 3 := by
  intro r hr
  unfold rowsE at hr
  rw [List.mem_mapIdx] at hr
  obtain ⟨i, hi, rfl⟩ := hr
  show 2 ≤ 3
  decide
theorem turn_en {P : Program} {w : World} {K : PySem.W.Frag} {elts : List Expr} {kk : Nat} {tpos : Pos} (q : Src) (xs : List V) (e b : Addr) (h1 : e ≠ b) (h2 : b ∉ q.fp) (h3 : e ∉ q.fp) :
    Turn P w K (.Tuple elts kk tpos) (ItW (rowsE xs) (q.has K xs)) [e, b] e (fun i h => (∃ old, IsEnum h e b ((i : Nat) : Int) old) ∧ q.it b i h ∧ i ≤ xs.length) := by
  refine turn_walks (wr := [e, b]) (by simp) (fun i h st z hz => ?_) (fun i h h' st k => ?_) (fun i h st => by rw [rowsE_len]; exact st.2.2) (fun _ z => z) rowsE_small (fun X hP hw hK hc i pins s σ H I st has => ?_) (fun A i s Q E st z => ?_)
  · obtain ⟨⟨old, he⟩, hi, _⟩ := st
    have hz' : z = e ∨ z = b := by simpa using hz
    rcases hz' with rfl | rfl
    · exact ⟨_, he, fun v q => nomatch q⟩
    · exact Src.it_obj hi
  · obtain ⟨⟨old, he⟩, hi, hl⟩ := st
    exact ⟨⟨old, k e (by simp) _ he⟩, Src.it_at (fun o z => k b (by simp) o z) hi, hl⟩
  · subst hP hw hK
    obtain ⟨he, hi, hl⟩ := st
    obtain ⟨Pd, St, D, s1, hv, back⟩ := q.draws h2 (I.ok.hd hc) I has hi
    have W := WalksT.enumerateD D e h1 (by simp [h1, h3]) (by simp)
    rw [← rowsE_len xs] at W
    refine ⟨_, _, _, _, W, ⟨he, s1⟩, fun j vals hp => ?_, fun j h' z hj => ⟨z.1, back j h' z.2, by rw [rowsE_len] at hj; exact hj⟩⟩
    obtain ⟨t, x, hx, rfl⟩ := hp
    obtain ⟨y, hy, ry⟩ := hv j x hx
    exact ⟨_, rowsE_get hy, .cons ⟨t, rfl⟩ (.cons ry .nil)⟩
  · obtain ⟨⟨old, he⟩, _⟩ := st
    exact wpAny_pyIter_enum he z
theorem pi_en {X : Cx} {e : Expr} {te : TE} {p pos tpos : Pos} {elts : List Expr} {kk : Nat} (hg : Gl X "enumerate") (hm : X.mg "enumerate" = none) (ha : PE X e te) (hs : noStar e = true) :
    PI X (.Tuple elts kk tpos) (.Call (.Name "enumerate" p) [e] [] pos) (fun σ H R => te σ H fun x H1 => ∃ (q : Src) (xs : List V), x = q.val ∧ q.has X.K xs H1 ∧ R (ItW (rowsE xs) (q.has X.K xs)) H1) := by
  refine ⟨fun pins s σ H R I h => ?_⟩
  have na := star_cons (es := []) X.env hs
  refine Call_ (ld_blt I hg hm boot_enumerate (PyProof.Rows.callWith_type1 (PyProof.Rows.args_cons (thn (ha.run pins s σ H _ I h) fun v s1 ⟨x, H1, I1, r1, z1⟩ => PyProof.Rows.args_nil ?_) na) na rfl))
  obtain ⟨q, xs, rfl, has, z⟩ := z1
  obtain ⟨Hb, B, hb, beg⟩ := q.begins I1 has r1
  have lt := q.lt I1 has
  refine call_en B hb fun h' he ho hk => wpAny_pyIter_enum he ?_
  have I2 : Inv X pins σ H1 { s1 with heap := h' } := I1.kept (t' := s1.toks) hk
  have n1 : s1.heap.objs.size ∉ q.fp := fun z => Nat.lt_irrefl _ (lt _ z)
  have n2 : s1.heap.objs.size + 1 ∉ q.fp := fun z => Nat.lt_irrefl _ (Nat.lt_of_succ_lt (lt _ z))
  refine ⟨s1.heap.objs.size + 1, [s1.heap.objs.size + 1, s1.heap.objs.size], _, _, H1, rfl, I2, turn_en q xs (s1.heap.objs.size + 1) s1.heap.objs.size (Nat.succ_ne_self _) n1 n2, ⟨⟨.none, he⟩, beg h' _ ho, Nat.zero_le _⟩, fun b hb => ?_, z⟩
  have hb' : b = s1.heap.objs.size + 1 ∨ b = s1.heap.objs.size := by simpa using hb
  have hle : s1.heap.objs.size ≤ b := by
    rcases hb' with rfl | rfl
    · exact Nat.le_succ _
    · exact Nat.le_refl _
  exact I1.fpOk hle (I1.hok.fresh hle)
def rowsZ (xs ys : List V) : List (List V) := List.zipWith (fun x y => [x, y]) xs ys
theorem rowsZ_len (xs ys : List V) : (rowsZ xs ys).length = min xs.length ys.length := by simp [rowsZ]
theorem rowsZ_get {xs ys : List V} {i : Nat} {x y : V} (h : xs[i]? = some x) (h' : ys[i]? = some y) : (rowsZ xs ys)[i]? = some [x, y] := by simp [rowsZ, List.getElem?_zipWith, h, h']
theorem rowsZ_small {xs ys : List V} : ∀ r ∈ rowsZ xs ys, r.length ≤ 3 := by
  intro r hr
  obtain ⟨i, hi⟩ := List.getElem?_of_mem hr
  unfold rowsZ at hi
  rw [List.getElem?_zipWith] at hi
  split at hi
  · cases hi; show 2 ≤ 3; decide
  · cases hi
theorem turn_zp {P : Program} {w : World} {K : PySem.W.Frag} {elts : List Expr} {kk : Nat} {tpos : Pos} (q q' : Src) (xs ys : List V) (z ti to b c : Addr) (S : ZipSep2 z ti to b c (b :: q.fp) (c :: q'.fp)) (h1 : b ∉ q.fp) (h2 : c ∉ q'.fp) :
    Turn P w K (.Tuple elts kk tpos) (ItW (rowsZ xs ys) (fun H => q.has K xs H ∧ q'.has K ys H)) [z, ti, to, b, c] z
      (fun i h => IsZip h z ti to .none ∧ IsTupOf2 h ti (.ref b) (.ref c) ∧ (∃ a1 a2, IsTupOf2 h to a1 a2) ∧ q.it b i h ∧ q'.it c i h ∧ i ≤ min xs.length ys.length) := by
  refine turn_walks (wr := [z, to, b, c]) (by simp) (fun i h st a ha => ?_) (fun i h h' st k => ?_) (fun i h st => by rw [rowsZ_len]; exact st.2.2.2.2.2) (fun a ha => ?_) rowsZ_small (fun X hP hw hK hc i pins s σ H I st has => ?_) (fun A i s Q E st y => ?_)
  · obtain ⟨g1, g2, ⟨a1, a2, g3⟩, g4, g5, _⟩ := st
    have ha' : a = z ∨ a = ti ∨ a = to ∨ a = b ∨ a = c := by simpa using ha
    rcases ha' with rfl | rfl | rfl | rfl | rfl
    · exact ⟨_, g1, fun v q => nomatch q⟩
    · exact ⟨_, g2, fun v q => nomatch q⟩
    · exact ⟨_, g3, fun v q => nomatch q⟩
    · exact Src.it_obj g4
    · exact Src.it_obj g5
  · obtain ⟨g1, g2, ⟨a1, a2, g3⟩, g4, g5, g6⟩ := st
    exact ⟨k z (by simp) _ g1, k ti (by simp) _ g2, ⟨a1, a2, k to (by simp) _ g3⟩, Src.it_at (fun o y => k b (by simp) o y) g4, Src.it_at (fun o y => k c (by simp) o y) g5, g6⟩
  · have ha' : a = z ∨ a = to ∨ a = b ∨ a = c := by simpa using ha
    rcases ha' with rfl | rfl | rfl | rfl <;> simp
  · subst hP hw hK
    obtain ⟨g1, g2, g3, g4, g5, g6⟩ := st
    obtain ⟨Pd, St, D, s1, hv, back⟩ := q.draws h1 (I.ok.hd hc) I has.1 g4
    obtain ⟨Pd', St', D', s1', hv', back'⟩ := q'.draws h2 (I.ok.hd hc) I has.2 g5
    have W := WalksT.zipD2 S D D'
    rw [← rowsZ_len xs ys] at W
    refine ⟨_, _, _, _, W, ⟨g1, g2, g3, s1, s1'⟩, fun j vals hp => ?_, fun j h' y hj => ⟨y.1, y.2.1, y.2.2.1, back j h' y.2.2.2.1, back' j h' y.2.2.2.2, by rw [rowsZ_len] at hj; exact hj⟩⟩
    obtain ⟨x, y, hx, hy, rfl⟩ := hp
    obtain ⟨u, hu, ru⟩ := hv j x hx
    obtain ⟨u', hu', ru'⟩ := hv' j y hy
    exact ⟨_, rowsZ_get hu hu', .cons ru (.cons ru' .nil)⟩
  · exact wpAny_pyIter_zip st.1 y
theorem pi_zp {X : Cx} {e e2 : Expr} {ta : TA} {p pos tpos : Pos} {elts : List Expr} {kk : Nat} (hg : Gl X "zip") (hm : X.mg "zip" = none) (ha : PA X [e, e2] ta) (hs : noStar e = true) (hs2 : noStar e2 = true) :
    PI X (.Tuple elts kk tpos) (.Call (.Name "zip" p) [e, e2] [] pos) (fun σ H R => ta σ H fun vs H1 => ∃ (q q' : Src) (xs ys : List V), vs = [q.val, q'.val] ∧ q.has X.K xs H1 ∧ q'.has X.K ys H1 ∧ R (ItW (rowsZ xs ys) (fun H => q.has X.K xs H ∧ q'.has X.K ys H)) H1) := by
  refine ⟨fun pins s σ H R I h => ?_⟩
  refine Call_ (ld_blt I hg hm PyProof.Rows.boot_zip (PyProof.Rows.callWith_type1 (thn (ha.run pos pins s σ H _ I h) fun us s1 ⟨vs, H1, I1, r1, z1⟩ => ?_) (star_cons X.env hs) (star_none X.env pos [e2] (by simp [hs2]))))
  obtain ⟨q, q', xs, ys, rfl, has, has', y⟩ := z1
  cases r1 with
  | cons r rr =>
    cases rr with
    | cons r' rr =>
      cases rr
      obtain ⟨Hb, B, hb, beg⟩ := q.begins I1 has r
      obtain ⟨Hb', B', hb', beg'⟩ := q'.begins I1 has' r'
      have lt := q.lt I1 has
      have lt' := q'.lt I1 has'
      refine zip_begins2 B B' hb hb' fun h' hz hTI hTO g1 g2 hsz hk => wpAny_pyIter_zip hz ?_
      have I2 : Inv X pins σ H1 { s1 with heap := h' } := I1.kept (t' := s1.toks) hk
      have n1 : s1.heap.objs.size ∉ q.fp := fun z => Nat.lt_irrefl _ (lt _ z)
      have n2 : s1.heap.objs.size + 1 ∉ q'.fp := fun z => Nat.lt_irrefl _ (Nat.lt_of_succ_lt (lt' _ z))
      refine ⟨s1.heap.objs.size + 4, [s1.heap.objs.size + 4, s1.heap.objs.size + 2, s1.heap.objs.size + 3, s1.heap.objs.size, s1.heap.objs.size + 1], _, _, H1, rfl, I2, turn_zp q q' xs ys _ _ _ _ _ (zip_sep2 lt lt') n1 n2, ⟨hz, hTI, ⟨_, _, hTO⟩, beg h' _ g1, beg' h' _ g2, Nat.zero_le _⟩, fun c hcm => ?_, y⟩
      have e' : c = s1.heap.objs.size + 4 ∨ c = s1.heap.objs.size + 2 ∨ c = s1.heap.objs.size + 3 ∨ c = s1.heap.objs.size ∨ c = s1.heap.objs.size + 1 := by simpa using hcm
      have hle : s1.heap.objs.size ≤ c := by
        rcases e' with rfl | rfl | rfl | rfl | rfl <;> first | exact Nat.le_refl _ | exact Nat.le_add_right _ _
      exact I1.fpOk hle (I1.hok.fresh hle)
end PD
namespace PD
open PySem PySem.Spec PyProof.Rows L2
section
variable {X : Cx} {c : Cfg} {e x y z tg : Expr} {es elts : List Expr} {pos p p2 tpos : Pos} {f g : List S → R D} {fs : List S → R (List D)} {kk : Nat}
def enumL (ds : List D) : List D := ds.mapIdx fun i d => .tup [.int (i : Nat), d]
def zipL (ds es : List D) : List D := List.zipWith (fun a b => .tup [a, b]) ds es
theorem enumL_len (ds : List D) : (enumL ds).length = ds.length := by simp [enumL]
theorem zipL_len (ds es : List D) : (zipL ds es).length = min ds.length es.length := by simp [zipL]
theorem itw_ok {K : PySem.W.Frag} {C : Hp → Hp → Prop} {F' : Hp} {rows : List (List V)} {has : Hp → Prop} {rs : List (List D)} (hC : ∀ F1 H1, C F1 H1 → Same F' F1 ∧ Same F1 H1 ∧ has H1) (hl : rows.length = rs.length)
    (hr : ∀ (i : Nat) (r : List D), rs[i]? = some r → ∃ vs, rows[i]? = some vs ∧ DVs K F' vs r ∧ vs.length ≤ 3) : ItD K C (ItW rows has) (rs.map .tup) := by
  refine ⟨fun i F1 H1 d hc hd => ?_, fun i F1 H1 hc hi => ⟨(hC F1 H1 hc).2.2, by rw [hl]; simpa using hi⟩⟩
  obtain ⟨s1, s2, s3⟩ := hC F1 H1 hc
  rw [List.getElem?_map] at hd
  obtain ⟨r, hr', rfl⟩ := Option.map_eq_some_iff.mp hd
  obtain ⟨vs, hv, dv, sm⟩ := hr i r hr'
  have hi : i < rows.length := by
    rcases Nat.lt_or_ge i rows.length with z | z
    · exact z
    · rw [List.getElem?_eq_none z] at hv; cases hv
  refine ⟨⟨s3, hi⟩, fun x H2 hy => ?_⟩
  obtain ⟨T, vs', rfl, hT, rfl, hv'⟩ := hy
  rw [hv] at hv'
  cases hv'
  exact ⟨upd F1 T (.tup vs), Ext.new s2 hT, .tup (SqT.of upd_same) (Nat.le_trans sm (by rw [szN_eq]; decide)) ((dv.mono s1).mono (same_new (s2.free hT)))⟩
theorem dvs_signs {K : PySem.W.Frag} {F : Hp} {l : List Nat} (h : okS l = true) : DVs K F (l.map fun c => V.str ⟨#[c]⟩) (l.map fun k => D.str [k]) := by
  induction l with
  | nil => exact .nil
  | cons k l ih =>
    refine .cons (.str [k] (okS_one h List.mem_cons_self) (by rw [szN_eq]; show 1 ≤ szN; decide)) (ih ?_)
    simp only [okS, List.all_cons, Bool.and_eq_true] at h ⊢
    exact h.2
theorem srcB {K : PySem.W.Frag} {F H : Hp} {v : V} {d : D} {ds : List D} (sm : Same F H) (h : DVB K F H v d) (e : itemsD d = .ok ds) :
    ∃ (q : Src) (xs : List V), v = q.val ∧ (∀ H', Same H H' → q.has K xs H') ∧ DVs K F xs ds ∧ ds.length ≤ szN := by
  cases d <;> simp only [itemsD] at e <;> first | (cases e; done) | skip
  · cases e
    obtain ⟨ea, oa, la⟩ := DVB.str h
    exact ⟨.str _, _, ea, fun _ _ => rfl, dvs_signs oa, by rw [List.length_map, ← szN_eq]; exact la⟩
  · cases e
    obtain ⟨p1, v1, e1, s1, z1, r1⟩ := DVB.list sm h
    exact ⟨.lst p1, v1, e1, fun H' hs => SqL.of (hs _ _ s1), r1, by rw [← r1.length, ← szN_eq]; exact z1⟩
  · cases e
    obtain ⟨p1, v1, e1, s1, z1, r1⟩ := DVB.tuple sm h
    exact ⟨.tup p1, v1, e1, fun H' hs => sqT_mono hs s1, r1, by rw [← r1.length, ← szN_eq]; exact z1⟩
theorem srcF {K : PySem.W.Frag} {F : Hp} {v : V} {d : D} {ds : List D} (h : DV K F v d) (e : itemsD d = .ok ds) :
    ∃ (q : Src) (xs : List V), v = q.val ∧ (∀ H', Same F H' → q.has K xs H') ∧ DVs K F xs ds ∧ ds.length ≤ szN := by
  cases h with
  | non => cases e
  | bl _ => cases e
  | int _ => cases e
  | scr _ _ => cases e
  | dct _ _ _ _ _ => cases e
  | str l oa la => cases e; exact ⟨.str l, _, rfl, fun _ _ => rfl, dvs_signs oa, by rw [List.length_map, ← szN_eq]; exact la⟩
  | lst s1 z1 r1 => cases e; exact ⟨.lst _, _, rfl, fun H' hs => SqL.of (hs _ _ s1), r1, by rw [← r1.length, ← szN_eq]; exact z1⟩
  | tup s1 z1 r1 => cases e; exact ⟨.tup _, _, rfl, fun H' hs => sqT_mono hs s1, r1, by rw [← r1.length, ← szN_eq]; exact z1⟩
theorem ite_ok {K : PySem.W.Frag} {C : Hp → Hp → Prop} {F' : Hp} {q : Src} {xs : List V} {ds : List D} (hC : ∀ F1 H1, C F1 H1 → Same F' F1 ∧ Same F1 H1 ∧ q.has K xs H1) (dv : DVs K F' xs ds) : ItD K C (ItW (rowsE xs) (q.has K xs)) (enumL ds) := by
  have e : enumL ds = (ds.mapIdx fun i d => [D.int (i : Nat), d]).map .tup := by
    apply List.ext_getElem?
    intro i
    simp only [enumL, List.getElem?_mapIdx, List.getElem?_map]
    cases ds[i]? <;> rfl
  rw [e]
  refine itw_ok hC (by simp [rowsE_len, dv.length]) fun i r hr => ?_
  rw [List.getElem?_mapIdx] at hr
  obtain ⟨d, hd, rfl⟩ := Option.map_eq_some_iff.mp hr
  obtain ⟨v, hv, pv⟩ := dv.get' hd
  exact ⟨_, rowsE_get hv, .cons (.int _) (.cons pv .nil), by show 2 ≤ 3; decide⟩
theorem itz_ok {K : PySem.W.Frag} {C : Hp → Hp → Prop} {F' : Hp} {q q' : Src} {xs ys : List V} {ds es : List D} (hC : ∀ F1 H1, C F1 H1 → Same F' F1 ∧ Same F1 H1 ∧ q.has K xs H1 ∧ q'.has K ys H1) (dv : DVs K F' xs ds) (dv' : DVs K F' ys es) : ItD K C (ItW (rowsZ xs ys) (fun H => q.has K xs H ∧ q'.has K ys H)) (zipL ds es) := by
  have e : zipL ds es = (List.zipWith (fun a b => [a, b]) ds es).map .tup := by
    rw [List.map_zipWith]; rfl
  rw [e]
  refine itw_ok hC (by simp [rowsZ_len, dv.length, dv'.length]) fun i r hr => ?_
  rw [List.getElem?_zipWith] at hr
  split at hr
  · rename_i a b ha hb
    cases hr
    obtain ⟨v, hv, pv⟩ := dv.get' ha
    obtain ⟨v', hv', pv'⟩ := dv'.get' hb
    exact ⟨_, rowsZ_get hv hv', .cons pv (.cons pv' .nil), by show 2 ≤ 3; decide⟩
  · cases hr
def enumD (d : D) : R (List D) := (itemsD d).bind fun ds => .ok (enumL ds)
def zipD (a b : D) : R (List D) := (itemsD a).bind fun ds => (itemsD b).bind fun es => .ok (zipL ds es)
theorem enumD_some {α : Type} {σ : L2.St} {P : Hp → Hp → Hp → It → List D → Prop} {F H : Hp} {d : D} {Q : It → Hp → Prop} (a : Aft c σ P F H (enumD d) Q) : ∃ ds, itemsD d = .ok ds ∧ Aft c σ P F H (.ok (enumL ds)) Q := by
  unfold enumD at a
  cases h : itemsD d with
  | ok ds => rw [h] at a; exact ⟨ds, rfl, a⟩
  | exc k => exfalso; cases d <;> simp [itemsD] at h
  | bad => rw [h] at a; exact a.elim
theorem i_enB (hK : c.K = X.K) (hg : Gl X "enumerate") (hm : X.mg "enumerate" = none) (hx : PE X e (tB c f)) (hs : noStar e = true) : PI X (.Tuple elts kk tpos) (.Call (.Name "enumerate" p) [e] [] pos) (tI c Cb fun δ => (f δ).bind enumD) := ⟨fun pins s σ H R I h => by
  refine (pi_en hg hm hx hs).run pins s σ H R I ?_
  obtain ⟨F, δ, rl, a⟩ := h
  refine ⟨F, δ, rl, (Aft.bind anti_I a).mono fun v H1 ⟨d, F1, e1, p1, a1⟩ => ?_⟩
  obtain ⟨ds, hd, a2⟩ := enumD_some (α := D) a1
  obtain ⟨q, xs, ev, has, dv, hl⟩ := srcB e1.fh p1 hd
  refine ⟨q, xs, ev, by rw [← hK]; exact has H1 (fun _ _ z => z), a2.ret (v := ItW (rowsE xs) (q.has X.K xs)) e1.fh ⟨?_, by rw [enumL_len]; exact hl⟩⟩
  rw [← hK]
  exact ite_ok (fun F2 H2 h => ⟨h.1, h.2.1, has H2 h.2.2⟩) dv⟩
theorem i_enF (hK : c.K = X.K) (hg : Gl X "enumerate") (hm : X.mg "enumerate" = none) (hx : PE X e (tD c f)) (hs : noStar e = true) : PI X (.Tuple elts kk tpos) (.Call (.Name "enumerate" p) [e] [] pos) (tI c (fun F' _ => Cf F') fun δ => (f δ).bind enumD) := ⟨fun pins s σ H R I h => by
  refine (pi_en hg hm hx hs).run pins s σ H R I ?_
  obtain ⟨F, δ, rl, a⟩ := h
  refine ⟨F, δ, rl, (Aft.bind anti_I a).mono fun v H1 ⟨d, F1, e1, p1, a1⟩ => ?_⟩
  obtain ⟨ds, hd, a2⟩ := enumD_some (α := D) a1
  obtain ⟨q, xs, ev, has, dv, hl⟩ := srcF p1 hd
  refine ⟨q, xs, ev, by rw [← hK]; exact has H1 e1.fh, a2.ret (v := ItW (rowsE xs) (q.has X.K xs)) e1.fh ⟨?_, by rw [enumL_len]; exact hl⟩⟩
  rw [← hK]
  exact ite_ok (fun F2 H2 h => ⟨h.1, h.2, has H2 (h.1.trans h.2)⟩) dv⟩
theorem zipD_some {σ : L2.St} {P : Hp → Hp → Hp → It → List D → Prop} {F H : Hp} {d d' : D} {Q : It → Hp → Prop} (a : Aft c σ P F H (zipD d d') Q) : ∃ ds es, itemsD d = .ok ds ∧ itemsD d' = .ok es ∧ Aft c σ P F H (.ok (zipL ds es)) Q := by
  unfold zipD at a
  cases h : itemsD d with
  | ok ds =>
    cases h' : itemsD d' with
    | ok es => rw [h, h'] at a; exact ⟨ds, es, rfl, rfl, a⟩
    | exc k => exfalso; cases d' <;> simp [itemsD] at h'
    | bad => rw [h, h'] at a; exact a.elim
  | exc k => exfalso; cases d <;> simp [itemsD] at h
  | bad => rw [h] at a; exact a.elim
theorem i_zpB (hK : c.K = X.K) (hg : Gl X "zip") (hm : X.mg "zip" = none) (hx : PE X x (tB c f)) (hy : PE X y (tB c g)) (hs : noStar x = true) (hs2 : noStar y = true) : PI X (.Tuple elts kk tpos) (.Call (.Name "zip" p) [x, y] [] pos) (tI c Cb fun δ => (f δ).bind fun a => (g δ).bind fun b => zipD a b) := ⟨fun pins s σ H R I h => by
  refine (pi_zp hg hm (pa_cons hx (pa_cons hy pa_nil (star_cons _ hs2)) (star_cons _ hs)) hs hs2).run pins s σ H R I ?_
  obtain ⟨F, δ, rl, a⟩ := h
  refine ⟨F, δ, rl, (Aft.bind anti_I a).mono fun v H1 ⟨d, F1, e1, p1, a1⟩ => ⟨F1, δ, rl.ext e1, (Aft.bind anti_I a1).mono fun v2 H2 ⟨d2, F2, e2, p2, a2⟩ => ?_⟩⟩
  obtain ⟨ds, es, hd, hd', a3⟩ := zipD_some a2
  obtain ⟨q, xs, ev, has, dv, hl⟩ := srcB e2.fh (DVB.ext p1 e2) hd
  obtain ⟨q', ys, ev', has', dv', hl'⟩ := srcB e2.fh p2 hd'
  refine ⟨q, q', xs, ys, by rw [ev, ev'], by rw [← hK]; exact has H2 (fun _ _ z => z), by rw [← hK]; exact has' H2 (fun _ _ z => z), a3.ret (v := ItW (rowsZ xs ys) (fun H => q.has X.K xs H ∧ q'.has X.K ys H)) e2.fh ⟨?_, by rw [zipL_len]; omega⟩⟩
  rw [← hK]
  exact itz_ok (fun F2 H2 h => ⟨h.1, h.2.1, has H2 h.2.2, has' H2 h.2.2⟩) dv dv'⟩
theorem i_zpF (hK : c.K = X.K) (hg : Gl X "zip") (hm : X.mg "zip" = none) (hx : PE X x (tD c f)) (hy : PE X y (tD c g)) (hs : noStar x = true) (hs2 : noStar y = true) : PI X (.Tuple elts kk tpos) (.Call (.Name "zip" p) [x, y] [] pos) (tI c (fun F' _ => Cf F') fun δ => (f δ).bind fun a => (g δ).bind fun b => zipD a b) := ⟨fun pins s σ H R I h => by
  refine (pi_zp hg hm (pa_cons hx (pa_cons hy pa_nil (star_cons _ hs2)) (star_cons _ hs)) hs hs2).run pins s σ H R I ?_
  obtain ⟨F, δ, rl, a⟩ := h
  refine ⟨F, δ, rl, (Aft.bind anti_I a).mono fun v H1 ⟨d, F1, e1, p1, a1⟩ => ⟨F1, δ, rl.ext e1, (Aft.bind anti_I a1).mono fun v2 H2 ⟨d2, F2, e2, p2, a2⟩ => ?_⟩⟩
  obtain ⟨ds, es, hd, hd', a3⟩ := zipD_some a2
  obtain ⟨q, xs, ev, has, dv, hl⟩ := srcF (p1.mono e2.ff) hd
  obtain ⟨q', ys, ev', has', dv', hl'⟩ := srcF p2 hd'
  refine ⟨q, q', xs, ys, by rw [ev, ev'], by rw [← hK]; exact has H2 e2.fh, by rw [← hK]; exact has' H2 e2.fh, a3.ret (v := ItW (rowsZ xs ys) (fun H => q.has X.K xs H ∧ q'.has X.K ys H)) e2.fh ⟨?_, by rw [zipL_len]; omega⟩⟩
  rw [← hK]
  exact itz_ok (fun F2 H2 h => ⟨h.1, h.2, has H2 (h.1.trans h.2), has' H2 (h.1.trans h.2)⟩) dv dv'⟩
theorem e_call0 {k : Nat} {nm : Str} {g : List D → R D} (hK : c.K = X.K) (G : FnD X.prog X.w X.K X.mg X.base c.cv k nm g) (hr : Room k X.A) (hg : Gl X nm) (tk : Takes X c.W) (hdb : (nm == ("__debug__" : Str)) = false) : PE X (.Call (.Name nm p) [] [] pos) (tD c fun _ => g []) := by
  obtain ⟨n, fa, fd, ps, hn, F, hm, hk, hb⟩ := G
  refine ⟨fun pins s σ H Q I h => ?_⟩
  obtain ⟨F', δ, rl, a⟩ := h
  have hl : ([] : List V).length = n := by
    by_cases hl : ([] : List D).length = n
    · exact hl
    · have a' : Aft c σ (pD c) F' H (g []) Q := a
      rw [hn [] hl] at a'; exact a'.elim
  refine wpAny_Call_Name_kw (ld_glob I hg hm (PySem.W.callWith_K0 I.kIn hk (run_fnS (us := []) (E := WE c.W) F hr hb (passAt tk σ) I .nil ?_)) hdb)
  refine ⟨F', [], rl.sub, .nil, hl, ?_⟩
  have a' : Aft c σ (pD c) F' H (g []) Q := a
  cases q : g [] with
  | ok d => rw [q] at a'; exact fun v F' H' e p => a' v F' H' e (by show DV c.K F' v d; rw [hK]; exact p)
  | exc k => rw [q] at a'; exact a'
  | bad => rw [q] at a'; exact a'
def dedI (ns : List Int) : List Int := ns.foldl step_dedup []
def lsetD : D → Option D
  | .lst ds => match intsOf ds with
    | some ns => if ns.length ≤ 4000 then some (.int ((dedI ns).length : Nat)) else none
    | none => none
  | _ => none
theorem dedI_eq (ns : List Int) : firstMet (fun i => ns.getD i 0) ns.length = dedI ns := by
  unfold firstMet dedI
  congr 1
  apply List.ext_getElem?
  intro i
  rw [List.getElem?_map]
  rcases Nat.lt_or_ge i ns.length with h | h
  · rw [List.getElem?_range h]; simp [h]
  · rw [List.getElem?_eq_none (by simpa using h), List.getElem?_eq_none h]; rfl
theorem ints_are {ns : List Int} {us : List Value} (h : Vals (ns.map V.int) us) : IntsAre us ns := by
  induction ns generalizing us with
  | nil => cases h; exact .nil
  | cons n ns ih =>
    cases h with
    | cons r t =>
      obtain ⟨k, rfl⟩ := r
      exact .cons n k (ih t)
theorem e_lset (hK : c.K = X.K) (hc : X.calm = true) (hg : Gl X "len") (hm : X.mg "len" = none) (hg2 : Gl X "set") (hm2 : X.mg "set" = none) (hx : PE X x (tB c f)) (hs : noStar x = true) :
    PE X (.Call (.Name "len" p) [.Call (.Name "set" p2) [x] [] tpos] [] pos) (tD c fun δ => (f δ).bind fun d => R.of (lsetD d)) := ⟨fun pins s σ H Q I h => by
  have na := star_cons (es := []) X.env hs
  obtain ⟨F, δ, rl, a⟩ := h
  refine Call_ (ld_blt I hg hm boot_len ?_)
  refine callWith_builtin1 (args_cons ?_ rfl) rfl rfl
  refine Call_ (ld_blt I hg2 hm2 PyProof.Rows.boot_set ?_)
  refine callWith_type1 (args_cons (thn (hx.run pins s σ H _ I ⟨F, δ, rl, a.bind anti_D⟩) fun v s1 ⟨u, H1, I1, r1, d, F1, e1, p1, a1⟩ => args_nil ?_) na) na rfl
  cases d with
  | lst ds =>
    simp only [lsetD] at a1
    cases hi : intsOf ds with
    | none => rw [hi] at a1; exact a1.elim
    | some ns =>
      rw [hi] at a1
      simp only at a1
      split at a1
      · rename_i hn
        obtain ⟨l, xs, rfl, hq, hz, dv⟩ := DVB.list e1.fh p1
        rw [ints_of dv hi] at hq
        cases r1
        obtain ⟨its, rv, pl, _⟩ := I1.list (SqL.of hq)
        have hlen : its.toArray.size = ns.length := by simpa using rv.length.symm
        refine call_set_list (I1.ok.hd hc) pl.isList (by simpa using ints_are rv) (by rw [hlen]; unfold scanBound; omega) fun h' tk hS hk => args_nil ?_
        rw [hlen, dedI_eq] at hS
        obtain ⟨o, es, ep, t, ho, hex, hd, _, _, _, hf, hn⟩ := hS
        have I2 : Inv X pins σ H1 { s1 with heap := h', toks := tk } := I1.kept fun b o e => hk b o (Heap.lt_size e) e
        have hb : es.size ≤ 4000 := by
          rw [hn, ← dedI_eq]
          exact Nat.le_trans (firstMet_length_le _ _) ‹_›
        refine call_len_set ho hex hd hf (by omega) ⟨.int (dedI ns).length, H1, I2.tok _, ⟨_, by rw [hn]⟩, a1 _ F1 H1 (Ext.refl e1.fh) (.int _)⟩
      · exact a1.elim
  | _ => exact a1.elim⟩
def strsOf : List D → Option (List (List Nat))
  | [] => some []
  | .str l :: r => match strsOf r with
    | some ls => some (l :: ls)
    | none => none
  | _ :: _ => none
def joinN (sep : List Nat) : List (List Nat) → List Nat
  | [] => []
  | [x] => x
  | x :: r => x ++ sep ++ joinN sep r
def lenAll : List (List Nat) → Nat
  | [] => 0
  | x :: r => x.length + lenAll r
def joinD : D → D → Option D
  | .str s, .lst ds => match strsOf ds with
    | some ys => if lenAll ys + ys.length * s.length ≤ szN then some (.str (joinN s ys)) else none
    | none => none
  | .str s, .tup ds => match strsOf ds with
    | some ys => if lenAll ys + ys.length * s.length ≤ szN then some (.str (joinN s ys)) else none
    | none => none
  | _, _ => none
theorem join_mk (sep : List Nat) : ∀ ys : List (List Nat), Txt.join (mkS sep) (ys.map mkS) = mkS (joinN sep ys) := by
  intro ys
  have e : Txt.join (mkS sep) (ys.map mkS) = Str.join (mkS sep) (ys.map mkS) := by
    unfold Txt.join
    rw [StrLaws.glued_eq_join]
  rw [e]
  induction ys with
  | nil => rfl
  | cons x r ih =>
    cases r with
    | nil => rfl
    | cons y r =>
      show mkS x ++ mkS sep ++ Str.join (mkS sep) ((y :: r).map mkS) = _
      rw [ih (by unfold Txt.join; rw [StrLaws.glued_eq_join]), mkS_app, mkS_app]
      rfl
theorem joinN_len (sep : List Nat) : ∀ ys : List (List Nat), (joinN sep ys).length ≤ lenAll ys + ys.length * sep.length
  | [] => by simp [joinN]
  | [x] => by simp [joinN, lenAll]
  | x :: y :: r => by
    have := joinN_len sep (y :: r)
    simp only [joinN, List.length_append, lenAll, List.length_cons] at this ⊢
    simp only [Nat.add_mul, Nat.one_mul] at this ⊢
    omega
theorem joinN_ok {sep : List Nat} (hs : okS sep = true) : ∀ {ys : List (List Nat)}, (∀ y ∈ ys, okS y = true) → okS (joinN sep ys) = true
  | [], _ => rfl
  | [x], h => h x (by simp)
  | x :: y :: r, h => okS_app (okS_app (h x (by simp)) hs) (joinN_ok hs fun z hz => h z (List.mem_cons_of_mem _ hz))
theorem strs_of {K : PySem.W.Frag} {F : Hp} : ∀ {vs : List V} {ds : List D} {ys : List (List Nat)}, DVs K F vs ds → strsOf ds = some ys → vs = (ys.map mkS).map V.str ∧ ∀ y ∈ ys, okS y = true
  | _, _, _, .nil, h => by cases h; exact ⟨rfl, by simp⟩
  | _, d :: ds, ys, .cons a r, h => by
    cases d <;> simp only [strsOf] at h <;> first | (cases h; done) | skip
    split at h
    · rename_i ls hl
      cases h
      obtain ⟨rfl, h2⟩ := strs_of r hl
      cases a with
      | str l ok hz => exact ⟨rfl, fun y hy => by
          rcases List.mem_cons.mp hy with rfl | hy
          · exact ok
          · exact h2 y hy⟩
    · cases h
theorem lenAll_eq : ∀ ys : List (List Nat), ((ys.map mkS).map (·.length)).sum = lenAll ys
  | [] => rfl
  | x :: r => by
    have := lenAll_eq r
    simp only [List.map_cons, List.sum_cons, lenAll, mkS_len]
    rw [this]
def noSup : Expr → Bool
  | .Call (.Name _ _) [] [] _ => false
  | _ => true
theorem base_of {o : Expr} {nm : Str} {env : Env} (h : noSup o = true) : attributeBase o nm env (eval o env) = eval o env := by
  unfold attributeBase
  split
  · simp [noSup] at h
  · rfl
def isStr : D → R (List Nat)
  | .str l => .ok l
  | _ => .bad
def joinS (s : List Nat) (b : D) : Option D := joinD (.str s) b
theorem e_join {apos : Pos} (hK : c.K = X.K) (hx : PE X x (tB c f)) (hy : PE X y (tB c g)) (hs : noStar y = true) (hb : noSup x = true) (hl : (apos.endLine == pos.line) = true) :
    PE X (.Call (.Attribute x "join" apos) [y] [] pos) (tD c fun δ => (f δ).bind fun a => (isStr a).bind fun s => (g δ).bind fun b => R.of (joinS s b)) :=
  (pe_join hx hy (star_cons (es := []) X.env hs) (base_of hb) hl).impD fun σ H Q ⟨F, δ, rl, a⟩ => ⟨F, δ, rl, (a.bind anti_D).mono fun u H1 ⟨du, F1, e1, p1, a1⟩ => by
    cases du <;> first | exact a1.elim | skip
    rename_i l
    obtain ⟨ea, oa, la⟩ := DVB.str p1
    have a1' : Aft c σ (pD c) F1 H1 ((g δ).bind fun b => R.of (joinS l b)) Q := a1
    refine ⟨⟨_, ea⟩, F1, δ, rl.ext e1, (a1'.bind anti_D).mono fun v H2 ⟨dv, F2, e2, p2, a2⟩ => ?_⟩
    have fin : ∀ (ds : List D) (p : Addr) (vs : List V), v = .ref p → (SqL X.K H2 p vs ∨ SqT X.K H2 p vs) → DVs c.K F2 vs ds → (∃ ys, strsOf ds = some ys ∧ lenAll ys + ys.length * l.length ≤ szN ∧ Aft c σ (pD c) F2 H2 (.ok (.str (joinN l ys))) Q) →
        ∃ a p, ∃ ys : List Str, u = .str a ∧ [v] = [.ref p] ∧ (SqL X.K H2 p (ys.map V.str) ∨ SqT X.K H2 p (ys.map V.str)) ∧ (ys.map (·.length)).sum + ys.length * a.length ≤ 16777216 ∧ Q (.str (Txt.join a ys)) H2 := by
      intro ds p vs ev hq dv2 ⟨ys, hy', hz, a3⟩
      obtain ⟨rfl, ok⟩ := strs_of dv2 hy'
      refine ⟨mkS l, p, ys.map mkS, ea, by rw [ev], hq, by rw [lenAll_eq, List.length_map, mkS_len]; exact hz, ?_⟩
      rw [join_mk]
      exact a3 _ F2 H2 (Ext.refl e2.fh) (.str _ (joinN_ok oa ok) (by rw [szN_eq]; exact Nat.le_trans (joinN_len _ _) hz))
    cases dv <;> simp only [joinS, joinD] at a2 <;> first | exact a2.elim | skip
    · obtain ⟨p1', v1, e1', s1, z1, r1⟩ := DVB.list e2.fh p2
      split at a2
      · split at a2
        · exact fin _ p1' v1 e1' (.inl (SqL.of s1)) r1 ⟨_, by assumption, by assumption, a2⟩
        · exact a2.elim
      · exact a2.elim
    · obtain ⟨p1', v1, e1', s1, z1, r1⟩ := DVB.tuple e2.fh p2
      rw [hK] at s1
      split at a2
      · split at a2
        · exact fin _ p1' v1 e1' (.inr s1) r1 ⟨_, by assumption, by assumption, a2⟩
        · exact a2.elim
      · exact a2.elim⟩
end
end PD
namespace PD
open PySem PySem.Spec PyProof.Rows L2
abbrev sObj (wd : World) : Obj := { cls := .type "set", dict := none, data := .set #[] 0 (.fresh 0 0 (!wd.params.followText "set-order")) }
section
variable {pg : Program} {wd : World} {Ar : Around} {Ex : Value → Shared → Prop} {sh : Shared}
theorem call_set_lstI {la : Addr} {itv : Array Value} (nv : List Int) {Qv : Value → Shared → Prop} (hcal : Ar.handled = none) (hla : sh.heap.IsList la itv) (hin : IntsAre itv.toList nv) (hbd : nv.length + 1 < scanBound)
    (hfin : ∀ (h' : Heap) (tkk cc : Nat), SetR wd h' sh.heap.objs.size (fun jx => decide (jx ∈ nv)) cc → cc ≤ nv.length → (∀ bb ov, sh.heap.get? bb = some ov → h'.get? bb = some ov) → Qv (.ref sh.heap.objs.size) { sh with heap := h', toks := tkk }) :
    wpAny (model pg wd) Ar (call (.type "set") [.ref la]) Qv Ex sh := by
  have hisize : itv.size = nv.length := by
    have qq := IntsAre.length hin
    rw [Array.length_toList] at qq
    exact qq
  obtain ⟨cc, tll, hmro1⟩ := F.called_set.mro
  have hmade1 := F.called_set.made
  have hsub1 := F.called_set.sub
  refine wpAny_call (codeAny_of_tree ?_)
  show wpAny _ _ (callAny (.type "set") _) _ _ _
  refine wpAny_pure ⟨Code.quiet_builtin _ (by decide +kernel), codeAny_builtin F.entry_type_call ?_⟩
  rw [Around.under_plain (weight_type_call_type "set" [.ref la] []) rfl]
  have hnt := F.called_set.notType
  have hcc := F.called_set.canCreate
  have hctc := F.typeCall_set_1 (.ref la)
  repeat (any_goals (first | assumption | wp_step))
  refine codeAny_mono (code_set_led1 (.ref la) (E := Ex) (Q₁ := fun ob sh1 => ob = .ref sh.heap.objs.size ∧ sh1 = { sh with heap := sh.heap.push (sObj wd) }) ⟨rfl, rfl⟩) fun rs sh1 hres => ?_
  cases rs with
  | error ee => exact hres
  | ok flw =>
    cases flw with
    | ret ob =>
      obtain ⟨rfl, rfl⟩ := hres
      have hSet : (sh.heap.push (sObj wd)).get? sh.heap.objs.size = some (sObj wd) := Heap.get?_push_size _ rfl
      have hTy : Shared.TypeIs { sh with heap := sh.heap.push (sObj wd) } (.ref sh.heap.objs.size) "set" := ⟨_, hSet, rfl⟩
      have hlk := F.called_set.init.lookup
      have hbnd := F.called_set.init.bind (.ref sh.heap.objs.size)
      repeat (any_goals (first | assumption | wp_step))
      refine codeAny_mono (codeAny_call_builtin (R := wants (fun rs sh3 => rs = .none ∧ ∃ h' tkk cc, sh3 = { sh with heap := h', toks := tkk } ∧ SetR wd h' sh.heap.objs.size (fun jx => decide (jx ∈ nv)) cc ∧ cc ≤ nv.length ∧
          (∀ bb ov, sh.heap.get? bb = some ov → h'.get? bb = some ov)) Ex) F.called_set.init.plain F.entry_set_init (check_set_init_1 hTy ?_)) fun rs2 sh3 hres2 => ?_
      · obtain ⟨obl, hold, hcls, nlen, hdat⟩ := hla
        obtain ⟨oc, od, oda, osl⟩ := obl
        simp only at hcls hdat
        subst hcls; subst hdat
        have hold2 : (sh.heap.push (sObj wd)).get? la = some { cls := .type "list", dict := od, data := .seq itv nlen, slots := osl } := Heap.get?_push_of_some _ hold
        have hs1 := F.sub_list_set
        have hs2 := F.sub_list_frozenset
        have hneq : (Value.type "list" == Value.type "dict") = false := by decide
        have hla1 : (sh.heap.push (sObj wd)).IsList la itv := ⟨_, hold2, rfl, nlen, rfl⟩
        unfold Builtin.«set.__init__» noKeywords Builtin.Frozenset.updateFrom
        generalize hit0 : pyIter = itf
        wp_walk
        subst hit0
        refine wpAny_pyIter_list hla1 ?_
        refine wpAny_bind (wpAny_runValue ?_)
        have hlt0 : la < sh.heap.objs.size := Heap.lt_size hold
        have hcal3 : Ar.in1.in1.in1.handled = none := by simp [hcal]
        have hsz1 : (sh.heap.push (sObj wd)).objs.size = sh.heap.objs.size + 1 := Heap.size_push ..
        have hnit : la ≠ (sh.heap.push (sObj wd)).objs.size := by
          rw [Heap.size_push]; exact Nat.ne_of_lt (Nat.lt_succ_of_lt hlt0)
        have hnf : sh.heap.objs.size ∉ [(sh.heap.push (sObj wd)).objs.size, la] := by
          rw [Heap.size_push]; simp only [List.mem_cons, List.mem_singleton, List.not_mem_nil, or_false, not_or]
          exact ⟨Nat.ne_of_lt (Nat.lt_succ_self _), Nat.ne_of_gt hlt0⟩
        have hvals : ∀ (ix : Nat) (vv : Value), itv[ix]? = some vv → ∃ ky tt, nv[ix]? = some ky ∧ vv = .int ky tt := fun ix vv hv => by
          have hix : ix < nv.length := by rw [← hisize]; exact (Array.getElem?_eq_some_iff.mp hv).1
          obtain ⟨tt, ee⟩ := PyProof.Rows.IntsAre.int_at hin ix vv (by rw [Array.getElem?_toList]; exact hv)
          refine ⟨nv[ix], tt, List.getElem?_eq_getElem hix, ?_⟩
          rw [ee, List.getD_eq_getElem?_getD, List.getElem?_eq_getElem hix] <;> rfl
        refine set_update_ints ((Walks.list hcal3 _ la hnit itv).toS) sh.heap.objs.size
          hnf nv hisize hbd hvals (itv.size - 0) 0 _ (by omega) (Nat.zero_le _)
          ⟨⟨_, Heap.get?_push_size _ rfl, rfl, rfl⟩, (hla1.push _)⟩ ?hset0 ?hrun
        case hset0 =>
          have hgot : ((sh.heap.push (sObj wd)).push { cls := .type "list_iterator", data := .fields #[.ref la, .int 0 0] }).get? sh.heap.objs.size
              = some (sObj wd) := Heap.get?_push_of_some _ hSet
          exact ⟨0, Nat.le_refl 0, setR_new_at hgot⟩
        case hrun =>
          intro sh2 cn hmv hcn hSet2
          obtain ⟨h', gg, dd2, tkn, osn⟩ := sh2
          have eg1 : gg = sh.gens := hmv.gens
          have ed1 : dd2 = sh.drawn := hmv.drawn
          have eo1 : osn = sh.os := hmv.os
          subst eg1; subst ed1; subst eo1
          show wpAny _ _ _ _ _ _
          refine wpAny_pure ?_
          show wpAny _ _ (ret Value.none) _ _ _
          rw [hisize] at hcn
          refine wpAny_pure ⟨rfl, h', tkn, cn, rfl, hSet2, hcn, fun bb ov ee => ?_⟩
          have hb00 : bb < sh.heap.objs.size := Heap.lt_size ee
          have hb11 : bb ≠ sh.heap.objs.size := Nat.ne_of_lt hb00
          have hb22 : bb ≠ (sh.heap.push (sObj wd)).objs.size := by
            rw [Heap.size_push]; exact Nat.ne_of_lt (Nat.lt_succ_of_lt hb00)
          exact hmv.heap bb ov (by simp only [List.mem_cons, List.mem_singleton, List.not_mem_nil, or_false, not_or]; exact ⟨hb11, hb22⟩) (Heap.get?_push_of_some _ (Heap.get?_push_of_some _ ee))
      · cases rs2 with
        | error ee => exact hres2
        | ok flw2 =>
          cases flw2 with
          | ret rs =>
            obtain ⟨rfl, h', tkk, cn, rfl, hSet2, hcn, hkeep⟩ := hres2
            repeat (any_goals (first | assumption | wp_step))
            exact hfin _ _ _ hSet2 hcn hkeep
          | _ => exact hres2.elim
    | _ => exact hres.elim
end
end PD
namespace PD
open PySem PySem.Spec PyProof.Rows L2
def insU (n : Int) : List Int → List Int
  | [] => [n]
  | m :: r => if n < m then n :: m :: r else if n = m then m :: r else m :: insU n r
def usI : List Int → List Int
  | [] => []
  | n :: r => insU n (usI r)
theorem insU_mem (n k : Int) : ∀ l : List Int, k ∈ insU n l ↔ k = n ∨ k ∈ l
  | [] => by simp [insU]
  | m :: r => by
    have ih := insU_mem n k r
    unfold insU
    split
    · simp
    · split
      · rename_i h; subst h; simp
      · simp only [List.mem_cons, ih]
        constructor
        · rintro (h | h | h) <;> simp [h]
        · rintro (h | h | h) <;> simp [h]
theorem usI_mem (k : Int) : ∀ l : List Int, k ∈ usI l ↔ k ∈ l
  | [] => by simp [usI]
  | n :: r => by rw [usI, insU_mem, usI_mem k r]; simp
theorem insU_sorted (n : Int) : ∀ l : List Int, l.Pairwise (· < ·) → (insU n l).Pairwise (· < ·)
  | [], _ => by simp [insU]
  | m :: r, h => by
    obtain ⟨h1, h2⟩ := List.pairwise_cons.mp h
    unfold insU
    split
    · rename_i hm
      refine List.pairwise_cons.mpr ⟨fun y hy => ?_, h⟩
      rcases List.mem_cons.mp hy with rfl | hy
      · exact hm
      · have := h1 y hy; omega
    · split
      · exact h
      · refine List.pairwise_cons.mpr ⟨fun y hy => ?_, insU_sorted n r h2⟩
        rw [insU_mem] at hy
        rcases hy with rfl | hy
        · omega
        · exact h1 y hy
theorem usI_sorted : ∀ l : List Int, (usI l).Pairwise (· < ·)
  | [] => .nil
  | n :: r => insU_sorted n _ (usI_sorted r)
theorem ssorted_eq : ∀ {a b : List Int}, a.Pairwise (· < ·) → b.Pairwise (· < ·) → (∀ k, k ∈ a ↔ k ∈ b) → a = b
  | [], [], _, _, _ => rfl
  | [], y :: b, _, _, h => absurd ((h y).mpr List.mem_cons_self) (by simp)
  | x :: a, [], _, _, h => absurd ((h x).mp List.mem_cons_self) (by simp)
  | x :: a, y :: b, ha, hb, h => by
    obtain ⟨a1, a2⟩ := List.pairwise_cons.mp ha
    obtain ⟨b1, b2⟩ := List.pairwise_cons.mp hb
    have e : x = y := by
      have h1 := (h x).mp List.mem_cons_self
      have h2 := (h y).mpr List.mem_cons_self
      rcases List.mem_cons.mp h1 with z | z
      · exact z
      · rcases List.mem_cons.mp h2 with w | w
        · exact w.symm
        · have := b1 x z; have := a1 y w; omega
    subst e
    congr 1
    refine ssorted_eq a2 b2 fun k => ⟨fun hk => ?_, fun hk => ?_⟩
    · rcases List.mem_cons.mp ((h k).mp (List.mem_cons_of_mem _ hk)) with z | z
      · have := a1 k hk; omega
      · exact z
    · rcases List.mem_cons.mp ((h k).mpr (List.mem_cons_of_mem _ hk)) with z | z
      · have := b1 k hk; omega
      · exact z
def ssetD : D → Option (List D)
  | .lst ds => match intsOf ds with
    | some ns => if ns.length < 64 then some ((usI ns).map .int) else none
    | none => none
  | .tup ds => match intsOf ds with
    | some ns => if ns.length < 64 then some ((usI ns).map .int) else none
    | none => none
  | _ => none
section
variable {X : Cx} {c : Cfg} {e x y z tg : Expr} {es elts : List Expr} {pos p p2 tpos : Pos} {f g : List S → R D} {fs : List S → R (List D)} {kk : Nat}
theorem n_sset (hK : c.K = X.K) (hc : X.calm = true) (hg : Gl X "sorted") (hm : X.mg "sorted" = none) (hg2 : Gl X "set") (hm2 : X.mg "set" = none) (hx : PE X x (tB c f)) (hs : noStar x = true) :
    PE X (.Call (.Name "sorted" p) [.Call (.Name "set" p2) [x] [] tpos] [] pos) (tN c fun δ => (f δ).bind fun d => R.of (ssetD d)) := ⟨fun pins s σ H Q I h => by
  have na := star_cons (es := []) X.env hs
  obtain ⟨F, δ, rl, a⟩ := h
  refine Call_ (ld_blt I hg hm (u := .builtin "sorted") (by decide +kernel) ?_)
  refine callWith_builtin1 (args_cons ?_ rfl) rfl rfl
  refine Call_ (ld_blt I hg2 hm2 PyProof.Rows.boot_set ?_)
  refine callWith_type1 (args_cons (thn (hx.run pins s σ H _ I ⟨F, δ, rl, a.bind anti_N⟩) fun v s1 ⟨u, H1, I1, r1, d, F1, e1, p1, a1⟩ => args_nil ?_) na) na rfl
  have fin : ∀ (ns : List Int) (h' : Heap) (tk n : Nat), ns.length < 64 → SetR X.w h' s1.heap.objs.size (fun j => decide (j ∈ ns)) n → n ≤ ns.length → (∀ b o, s1.heap.get? b = some o → h'.get? b = some o) → Aft c σ (pN c) F1 H1 (.ok ((usI ns).map .int)) Q →
      wpAny (model X.prog X.w) X.A (call (.builtin "sorted") [.ref s1.heap.objs.size]) (EP X pins σ Q) X.xe { s1 with heap := h', toks := tk } := by
    intro ns h' tk n h64 R hn hk a2
    have I2 : Inv X pins σ H1 { s1 with heap := h', toks := tk } := I1.kept fun b o e => hk b o e
    refine sorted_set (s := { s1 with heap := h', toks := tk }) R (I1.ok.hd hc) (by omega) fun s' q out cc ms k g o hp hgq hi hsr hmm hl => ?_
    have em : ms = usI ns := ssorted_eq hsr (usI_sorted ns) fun j => by rw [hmm, usI_mem, decide_eq_true_eq]
    subst em
    have hlen : ((usI ns).map V.int).length ≤ sizeLine := by rw [List.length_map, hl, szN_eq]; simp only [szN]; omega
    have hnq : H1 q = none := I2.hok.fresh hp
    have J : Inv X pins σ (upd H1 q (.lst ((usI ns).map V.int))) { s1 with heap := s'.heap, gens := s'.gens, drawn := s'.drawn, toks := s'.toks } := Inv.call (s := { s1 with heap := h', toks := tk }) I2 (ch := []) (Un.laid k hp hnq) (I2.hok.laid k hp ⟨hlen, out.toList, cc, vals_of_ints hi, hgq⟩) (by rw [g]; exact I2.bare) (fun _ z => nomatch z)
    have es : s' = { s1 with heap := s'.heap, gens := s'.gens, drawn := s'.drawn, toks := s'.toks } := by
      cases s'
      cases s1
      cases o
      rfl
    rw [es]
    exact ⟨.ref q, _, J, rfl, a2 (.ref q) F1 _ (Ext.free e1.fh hnq) ⟨q, _, rfl, hnq, e1.fh.free hnq, upd_same, hlen, dvs_ints _⟩⟩
  cases d <;> simp only [ssetD] at a1 <;> first | exact a1.elim | skip
  · rename_i ds
    cases hi : intsOf ds with
    | none => rw [hi] at a1; exact a1.elim
    | some ns =>
      rw [hi] at a1
      simp only at a1
      split at a1
      · rename_i hn
        obtain ⟨l, xs, rfl, hq, hz, dv⟩ := DVB.list e1.fh p1
        rw [ints_of dv hi] at hq
        cases r1
        obtain ⟨its, rv, pl, _⟩ := I1.list (SqL.of hq)
        refine call_set_lstI ns (I1.ok.hd hc) pl.isList (by simpa using ints_are rv) (by unfold scanBound; omega) fun h' tk n R hn' hk => args_nil ?_
        exact fin ns h' tk n hn R hn' hk a1
      · exact a1.elim
  · rename_i ds
    cases hi : intsOf ds with
    | none => rw [hi] at a1; exact a1.elim
    | some ns =>
      rw [hi] at a1
      simp only at a1
      split at a1
      · rename_i hn
        obtain ⟨l, xs, rfl, hq, hz, dv⟩ := DVB.tuple e1.fh p1
        rw [hK, ints_of dv hi] at hq
        cases r1
        obtain ⟨its, rv, pt, _⟩ := I1.tuple hq
        refine call_set_tupI ns (I1.ok.hd hc) (show s1.heap.IsTuple l its.toArray from pt) (by simpa using ints_are rv) (by unfold scanBound; omega) fun h' tk n R hn' hk => args_nil ?_
        exact fin ns h' tk n hn R hn' hk a1
      · exact a1.elim⟩
end
end PD
namespace PD
open PySem PySem.Spec PyProof.Rows L2
def pickL {α : Type} (is : List Nat) (xs : List α) : List α := is.filterMap (xs[·]?)
def stpIx (n : Nat) (lo hi st : Option Int) : List Nat := sliceRange (sliceBounds lo hi st n).1 (sliceBounds lo hi st n).2.1 (sliceBounds lo hi st n).2.2
def stpL {α : Type} (xs : List α) (lo hi st : Option Int) : List α := pickL (stpIx xs.length lo hi st) xs
theorem pickL_mem {α : Type} {is : List Nat} {xs : List α} {x : α} (h : x ∈ pickL is xs) : x ∈ xs := by
  obtain ⟨i, _, e⟩ := List.mem_filterMap.mp h
  exact List.mem_of_getElem? e
theorem stpL_mem {α : Type} {xs : List α} {x : α} {lo hi st : Option Int} (h : x ∈ stpL xs lo hi st) : x ∈ xs := pickL_mem h
theorem vals_pick {xs : List V} {us : List Value} (r : Vals xs us) : ∀ is : List Nat, Vals (pickL is xs) (pickL is us)
  | [] => .nil
  | i :: is => by
    have ih := vals_pick r is
    unfold pickL at ih ⊢
    cases e : xs[i]? with
    | none =>
      have e2 := Vals.none_of r e
      rw [List.filterMap_cons_none e, List.filterMap_cons_none e2]
      exact ih
    | some x =>
      obtain ⟨u, e2, ru⟩ := r.get e
      rw [List.filterMap_cons_some e, List.filterMap_cons_some e2]
      exact .cons ru ih
theorem dvs_pick {K : PySem.W.Frag} {F : Hp} {vs : List V} {ds : List D} (r : DVs K F vs ds) : ∀ is : List Nat, DVs K F (pickL is vs) (pickL is ds)
  | [] => .nil
  | i :: is => by
    have ih := dvs_pick r is
    unfold pickL at ih ⊢
    cases e : vs[i]? with
    | none =>
      have e2 : ds[i]? = none := by
        rw [List.getElem?_eq_none_iff] at e ⊢
        rw [← r.length]; exact e
      rw [List.filterMap_cons_none e, List.filterMap_cons_none e2]
      exact ih
    | some x =>
      obtain ⟨u, e2, ru⟩ := r.get e
      rw [List.filterMap_cons_some e, List.filterMap_cons_some e2]
      exact .cons ru ih
theorem slicePick_stp (its : List Value) (lo hi st : Option Int) : slicePick its.toArray lo hi st = (stpL its lo hi st).toArray := by
  unfold slicePick stpL pickL stpIx
  simp
def stpN : D → Option Int → Option Int → Option Int → R (List D)
  | .lst ds, l, h, s => if s = some 0 then .bad else .ok (stpL ds l h s)
  | _, _, _, _ => .bad
def fStpN (f : List S → R D) (fl fh fs : List S → R (Option Int)) : List S → R (List D) := fun δ => (f δ).bind fun a => (fl δ).bind fun l => (fh δ).bind fun h => (fs δ).bind fun s => stpN a l h s
section
variable {X : Cx} {c : Cfg} {e x y z tg : Expr} {es elts : List Expr} {pos p p2 tpos : Pos} {f g : List S → R D} {fs : List S → R (List D)} {kk : Nat} {fl fh fw : List S → R (Option Int)} {lo hi : Option Expr} {st : Expr}
theorem n_stp (hx : PE X x (tB c f)) (hl : PO X lo (tG c pO fl)) (hh : PO X hi (tG c pO fh)) (hw : PO X (some st) (tG c pO fw)) : PE X (.Subscript x (.Slice lo hi (some st) p2) pos) (tN c (fStpN f fl fh fw)) := ⟨fun pins s σ H Q I h => by
  obtain ⟨F, δ, rl, a⟩ := h
  refine Subscript_ (thn (hx.run pins s σ H _ I ⟨F, δ, rl, a.bind anti_N⟩) fun v s1 ⟨u, H1, I1, r1, du, F1, e1, p1, a1⟩ => ?_)
  refine wpAny_Slice (thn (hl.run pins s1 σ H1 _ I1 ⟨F1, δ, rl.ext e1, a1.bind anti_N⟩) fun vl s2 ⟨l, H2, I2, pl, l', F2, e2, ql, a2⟩ =>
    thn (hh.run pins s2 σ H2 _ I2 ⟨F2, δ, (rl.ext e1).ext e2, a2.bind anti_N⟩) fun vu s3 ⟨u3, H3, I3, pu, u', F3, e3, qu, a3⟩ =>
    thn (hw.run pins s3 σ H3 _ I3 ⟨F3, δ, ((rl.ext e1).ext e2).ext e3, a3.bind anti_N⟩) fun vs s4 ⟨w, H4, I4, ps, w', F4, e4, qw, a4⟩ => ?_)
  subst ql qu qw
  have I5 : Inv X pins σ H4 { s4 with heap := s4.heap.push { cls := .type "slice", data := .fields #[vl, vu, vs] } } := I4.kept (t' := s4.toks) fun b ob q => Heap.get?_push_of_some _ q
  show wpAny (model X.prog X.w) X.A (subscriptTail x (.Slice lo hi (some st) p2) v (.ref s4.heap.objs.size)) (EP X pins σ Q) X.xe { s4 with heap := s4.heap.push { cls := .type "slice", data := .fields #[vl, vu, vs] } }
  cases du <;> first | exact a4.elim | skip
  rename_i ds
  simp only [stpN] at a4
  split at a4
  · exact a4.elim
  · rename_i h0
    obtain ⟨p1', v1, e1', s1', z1, r1'⟩ := DVB.list e4.fh (((DVB.ext p1 e2).ext e3).ext e4)
    subst e1'
    cases r1
    obtain ⟨its, r, ht, hz⟩ := I5.list (SqL.of s1')
    have hlen := r.length
    have hsz : its.toArray.size ≤ sizeLine := by rw [List.size_toArray]; omega
    refine tail_any (ops := [.ref p1', .ref s4.heap.objs.size]) ht.isList.typeIs slot_list_getitem.lookup (wpAny_getItem_list_slice ht.isList (Heap.IsSliceOf.new ..) pl pu ps h0 ?_ hsz) (by with_unfolding_all rfl)
    have hp := slicePick_size_le its.toArray l u3 w
    rw [slicePick_stp] at hp ⊢
    have vp : Vals (pickL (stpIx its.length l u3 w) v1) (stpL its l u3 w) := vals_pick r _
    have hv := vp.length
    have hle : (pickL (stpIx its.length l u3 w) v1).length ≤ sizeLine := by
      rw [hv]
      rw [List.size_toArray] at hp
      exact Nat.le_trans hp hsz
    have hfr := I5.hok.fresh (Nat.le_refl _)
    refine ⟨.ref _, _, I5.laid (t' := s4.toks) (o := .lst (pickL (stpIx its.length l u3 w) v1)) (fun b ob q => Heap.get?_push_of_some _ q) (Nat.le_refl _) ?_, rfl, ?_⟩
    · exact ⟨hle, _, 0, vp, Heap.get?_push_size _ rfl⟩
    · refine a4 (.ref _) F4 _ (Ext.free e4.fh hfr) ⟨_, _, rfl, hfr, e4.fh.free hfr, upd_same, hle, ?_⟩
      unfold stpL
      rw [← r1'.length, hlen]
      exact dvs_pick r1' _⟩
def flatD : D → Bool
  | .non => true
  | .bl _ => true
  | .int _ => true
  | .str _ => true
  | _ => false
def ixPos (x : D) : List D → Option Nat
  | [] => none
  | d :: r => if eqD d x then some 0 else (ixPos x r).map (· + 1)
theorem ixPos_some {x : D} : ∀ {ds : List D} {j : Nat}, ixPos x ds = some j → (∃ d, ds[j]? = some d ∧ eqD d x = true) ∧ ∀ m d, m < j → ds[m]? = some d → eqD d x = false
  | [], _, h => by cases h
  | d :: r, j, h => by
    unfold ixPos at h
    split at h
    · rename_i hd
      cases h
      exact ⟨⟨d, rfl, hd⟩, fun m d' hm => absurd hm (Nat.not_lt_zero _)⟩
    · rename_i hd
      obtain ⟨k, hk, rfl⟩ := Option.map_eq_some_iff.mp h
      obtain ⟨⟨d', h1, h2⟩, h3⟩ := ixPos_some hk
      refine ⟨⟨d', by simpa using h1, h2⟩, fun m e hm he => ?_⟩
      cases m with
      | zero =>
        simp only [List.getElem?_cons_zero, Option.some.injEq] at he
        subst he
        simpa using hd
      | succ m => exact h3 m e (by omega) (by simpa using he)
theorem flatV_of {K : PySem.W.Frag} {F : Hp} {v : V} {d : D} (h : DV K F v d) (f : flatD d = true) : flatV v = true := by
  cases h <;> first | rfl | cases f
theorem eqV_of {K : PySem.W.Frag} {F : Hp} {v u : V} {d e : D} (h : DV K F v d) (g : DV K F u e) (f1 : flatD d = true) (f2 : flatD e = true) : eqV v u = eqD d e := by
  cases h <;> cases g <;> first | (cases f1; done) | (cases f2; done) | skip
  all_goals first | rfl | skip
  all_goals first | (simp [eqV, eqD]; done) | skip
  all_goals
    simp only [eqV, eqD]
    rw [Bool.eq_iff_iff]
    simp only [beq_iff_eq, decide_eq_true_eq]
    first
      | exact ⟨fun h => by have := congrArg (fun z : Str => z.cps.toList) h; simpa [mkS] using this, fun h => by rw [h]⟩
      | skip
def ixoD : D → D → Option D
  | .lst ds, x => if flatD x && ds.all flatD then (ixPos x ds).map fun j => .int (j : Nat) else none
  | _, _ => none
theorem dvs_flat {K : PySem.W.Frag} {F : Hp} : ∀ {vs : List V} {ds : List D}, DVs K F vs ds → ds.all flatD = true → vs.all flatV = true
  | _, _, .nil, _ => rfl
  | _, _, .cons a r, h => by
    rw [List.all_cons, Bool.and_eq_true] at h ⊢
    exact ⟨flatV_of a h.1, dvs_flat r h.2⟩
theorem DVB.flat {K : PySem.W.Frag} {F H : Hp} {v : V} {d : D} (h : DVB K F H v d) (f : flatD d = true) : DV K F v d := by
  rcases h with h | ⟨_, _, _, _, rfl, _⟩
  · exact h
  · cases f
def isLst : D → R (List D)
  | .lst l => .ok l
  | _ => .bad
def fIxo (f g : List S → R D) : List S → R D := fun δ => (f δ).bind fun a => (isLst a).bind fun ds => (g δ).bind fun b => R.of (ixoD (.lst ds) b)
theorem e_ixo {apos : Pos} (hK : c.K = X.K) (hx : PE X x (tB c f)) (hy : PE X y (tB c g)) (hs : noStar y = true) (hb : noSup x = true) (hl : (apos.endLine == pos.line) = true) :
    PE X (.Call (.Attribute x "index" apos) [y] [] pos) (tD c (fIxo f g)) := ⟨fun pins s σ H Q I h => by
  obtain ⟨F, δ, rl, a⟩ := h
  refine PySem.Call_method1 (base_of hb) (star_cons (es := []) X.env hs) hl (thn (hx.run pins s σ H _ I ⟨F, δ, rl, a.bind anti_D⟩) fun v s1 ⟨u, H1, I1, r1, du, F1, e1, p1, a1⟩ => ?_)
  cases du <;> first | exact a1.elim | skip
  rename_i ds
  have a1' : Aft c σ (pD c) F1 H1 ((g δ).bind fun b => R.of (ixoD (.lst ds) b)) Q := a1
  have hty : s1.TypeIs v "list" ∧ ∀ a, v = .ref a → ∃ ob, s1.heap.get? a = some ob ∧ ob.dict = none := by
    obtain ⟨p1', v1, e1', s1', z1, r1'⟩ := DVB.list e1.fh p1
    subst e1'
    exact tyV_is I1 r1 (T := "list") (.inl ⟨rfl, _, SqL.of s1'⟩)
  refine ⟨"list", _, PySem.F.plainAttrs_list, PySem.F.slot_list_index, PySem.F.type_list_index, hty.1, hty.2, Calls.callWith_builtin rfl (Calls.evalArgs_plain (Calls.spliced_cons ?_))⟩
  refine thn (hy.run pins s1 σ H1 _ I1 ⟨F1, δ, rl.ext e1, a1'.bind anti_D⟩) fun v2 s2 ⟨u2, H2, I2, r2, d2, F2, e2, p2, a2⟩ => Calls.spliced_nil (mt_index pins s2 σ H2 _ [u2] _ [v2] Q I2 r1 (.cons r2 .nil) ?_)
  obtain ⟨p1', v1, e1', s1', z1, r1'⟩ := DVB.list e2.fh (DVB.ext p1 e2)
  simp only [ixoD] at a2
  split at a2
  · rename_i hf
    rw [Bool.and_eq_true] at hf
    cases hx' : ixPos d2 ds with
    | none => rw [hx'] at a2; exact a2.elim
    | some j =>
      rw [hx'] at a2
      obtain ⟨⟨d, h1, h2⟩, h3⟩ := ixPos_some hx'
      obtain ⟨w, g1, g2⟩ := r1'.get' h1
      have dy : DV c.K F2 u2 d2 := DVB.flat p2 hf.1
      have fl : ∀ d ∈ ds, flatD d = true := fun d hd => List.all_eq_true.mp hf.2 d hd
      refine ⟨p1', v1, u2, j, w, e1', rfl, SqL.of s1', flatV_of dy hf.1, dvs_flat r1' hf.2, g1, ?_, fun m z' hm hz' => ?_, a2.ret e2.fh (.int _)⟩
      · rw [eqV_of g2 dy (fl _ (List.mem_of_getElem? h1)) hf.1]; exact h2
      · obtain ⟨dz, k1, k2⟩ := r1'.get hz'
        rw [eqV_of k2 dy (fl _ (List.mem_of_getElem? k1)) hf.1]
        exact h3 m dz hm k1
  · exact a2.elim⟩
end
end PD
namespace PD
open PySem PySem.Spec PyProof.Rows L2
def pairsOf : List D → Option (List (Int × Int))
  | [] => some []
  | .tup [.int a, .int b] :: r => (pairsOf r).map ((a, b) :: ·)
  | _ => none
def pairD (p : Int × Int) : D := .tup [.int p.1, .int p.2]
def pairP (p : Int × Int) : PyData := .tuple [.int p.1, .int p.2]
def lexM (a y : Int × Int) : Int × Int := if y.1 < a.1 ∨ (y.1 = a.1 ∧ y.2 < a.2) then y else a
def minP : List (Int × Int) → Option (Int × Int)
  | [] => none
  | x :: xs => some (xs.foldl lexM x)
theorem pairs_of : ∀ {ds : List D} {ps : List (Int × Int)}, pairsOf ds = some ps → ds = ps.map pairD
  | [], ps, h => by cases h; rfl
  | d :: r, ps, h => by
    unfold pairsOf at h
    split at h
    · rename_i e; cases e
    · rename_i a b r' e
      cases e
      obtain ⟨q, hq, rfl⟩ := Option.map_eq_some_iff.mp h
      rw [List.map_cons, ← pairs_of hq]; rfl
    · cases h
theorem toPys_pairs : ∀ ps : List (Int × Int), toPys (ps.map pairD) = ps.map pairP
  | [] => rfl
  | p :: ps => by rw [List.map_cons, toPys, toPys_pairs ps]; rfl
theorem alike_pairs (p q : Int × Int) : PySem.W.alike (pairP p) (pairP q) = true := by simp [pairP, PySem.W.alike, PySem.W.alikeAll]
theorem lt_pairs (p q : Int × Int) : PySem.W.dataLt (pairP p) (pairP q) = decide (p.1 < q.1 ∨ (p.1 = q.1 ∧ p.2 < q.2)) := by
  unfold pairP
  rw [PySem.W.dataLt_tuple]
  by_cases h : p.1 = q.1
  · rw [PySem.W.dataLt_all_yes (by simp [PySem.W.alike]) (by simp [PyData.eqv, h])]
    by_cases h2 : p.2 = q.2
    · rw [PySem.W.dataLt_all_yes (by simp [PySem.W.alike]) (by simp [PyData.eqv, h2])]
      have : PyProof.Rows.lexLt PyProof.Rows.itemOrd (PySem.W.keyToksAll []) (PySem.W.keyToksAll []) = false := by decide +kernel
      rw [this]
      symm
      exact decide_eq_false (by omega)
    · rw [PySem.W.dataLt_all_no (by simp [PySem.W.alike]) (by simp [PyData.eqv, h2]), PySem.W.dataLt_int]
      exact decide_eq_decide.mpr (by omega)
  · rw [PySem.W.dataLt_all_no (by simp [PySem.W.alike]) (by simp [PyData.eqv, h]), PySem.W.dataLt_int]
    exact decide_eq_decide.mpr (by omega)
theorem minD_pairs : ∀ (ps : List (Int × Int)) (p : Int × Int), PySem.W.minD (pairP p) (ps.map pairP) = pairP (ps.foldl lexM p)
  | [], p => rfl
  | q :: ps, p => by
    unfold PySem.W.minD
    rw [List.map_cons, List.foldl_cons, List.foldl_cons, lt_pairs]
    have e : (if decide (q.1 < p.1 ∨ (q.1 = p.1 ∧ q.2 < p.2)) = true then pairP q else pairP p) = pairP (lexM p q) := by
      unfold lexM
      by_cases h : q.1 < p.1 ∨ (q.1 = p.1 ∧ q.2 < p.2) <;> simp [h]
    rw [e]
    exact minD_pairs ps (lexM p q)
def minPD : D → Option D
  | .lst ds => ((pairsOf ds).bind minP).map pairD
  | _ => none
section
variable {X : Cx} {c : Cfg} {e x y z tg : Expr} {es elts : List Expr} {pos p p2 tpos : Pos} {f g : List S → R D} {fs : List S → R (List D)} {kk : Nat}
theorem noScr_pairs : ∀ ps : List (Int × Int), noScrs (ps.map pairD) = true
  | [] => rfl
  | p :: ps => by rw [List.map_cons, noScrs, noScr_pairs ps]; rfl
theorem depth_pairs : ∀ ps : List (Int × Int), PyData.depthAll (ps.map pairP) ≤ 1
  | [] => by simp [PyData.depthAll]
  | p :: ps => by
    rw [List.map_cons, PyData.depthAll]
    have := depth_pairs ps
    have h2 : (pairP p).depth = 1 := by simp [pairP, PyData.depth, PyData.depthAll]
    omega
theorem e_minp (hK : c.K = X.K) (hc : X.calm = true) (hu : X.A.units + 64 < cLine) (hg : Gl X "min") (hm : X.mg "min" = none) (hx : PE X x (tB c f)) (hs : noStar x = true) :
    PE X (.Call (.Name "min" p) [x] [] pos) (tD c fun δ => (f δ).bind fun d => R.of (minPD d)) := ⟨fun pins s σ H Q I h => by
  have na := star_cons (es := []) X.env hs
  obtain ⟨F, δ, rl, a⟩ := h
  refine Call_ (ld_blt I hg hm (u := .builtin "min") (by decide +kernel) ?_)
  refine callWith_builtin1 (args_cons (thn (hx.run pins s σ H _ I ⟨F, δ, rl, a.bind anti_D⟩) fun v s1 ⟨u, H1, I1, r1, d, F1, e1, p1, a1⟩ => args_nil ?_) na) na rfl
  cases d <;> simp only [minPD] at a1 <;> first | exact a1.elim | skip
  rename_i ds
  cases hp : pairsOf ds with
  | none => rw [hp] at a1; exact a1.elim
  | some ps =>
    rw [hp] at a1
    cases ps with
    | nil => exact a1.elim
    | cons q ps =>
      have a2 : Aft c σ (pD c) F1 H1 (.ok (pairD (ps.foldl lexM q))) Q := a1
      have eds := pairs_of hp
      subst eds
      obtain ⟨l, xs, rfl, hq, hz, dv⟩ := DVB.list e1.fh p1
      cases r1
      obtain ⟨its, rv, pl, _⟩ := I1.list (SqL.of hq)
      have dpa : DpAll X.K H1 xs (toPys ((q :: ps).map pairD)) := by
        rw [hK] at dv
        exact dv.dp e1.fh (noScr_pairs _)
      obtain ⟨as, ra⟩ := Dp.readsAll I1 _ xs its dpa rv
      rw [toPys_pairs, List.map_cons] at ra
      have hal : PySem.W.AlikeAll (pairP q :: ps.map pairP) := by
        rw [← List.map_cons]
        refine ⟨fun x hx y hy => ?_, fun x hx => ?_⟩
        · obtain ⟨a, _, rfl⟩ := List.mem_map.mp hx
          obtain ⟨b, _, rfl⟩ := List.mem_map.mp hy
          exact alike_pairs a b
        · obtain ⟨a, _, rfl⟩ := List.mem_map.mp hx
          simp [pairP]
      have hdep := depth_pairs (q :: ps)
      rw [List.map_cons] at hdep
      refine PySem.W.min_list_data (I1.ok.hd hc) pl.isList (by simpa using ra) hal (by omega) fun i w h' tk bs hw hr hk => ?_
      have hw2 : its[i]? = some w := by simpa using hw
      have hi : i < xs.length := by
        have := rv.length
        have := (List.getElem?_eq_some_iff.mp hw2).1
        omega
      obtain ⟨w', hw', rw'⟩ := rv.get (List.getElem?_eq_getElem hi)
      rw [hw2] at hw'
      cases hw'
      obtain ⟨d, hd, dvd⟩ := dv.get (List.getElem?_eq_getElem hi)
      rw [List.getElem?_map] at hd
      obtain ⟨pr, _, rfl⟩ := Option.map_eq_some_iff.mp hd
      obtain ⟨bs2, r2⟩ := Dp.reads I1 _ _ w ((hK ▸ dvd : DV X.K F1 _ _).dp e1.fh rfl) rw'
      have r3 : Reads h' w (pairP pr) bs2 := Reads.keeps hk r2
      rw [minD_pairs] at hr
      have eq := PySem.W.alike_unique _ _ w _ _ (alike_pairs pr _) r3 hr
      have e3 : pairD pr = pairD (ps.foldl lexM q) := by
        unfold pairP at eq
        injection eq with eq
        injection eq with e5 e6
        injection e6 with e6 _
        injection e5 with e5
        injection e6 with e6
        unfold pairD
        rw [e5, e6]
      have I2 : Inv X pins σ H1 { s1 with heap := h', toks := tk } := I1.kept hk
      exact ⟨_, H1, I2, rw', a2.ret e1.fh (e3 ▸ dvd)⟩⟩
end
end PD
namespace PD
open PySem PySem.Spec PyProof.Rows L2
def wipeS (δ : List S) : List Nat → List S
  | [] => δ
  | v :: vs => (wipeS δ vs).set v .none
theorem Rel.setN {K : PySem.W.Frag} {B : Bg} {F H : Hp} {δ : List S} {σ : L2.St} {i : Nat} {w : Option V} (r : Rel K B F δ σ H) : Rel K B F (δ.set i .none) (σ.set i w) H := by
  refine ⟨r.sub, r.keep, r.nw, by simp [r.len], fun j s q => ?_, fun j k a h1 h2 => ?_⟩
  · by_cases hj : i = j
    · subst hj
      by_cases hl : i < δ.length
      · rw [List.getElem?_set_self hl] at q
        cases q
        exact ⟨w, List.getElem?_set_self (by rw [← r.len]; exact hl), trivial⟩
      · rw [List.getElem?_eq_none (by simpa using Nat.le_of_not_lt hl)] at q; cases q
    · rw [List.getElem?_set_ne hj] at q
      rw [List.getElem?_set_ne hj]
      exact r.slot j s q
  · obtain ⟨⟨d1, q1⟩, z1⟩ := h1
    obtain ⟨⟨d2, q2⟩, z2⟩ := h2
    have ne : ∀ m ds, (δ.set i S.none)[m]? = some (.ow ds) → i ≠ m := fun m ds q e => by
      subst e
      by_cases hl : i < δ.length
      · rw [List.getElem?_set_self hl] at q; cases q
      · rw [List.getElem?_eq_none (by simpa using Nat.le_of_not_lt hl)] at q; cases q
    have n1 := ne j d1 q1
    have n2 := ne k d2 q2
    rw [List.getElem?_set_ne n1] at q1 z1
    rw [List.getElem?_set_ne n2] at q2 z2
    exact r.sep j k a ⟨⟨d1, q1⟩, z1⟩ ⟨⟨d2, q2⟩, z2⟩
theorem Rel.wipe {K : PySem.W.Frag} {B : Bg} {F H : Hp} {δ : List S} {σ : L2.St} (r : Rel K B F δ σ H) : ∀ vs : List Nat, Rel K B F (wipeS δ vs) (L2.wipe σ vs) H
  | [] => r
  | v :: vs => (Rel.wipe r vs).setN
theorem wipe_get (σ : L2.St) (j : Nat) : ∀ vs : List Nat, (L2.wipe σ vs)[j]? = if j ∈ vs then (σ[j]?).map (fun _ => none) else σ[j]?
  | [] => by simp [L2.wipe]
  | v :: vs => by
    show ((L2.wipe σ vs).set v none)[j]? = _
    by_cases hj : v = j
    · subst hj
      rw [if_pos List.mem_cons_self]
      by_cases hl : v < σ.length
      · rw [List.getElem?_set_self (by rw [wipe_length]; exact hl), List.getElem?_eq_getElem hl]
        rfl
      · rw [List.getElem?_eq_none (by rw [List.length_set, wipe_length]; exact Nat.le_of_not_lt hl), List.getElem?_eq_none (Nat.le_of_not_lt hl)]
        rfl
    · rw [List.getElem?_set_ne hj, wipe_get σ j vs]
      have : j ∈ v :: vs ↔ j ∈ vs := by
        rw [List.mem_cons]
        exact ⟨fun h => h.elim (fun e => absurd e.symm hj) id, .inr⟩
      by_cases hm : j ∈ vs
      · rw [if_pos hm, if_pos (this.mpr hm)]
      · rw [if_neg hm, if_neg (fun z => hm (this.mp z))]
theorem wipe_eq {σ τ : L2.St} {vs : List Nat} (hl : τ.length = σ.length) (h : ∀ j, j ∉ vs → τ[j]? = σ[j]?) : L2.wipe τ vs = L2.wipe σ vs := by
  apply List.ext_getElem?
  intro j
  rw [wipe_get, wipe_get]
  by_cases hm : j ∈ vs
  · rw [if_pos hm, if_pos hm]
    by_cases hj : j < σ.length
    · rw [List.getElem?_eq_getElem hj, List.getElem?_eq_getElem (by rw [hl]; exact hj)]
      rfl
    · rw [List.getElem?_eq_none (Nat.le_of_not_lt hj), List.getElem?_eq_none (by rw [hl]; exact Nat.le_of_not_lt hj)]
  · rw [if_neg hm, if_neg hm]
    exact h j hm
def noX {α : Type} : R α → R α
  | .ok a => .ok a
  | _ => .bad
def lcD (t : Tg) (tst : List S → R Bool) (elt : List S → R D) (δ : List S) : List D → R (List D)
  | [] => .ok []
  | d :: ds => match setT t d δ with
    | none => .bad
    | some δ' => (noX (tst δ')).bind fun k => if k then (noX (elt δ')).bind fun y => (lcD t tst elt δ ds).bind fun ys => .ok (y :: ys) else lcD t tst elt δ ds
theorem lcD_noexc (t : Tg) (tst : List S → R Bool) (elt : List S → R D) (δ : List S) (k : Nat) : ∀ ds : List D, lcD t tst elt δ ds ≠ .exc k
  | [] => by simp [lcD]
  | d :: ds => by
    have ih := lcD_noexc t tst elt δ k ds
    unfold lcD
    split
    · simp
    · rename_i δ' _
      cases h1 : tst δ' with
      | exc _ => simp [noX]
      | bad => simp [noX]
      | ok b =>
        cases b with
        | false => simpa [noX] using ih
        | true =>
          cases h2 : elt δ' with
          | exc _ => simp [noX]
          | bad => simp [noX]
          | ok y =>
            simp only [noX, R.bind_ok, if_true]
            cases h3 : lcD t tst elt δ ds with
            | ok _ => simp
            | exc j => rw [h3] at ih; simpa using ih
            | bad => simp
/-- one turn -/
theorem lcD_step {t : Tg} {tst : List S → R Bool} {elt : List S → R D} {δ : List S} {d : D} {ds : List D} {r : List D} (h : lcD t tst elt δ (d :: ds) = .ok r) :
    ∃ δ', setT t d δ = some δ' ∧ ((tst δ' = .ok false ∧ lcD t tst elt δ ds = .ok r) ∨ (∃ y r', tst δ' = .ok true ∧ elt δ' = .ok y ∧ lcD t tst elt δ ds = .ok r' ∧ r = y :: r')) := by
  unfold lcD at h
  split at h
  · cases h
  · rename_i δ' e
    refine ⟨δ', e, ?_⟩
    cases h1 : tst δ' with
    | exc _ => rw [h1] at h; cases h
    | bad => rw [h1] at h; cases h
    | ok b =>
      rw [h1] at h
      cases b with
      | false => exact .inl ⟨rfl, h⟩
      | true =>
        simp only [noX, R.bind_ok, if_true] at h
        cases h2 : elt δ' with
        | exc _ => rw [h2] at h; cases h
        | bad => rw [h2] at h; cases h
        | ok y =>
          rw [h2] at h
          simp only [R.bind_ok] at h
          cases h3 : lcD t tst elt δ ds with
          | exc _ => rw [h3] at h; cases h
          | bad => rw [h3] at h; cases h
          | ok r' => rw [h3] at h; cases h; exact .inr ⟨y, r', rfl, rfl, rfl, rfl⟩
abbrev Cfg.blk (c : Cfg) : Cfg := { c with W := fun _ _ _ _ => False }
def fLc (vs : List Nat) (t : Tg) (fi : List S → R (List D)) (tst : List S → R Bool) (elt : List S → R D) : List S → R (List D) := fun δ => (fi δ).bind fun ds => lcD t tst elt (wipeS δ vs) ds
section
variable {X : Cx} {c : Cfg} {el tg iter : Expr} {ifs : List Expr} {scope : Scope} {own : List (Str × Nat)} {pos : Pos} {t : Tg} {fi : List S → R (List D)} {tst : List S → R Bool} {elt : List S → R D}
theorem lc_read {vs : List Nat} (hsl : ∀ j ∈ t.slots, j ∈ vs) (σ : L2.St) (H : Hp) (Q : VK) (h : tN c (fLc vs t fi tst elt) σ H Q) : tLc (tI c Cb fi) (gD c.blk t) (tT c.blk tst) (tD c.blk elt) vs σ H Q := by
  obtain ⟨F, δ, rl, a⟩ := h
  refine ⟨F, δ, rl, (Aft.bind anti_N a).mono fun J H1 ⟨ds, F1, e1, ⟨it, hz⟩, a1⟩ => fun D hD => ?_⟩
  cases q : lcD t tst elt (wipeS δ vs) ds with
  | exc k => exact absurd q (lcD_noexc _ _ _ _ _ _)
  | bad => rw [q] at a1; exact a1.elim
  | ok tot =>
    rw [q] at a1
    have r1 := rl.ext e1
    refine ⟨fun i m Hc => m = ds.length - i ∧ i ≤ ds.length ∧ ∃ F2 acc ys r, Ext F1 H1 F2 Hc ∧ F2 D = none ∧ Hc D = some (.lst acc) ∧ acc.length ≤ i ∧ DVs c.K F2 acc ys ∧ lcD t tst elt (wipeS δ vs) (ds.drop i) = .ok r ∧ tot = ys ++ r,
      ⟨ds.length, rfl, Nat.zero_le _, F1, [], [], tot, Ext.free e1.fh hD, e1.fh.free hD, upd_same, Nat.le_refl _, .nil, q, rfl⟩, ?_⟩
    rintro i m Hc ⟨rfl, hile, F2, acc, ys, r, e2, fD, hD2, hacc, rv, hr, rfl⟩
    have hCb : Cb F1 H1 F2 Hc := ⟨e2.ff, e2.fh, e2.hh⟩
    by_cases hlt : i < ds.length
    · have hdi : ds[i]? = some ds[i] := List.getElem?_eq_getElem hlt
      have hdrop : ds.drop i = ds[i] :: ds.drop (i + 1) := List.drop_eq_getElem_cons hlt
      rw [hdrop] at hr
      obtain ⟨δ', es, hstep⟩ := lcD_step hr
      obtain ⟨hgo, hyld⟩ := it.go i F2 Hc _ hCb hdi
      refine .inr ⟨hgo, fun Hn => i + 1 ≤ ds.length ∧ ∃ F2 acc ys' r', Ext F1 H1 F2 Hn ∧ F2 D = none ∧ Hn D = some (.lst acc) ∧ acc.length ≤ i + 1 ∧ DVs c.K F2 acc ys' ∧ lcD t tst elt (wipeS δ vs) (ds.drop (i + 1)) = .ok r' ∧ ys ++ r = ys' ++ r',
        fun H' hn => ⟨ds.length - (i + 1), by omega, rfl, hn⟩, fun x H3 hy => ?_⟩
      obtain ⟨F3, e3, pv⟩ := hyld x H3 hy
      have fD3 : ∀ {Fa Ha Fb Hb : Hp}, Ext Fa Ha Fb Hb → Fa D = none → (∃ o, Ha D = some o) → Fb D = none := fun {Fa Ha Fb Hb} e hf ho => by
        cases z : Fb D with
        | none => rfl
        | some u =>
          have := e.nw D u z hf
          obtain ⟨o, ho⟩ := ho
          rw [ho] at this; cases this
      have f3 : F3 D = none := fD3 e3 fD ⟨_, hD2⟩
      have rb : Rel c.K c.B F3 (wipeS δ vs) (L2.wipe σ vs) H3 := ((r1.wipe vs).ext e2).ext e3
      refine ⟨F3, _, _, rb, pv, δ', es, fun σ' r' h1 h2 => ⟨?_, ?_⟩⟩
      · rw [wipe_eq (vs := vs) h2 (fun j hj => h1 j fun z => hj (hsl j z))]
        apply List.ext_getElem?
        intro j
        rw [wipe_get, wipe_get]
        split
        · rename_i hm
          cases σ[j]? <;> rfl
        · rfl
      · rcases hstep with ⟨ht0, hrest⟩ | ⟨y, r'', ht1, hel, hrest, rfl⟩
        · refine ⟨F3, δ', r', ?_⟩
          show Aft c.blk σ' pT F3 H3 (tst δ') _
          rw [ht0]
          rintro b F4 H4 e4 rfl
          refine ⟨hlt, F4, acc, ys, r, (e2.trans e3).trans e4, fD3 e4 f3 ⟨_, e3.hh _ _ hD2⟩, e4.hh _ _ (e3.hh _ _ hD2), by omega, (rv.mono e3.ff).mono e4.ff, hrest, rfl⟩
        · refine ⟨F3, δ', r', ?_⟩
          show Aft c.blk σ' pT F3 H3 (tst δ') _
          rw [ht1]
          rintro b F4 H4 e4 rfl
          rw [if_pos rfl]
          refine ⟨F4, δ', r'.ext e4, ?_⟩
          show Aft c.blk σ' (pD c.blk) F4 H4 (elt δ') _
          rw [hel]
          intro w F5 H5 e5 pw
          have f4 := fD3 e4 f3 ⟨_, e3.hh _ _ hD2⟩
          have h4D := e4.hh _ _ (e3.hh _ _ hD2)
          have f5 := fD3 e5 f4 ⟨_, h4D⟩
          have h5D := e5.hh _ _ h4D
          refine ⟨acc, h5D, ?_, hlt, F5, acc ++ [w], ys ++ [y], r'', ?_, f5, upd_same, by rw [List.length_append]; simp; omega, ?_, hrest, by simp⟩
          · have : ds.length ≤ sizeLine := by rw [szN_eq]; exact hz
            omega
          · have e25 := ((e2.trans e3).trans e4).trans e5
            refine ⟨e25.ff, fun b o z => ?_, fun b o z => ?_, e25.nw⟩
            · rw [upd_ne (ne_of_none z hD)]; exact e25.hh _ _ z
            · rw [upd_ne (ne_of_none z f5)]; exact e25.fh _ _ z
          · exact (((rv.mono e3.ff).mono e4.ff).mono e5.ff).append (.cons pw .nil)
    · have e : i = ds.length := by omega
      subst e
      refine .inl ⟨it.stop _ F2 Hc hCb (Nat.le_refl _), ?_⟩
      rw [List.drop_length] at hr
      cases hr
      rw [List.append_nil] at a1
      have hz' : ds.length ≤ sizeLine := by rw [szN_eq]; exact hz
      exact a1 (.ref D) F2 Hc e2 ⟨D, acc, rfl, hD, fD, hD2, by omega, rv⟩
theorem n_lc (hc : X.calm = true) (hN : X.N.Nodup) (ok : BlkOk X.N X.env.scope scope own) (hi : PI X tg iter (tI c Cb fi))
    (hg : ∀ (s : Shared) (H : Hp) (C : Addr) (cl : List (Str × Addr)) (fp : List Addr), PG (X.blk s H scope (compEnvC scope cl C X.env) fp) tg (gD c.blk t))
    (ht : ∀ (s : Shared) (H : Hp) (C : Addr) (cl : List (Str × Addr)) (fp : List Addr), PTs (X.blk s H scope (compEnvC scope cl C X.env) fp) ifs (tT c.blk tst))
    (he : ∀ (s : Shared) (H : Hp) (C : Addr) (cl : List (Str × Addr)) (fp : List Addr), PE (X.blk s H scope (compEnvC scope cl C X.env) fp) el (tD c.blk elt))
    (hsl : ∀ j ∈ t.slots, j ∈ own.map (·.2)) (hs : ∀ x, foldedSetIterable iter X.env x = pure x) :
    PE X (.ListComp el [⟨tg, iter, ifs, 0⟩] scope pos) (tN c (fLc (own.map (·.2)) t fi tst elt)) :=
  (pe_lc hc hN hi ok hg ht he hs).impD (lc_read hsl)
theorem _root_.L2.PTs.impD {X : Cx} {e : List Expr} {t t' : TT} (h : PTs X e t) (m : ∀ σ H Q, t' σ H Q → t σ H Q) : PTs X e t' := ⟨fun pins s σ H Q I q => h.run pins s σ H Q I (m _ _ _ q)⟩
theorem ts_nil : PTs X [] (tT c fun _ => .ok true) := pts_nil.impD fun σ H Q ⟨F, δ, rl, a⟩ => a.ret rl.sub rfl
end
end PD
namespace PD
open PySem PySem.Spec PyProof.Rows L2
inductive O where
  | next (δ : List S) | ret (d : D) | brk (δ : List S) | cont (δ : List S) | exc (k : Nat) (δ : List S) | bad
/-- at the end of a body -/
structure EndOk (B : Bg) (F H : Hp) : Prop where
  sub : Same F H
  keep : Same B.G H
  nw : ∀ b o, F b = some o → B.F0 b = none → B.G b = none
theorem Rel.endOk {K : PySem.W.Frag} {B : Bg} {F H : Hp} {δ : List S} {σ : L2.St} (r : Rel K B F δ σ H) : EndOk B F H := ⟨r.sub, r.keep, r.nw⟩
def AftS (c : Cfg) (F : Hp) (o : O) (E : Ends) : Prop :=
  match o with
  | .next δ' => ∀ σ' F' H', Same F F' → Rel c.K c.B F' δ' σ' H' → E.nx σ' H'
  | .brk δ' => ∀ σ' F' H', Same F F' → Rel c.K c.B F' δ' σ' H' → E.bk σ' H'
  | .cont δ' => ∀ σ' F' H', Same F F' → Rel c.K c.B F' δ' σ' H' → E.ct σ' H'
  | .ret d => ∀ v F' H', Same F F' → EndOk c.B F' H' → DV c.K F' v d → E.rt v H'
  | .exc k δ' => ∀ σ' F' H', Same F F' → Rel c.K c.B F' δ' σ' H' → c.W (c.cv k) none σ' H'
  | .bad => False
def tS (c : Cfg) (g : List S → O) : TS := fun E σ H => ∃ F δ, Rel c.K c.B F δ σ H ∧ AftS c F (g δ) E
theorem AftS.mono {c : Cfg} {F F1 : Hp} {o : O} {E : Ends} (h : AftS c F o E) (s : Same F F1) : AftS c F1 o E := by
  cases o with
  | next δ' => exact fun σ' F' H' e r => h σ' F' H' (s.trans e) r
  | brk δ' => exact fun σ' F' H' e r => h σ' F' H' (s.trans e) r
  | cont δ' => exact fun σ' F' H' e r => h σ' F' H' (s.trans e) r
  | ret d => exact fun v F' H' e r => h v F' H' (s.trans e) r
  | exc k δ' => exact fun σ' F' H' e r => h σ' F' H' (s.trans e) r
  | bad => exact h
section
variable {X : Cx} {c : Cfg} {e x y z : Expr} {pos p p2 : Pos} {f : List S → R D} {g h : List S → O} {st : Stmt} {ss tt : List Stmt}
/-- an expression, then a statement -/
def thenS {α : Type} (r : R α) (δ : List S) (k : α → O) : O := match r with
  | .ok a => k a
  | .exc j => .exc j δ
  | .bad => .bad
theorem aft_thenS {α β : Type} {P : Hp → Hp → Hp → β → α → Prop} {σ : L2.St} {F H : Hp} {δ : List S} {r : R α} {k : α → O} {E : Ends} {Q : β → Hp → Prop} (rl : Rel c.K c.B F δ σ H) (a : AftS c F (thenS r δ k) E)
    (m : ∀ d v F1 H1, Ext F H F1 H1 → P H F1 H1 v d → AftS c F1 (k d) E → Q v H1) : Aft c σ P F H r Q := by
  cases r with
  | ok d => exact fun v F1 H1 e p => m d v F1 H1 e p (AftS.mono a e.ff)
  | exc j => exact fun F' H' e => a σ F' H' e.ff (rl.ext e)
  | bad => exact a
def oNext : List S → O := fun δ => .next δ
def seqS (g h : List S → O) : List S → O := fun δ => match g δ with
  | .next δ' => h δ'
  | o => o
theorem ss_nil : PSs X [] (tS c oNext) := pss_nil.impD fun E σ H ⟨F, δ, rl, a⟩ => a σ F H (fun _ _ z => z) rl
theorem ss_cons (h1 : PS X st (tS c g)) (h2 : PSs X ss (tS c h)) : PSs X (st :: ss) (tS c (seqS g h)) :=
  (pss_cons h1 h2).impD fun E σ H ⟨F, δ, rl, a⟩ => ⟨F, δ, rl, by
    unfold seqS at a
    cases q : g δ with
    | next δ' => rw [q] at a; exact fun σ' F' H' e r => ⟨F', δ', r, AftS.mono a e⟩
    | brk δ' => rw [q] at a; exact a
    | cont δ' => rw [q] at a; exact a
    | ret d => rw [q] at a; exact a
    | exc k δ' => rw [q] at a; exact a
    | bad => rw [q] at a; exact a⟩
/-- what the proof needn't reach -/
theorem s_never : PS X st (tS c fun _ => .bad) := ps_never.impD fun E σ H ⟨F, δ, rl, a⟩ => a.elim
theorem ss_never : PSs X ss (tS c fun _ => .bad) := pss_never.impD fun E σ H ⟨F, δ, rl, a⟩ => a.elim
/-- a step of the reading alone -/
theorem ss_ghost {w : List S → Option (List S)} (hw : ∀ F δ σ H δ', Rel c.K c.B F δ σ H → w δ = some δ' → ∃ F', Same F F' ∧ Rel c.K c.B F' δ' σ H) (h1 : PSs X ss (tS c g)) :
    PSs X ss (tS c fun δ => match w δ with | some δ' => g δ' | none => .bad) :=
  h1.impD fun E σ H ⟨F, δ, rl, a⟩ => by
    dsimp only at a
    cases q : w δ with
    | none => rw [q] at a; exact a.elim
    | some δ' =>
      rw [q] at a
      obtain ⟨F', s, r⟩ := hw F δ σ H δ' rl q
      exact ⟨F', δ', r, AftS.mono a s⟩
theorem s_pass : PS X (.Pass pos) (tS c oNext) := ps_pass.impD fun E σ H ⟨F, δ, rl, a⟩ => a σ F H (fun _ _ z => z) rl
theorem s_break : PS X (.Break pos) (tS c fun δ => .brk δ) := ps_break.impD fun E σ H ⟨F, δ, rl, a⟩ => a σ F H (fun _ _ z => z) rl
theorem s_continue : PS X (.Continue pos) (tS c fun δ => .cont δ) := ps_continue.impD fun E σ H ⟨F, δ, rl, a⟩ => a σ F H (fun _ _ z => z) rl
theorem s_ret (hx : PE X e (tD c f)) : PS X (.Return (some e) pos) (tS c fun δ => thenS (f δ) δ fun d => .ret d) :=
  (ps_ret hx).impD fun E σ H ⟨F, δ, rl, a⟩ => ⟨F, δ, rl, aft_thenS rl a fun d v F1 H1 e p a1 => a1 v F1 H1 (fun _ _ z => z) (rl.ext e).endOk p⟩
theorem s_retN : PS X (.Return none pos) (tS c fun δ => .ret .non) :=
  ps_retN.impD fun E σ H ⟨F, δ, rl, a⟩ => a .non F H (fun _ _ z => z) rl.endOk .non
theorem s_if {t : List S → R Bool} (hx : PT X e (tT c t)) (h1 : PSs X ss (tS c g)) (h2 : PSs X tt (tS c h)) : PS X (.If e ss tt pos) (tS c fun δ => thenS (t δ) δ fun k => if k then g δ else h δ) :=
  (ps_if hx h1 h2).impD fun E σ H ⟨F, δ, rl, a⟩ => ⟨F, δ, rl, aft_thenS rl a fun d v F1 H1 e p a1 => by
    subst p
    cases v with
    | true => exact ⟨F1, δ, rl.ext e, a1⟩
    | false => exact ⟨F1, δ, rl.ext e, a1⟩⟩
def noComp : Expr → Bool
  | .ListComp .. => false
  | .SetComp .. => false
  | .DictComp .. => false
  | _ => true
theorem swaps_no {t : Option Expr} {l : Nat} {env : Env} (hn : noComp e = true) : swapsWith e t l env = pure false := by
  cases e <;> first | rfl | (simp [noComp] at hn; done)
theorem s_expr (hx : PE X e (tB c f)) (hn : noComp e = true) : PS X (.Expr e pos) (tS c fun δ => thenS (f δ) δ fun _ => .next δ) :=
  (ps_expr hx (swaps_no hn)).impD fun E σ H ⟨F, δ, rl, a⟩ => ⟨F, δ, rl, aft_thenS rl a fun d v F1 H1 e p a1 => a1 σ F1 H1 (fun _ _ z => z) (rl.ext e)⟩
def asgS (i : Nat) (s : S) (δ : List S) : O := if i < δ.length then .next (δ.set i s) else .bad
theorem s_set {i : Nat} {nm : Str} (hN : X.N.Nodup) (hi : X.N[i]? = some nm) (hl : Loc X.env.scope nm) (hf : X.fn nm = true ∨ X.env.scope.names.lookup nm = some .local) (hx : PE X e (tD c f)) (hn : noComp e = true) :
    PS X (.Assign [.Name nm p] e pos) (tS c fun δ => thenS (f δ) δ fun d => asgS i (.dat d) δ) :=
  (ps_set hN hi hl hx (swaps_no hn) hf).impD fun E σ H ⟨F, δ, rl, a⟩ => ⟨F, δ, rl, aft_thenS rl a fun d v F1 H1 e p a1 => by
    unfold asgS at a1
    split at a1
    · exact a1 _ F1 H1 (fun _ _ z => z) ((rl.ext e).setD p)
    · exact a1.elim⟩
theorem Rel.setOc {K : PySem.W.Frag} {B : Bg} {F H : Hp} {δ : List S} {σ : L2.St} {i : Nat} {a : Addr} {o : HO} {oc : OC} (r : Rel K B F δ σ H) (hi : i < δ.length) (h1 : F a = none) (h2 : B.G a = none) (h3 : H a = some o) (h4 : OwnOk K F a o oc)
    (hs : ∀ j, j ≠ i → ¬ OwnAt δ σ j a) : Rel K B F (δ.set i (.ow oc)) (σ.set i (some (.ref a))) H := by
  have hi' : i < σ.length := by rw [← r.len]; exact hi
  refine ⟨r.sub, r.keep, r.nw, by simp [r.len], fun j s q => ?_, fun j k b g1 g2 => ?_⟩
  · by_cases hj : i = j
    · subst hj
      rw [List.getElem?_set_self hi] at q
      cases q
      exact ⟨some (.ref a), List.getElem?_set_self hi', a, o, rfl, h1, h2, h3, h4⟩
    · rw [List.getElem?_set_ne hj] at q
      rw [List.getElem?_set_ne hj]
      exact r.slot j s q
  · have key : ∀ m b, OwnAt (δ.set i (.ow oc)) (σ.set i (some (.ref a))) m b → (m = i ∧ b = a) ∨ (m ≠ i ∧ OwnAt δ σ m b) := fun m b ⟨⟨d1, q1⟩, z1⟩ => by
      by_cases hm : i = m
      · subst hm
        rw [List.getElem?_set_self hi'] at z1
        cases z1
        exact .inl ⟨rfl, rfl⟩
      · rw [List.getElem?_set_ne hm] at q1 z1
        exact .inr ⟨fun e => hm e.symm, ⟨d1, q1⟩, z1⟩
    rcases key j b g1 with ⟨rfl, rfl⟩ | ⟨n1, o1⟩
    · rcases key k b g2 with ⟨rfl, _⟩ | ⟨n2, o2⟩
      · rfl
      · exact absurd o2 (hs k n2)
    · rcases key k b g2 with ⟨rfl, rfl⟩ | ⟨n2, o2⟩
      · exact absurd o1 (hs j n1)
      · exact r.sep j k b o1 o2
theorem Rel.setO {K : PySem.W.Frag} {B : Bg} {F H : Hp} {δ : List S} {σ : L2.St} {i : Nat} {a : Addr} {vs : List V} {ds : List D} (r : Rel K B F δ σ H) (hi : i < δ.length) (h1 : F a = none) (h2 : B.G a = none) (h3 : H a = some (.lst vs)) (h4 : vs.length ≤ sizeLine) (h5 : DVs K F vs ds)
    (hs : ∀ j, j ≠ i → ¬ OwnAt δ σ j a) : Rel K B F (δ.set i (.own ds)) (σ.set i (some (.ref a))) H := r.setOc hi h1 h2 h3 ⟨vs, rfl, h4, h5⟩ hs
theorem Rel.own_any {K : PySem.W.Frag} {B : Bg} {F H : Hp} {δ : List S} {σ : L2.St} (r : Rel K B F δ σ H) {i : Nat} {a : Addr} (h : OwnAt δ σ i a) : ∃ o, F a = none ∧ B.G a = none ∧ H a = some o := by
  obtain ⟨⟨c, q⟩, z⟩ := h
  obtain ⟨v, h1, b, o, e, h2, h3, h4, _⟩ := r.slot i _ q
  subst e
  rw [z] at h1
  cases h1
  exact ⟨o, h2, h3, h4⟩
def fNewS (i : Nat) (f : List S → R (List D)) : List S → O := fun δ => thenS (f δ) δ fun ds => asgS i (.own ds) δ
theorem new_read {i : Nat} {fn : List S → R (List D)} (E : Ends) (σ : L2.St) (H : Hp) (h : tS c (fNewS i fn) E σ H) : tAsg (tN c fn) (gName i) E σ H := by
  obtain ⟨F, δ, rl, a⟩ := h
  refine ⟨F, δ, rl, aft_thenS rl a fun ds v F1 H1 e p a1 => ?_⟩
  obtain ⟨q, vs, rfl, h1, h2, h3, h4, h5⟩ := p
  unfold asgS at a1
  split at a1
  · rename_i hi
    refine a1 _ F1 H1 (fun _ _ z => z) ((rl.ext e).setO hi h2 (rl.keep.free h1) h3 h4 h5 fun j hj ho => ?_)
    obtain ⟨o', _, _, h6⟩ := rl.own_any ho
    rw [h1] at h6; cases h6
  · exact a1.elim
theorem s_new {i : Nat} {nm : Str} {fn : List S → R (List D)} (hN : X.N.Nodup) (hi : X.N[i]? = some nm) (hl : Loc X.env.scope nm) (hf : X.fn nm = true ∨ X.env.scope.names.lookup nm = some .local) (hx : PE X e (tN c fn)) (hn : swapsWith e (some (.Name nm p)) pos.line X.env = pure false) :
    PS X (.Assign [.Name nm p] e pos) (tS c (fNewS i fn)) := (ps_set hN hi hl hx hn hf).impD new_read
/-- a list that a slot holds is not changed any more -/
def frzS (i : Nat) (δ : List S) : Option (List S) := match δ[i]? with
  | some (.ow (.l ds)) => some (δ.set i (.dat (.lst ds)))
  | some (.ow (.d ks vs)) => some (δ.set i (.dat (.dct ks vs)))
  | _ => some δ
theorem Rel.freezeC {K : PySem.W.Frag} {B : Bg} {F H : Hp} {δ : List S} {σ : L2.St} {i : Nat} {oc : OC} (r : Rel K B F δ σ H) (q : δ[i]? = some (.ow oc)) : ∃ F', Same F F' ∧ Rel K B F' (δ.set i (.dat (dOf oc))) σ H := by
  obtain ⟨v0, h1, a, o, e0, h2, h3, h4, h5⟩ := r.slot i _ q
  subst e0
  have sm : Same F (upd F a o) := same_new h2
  have hi : i < δ.length := by
    rcases Nat.lt_or_ge i δ.length with z | z
    · exact z
    · rw [List.getElem?_eq_none z] at q; cases q
  have r' : Rel K B (upd F a o) (δ.set i .none) (σ.set i (some (.ref a))) H := by
    have r0 := r.setN (i := i) (w := some (.ref a))
    refine ⟨fun b o z => ?_, r.keep, fun b o z n => ?_, r0.len, fun j s z => ?_, r0.sep⟩
    · by_cases hb : b = a
      · subst hb; rw [upd_same] at z; rw [← z]; exact h4
      · rw [upd_ne hb] at z; exact r.sub _ _ z
    · by_cases hb : b = a
      · rw [hb]; exact h3
      · rw [upd_ne hb] at z; exact r.nw _ _ z n
    · obtain ⟨v, z1, z2⟩ := r0.slot j s z
      refine ⟨v, z1, ?_⟩
      cases s with
      | none => trivial
      | dat d => obtain ⟨w, e1, e2⟩ := z2; exact ⟨w, e1, e2.mono sm⟩
      | ow es =>
        obtain ⟨b, us, e1, e2, e3, e4, e5⟩ := z2
        refine ⟨b, us, e1, ?_, e3, e4, e5.mono sm⟩
        subst e1
        have ne : b ≠ a := fun eb => by
          subst eb
          have o1 : OwnAt δ σ i b := ⟨⟨oc, q⟩, h1⟩
          by_cases hj : i = j
          · subst hj
            rw [List.getElem?_set_self hi] at z; cases z
          · rw [List.getElem?_set_ne hj] at z z1
            exact hj (r.sep i j b o1 ⟨⟨es, z⟩, z1⟩)
        rw [upd_ne ne]; exact e2
      | hid => exact z2
      | exc _ => exact z2
  refine ⟨_, sm, ?_⟩
  have r2 := r'.setD (i := i) (v := .ref a) (d := dOf oc) (OwnOk.dv sm upd_same h5)
  rw [List.set_set, List.set_set] at r2
  have es : σ.set i (some (V.ref a)) = σ := by
    apply List.ext_getElem?
    intro j
    by_cases hj : i = j
    · subst hj; rw [List.getElem?_set_self (by rw [← r.len]; exact hi), h1]
    · rw [List.getElem?_set_ne hj]
  rw [es] at r2
  exact r2
theorem Rel.freeze {K : PySem.W.Frag} {B : Bg} {F H : Hp} {δ δ' : List S} {σ : L2.St} {i : Nat} (r : Rel K B F δ σ H) (h : frzS i δ = some δ') : ∃ F', Same F F' ∧ Rel K B F' δ' σ H := by
  unfold frzS at h
  split at h
  · rename_i ds q
    cases h
    exact r.freezeC q
  · rename_i ks ds q
    cases h
    exact r.freezeC q
  · cases h
    exact ⟨F, fun _ _ z => z, r⟩
theorem ss_freeze (i : Nat) (h1 : PSs X ss (tS c g)) : PSs X ss (tS c fun δ => match frzS i δ with | some δ' => g δ' | none => .bad) :=
  ss_ghost (fun F δ σ H δ' r e => r.freeze e) h1
end
end PD
namespace PD
open PySem PySem.Spec PyProof.Rows L2
section
variable {X : Cx} {c : Cfg} {e x y z tg : Expr} {es : List Expr} {pos p p2 apos : Pos} {f : List S → R D} {fs : List S → R (List D)} {g h : List S → O} {st : Stmt} {ss tt : List Stmt}
/-- the list at a, held by slot i alone, is changed -/
theorem Rel.mutC {K : PySem.W.Frag} {B : Bg} {F H : Hp} {δ : List S} {σ : L2.St} {i : Nat} {a : Addr} {o : HO} {oc oc0 : OC} (r : Rel K B F δ σ H) (h0 : δ[i]? = some (.ow oc0)) (h1 : σ[i]? = some (some (.ref a))) (h4 : OwnOk K F a o oc) :
    Rel K B F (δ.set i (.ow oc)) σ (upd H a o) := by
  obtain ⟨v0, q1, b, us, e0, q2, q3, q4, q5⟩ := r.slot i _ h0
  subst e0
  rw [h1] at q1
  cases q1
  have hi : i < δ.length := by
    rcases Nat.lt_or_ge i δ.length with z | z
    · exact z
    · rw [List.getElem?_eq_none z] at h0; cases h0
  refine ⟨fun b u z => ?_, fun b u z => ?_, r.nw, by simp [r.len], fun j s q => ?_, fun j k b g1 g2 => ?_⟩
  · rw [upd_ne (ne_of_none z q2)]; exact r.sub _ _ z
  · rw [upd_ne (ne_of_none z q3)]; exact r.keep _ _ z
  · by_cases hj : i = j
    · subst hj
      rw [List.getElem?_set_self hi] at q
      cases q
      exact ⟨_, h1, a, o, rfl, q2, q3, upd_same, h4⟩
    · rw [List.getElem?_set_ne hj] at q
      obtain ⟨v, z1, z2⟩ := r.slot j s q
      refine ⟨v, z1, ?_⟩
      cases s with
      | none => trivial
      | dat d => exact z2
      | ow es =>
        obtain ⟨b, us', e1, e2, e3, e4, e5⟩ := z2
        subst e1
        have ne : b ≠ a := fun eb => by
          subst eb
          exact hj (r.sep i j b ⟨⟨_, h0⟩, h1⟩ ⟨⟨es, q⟩, z1⟩)
        exact ⟨b, us', rfl, e2, e3, by rw [upd_ne ne]; exact e4, e5⟩
      | hid => exact z2
      | exc _ => exact z2
  · have key : ∀ m b, OwnAt (δ.set i (.ow oc)) σ m b → OwnAt δ σ m b := fun m b ⟨⟨d1, q1⟩, z1⟩ => by
      by_cases hm : i = m
      · subst hm; exact ⟨⟨_, h0⟩, z1⟩
      · rw [List.getElem?_set_ne hm] at q1
        exact ⟨⟨d1, q1⟩, z1⟩
    exact r.sep j k b (key j b g1) (key k b g2)
theorem Rel.mut {K : PySem.W.Frag} {B : Bg} {F H : Hp} {δ : List S} {σ : L2.St} {i : Nat} {a : Addr} {vs : List V} {ds ds0 : List D} (r : Rel K B F δ σ H) (h0 : δ[i]? = some (.own ds0)) (h1 : σ[i]? = some (some (.ref a))) (h4 : vs.length ≤ sizeLine) (h5 : DVs K F vs ds) :
    Rel K B F (δ.set i (.own ds)) σ (upd H a (.lst vs)) := r.mutC h0 h1 ⟨vs, rfl, h4, h5⟩
/-- xs.append(e), xs.extend(e): xs a slot -/
def appS (i : Nat) (δ : List S) (d : D) : O := match δ[i]? with
  | some (.ow (.l ds)) => if ds.length < szN then .next (δ.set i (.own (ds ++ [d]))) else .bad
  | _ => .bad
def extS (i : Nat) (δ : List S) (d : D) : O := match δ[i]?, d with
  | some (.ow (.l ds)), .lst es => if ds.length + es.length ≤ szN then .next (δ.set i (.own (ds ++ es))) else .bad
  | _, _ => .bad
def isOwn (i : Nat) (δ : List S) : Bool := match δ[i]? with
  | some (.ow (.l _)) => true
  | _ => false
theorem own_get {i : Nat} {δ : List S} (h : isOwn i δ = true) : ∃ ds, δ[i]? = some (.own ds) := by
  unfold isOwn at h
  split at h
  · exact ⟨_, by assumption⟩
  · cases h
theorem s_append {i : Nat} {nm : Str} (hK : c.K = X.K) (hi : X.N[i]? = some nm) (hv : Vis X.env.scope nm) (hd : (nm == ("__debug__" : Str)) = false) (hcd : (nm == ("__classdict__" : Str)) = false) (hx : PE X e (tD c f)) (hs : noStar e = true) (hline : (apos.endLine == p.line) = true)
    (hb : attributeBase (.Name nm p2) "append" X.env (eval (.Name nm p2) X.env) = eval (.Name nm p2) X.env) :
    PS X (.Expr (.Call (.Attribute (.Name nm p2) "append" apos) [e] [] p) pos) (tS c fun δ => if isOwn i δ then thenS (f δ) δ fun d => appS i δ d else .bad) :=
  (ps_expr (pe_bm PySem.F.plainAttrs_list PySem.F.slot_list_append PySem.F.type_list_append mt_append (pe_var hi hv hd hcd) (pa_cons hx pa_nil (star_cons _ hs)) hb
      (by rw [star_cons _ hs]; rfl) hline (star_cons _ hs) rfl) rfl).impD fun E σ H ⟨F, δ, rl, a⟩ => by
    dsimp only at a
    split at a
    · rename_i ho
      obtain ⟨ds, q⟩ := own_get ho
      obtain ⟨l, vs, h1, h2, h3, h4, h5, h6⟩ := rl.own q
      refine ⟨_, h1, .inl ⟨rfl, vs, SqL.of h4⟩, F, δ, rl, aft_thenS rl a fun d v F1 H1 e p a1 => ?_⟩
      unfold appS at a1
      rw [q] at a1
      dsimp only at a1
      split at a1
      · rename_i hz
        have hz' : vs.length < sizeLine := by rw [h6.length, szN_eq]; exact hz
        refine ⟨l, vs, v, rfl, rfl, e.hh _ _ h4, hz', ?_⟩
        refine a1 σ F1 _ (fun _ _ z => z) ((rl.ext e).mut q h1 (by rw [List.length_append]; exact hz') ((h6.mono e.ff).append (.cons p .nil)))
      · exact a1.elim
    · exact a.elim
theorem s_extend {i : Nat} {nm : Str} (hK : c.K = X.K) (hi : X.N[i]? = some nm) (hv : Vis X.env.scope nm) (hd : (nm == ("__debug__" : Str)) = false) (hcd : (nm == ("__classdict__" : Str)) = false) (hx : PE X e (tB c f)) (hs : noStar e = true) (hline : (apos.endLine == p.line) = true)
    (hb : attributeBase (.Name nm p2) "extend" X.env (eval (.Name nm p2) X.env) = eval (.Name nm p2) X.env) :
    PS X (.Expr (.Call (.Attribute (.Name nm p2) "extend" apos) [e] [] p) pos) (tS c fun δ => if isOwn i δ then thenS (f δ) δ fun d => extS i δ d else .bad) :=
  (ps_expr (pe_bm PySem.F.plainAttrs_list PySem.F.slot_list_extend PySem.F.type_list_extend mt_extend (pe_var hi hv hd hcd) (pa_cons hx pa_nil (star_cons _ hs)) hb
      (by rw [star_cons _ hs]; rfl) hline (star_cons _ hs) rfl) rfl).impD fun E σ H ⟨F, δ, rl, a⟩ => by
    dsimp only at a
    split at a
    · rename_i ho
      obtain ⟨ds, q⟩ := own_get ho
      obtain ⟨l, vs, h1, h2, h3, h4, h5, h6⟩ := rl.own q
      refine ⟨_, h1, .inl ⟨rfl, vs, SqL.of h4⟩, F, δ, rl, aft_thenS rl a fun d v F1 H1 e p a1 => ?_⟩
      unfold extS at a1
      rw [q] at a1
      cases d <;> first | exact a1.elim | skip
      dsimp only at a1
      split at a1
      · rename_i hz
        obtain ⟨p1, v1, e1, s1, z1, r1⟩ := DVB.list e.fh p
        have hz' : vs.length + v1.length ≤ sizeLine := by rw [h6.length, r1.length, szN_eq]; exact hz
        subst e1
        refine ⟨l, p1, vs, v1, rfl, rfl, e.hh _ _ h4, s1, hz', ?_⟩
        refine a1 σ F1 _ (fun _ _ z => z) ((rl.ext e).mut q h1 (by rw [List.length_append]; exact hz') ((h6.mono e.ff).append r1))
      · exact a1.elim
    · exact a.elim
theorem s_tup {is : List Nat} {k : Nat} (hK : c.K = X.K) (hc : X.calm = true) (hN : X.N.Nodup) (h : NamesOk X es is) (hx : PE X e (tD c f)) (hn : noComp e = true) (hw : swappedStores [.Tuple es k p] e X.env = pure none) :
    PS X (.Assign [.Tuple es k p] e pos) (tS c fun δ => thenS (f δ) δ fun d => match setT (.tup is) d δ with | some δ' => .next δ' | none => .bad) :=
  (ps_asg hx (g_tup hK hc hN h) (by unfold swapsWithSole; exact swaps_no hn) hw rfl).impD fun E σ H ⟨F, δ, rl, a⟩ => ⟨F, δ, rl, aft_thenS rl a fun d v F1 H1 e p a1 => by
    cases q : setT (.tup is) d δ with
    | none => rw [q] at a1; exact a1.elim
    | some δ' =>
      rw [q] at a1
      exact ⟨F1, δ, d, rl.ext e, p, δ', q, fun σ' r' _ _ => a1 σ' F1 H1 (fun _ _ z => z) r'⟩⟩
theorem swap_none {ts : List Expr} {k : Nat} {env : Env} (h : ∀ vs k p, e ≠ .Tuple vs k p) : swappedStores [.Tuple ts k p] e env = pure none := by
  cases e <;> first | rfl | exact absurd rfl (h _ _ _)
def augD : D → D → R D
  | .int a, .int b => .ok (.int (a + b))
  | _, _ => .bad
theorem s_aug {i : Nat} {nm : Str} (hN : X.N.Nodup) (hi : X.N[i]? = some nm) (hl : Loc X.env.scope nm) (hf : X.fn nm = true ∨ X.env.scope.names.lookup nm = some .local) (hx : PE X e (tD c f)) :
    PS X (.AugAssign (.Name nm p) .Add e pos) (tS c fun δ => thenS (slD δ i) δ fun a => thenS (f δ) δ fun b => thenS (augD a b) δ fun d => asgS i (.dat d) δ) :=
  (ps_aug hN hi hl hx ip_add hf).impD fun E σ H ⟨F, δ, rl, a⟩ => by
    dsimp only [slD] at a
    cases q : δ[i]? with
    | none => rw [q] at a; exact a.elim
    | some s =>
      rw [q] at a
      cases s with
      | dat d0 =>
        obtain ⟨w, h1, h2⟩ := rl.dat q
        refine ⟨w, h1, F, δ, rl, aft_thenS rl (show AftS c F (thenS (f δ) δ fun b => thenS (augD d0 b) δ fun d => asgS i (.dat d) δ) E from a) fun d v F1 H1 e p a1 => ?_⟩
        cases h2 <;> first | (cases d <;> exact a1.elim) | skip
        cases p <;> first | exact a1.elim | skip
        refine ⟨_, _, rfl, rfl, ?_⟩
        have a2 : AftS c F1 (asgS i (.dat _) δ) E := a1
        unfold asgS at a2
        split at a2
        · exact a2 _ F1 H1 (fun _ _ z => z) ((rl.ext e).setD (.int _))
        · exact a2.elim
      | none => exact a.elim
      | ow _ => exact a.elim
      | hid => exact a.elim
      | exc _ => exact a.elim
def whileD (t : List S → R Bool) (b : List S → O) : Nat → List S → O
  | 0, _ => .bad
  | n + 1, δ => thenS (t δ) δ fun k => if k then (match b δ with
      | .next δ' => whileD t b n δ'
      | .cont δ' => whileD t b n δ'
      | .brk δ' => .next δ'
      | .ret d => .ret d
      | .exc k δ' => .exc k δ'
      | .bad => .bad) else .next δ
theorem aft_thenE {α β : Type} {P : Hp → Hp → Hp → β → α → Prop} {σ : L2.St} {F H : Hp} {δ : List S} {r : R α} {k : α → O} {E : Ends} {Q : β → Hp → Prop} (rl : Rel c.K c.B F δ σ H) (a : AftS c F (thenS r δ k) E)
    (m : ∀ d v F1 H1, r = .ok d → Ext F H F1 H1 → P H F1 H1 v d → AftS c F1 (k d) E → Q v H1) : Aft c σ P F H r Q := by
  cases r with
  | ok d => exact fun v F1 H1 e p => m d v F1 H1 rfl e p (AftS.mono a e.ff)
  | exc j => exact fun F' H' e => a σ F' H' e.ff (rl.ext e)
  | bad => exact a
theorem s_while {t : List S → R Bool} {n : Nat} (hp : PassesOwn (model X.prog X.w) X.A X.env X.xe) (hx : PT X e (tT c t)) (h1 : PSs X ss (tS c g)) : PS X (.While e ss [] pos) (tS c (whileD t g n)) :=
  (ps_while hp hx h1).impD fun E σ H ⟨F, δ, rl, a⟩ => by
    generalize ho : whileD t g n δ = o at a
    refine ⟨fun m σ H => ∃ F1 δ1, Same F F1 ∧ Rel c.K c.B F1 δ1 σ H ∧ whileD t g m δ1 = o, ⟨n, F, δ, fun _ _ z => z, rl, ho⟩, ?_⟩
    rintro m σ1 H1 ⟨F1, δ1, s1, r1, e1⟩
    cases m with
    | zero => subst e1; exact a.elim
    | succ m =>
      have a1 : AftS c F1 o E := AftS.mono a s1
      rw [← e1] at a1
      refine ⟨F1, δ1, r1, aft_thenE r1 a1 fun k v F2 H2 ek e2 p2 a2 => ?_⟩
      subst p2
      cases v with
      | false => exact a2 σ1 F2 H2 (fun _ _ z => z) (r1.ext e2)
      | true =>
        rw [if_pos rfl]
        simp only [whileD, ek, thenS, if_true] at e1
        rw [if_pos rfl] at a2
        refine ⟨fun σ' H' => ∃ F3 δ3, Same F F3 ∧ Rel c.K c.B F3 δ3 σ' H' ∧ whileD t g m δ3 = o, fun σ' H' hn => ⟨m, Nat.lt_succ_self m, hn⟩, F2, δ1, r1.ext e2, ?_⟩
        cases q : g δ1 with
        | next δ' => rw [q] at e1; exact fun σ' F' H' e r => ⟨F', δ', (s1.trans e2.ff).trans e, r, e1⟩
        | cont δ' => rw [q] at e1; exact fun σ' F' H' e r => ⟨F', δ', (s1.trans e2.ff).trans e, r, e1⟩
        | brk δ' => rw [q] at a2; exact a2
        | ret d => rw [q] at a2; exact a2
        | exc k δ' => rw [q] at a2; exact a2
        | bad => rw [q] at a2; exact a2
def forD (t : Tg) (b : List S → O) : List D → List S → O
  | [], δ => .next δ
  | d :: ds, δ => match setT t d δ with
    | none => .bad
    | some δ' => match b δ' with
      | .next δ'' => forD t b ds δ''
      | .cont δ'' => forD t b ds δ''
      | .brk δ'' => .next δ''
      | .ret d => .ret d
      | .exc k δ'' => .exc k δ''
      | .bad => .bad
def fFor (t : Tg) (fi : List S → R (List D)) (b : List S → O) : List S → O := fun δ => thenS (fi δ) δ fun ds => forD t b ds δ
theorem s_for {t : Tg} {fi : List S → R (List D)} (hp : PassesOwn (model X.prog X.w) X.A X.env X.xe) (hc : X.calm = true) (hi : PI X tg e (tI c (fun F' _ => Cf F') fi)) (hg : PG X tg (gD c t)) (hb : PSs X ss (tS c g))
    (hs : ∀ x, foldedSetIterable e X.env x = pure x) : PS X (.For tg e ss [] pos) (tS c (fFor t fi g)) :=
  (ps_for hp hc hi hg hb hs).impD fun E σ H ⟨F, δ, rl, a⟩ => ⟨F, δ, rl, aft_thenS rl a fun ds J F1 H1 e1 ⟨it, hz⟩ a1 => by
    generalize ho : forD t g ds δ = o at a1
    refine ⟨fun i m σ H => m = ds.length - i ∧ i ≤ ds.length ∧ ∃ F2 δ2, Same F1 F2 ∧ Rel c.K c.B F2 δ2 σ H ∧ forD t g (ds.drop i) δ2 = o, ⟨ds.length, rfl, Nat.zero_le _, F1, δ, fun _ _ z => z, rl.ext e1, ho⟩, ?_⟩
    rintro i m σ2 H2 ⟨rfl, hile, F2, δ2, s2, r2, e2⟩
    have hC : Cf F1 F2 H2 := ⟨s2, r2.sub⟩
    by_cases hlt : i < ds.length
    · have hdi : ds[i]? = some ds[i] := List.getElem?_eq_getElem hlt
      rw [List.drop_eq_getElem_cons hlt] at e2
      obtain ⟨hgo, hyld⟩ := it.go i F2 H2 _ hC hdi
      refine .inr ⟨hgo, fun σ' H' => i + 1 ≤ ds.length ∧ ∃ F2 δ2, Same F1 F2 ∧ Rel c.K c.B F2 δ2 σ' H' ∧ forD t g (ds.drop (i + 1)) δ2 = o, fun σ' H' hn => ⟨ds.length - (i + 1), by omega, rfl, hn⟩, fun x H3 hy => ?_⟩
      obtain ⟨F3, e3, pv⟩ := hyld x H3 hy
      simp only [forD] at e2
      cases qs : setT t ds[i] δ2 with
      | none => rw [qs] at e2; subst e2; exact a1.elim
      | some δ' =>
        rw [qs] at e2
        refine ⟨F3, δ2, _, r2.ext e3, pv, δ', qs, fun σ' r' _ _ => ⟨F3, δ', r', ?_⟩⟩
        have a3 : AftS c F3 o E := AftS.mono a1 (s2.trans e3.ff)
        dsimp only at e2
        cases q : g δ' with
        | next δ'' => rw [q] at e2; exact fun σ' F' H' e r => ⟨hlt, F', δ'', (s2.trans e3.ff).trans e, r, e2⟩
        | cont δ'' => rw [q] at e2; exact fun σ' F' H' e r => ⟨hlt, F', δ'', (s2.trans e3.ff).trans e, r, e2⟩
        | brk δ'' => rw [q] at e2; subst e2; exact a3
        | ret d => rw [q] at e2; subst e2; exact a3
        | exc k δ'' => rw [q] at e2; subst e2; exact a3
        | bad => rw [q] at e2; subst e2; exact a3
    · have e : i = ds.length := by omega
      subst e
      rw [List.drop_length] at e2
      refine .inl ⟨it.stop _ F2 H2 hC (Nat.le_refl _), ?_⟩
      have e2' : O.next δ2 = o := e2
      subst e2'
      exact AftS.mono a1 s2 σ2 F2 H2 (fun _ _ z => z) r2⟩
/-- an own exception class as the data layer knows it -/
structure ExcOk (X : Cx) (nm : Str) (v : Value) : Prop where
  ex : ∃ C, v = .ref C ∧ X.mg nm = some (.ref C) ∧ PySem.W.excIn X.K C [.type "ValueError", .type "Exception", .type "BaseException", .type "object"] "ValueError.__new__" = true ∧ PySem.W.keepIn X.K (.ref C) = true ∧
    PySem.W.subIn X.K (.ref C) (.type "BaseException") = some true ∧ PySem.W.typeIn X.K (.ref C) = some (.type "type")
end
end PD
namespace L2
open PySem PySem.Spec PyProof.Rows
/-- the clause's own ends -/
def endsAs (D : Ends) (i : Nat) : Ends := { nx := fun σ' H' => D.nx (σ'.set i none) H', rt := D.rt, bk := fun σ' H' => D.bk (σ'.set i none) H', ct := fun σ' H' => D.ct (σ'.set i none) H' }
def wManyAs (K : PySem.W.Frag) (Wout : WX) (D : Ends) : List (Value × Nat × (Addr → Value → Option Addr → TS)) → WX
  | [] => Wout
  | (c, i, ts) :: r => fun cls d σ H => ∃ b, PySem.W.exmOne K cls c = some b ∧ (b = true → ∀ a, H a = none → ts a cls d (endsAs D i) (σ.set i (some (.ref a))) H) ∧ (b = false → wManyAs K Wout D r cls d σ H)
inductive HdsAs (X : Cx) : List ExceptHandler → List (Value × Nat × (Addr → Value → Option Addr → TS)) → Prop
  | nil : HdsAs X [] []
  | cons {x n : Str} {c : Value} {i : Nat} {ts : Addr → Value → Option Addr → TS} {b₀ : Stmt} {suite : List Stmt} {np pos' : Pos} {hds : List ExceptHandler} {l : List (Value × Nat × (Addr → Value → Option Addr → TS))} (hc : Names X x c) (hi : X.N[i]? = some n) (hln : X.env.kindOf n = some .local)
      (hsu : ∀ (a : Addr) (oe : Obj) (cls : Value) (d : Option Addr) (pn : List (Addr × Obj)), Zc cls d oe → (∃ vs, oe.data = .fields vs) → PSs (X.suite a ((a, oe) :: pn)) (b₀ :: suite) (ts a cls d)) (r : HdsAs X hds l) :
      HdsAs X (.ExceptHandler (some (.Name x np)) (some n) (b₀ :: suite) pos' :: hds) ((c, i, ts) :: l)
section
variable {X : Cx} {body : List Stmt} {h₀ : ExceptHandler} {hds : List ExceptHandler} {l : List (Value × Nat × (Addr → Value → Option Addr → TS))} {pos : Pos} {tb : WX → TS} {Wout : WX}
theorem ps_try_manyAs (hs : X.stack = X.env :: X.outer) (hf : X.env.frame = some X.env.locals) (hN : X.N.Nodup) (tk : Takes X Wout)
    (hb : ∀ (W : WX) (pn : List (Addr × Obj)) (xe : Value → Shared → Prop), Takes (X.tr pn xe) W → PassesOwn (model X.prog X.w) X.A X.env xe → PSs (X.tr pn xe) body (tb W))
    (hh : HdsAs X (h₀ :: hds) l) : PS X (.Try body (h₀ :: hds) [] [] pos) (fun D σ H => tb (wManyAs X.K Wout D l) D σ H) := by
  refine ⟨fun pins s σ H D I h => ?_⟩
  have ok := I.ok
  have hfr : X.A.frames = some (X.env :: X.outer) := by rw [ok.frames, hs]
  refine wpAny_Try_except ?_
  refine wpAny_mono ((hb (wManyAs X.K Wout D l) (X.pn ++ pins) (fun e s₁ => wpAny (model X.prog X.w) X.A (noteFrame e X.env) (fun _ s₂ => wpAny (model X.prog X.w) X.A (setFlight e none) (fun _ s₃ =>
    wpAny (model X.prog X.w) X.A (handleBy e X.env (h₀ :: hds)) (SP X pins D) X.xe s₃) X.xe s₂) X.xe s₁) (fun u s' xx => ?_) PassesOwn.looking).run [] s σ H D (I.toTry _) h) (fun f s1 hsp => ?_) (fun e s1 he => he)
  · -- the catch
    obtain ⟨a, B, sI, pins', σ', H', cls, d, rfl, J', nb, up, sky, na, os, ag, w⟩ := xx
    have J : Inv X pins σ' H' sI := J'.ofTry ok
    have sky' : Sky B (X.env :: X.outer) a (Zc cls d) X.env.locals s'.heap := by rw [← hs]; exact sky
    show wpAny (model X.prog X.w) X.A (noteFrame (.ref a) X.env) _ _ _
    refine Sky.land Zc.steady hfr hf sky' fun h3 fl3 up3 => ?_
    have J3 : Inv X pins σ' H' { s' with heap := h3 } := J.landed nb fl3.1 (up.trans up3) os ag
    obtain ⟨oe3, vs3, he3, hz3, hd3⟩ := fl3.there
    have notFr : ∀ {h : Heap} {o : Obj} {vs : Array Value}, h.FunFrames B (X.env :: X.outer) → h.get? a = some o → o.data = .fields vs → a ∉ frs (X.env :: X.outer) := fun {h o vs} ff e dd hm => by
      obtain ⟨_, o', e', hnf⟩ := ff.mem hm
      rw [e] at e'; cases e'
      exact hnf _ dd
    have nfr := notFr fl3.2.2.1 he3 hd3
    have nL : a ≠ X.env.locals := fun z => nfr (List.mem_filterMap.mpr ⟨X.env, List.mem_cons_self, by rw [hf, z]⟩)
    have nF : a ∉ X.fs := fun hm => by
      obtain ⟨e, he, q⟩ := List.mem_filterMap.mp hm
      exact nfr (List.mem_filterMap.mpr ⟨e, List.mem_cons_of_mem _ he, q⟩)
    have S3 := J3.suite he3 hd3 na nL nF
    have LT : PySem.W.Looks (model X.prog X.w) h3 (typeOf (.ref a)) cls := fun A Q E s k q => wpAny_typeOf_ref (k _ _ he3) (by rw [hz3.1]; exact q)
    clear h
    generalize (h₀ :: hds) = hh0 at hh
    induction hh with
    | nil =>
      refine wpAny_handleBy_nil ?_
      obtain ⟨k1, k2, k3, oe, vs, T, oT, ts', he, hz, hd, h1, hr⟩ := id fl3
      unfold PySem.passOn
      refine wpAny_bind (wpAny_field he hd h1 ?_)
      rw [if_neg (show ¬ ((Value.ref T == Value.none) = true) from by simp)]
      have fin : wpAny (model X.prog X.w) X.A (setFlight (.ref a) X.env.frame) (fun _ s4 => wpAny (model X.prog X.w) X.A (throw (.ref a) : Sem Flow) (SP X pins D) X.xe s4) X.xe { s' with heap := h3 } := by
        rw [hf]
        refine HandSPX.setFlight_upZ fl3 fun h4 hh4 up4 => wpAny_throw (tk _ _ ?_)
        exact ⟨a, B, sI, pins, σ', H', cls, d, rfl, J, nb, (up.trans up3).trans up4, .inr (.inr (by rw [hs]; exact hh4)), na, os, ag, w⟩
      first
        | exact wpAny_bind (wpAny_pure (wpAny_bind fin))
        | exact wpAny_bind fin
    | cons hc hi hln hsu r ih =>
      rename_i x n c i ts b₀ suite np pos' hds' l'
      obtain ⟨b, hb1, hyes, hno⟩ := w
      have hloc : Loc X.env.scope n := .inl hln
      refine wpAny_handleBy_cons (codeAny_handlers_test ?_) (by intro q; cases q)
      have LM := PySem.W.exm_one (M := model X.prog X.w) (J3.kIn) LT hb1
      have test : ∀ {Q : Value → Shared → Prop} {E : Value → Shared → Prop}, Q c { s' with heap := h3 } → wpAny (model X.prog X.w) (X.A.mark (some (.ref a))) (eval (.Name x np) X.env) Q E { s' with heap := h3 } := fun {Q E} q => by
        obtain ⟨hg, hdbg, hm | ⟨hm, hv, hnn⟩⟩ := hc
        · exact ld_glob (X := X.suite a ((a, oe3) :: (X.pn ++ pins))) S3 hg hm q hdbg
        · exact ld_blt (X := X.suite a ((a, oe3) :: (X.pn ++ pins))) S3 hg hm hv q hnn hdbg
      refine test (LM.here ?_)
      cases b with
      | true =>
        refine codeAny_handlers_suite_as ?_
        refine HandSPX.lands_againZ fl3 fun h4 fl4 up4 => ?_
        have J4 : Inv X pins σ' H' { s' with heap := h4 } := J.landed nb fl4.1 ((up.trans up3).trans up4) os ag
        obtain ⟨oe4, vs4, he4, hz4, hd4⟩ := fl4.there
        have S4 := J4.suite he4 hd4 na nL nF
        refine store_ok (X := X.suite a ((a, oe4) :: (X.pn ++ pins))) (v := .ref a) S4 hN hi hloc rfl (fun s5 S5 => ?_) (.inr hln)
        refine wpAny_mono ((hsu a oe4 cls d (X.pn ++ pins) hz4 ⟨_, hd4⟩).run [] s5 _ H' _ S5 (hyes rfl a na)) (fun f s6 hsp => ?_) (fun _ _ z => False.elim z)
        have end_ : ∀ {σ6 : St} {H6 : Hp} {Q : Shared → Prop}, Inv (X.suite a ((a, oe4) :: (X.pn ++ pins))) [] σ6 H6 s6 → (∀ s7, Inv X pins (σ6.set i none) H6 s7 → Q s7) →
            wpAny (model X.prog X.w) X.A (do bindName X.env n .none; unbindBehindTheSuite X.env n pos') (fun _ s7 => Q s7) X.xe s6 := fun {σ6 H6 Q} S6 hq => gone_ok (S6.unsuite ok) hN hi hln hq
        cases f with
        | next =>
          obtain ⟨σ6, H6, S6, q6⟩ := hsp
          exact end_ S6 fun s7 J7 => ⟨_, _, J7, q6⟩
        | brk =>
          obtain ⟨σ6, H6, S6, q6⟩ := hsp
          exact end_ S6 fun s7 J7 => ⟨_, _, J7, q6⟩
        | cont =>
          obtain ⟨σ6, H6, S6, q6⟩ := hsp
          exact end_ S6 fun s7 J7 => ⟨_, _, J7, q6⟩
        | ret u =>
          obtain ⟨v6, σ6, H6, S6, r6, q6⟩ := hsp
          exact end_ S6 fun s7 J7 => ⟨_, _, _, J7, r6, q6⟩
      | false =>
        show wpAny _ X.A (handleBy (.ref a) X.env hds') _ _ _
        exact ih (hno rfl)
  · cases f with
    | next =>
      obtain ⟨σ', H', J', q⟩ := hsp
      exact wpAny_execs_nil ⟨σ', H', J'.ofTry ok, q⟩
    | brk =>
      obtain ⟨σ', H', J', q⟩ := hsp
      exact ⟨σ', H', J'.ofTry ok, q⟩
    | cont =>
      obtain ⟨σ', H', J', q⟩ := hsp
      exact ⟨σ', H', J'.ofTry ok, q⟩
    | ret u =>
      obtain ⟨v, σ', H', J', r, q⟩ := hsp
      exact ⟨v, σ', H', J'.ofTry ok, r, q⟩
end
end L2
namespace PD
open PySem PySem.Spec PyProof.Rows L2
def isExcS : S → Bool
  | .exc _ => true
  | _ => false
def clrS (δ : List S) : List S := δ.map fun s => if isExcS s then .none else s
/-- another held exception -/
abbrev Bg.at (B : Bg) (a : Addr) (k : Nat) : Bg := { B with ea := a, ek := k }
theorem Rel.clr {K : PySem.W.Frag} {B : Bg} {F H : Hp} {δ : List S} {σ : L2.St} (r : Rel K B F δ σ H) (a : Addr) (k : Nat) : Rel K (B.at a k) F (clrS δ) σ H := by
  refine ⟨r.sub, r.keep, r.nw, by rw [clrS, List.length_map]; exact r.len, fun i s q => ?_, fun i j b g1 g2 => ?_⟩
  · unfold clrS at q
    rw [List.getElem?_map] at q
    obtain ⟨s', q', rfl⟩ := Option.map_eq_some_iff.mp q
    obtain ⟨v, z1, z2⟩ := r.slot i s' q'
    refine ⟨v, z1, ?_⟩
    cases s' with
    | exc k => trivial
    | none => exact z2
    | dat d => exact z2
    | ow ds => exact z2
    | hid => exact z2
  · have key : ∀ m, OwnAt (clrS δ) σ m b → OwnAt δ σ m b := fun m ⟨⟨ds, q⟩, z⟩ => by
      unfold clrS at q
      rw [List.getElem?_map] at q
      obtain ⟨s', q', e⟩ := Option.map_eq_some_iff.mp q
      refine ⟨⟨ds, ?_⟩, z⟩
      rw [q']
      cases s' with
      | exc k => cases e
      | none => cases e
      | dat d => cases e
      | hid => cases e
      | ow es => exact congrArg some e
    exact r.sep i j b (key i g1) (key j g2)
theorem Rel.setE {K : PySem.W.Frag} {B : Bg} {F H : Hp} {δ : List S} {σ : L2.St} {i : Nat} (r : Rel K B F δ σ H) : Rel K B F (δ.set i (.exc B.ek)) (σ.set i (some (.ref B.ea))) H := by
  have r0 := r.setN (i := i) (w := some (.ref B.ea))
  refine ⟨r.sub, r.keep, r.nw, by simp [r.len], fun j s q => ?_, fun j m b g1 g2 => ?_⟩
  · by_cases hj : i = j
    · subst hj
      by_cases hl : i < δ.length
      · rw [List.getElem?_set_self hl] at q
        cases q
        exact ⟨_, List.getElem?_set_self (by rw [← r.len]; exact hl), rfl, rfl⟩
      · rw [List.getElem?_eq_none (by simpa using Nat.le_of_not_lt hl)] at q; cases q
    · rw [List.getElem?_set_ne hj] at q
      rw [List.getElem?_set_ne hj]
      exact r.slot j s q
  · have key : ∀ m, OwnAt (δ.set i (.exc B.ek)) (σ.set i (some (.ref B.ea))) m b → OwnAt (δ.set i .none) (σ.set i (some (.ref B.ea))) m b := fun m ⟨⟨ds, q⟩, z⟩ => by
      refine ⟨⟨ds, ?_⟩, z⟩
      by_cases hj : i = m
      · subst hj
        by_cases hl : i < δ.length
        · rw [List.getElem?_set_self hl] at q; cases q
        · rw [List.getElem?_eq_none (by simpa using Nat.le_of_not_lt hl)] at q; cases q
      · rw [List.getElem?_set_ne hj] at q ⊢
        exact q
    exact r0.sep j m b (key j g1) (key m g2)
def unS (i : Nat) : O → O
  | .next δ => .next ((clrS δ).set i .none)
  | .brk δ => .brk ((clrS δ).set i .none)
  | .cont δ => .cont ((clrS δ).set i .none)
  | .ret d => .ret d
  | .exc _ _ => .bad
  | .bad => .bad
def hdD (sub : Nat → Nat → Option Bool) : List (Nat × Nat × (List S → O)) → Nat → List S → O
  | [], k, δ => .exc k δ
  | (j, i, g) :: r, k, δ => match sub k j with
    | none => .bad
    | some true => unS i (g ((clrS δ).set i (.exc k)))
    | some false => hdD sub r k δ
def fTry (sub : Nat → Nat → Option Bool) (g : List S → O) (hl : List (Nat × Nat × (List S → O))) : List S → O := fun δ => match g δ with
  | .exc k δ' => hdD sub hl k δ'
  | o => o
abbrev Cfg.suite (c : Cfg) (a : Addr) (k : Nat) : Cfg := { c with B := c.B.at a k, W := fun _ _ _ _ => False }
section
variable {X : Cx} {c : Cfg} {pos : Pos} {g : List S → O} {ss : List Stmt} {sub : Nat → Nat → Option Bool}
def tsOf (c : Cfg) (g : List S → O) : Addr → Value → Option Addr → TS := fun a cls d E σ H => ∃ k, cls = c.cv k ∧ d = none ∧ tS (c.suite a k) g E σ H
/-- the clauses -/
inductive HdD (X : Cx) (c : Cfg) : List ExceptHandler → List (Nat × Nat × (List S → O)) → Prop
  | nil : HdD X c [] []
  | cons {x n : Str} {j i : Nat} {g : List S → O} {b₀ : Stmt} {suite : List Stmt} {np pos' : Pos} {hds : List ExceptHandler} {l : List (Nat × Nat × (List S → O))} (hc : Names X x (c.cv j)) (hi : X.N[i]? = some n) (hln : X.env.kindOf n = some .local)
      (hsu : ∀ (a : Addr) (oe : Obj) (k : Nat) (pn : List (Addr × Obj)), Zc (c.cv k) none oe → (∃ vs, oe.data = .fields vs) → PSs (X.suite a ((a, oe) :: pn)) (b₀ :: suite) (tS (c.suite a k) g)) (r : HdD X c hds l) :
      HdD X c (.ExceptHandler (some (.Name x np)) (some n) (b₀ :: suite) pos' :: hds) ((j, i, g) :: l)
theorem HdD.as {hds : List ExceptHandler} {l : List (Nat × Nat × (List S → O))} (h : HdD X c hds l) : HdsAs X hds (l.map fun x => (c.cv x.1, x.2.1, tsOf c x.2.2)) := by
  induction h with
  | nil => exact .nil
  | cons hc hi hln hsu r ih =>
    refine .cons hc hi hln (fun a oe cls d pn hz hf => ⟨fun pins s σ H E I q => ?_⟩) ih
    obtain ⟨k, rfl, rfl, q⟩ := q
    exact (hsu a oe k pn hz hf).run pins s σ H E I q
theorem aft_hd {l : List (Nat × Nat × (List S → O))} {E : Ends} {k : Nat} {δ : List S} {F H : Hp} {σ : L2.St} (hsub : ∀ k j b, sub k j = some b → PySem.W.exmOne X.K (c.cv k) (c.cv j) = some b) (r : Rel c.K c.B F δ σ H) (a : AftS c F (hdD sub l k δ) E) :
    wManyAs X.K c.W E (l.map fun x => (c.cv x.1, x.2.1, tsOf c x.2.2)) (c.cv k) none σ H := by
  induction l with
  | nil => exact a σ F H (fun _ _ z => z) r
  | cons x l ih =>
    obtain ⟨j, i, g⟩ := x
    simp only [hdD] at a
    cases q : sub k j with
    | none => rw [q] at a; exact a.elim
    | some b =>
      rw [q] at a
      refine ⟨b, hsub k j b q, fun hb ad hn => ?_, fun hb => ?_⟩
      · subst hb
        refine ⟨k, rfl, rfl, F, _, (r.clr ad k).setE (i := i), ?_⟩
        have a' : AftS c F (unS i (g ((clrS δ).set i (.exc k)))) E := a
        show AftS (c.suite ad k) F (g ((clrS δ).set i (.exc k))) (endsAs E i)
        cases z : g ((clrS δ).set i (.exc k)) with
        | next δ' => rw [z] at a'; exact fun σ' F' H' e r' => a' _ F' H' e ((r'.clr c.B.ea c.B.ek).setN)
        | brk δ' => rw [z] at a'; exact fun σ' F' H' e r' => a' _ F' H' e ((r'.clr c.B.ea c.B.ek).setN)
        | cont δ' => rw [z] at a'; exact fun σ' F' H' e r' => a' _ F' H' e ((r'.clr c.B.ea c.B.ek).setN)
        | ret d => rw [z] at a'; exact fun v F' H' e r' p => a' v F' H' e ⟨r'.sub, r'.keep, r'.nw⟩ p
        | exc _ _ => rw [z] at a'; exact a'.elim
        | bad => rw [z] at a'; exact a'.elim
      · subst hb
        exact ih a
theorem s_try {h₀ : ExceptHandler} {hds : List ExceptHandler} {l : List (Nat × Nat × (List S → O))} (hs : X.stack = X.env :: X.outer) (hf : X.env.frame = some X.env.locals) (hN : X.N.Nodup) (tk : Takes X c.W)
    (hsub : ∀ k j b, sub k j = some b → PySem.W.exmOne X.K (c.cv k) (c.cv j) = some b)
    (hb : ∀ (W : WX) (pn : List (Addr × Obj)) (xe : Value → Shared → Prop), Takes (X.tr pn xe) W → PassesOwn (model X.prog X.w) X.A X.env xe → PSs (X.tr pn xe) ss (tS { c with W := W } g))
    (hh : HdD X c (h₀ :: hds) l) : PS X (.Try ss (h₀ :: hds) [] [] pos) (tS c (fTry sub g l)) :=
  (ps_try_manyAs (tb := fun W => tS { c with W := W } g) hs hf hN tk hb hh.as).impD fun E σ H ⟨F, δ, rl, a⟩ => ⟨F, δ, rl, by
    unfold fTry at a
    cases q : g δ with
    | exc k δ' => rw [q] at a; exact fun σ' F' H' e r => aft_hd hsub r (AftS.mono a e)
    | next δ' => rw [q] at a; exact a
    | brk δ' => rw [q] at a; exact a
    | cont δ' => rw [q] at a; exact a
    | ret d => rw [q] at a; exact a
    | bad => rw [q] at a; exact a⟩
theorem s_raise {nm m : Str} {k j : Nat} {p p2 p3 : Pos} (hc : X.calm = true) (tk : Takes X c.W) (hx : ExcOk X nm (c.cv k)) (hg : Gl X nm) (hdb : (nm == ("__debug__" : Str)) = false) :
    PS X (.Raise (some (.Call (.Name nm p) [.Constant (.str m) j p2] [] p3)) none pos) (tS c fun δ => .exc k δ) := by
  obtain ⟨C, e1, e2, e3, e4, e5, e6⟩ := hx.ex
  refine (ps_raise hc tk (pmk_own PySem.F.excBase_ValueError e3 e2 e4 (raises_own e5 e6) hg hdb)).impD fun E σ H ⟨F, δ, rl, a⟩ => ?_
  have := a σ F H (fun _ _ z => z) rl
  rw [e1] at this
  exact this
end
end PD
namespace PD
open PySem PySem.Spec PyProof.Rows L2
abbrev kN (P : Program) (w : World) : HeapKind P w (List (Option Key)) := tupleKind (noneKind P w)
theorem items_n {P : Program} {w : World} : ∀ {k : List (Option Int)} {us : List Value}, Vals (k.map oV) us → ItemsAre (noneKind P w) (k.map oK) us
  | [], _, r => by rw [List.map_nil] at r; cases r; exact .nil
  | o :: k, _, r => by
    rw [List.map_cons] at r
    cases r with
    | cons h t =>
      refine .cons ?_ (items_n t)
      cases o with
      | none => cases (show _ = Value.none from h); rfl
      | some i => exact kV_is (P := P) (w := w) (k := .inl i) h
theorem hash_n (P : Program) (w : World) (k : List (Option Int)) : (kN P w).hash (k.map oK) = hashK k := by
  show tupleKeyHash _ _ = _
  unfold tupleKeyHash hashK
  rw [List.map_map]
  congr 2
  apply List.map_congr_left
  intro o _
  cases o <;> rfl
theorem oK_inj {a b : Option Int} (h : oK a = oK b) : a = b := by
  cases a <;> cases b <;> simp_all [oK]
theorem oKs_inj : ∀ {a b : List (Option Int)}, a.map oK = b.map oK → a = b
  | [], [], _ => rfl
  | [], _ :: _, h => by cases h
  | _ :: _, [], h => by cases h
  | x :: a, y :: b, h => by
    rw [List.map_cons, List.map_cons] at h
    injection h with h1 h2
    rw [oK_inj h1, oKs_inj h2]
theorem oK_dec (a b : List (Option Int)) : decide (a.map oK = b.map oK) = decide (a = b) := decide_eq_decide.mpr ⟨oKs_inj, fun h => by rw [h]⟩
def findK (k : List (Option Int)) : List (List (Option Int)) → List D → Option D
  | k' :: ks, d :: vs => if k' = k then some d else findK k ks vs
  | _, _ => none
def setK (k : List (Option Int)) (d : D) : List (List (Option Int)) → List D → List D
  | k' :: ks, e :: vs => (if k' = k then d else e) :: setK k d ks vs
  | _, _ => []
inductive XR (K : PySem.W.Frag) (F : Hp) : List (List (Option Key) × Addr × Value) → List (List (Option Int)) → List D → Prop
  | nil : XR K F [] [] []
  | cons {u : Value} {b : Addr} {k : List (Option Int)} {v : V} {d : D} {xs : List (List (Option Key) × Addr × Value)} {ks : List (List (Option Int))} {ds : List D} : SqT K F b (k.map oV) → L2.RelV v u → DV K F v d → XR K F xs ks ds → XR K F ((k.map oK, b, u) :: xs) (k :: ks) (d :: ds)
section
variable {K : PySem.W.Frag} {F H : Hp} {P : Program} {w : World}
theorem des_xr (P : Program) (w : World) : ∀ {L : List DictEntry} {ks : List (List (Option Int))} {ds : List D}, DEs K F L ks ds → ∃ xs, L = xs.map (entryOfKey (kN P w)) ∧ XR K F xs ks ds
  | _, _, _, .nil => ⟨[], rfl, .nil⟩
  | _, _, _, .cons (k := k) (b := b) (u := u) s r a t => by
    obtain ⟨xs, e, x⟩ := des_xr P w t
    refine ⟨(k.map oK, b, u) :: xs, ?_, .cons s r a x⟩
    rw [List.map_cons, ← e]
    congr 1
    unfold entryOfKey
    simp only
    rw [hash_n]
theorem xr_des : ∀ {xs : List (List (Option Key) × Addr × Value)} {ks : List (List (Option Int))} {ds : List D}, XR K F xs ks ds → DEs K F (xs.map (entryOfKey (kN P w))) ks ds
  | _, _, _, .nil => .nil
  | _, _, _, .cons (k := k) (b := b) (u := u) s r a t => by
    rw [List.map_cons]
    have e : entryOfKey (kN P w) (k.map oK, b, u) = ⟨hashK k, .ref b, u⟩ := by
      unfold entryOfKey
      simp only
      rw [hash_n]
    rw [e]
    exact .cons s r a (xr_des t)
theorem xr_keys : ∀ {xs : List (List (Option Key) × Addr × Value)} {ks : List (List (Option Int))} {ds : List D}, XR K F xs ks ds → xs.map (·.1) = ks.map (List.map oK)
  | _, _, _, .nil => rfl
  | _, _, _, .cons s r a t => by rw [List.map_cons, List.map_cons, xr_keys t]
theorem xr_len : ∀ {xs : List (List (Option Key) × Addr × Value)} {ks : List (List (Option Int))} {ds : List D}, XR K F xs ks ds → xs.length = ks.length ∧ ks.length = ds.length
  | _, _, _, .nil => ⟨rfl, rfl⟩
  | _, _, _, .cons s r a t => by have := xr_len t; simp [this.1, this.2]
theorem xr_find (k : List (Option Int)) : ∀ {xs : List (List (Option Key) × Addr × Value)} {ks : List (List (Option Int))} {ds : List D}, XR K F xs ks ds →
    (findK k ks ds = none ∧ atKey xs (k.map oK) = none) ∨ ∃ d p v, findK k ks ds = some d ∧ atKey xs (k.map oK) = some p ∧ L2.RelV v p.2 ∧ DV K F v d
  | _, _, _, .nil => .inl ⟨rfl, rfl⟩
  | _, _, _, .cons (k := k') (b := b) (u := u) (v := v) (d := d) s r a t => by
    by_cases e : k' = k
    · subst e
      exact .inr ⟨d, (b, u), v, by simp [findK], by simp [atKey], r, a⟩
    · have e2 : ¬ k'.map oK = k.map oK := fun z => e (oKs_inj z)
      rcases xr_find k t with ⟨h1, h2⟩ | ⟨d', p, v', h1, h2, h3, h4⟩
      · refine .inl ⟨by simp [findK, e, h1], ?_⟩
        unfold atKey at h2 ⊢
        rw [List.find?_cons_of_neg (by simpa using e2)]
        exact h2
      · refine .inr ⟨d', p, v', by simp [findK, e, h1], ?_, h3, h4⟩
        unfold atKey at h2 ⊢
        rw [List.find?_cons_of_neg (by simpa using e2)]
        exact h2
theorem xr_app : ∀ {xs : List (List (Option Key) × Addr × Value)} {ks : List (List (Option Int))} {ds : List D} {u : Value} {b : Addr} {k : List (Option Int)} {v : V} {d : D}, XR K F xs ks ds → SqT K F b (k.map oV) → L2.RelV v u → DV K F v d →
    XR K F (xs ++ [(k.map oK, b, u)]) (ks ++ [k]) (ds ++ [d])
  | _, _, _, _, _, _, _, _, .nil, s, r, a => .cons s r a .nil
  | _, _, _, _, _, _, _, _, .cons s r a t, s', r', a' => .cons s r a (xr_app t s' r' a')
theorem xr_set : ∀ {xs : List (List (Option Key) × Addr × Value)} {ks : List (List (Option Int))} {ds : List D} {u : Value} {k : List (Option Int)} {v : V} {d : D}, XR K F xs ks ds → L2.RelV v u → DV K F v d →
    XR K F (xs.map (putAt (k.map oK) u)) ks (setK k d ks ds)
  | _, _, _, _, _, _, _, .nil, _, _ => .nil
  | _, _, _, u', k, v', d', .cons (k := k0) (b := b) (u := u) s r a t, r', a' => by
    rw [List.map_cons, setK]
    by_cases e : k0 = k
    · subst e
      rw [if_pos rfl]
      have : putAt (k0.map oK) u' (k0.map oK, b, u) = (k0.map oK, b, u') := by simp [putAt]
      rw [this]
      exact .cons s r' a' (xr_set t r' a')
    · rw [if_neg e]
      have e2 : ¬ k0.map oK = k.map oK := fun z => e (oKs_inj z)
      have : putAt (k.map oK) u' (k0.map oK, b, u) = (k0.map oK, b, u) := by simp [putAt, e2]
      rw [this]
      exact .cons s r a (xr_set t r' a')
theorem XR.mono {F' : Hp} (e : Same F F') : ∀ {xs : List (List (Option Key) × Addr × Value)} {ks : List (List (Option Int))} {ds : List D}, XR K F xs ks ds → XR K F' xs ks ds
  | _, _, _, .nil => .nil
  | _, _, _, .cons s r a t => .cons (sqT_mono e s) r (a.mono e) (XR.mono e t)
end
section
variable {X : Cx} {c : Cfg} {e x y z tg : Expr} {es elts : List Expr} {pos p p2 tpos : Pos} {f g : List S → R D} {pins : List (Addr × Obj)} {s : Shared} {σ : L2.St} {F H : Hp} {A : Around} {E : Value → Shared → Prop}
theorem key_n {b : Addr} {k : List (Option Int)} (I : Inv X pins σ H s) (h : SqT X.K H b (k.map oV)) : (kN X.prog X.w).is s.heap (k.map oK) b := by
  obtain ⟨its, r, ⟨o, h1, h2, n, h3⟩, _⟩ := I.tuple h
  exact ⟨o, its.toArray, n, h1, h2, h3, by simpa using items_n r⟩
/-- the dict on the heap -/
theorem dict_n {a : Addr} {L : List DictEntry} {ep : Nat} {ks : List (List (Option Int))} {ds : List D} (I : Inv X pins σ H s) (sm : Same F H) (ha : H a = some (DO a L ep)) (nd : ks.Nodup) (r : DEs X.K F L ks ds) :
    ∃ xs, XR X.K F xs ks ds ∧ xs.length = L.length ∧ s.heap.DictOfH (kN X.prog X.w) a xs := by
  obtain ⟨xs, e, xr⟩ := des_xr X.prog X.w r
  refine ⟨xs, xr, by rw [e, List.length_map], ?_⟩
  obtain ⟨⟨o, es, h1, h2, h3, h4⟩, _⟩ := (show ObjOk X.prog X.w H s.heap a (DO a L ep) from I.hok a _ ha)
  refine ⟨o, es, ep, h1, h2, h3, by rw [h4, e], ?_, ?_⟩
  · have all : ∀ {xs : List (List (Option Key) × Addr × Value)} {ks : List (List (Option Int))} {ds : List D}, XR X.K F xs ks ds → ∀ x ∈ xs, (kN X.prog X.w).is s.heap x.1 x.2.1 := by
      intro xs ks ds xr
      induction xr with
      | nil => intro x hx; cases hx
      | cons s1 r1 a1 t1 ih =>
        intro x hx
        rcases List.mem_cons.mp hx with e | hx
        · subst e
          exact key_n I (sqT_mono sm s1)
        · exact ih x hx
    exact all xr
  · rw [xr_keys xr]
    exact List.Pairwise.map _ (fun a b h z => h (oKs_inj z)) nd
def keysOf : List D → Option (List (Option Int))
  | [] => some []
  | .non :: r => (keysOf r).map (none :: ·)
  | .int i :: r => (keysOf r).map (some i :: ·)
  | _ => none
def keyOf : D → Option (List (Option Int))
  | .tup ds => keysOf ds
  | _ => none
theorem keys_vs {K : PySem.W.Frag} : ∀ {vs : List V} {ds : List D} {k : List (Option Int)}, DVs K F vs ds → keysOf ds = some k → vs = k.map oV
  | _, _, _, .nil, h => by cases h; rfl
  | _, d :: ds, k, .cons a r, h => by
    cases d <;> simp only [keysOf] at h <;> first | (cases h; done) | skip
    · obtain ⟨k', h1, rfl⟩ := Option.map_eq_some_iff.mp h
      cases a
      rw [List.map_cons, ← keys_vs r h1]; rfl
    · obtain ⟨k', h1, rfl⟩ := Option.map_eq_some_iff.mp h
      cases a
      rw [List.map_cons, ← keys_vs r h1]; rfl
theorem key_sq {K : PySem.W.Frag} {v : V} {d : D} {k : List (Option Int)} (sm : Same F H) (h : DVB K F H v d) (e : keyOf d = some k) : ∃ b, v = .ref b ∧ SqT K H b (k.map oV) := by
  cases d <;> simp only [keyOf] at e <;> first | (cases e; done) | skip
  obtain ⟨a, vs, h1, h2, h3, h4⟩ := DVB.tuple sm h
  rw [keys_vs h4 e] at h2
  exact ⟨a, h1, h2⟩
theorem key_sqF {K : PySem.W.Frag} {v : V} {d : D} {k : List (Option Int)} (h : DV K F v d) (e : keyOf d = some k) : ∃ b, v = .ref b ∧ SqT K F b (k.map oV) := by
  cases h <;> simp only [keyOf] at e <;> first | (cases e; done) | skip
  rename_i a xs ds s1 z1 r1
  rw [keys_vs r1 e] at s1
  exact ⟨a, rfl, s1⟩
def slC (δ : List S) (i : Nat) : R (List (List (Option Int)) × List D) := match δ[i]? with
  | some (.dat (.dct ks vs)) => .ok (ks, vs)
  | some (.ow (.d ks vs)) => .ok (ks, vs)
  | _ => .bad
abbrev pC (c : Cfg) : Hp → Hp → Hp → V → (List (List (Option Int)) × List D) → Prop := fun _ F' H' v q => ∃ a L ep, v = .ref a ∧ H' a = some (DO a L ep) ∧ (a == sysModules) = false ∧ L.length ≤ sizeLine ∧ q.1.Nodup ∧ DEs c.K F' L q.1 q.2
theorem anti_C {c : Cfg} : Anti (pC c) := fun _ _ _ _ _ _ _ h => h
theorem c_var {i : Nat} {x : Str} (hN : X.N[i]? = some x) (hv : Vis X.env.scope x) (hd : (x == ("__debug__" : Str)) = false) (hcd : (x == ("__classdict__" : Str)) = false) : PE X (.Name x pos) (tG c (pC c) fun δ => slC δ i) :=
  (pe_var hN hv hd hcd).impD fun σ H Q ⟨F, δ, r, a⟩ => by
    dsimp only [slC] at a
    cases q : δ[i]? with
    | none => rw [q] at a; exact a.elim
    | some s =>
      rw [q] at a
      cases s with
      | dat d =>
        obtain ⟨x, h1, h2⟩ := r.dat q
        cases h2 <;> first | exact a.elim | skip
        rename_i s1 y1 z1 n1 r1
        exact ⟨_, h1, a.ret r.sub ⟨_, _, _, rfl, r.sub _ _ s1, y1, z1, n1, r1⟩⟩
      | none => exact a.elim
      | ow oc =>
        cases oc with
        | l ds => exact a.elim
        | d ks ds =>
          obtain ⟨b, L, ep, h1, h2, h3, h4, h5, h6, h7, h8⟩ := r.dow q
          exact ⟨_, h1, a.ret r.sub ⟨b, L, ep, rfl, h4, h5, h6, h7, h8⟩⟩
      | hid => exact a.elim
      | exc _ => exact a.elim
theorem pC.ext {F H F' H' : Hp} {v : V} {q : List (List (Option Int)) × List D} {H0 : Hp} (h : pC c H0 F H v q) (e : Ext F H F' H') : pC c H0 F' H' v q := by
  obtain ⟨a, L, ep, h1, h2, h3, h4, h5, h6⟩ := h
  exact ⟨a, L, ep, h1, e.hh _ _ h2, h3, h4, h5, h6.mono e.ff⟩
def rDin (K : PySem.W.Frag) (neg : Bool) : R2 := fun x y H Q => ∃ F a L ep ks ds b k, Same F H ∧ y = .ref a ∧ H a = some (DO a L ep) ∧ (a == sysModules) = false ∧ ks.Nodup ∧ DEs K F L ks ds ∧ x = .ref b ∧ SqT K H b (k.map oV) ∧ Q (.bl (if neg then !(findK k ks ds).isSome else (findK k ks ds).isSome)) H
theorem op_din (hu : X.A.units + 64 < cLine) (neg : Bool) : OpR X (compareOp (if neg then .NotIn else .In)) (rDin X.K neg) := by
  intro pins s σ H x y v u Q I rx ry h
  obtain ⟨F, a, L, ep, ks, ds, b, k, sm, rfl, ha, hd, nd, r, rfl, hb, q⟩ := h
  cases (show v = Value.ref b from rx)
  cases (show u = Value.ref a from ry)
  obtain ⟨xs, xr, _, dd⟩ := dict_n I sm ha nd r
  have room : (kN X.prog X.w).room X.A.in1 := tupleKind_room_in1 (by omega)
  have key : (atKey xs (k.map oK)).isSome = (findK k ks ds).isSome := by
    rcases xr_find k xr with ⟨h1, h2⟩ | ⟨d, p, v, h1, h2, _⟩ <;> rw [h1, h2] <;> rfl
  cases neg with
  | false =>
    refine wpAny_in_heap room (key_n I hb) hd dd ⟨.bl _, H, I.tok _, by rw [key] <;> rfl, q⟩
  | true =>
    refine PyProof.Rows.wpAny_notIn_heap room (key_n I hb) hd dd ⟨.bl _, H, I.tok _, by rw [key] <;> rfl, q⟩
theorem e_din (hK : c.K = X.K) (hu : X.A.units + 64 < cLine) (neg : Bool) {i : Nat} {nm : Str} (hx : PE X x (tB c f)) (hN : X.N[i]? = some nm) (hv : Vis X.env.scope nm) (hd : (nm == ("__debug__" : Str)) = false) (hcd : (nm == ("__classdict__" : Str)) = false) :
    PE X (.Compare x [if neg then .NotIn else .In] [.Name nm p2] pos) (tD c fun δ => (f δ).bind fun a => (slC δ i).bind fun q => (R.of (keyOf a)).bind fun k => .ok (.bl (if neg then !(findK k q.1 q.2).isSome else (findK k q.1 q.2).isSome))) :=
  (pe_cmpR (op_din hu neg) hx (c_var (c := c) hN hv hd hcd) (by cases neg <;> rfl)).impD fun σ H Q ⟨F, δ, rl, a⟩ => ⟨F, δ, rl, (a.bind anti_D).mono fun u H1 ⟨du, F1, e1, p1, a1⟩ =>
    ⟨F1, δ, rl.ext e1, (a1.bind anti_D).mono fun v H2 ⟨q, F2, e2, p2, a2⟩ => by
      obtain ⟨b, L, ep, rfl, h2, h3, h4, h5, h6⟩ := p2
      cases hk : keyOf du with
      | none => rw [hk] at a2; exact a2.elim
      | some k =>
        rw [hk] at a2
        obtain ⟨kb', rfl, hsq⟩ := key_sq e2.fh (DVB.ext p1 e2) hk
        rw [hK] at h6 hsq
        exact ⟨F2, b, L, ep, q.1, q.2, kb', k, e2.fh, rfl, h2, h3, h5, h6, rfl, hsq, a2.ret (a := D.bl _) e2.fh (.bl _)⟩⟩⟩
def fDin (neg : Bool) (i : Nat) (f : List S → R D) : List S → R D := fun δ => (f δ).bind fun a => (slC δ i).bind fun q => (R.of (keyOf a)).bind fun k => .ok (.bl (if neg then !(findK k q.1 q.2).isSome else (findK k q.1 q.2).isSome))
theorem t_din (hK : c.K = X.K) (hu : X.A.units + 64 < cLine) (neg : Bool) {i : Nat} {nm : Str} (hx : PE X x (tB c f)) (hN : X.N[i]? = some nm) (hv : Vis X.env.scope nm) (hd : (nm == ("__debug__" : Str)) = false) (hcd : (nm == ("__classdict__" : Str)) = false) :
    PT X (.Compare x [if neg then .NotIn else .In] [.Name nm p2] pos) (tT c (fTru (fDin neg i f))) :=
  (pt_cmpR (op_din hu neg) hx (c_var (c := c) hN hv hd hcd) (by cases neg <;> rfl)).impD fun σ H Q ⟨F, δ, rl, a⟩ => by
    have e : fTru (fDin neg i f) δ = (f δ).bind fun a => (slC δ i).bind fun q => (R.of (keyOf a)).bind fun k => .ok (if neg then !(findK k q.1 q.2).isSome else (findK k q.1 q.2).isSome) := by
      unfold fTru fDin
      cases f δ with
      | ok d =>
        simp only [R.bind_ok]
        cases slC δ i with
        | ok q =>
          simp only [R.bind_ok]
          cases keyOf d with
          | some k => simp only [R.of, R.bind_ok, truD]
          | none => rfl
        | exc k => rfl
        | bad => rfl
      | exc k => rfl
      | bad => rfl
    rw [e] at a
    exact ⟨F, δ, rl, (a.bind anti_T).mono fun u H1 ⟨du, F1, e1, p1, a1⟩ =>
      ⟨F1, δ, rl.ext e1, (a1.bind anti_T).mono fun v H2 ⟨q, F2, e2, p2, a2⟩ => by
        obtain ⟨b, L, ep, rfl, h2, h3, h4, h5, h6⟩ := p2
        cases hk : keyOf du with
        | none => rw [hk] at a2; exact a2.elim
        | some k =>
          rw [hk] at a2
          obtain ⟨kb', rfl, hsq⟩ := key_sq e2.fh (DVB.ext p1 e2) hk
          rw [hK] at h6 hsq
          have a3 : Aft c σ pT F2 H2 (.ok (if neg then !(findK k q.1 q.2).isSome else (findK k q.1 q.2).isSome)) Q := a2
          exact ⟨F2, b, L, ep, q.1, q.2, kb', k, e2.fh, rfl, h2, h3, h5, h6, rfl, hsq, _, rfl, a3.ret e2.fh rfl⟩⟩⟩
theorem noSl_of (h : noSlice y = true) : NoSl y := by
  intro ov iv
  cases y <;> first | rfl | (simp [noSlice] at h; done)
theorem e_dget (hK : c.K = X.K) (hu : X.A.units + 64 < cLine) {i : Nat} {nm : Str} (hy : PE X y (tB c g)) (hs : noSlice y = true) (hN : X.N[i]? = some nm) (hv : Vis X.env.scope nm) (hd : (nm == ("__debug__" : Str)) = false) (hcd : (nm == ("__classdict__" : Str)) = false) :
    PE X (.Subscript (.Name nm p2) y pos) (tD c fun δ => (slC δ i).bind fun q => (g δ).bind fun b => (R.of (keyOf b)).bind fun k => R.of (findK k q.1 q.2)) := ⟨fun pins s σ H Q I h => by
  obtain ⟨F, δ, rl, a⟩ := h
  refine subD_of PySem.F.slot_dict_getitem.lookup (noSl_of hs) (thn ((c_var (c := c) hN hv hd hcd).run pins s σ H _ I ⟨F, δ, rl, a.bind anti_D⟩) fun u s1 ⟨v, H1, I1, r1, q, F1, e1, p1, a1⟩ =>
    thn (hy.run pins s1 σ H1 _ I1 ⟨F1, δ, rl.ext e1, a1.bind anti_D⟩) fun iv s2 ⟨v2, H2, I2, r2, d2, F2, e2, p2, a2⟩ => ?_)
  obtain ⟨b, L, ep, rfl, h2, h3, h4, h5, h6⟩ := pC.ext (H0 := H) p1 e2
  cases (show u = Value.ref b from r1)
  cases hk : keyOf d2 with
  | none => rw [hk] at a2; exact a2.elim
  | some k =>
    rw [hk] at a2
    obtain ⟨kb', rfl, hsq⟩ := key_sq e2.fh p2 hk
    cases (show iv = Value.ref kb' from r2)
    rw [hK] at h6 hsq
    obtain ⟨xs, xr, _, dd⟩ := dict_n I2 e2.fh h2 h5 h6
    refine ⟨dd.typeIs, ?_⟩
    rcases xr_find k xr with ⟨f1, f2⟩ | ⟨d, pp, v, f1, f2, f3, f4⟩
    · have a3 : Aft c σ (pD c) F2 H2 (R.of (findK k q.1 q.2)) Q := a2
      rw [f1] at a3
      exact a3.elim
    · have a3 : Aft c σ (pD c) F2 H2 (R.of (findK k q.1 q.2)) Q := a2
      rw [f1] at a3
      have room : (kN X.prog X.w).room X.A.in1 := tupleKind_room_in1 (by omega)
      exact wpAny_getItem_heap room (key_n I2 hsq) dd f2 ⟨v, H2, I2.tok _, f3, a3.ret e2.fh (show DV c.K F2 v d from hK ▸ f4)⟩⟩
def isDow (i : Nat) (δ : List S) : Bool := match δ[i]? with
  | some (.ow (.d _ _)) => true
  | _ => false
def putS (i : Nat) (δ : List S) (k : List (Option Int)) (d : D) : O := match δ[i]? with
  | some (.ow (.d ks vs)) => if ks.length < szN then .next (δ.set i (match findK k ks vs with | some _ => .dow ks (setK k d ks vs) | none => .dow (ks ++ [k]) (vs ++ [d]))) else .bad
  | _ => .bad
theorem dow_get {i : Nat} {δ : List S} (h : isDow i δ = true) : ∃ ks vs, δ[i]? = some (.dow ks vs) := by
  unfold isDow at h
  split at h
  · exact ⟨_, _, by assumption⟩
  · cases h
theorem find_mem {k : List (Option Int)} : ∀ {ks : List (List (Option Int))} {ds : List D}, ks.length = ds.length → findK k ks ds = none → k ∉ ks
  | [], _, _, _ => by simp
  | k' :: ks, [], h, _ => by simp at h
  | k' :: ks, d :: ds, h, e => by
    unfold findK at e
    split at e
    · cases e
    · rename_i ne
      intro hm
      rcases List.mem_cons.mp hm with z | z
      · exact ne z.symm
      · exact find_mem (by simpa using h) e z
theorem s_dput (hK : c.K = X.K) (hu : X.A.units + 64 < cLine) {i : Nat} {nm : Str} (hx : PE X e (tD c f)) (hy : PE X y (tD c g)) (hN : X.N[i]? = some nm) (hv : Vis X.env.scope nm) (hd : (nm == ("__debug__" : Str)) = false) (hcd : (nm == ("__classdict__" : Str)) = false)
    (hsw : swapsWith e (some (.Subscript (.Name nm p2) y tpos)) pos.line X.env = pure false) :
    PS X (.Assign [.Subscript (.Name nm p2) y tpos] e pos) (tS c fun δ => if isDow i δ then thenS (f δ) δ fun d => thenS (g δ) δ fun kd => thenS (R.of (keyOf kd)) δ fun k => putS i δ k d else .bad) := ⟨fun pins s σ H D I h => by
  obtain ⟨F, δ, rl, a⟩ := h
  dsimp only at a
  cases hio : isDow i δ with
  | false => rw [hio] at a; exact a.elim
  | true =>
    rw [hio, if_pos rfl] at a
    obtain ⟨ks, vs, hδ⟩ := dow_get hio
    obtain ⟨ad, L0, ep0, hs0, _⟩ := rl.dow hδ
    refine wpAny_Assign_Subscript (thn (hx.run pins s σ H _ I ⟨F, δ, rl, aft_thenS (P := pD c) (Q := fun v H1 => ∃ d F1, Ext F H F1 H1 ∧ DV c.K F1 v d ∧ AftS c F1 (thenS (g δ) δ fun kd => thenS (R.of (keyOf kd)) δ fun k => putS i δ k d) D) rl a fun d v F1 H1 e1 p1 a1 => ⟨d, F1, e1, p1, a1⟩⟩) fun r s1 ⟨v, H1, I1, rv, d, F1, e1, p1, a1⟩ => ?_) hsw
    refine thn ((pe_var hN hv hd hcd).run pins s1 σ H1 (fun v H' => v = .ref ad ∧ H' = H1) I1 ⟨_, hs0, rfl, rfl⟩) fun u s2 ⟨v2, H2, I2, r2, ev2, eH2⟩ => ?_
    subst ev2 eH2
    refine thn (hy.run pins s2 σ H2 _ I2 ⟨F1, δ, rl.ext e1, aft_thenS (P := pD c) (Q := fun v H3 => ∃ kd F3, Ext F1 H2 F3 H3 ∧ DV c.K F3 v kd ∧ AftS c F3 (thenS (R.of (keyOf kd)) δ fun k => putS i δ k d) D) (rl.ext e1) a1 fun kd v F3 H3 e3 p3 a3 => ⟨kd, F3, e3, p3, a3⟩⟩) fun iv s3 ⟨v3, H3, I3, r3, kd, F3, e3, p3, a3⟩ => ?_
    cases (show u = Value.ref ad from r2)
    cases hk : keyOf kd with
    | none => rw [hk] at a3; exact a3.elim
    | some k =>
      rw [hk] at a3
      have a4 : AftS c F3 (putS i δ k d) D := a3
      obtain ⟨kb', rfl, hsq⟩ := key_sqF p3 hk
      cases (show iv = Value.ref kb' from r3)
      have r4 := (rl.ext e1).ext e3
      obtain ⟨ad', L, ep', hs', g1, g2, g3, g4, g5, g6, g7⟩ := r4.dow hδ
      rw [hs0] at hs'
      cases hs'
      unfold putS at a4
      rw [hδ] at a4
      simp only at a4
      split at a4
      · rename_i hlt
        rw [hK] at g7 hsq
        obtain ⟨xs, xr, hxl, dd⟩ := dict_n I3 e3.fh g3 g6 g7
        have room : (kN X.prog X.w).room X.A.in1 := tupleKind_room_in1 (by omega)
        have hl := xr_len xr
        have hz : xs.length ≤ sizeLine := by rw [hxl]; exact g5
        refine wpAny_setItem_heap (hsz := hz) room (key_n I3 (sqT_mono e3.fh hsq)) dd fun h' dd' hsb => ?_
        have dvd : DV X.K F3 v d := by rw [← hK]; exact p1.mono e3.ff
        have fin : ∀ (xs' : List (List (Option Key) × Addr × Value)) (ks' : List (List (Option Int))) (vs' : List PD.D), storedH xs (k.map oK) kb' r = xs' → XR X.K F3 xs' ks' vs' → ks'.Nodup → xs'.length ≤ sizeLine → AftS c F3 (.next (δ.set i (.dow ks' vs'))) D →
            SP X pins D .next { s3 with heap := h', toks := s3.toks + (kN X.prog X.w).draws (k.map oK) } := by
          intro xs' ks' vs' e4 xr' nd' hz' a5
          rw [e4] at dd'
          obtain ⟨q, es, ep, hq, d2, d3, d4, _, _⟩ := dd'
          have des' : DEs c.K F3 (xs'.map (entryOfKey (kN X.prog X.w))) ks' vs' := by rw [hK]; exact xr_des xr'
          have rel' := r4.mutC (o := DO ad (xs'.map (entryOfKey (kN X.prog X.w))) ep) (oc := .d ks' vs') hδ hs0 ⟨_, _, rfl, g4, by rw [List.length_map]; exact hz', nd', des'⟩
          refine ⟨σ, _, d_write I3 (ob := DO ad (xs'.map (entryOfKey (kN X.prog X.w))) ep) (by rw [g3]; exact True.intro) hsb ⟨q, hq⟩ ⟨⟨q, es, hq, d2, d3, d4⟩, ⟨q, hq⟩, ?_⟩, a5 σ F3 _ (fun _ _ z => z) rel'⟩
          rintro h1 h2 ⟨o, es, z1, z2, z3, z4⟩ kp
          exact ⟨o, es, kp _ z1, z2, z3, z4⟩
        rcases xr_find k xr with ⟨f1, f2⟩ | ⟨d0, pp, v0, f1, f2, f3, f4⟩
        · rw [f1] at a4
          refine fin _ _ _ (storedH_new f2 kb' r) (xr_app xr hsq rv dvd) ?_ ?_ a4
          · rw [List.nodup_append]
            refine ⟨g6, by simp, fun a ha b hb => ?_⟩
            simp at hb
            subst hb
            intro z
            subst z
            exact find_mem hl.2 f1 ha
          · rw [List.length_append, hl.1]
            have := szN_eq
            simp
            omega
        · rw [f1] at a4
          refine fin _ _ _ (storedH_old f2 kb' r) (xr_set xr rv dvd) g6 ?_ a4
          rw [List.length_map]; exact hz
      · exact a4.elim⟩
def AftE {α β : Type} (c : Cfg) (σ : L2.St) (P : Hp → Hp → Hp → β → α → Prop) (F H F1 H1 : Hp) (r : R α) (Q : β → Hp → Prop) : Prop := match r with
  | .ok a => ∀ v F' H', Ext F H F' H' → Same F1 F' → P H F' H' v a → Q v H'
  | .exc k => ∀ F' H', Ext F1 H1 F' H' → c.W (c.cv k) none σ H'
  | .bad => False
theorem aft_e {α β : Type} {P : Hp → Hp → Hp → β → α → Prop} {F H F1 H1 : Hp} {r : R α} {Q : β → Hp → Prop} (h : Aft c σ P F H r Q) (e : Ext F H F1 H1) : AftE c σ P F H F1 H1 r Q := by
  cases r with
  | ok a => exact fun v F' H' e' _ p => h v F' H' e' p
  | exc k => exact fun F' H' e' => h F' H' (e.trans e')
  | bad => exact h
theorem afte_bind {α β γ ε : Type} {P : Hp → Hp → Hp → β → α → Prop} {P' : Hp → Hp → Hp → ε → γ → Prop} {F H F1 H1 : Hp} {r : R α} {g : α → R γ} {Q : ε → Hp → Prop} (h : AftE c σ P' F H F1 H1 (r.bind g) Q) :
    Aft c σ P F1 H1 r (fun v H2 => ∃ a F2, Ext F1 H1 F2 H2 ∧ P H1 F2 H2 v a ∧ AftE c σ P' F H F2 H2 (g a) Q) := by
  cases r with
  | ok a =>
    intro v F' H' e' p
    refine ⟨a, F', e', p, ?_⟩
    have h' : AftE c σ P' F H F1 H1 (g a) Q := h
    cases hg : g a with
    | ok b => rw [hg] at h'; exact fun v F2 H2 e2 s2 p2 => h' v F2 H2 e2 (e'.ff.trans s2) p2
    | exc k => rw [hg] at h'; exact fun F2 H2 e2 => h' F2 H2 (e'.trans e2)
    | bad => rw [hg] at h'; exact h'
  | exc k => exact h
  | bad => exact h
abbrev pCN (c : Cfg) : Hp → Hp → Hp → V → (List (List (Option Int)) × List D) → Prop := fun H F' H' v q => ∃ a L ep, v = .ref a ∧ H a = none ∧ F' a = none ∧ H' a = some (DO a L ep) ∧ (a == sysModules) = false ∧ L.length ≤ sizeLine ∧ q.1.Nodup ∧ DEs c.K F' L q.1 q.2
def fD1 (f g : List S → R D) : List S → R (List (List (Option Int)) × List D) := fun δ => (f δ).bind fun kd => (g δ).bind fun d => (R.of (keyOf kd)).bind fun k => .ok ([k], [d])
theorem do_stab {a : Addr} {L : List DictEntry} {ep : Nat} : ∀ h1 h2 : Heap, (∃ o es, h1.get? a = some o ∧ o.ExactDict ∧ o.data = .dict es ep ∧ es.toList = L) → (∀ o, h1.get? a = some o → h2.get? a = some o) → ∃ o es, h2.get? a = some o ∧ o.ExactDict ∧ o.data = .dict es ep ∧ es.toList = L := by
  rintro h1 h2 ⟨o, es, z1, z2, z3, z4⟩ kp
  exact ⟨o, es, kp _ z1, z2, z3, z4⟩
theorem n_dict1 (hK : c.K = X.K) (hu : X.A.units + 64 < cLine) (hx : PE X x (tD c f)) (hy : PE X y (tD c g)) : PE X (.Dict [some x] [y] pos) (tG c (pCN c) (fD1 f g)) := ⟨fun pins s σ H Q I h => by
  obtain ⟨F, δ, rl, a⟩ := h
  have hn := I.hok.fresh (Nat.le_refl s.heap.objs.size)
  have I1 := I.laid (a := s.heap.objs.size) (o := DO s.heap.objs.size [] 0) (h' := s.heap.push { cls := .type "dict", data := .dict #[] }) (t' := s.toks) (fun _ _ q => Heap.get?_push_of_some _ q) (Nat.le_refl _)
    ⟨⟨_, #[], Heap.get?_push_size _ rfl, ⟨rfl, rfl, rfl⟩, rfl, rfl⟩, ⟨_, Heap.get?_push_size _ rfl⟩, do_stab⟩
  have e0 : Ext F H F (upd H s.heap.objs.size (DO s.heap.objs.size [] 0)) := Ext.free rl.sub hn
  have fp : F s.heap.objs.size = none := rl.sub.free hn
  have big : (s.heap.objs.size == sysModules) = false := beq_eq_false_iff_ne.mpr (Ne.symm (Nat.ne_of_lt I.big))
  have a0 : AftE c σ (pCN c) F H F (upd H s.heap.objs.size (DO s.heap.objs.size [] 0)) ((f δ).bind fun kd => (g δ).bind fun d => (R.of (keyOf kd)).bind fun k => .ok ([k], [d])) Q := aft_e a e0
  have room : (kN X.prog X.w).room X.A := by show X.A.units < cLine; omega
  rw [arm_eval_Dict, zip_pairTrees [some x] [y] X.env pos rfl rfl, dictDisplay_pairs (pairTrees [some x] [y] X.env pos) (by simp [pairTrees]) (by simp [pairTrees])]
  refine wpAny_bind (wpAny_standAt (wpAny_bind (wpAny_subDictH (knd := kN X.prog X.w) (Q := fun d s' => wpAny (model X.prog X.w) X.A (pure (Value.ref d)) (EP X pins σ Q) X.xe s') room (by simp [pairTrees]) ?_)))
  refine pairTrees_cons_walk (thn (hx.run pins _ σ _ _ I1 ⟨F, δ, rl.ext e0, afte_bind a0⟩) fun u s1 ⟨v, H1, I2, r1, kd, F1, e1, p1, a1⟩ => thn (hy.run pins s1 σ H1 _ I2 ⟨F1, δ, (rl.ext e0).ext e1, afte_bind a1⟩) fun w s2 ⟨v2, H2, I3, r2, d, F2, e2, p2, a2⟩ => pairTrees_nil_walk ?_)
  cases hk : keyOf kd with
  | none => rw [hk] at a2; exact a2.elim
  | some k =>
    rw [hk] at a2
    have a3 : AftE c σ (pCN c) F H F2 H2 (.ok ([k], [d])) Q := a2
    obtain ⟨kb', rfl, hsq⟩ := key_sqF p1 hk
    cases (show u = Value.ref kb' from r1)
    have sq2 : SqT X.K F2 kb' (k.map oV) := by rw [← hK]; exact sqT_mono e2.ff hsq
    have hp2 : H2 s.heap.objs.size = some (DO s.heap.objs.size [] 0) := e2.hh _ _ (e1.hh _ _ upd_same)
    have fp2 : F2 s.heap.objs.size = none := by
      cases z : F2 s.heap.objs.size with
      | none => rfl
      | some o =>
        exfalso
        cases z1 : F1 s.heap.objs.size with
        | none => have := e2.nw _ _ z z1; rw [e1.hh _ _ upd_same] at this; cases this
        | some o1 => have := e1.nw _ _ z1 fp; rw [upd_same] at this; cases this
    obtain ⟨xs0, xr0, hl0, dd0⟩ := dict_n (F := F2) (ks := []) (ds := []) I3 e2.fh hp2 List.nodup_nil .nil
    have ex0 : xs0 = [] := List.eq_nil_of_length_eq_zero hl0
    subst ex0
    refine ⟨[(k.map oK, kb', w)], ⟨rfl, rfl, key_n I3 (sqT_mono e2.fh sq2), trivial⟩, dd0, fun h' tk dd' hsb => wpAny_pure ?_⟩
    obtain ⟨q, es, ep, hq, d2, d3, d4, _, _⟩ := dd'
    have xr1 : XR X.K F2 [(k.map oK, kb', w)] [k] [d] := .cons sq2 r2 (by rw [← hK]; exact p2) .nil
    have d4' : es.toList = [(k.map oK, kb', w)].map (entryOfKey (kN X.prog X.w)) := d4
    refine ⟨.ref s.heap.objs.size, _, d_write I3 (ob := DO s.heap.objs.size ([(k.map oK, kb', w)].map (entryOfKey (kN X.prog X.w))) ep) (by rw [hp2]; exact True.intro) hsb ⟨q, hq⟩ ⟨⟨q, es, hq, d2, d3, d4'⟩, ⟨q, hq⟩, do_stab⟩, rfl, ?_⟩
    have des : DEs c.K F2 ([(k.map oK, kb', w)].map (entryOfKey (kN X.prog X.w))) [k] [d] := by rw [hK]; exact xr_des xr1
    have eE : Ext F H F2 (upd H2 s.heap.objs.size (DO s.heap.objs.size ([(k.map oK, kb', w)].map (entryOfKey (kN X.prog X.w))) ep)) := by
      have et := (e0.trans e1).trans e2
      refine ⟨et.ff, fun b o z => ?_, fun b o z => ?_, et.nw⟩
      · rw [upd_ne (ne_of_none z hn)]; exact et.hh _ _ z
      · rw [upd_ne (ne_of_none z fp2)]; exact e2.fh _ _ z
    exact a3 _ F2 _ eE (fun _ _ z => z) ⟨_, _, _, rfl, hn, fp2, upd_same, big, by simp; rw [szN_eq]; decide, by simp, des⟩⟩
/-- a new dict to a name -/
theorem dnew_read {i : Nat} {fn : List S → R (List (List (Option Int)) × List D)} (E : Ends) (σ : L2.St) (H : Hp) (h : tS c (fun δ => thenS (fn δ) δ fun q => asgS i (.dow q.1 q.2) δ) E σ H) : tAsg (tG c (pCN c) fn) (gName i) E σ H := by
  obtain ⟨F, δ, rl, a⟩ := h
  refine ⟨F, δ, rl, aft_thenS rl a fun q v F1 H1 e p a1 => ?_⟩
  obtain ⟨ad, L, ep, rfl, h1, h2, h3, h4, h5, h6, h7⟩ := p
  unfold asgS at a1
  split at a1
  · rename_i hi
    refine a1 _ F1 H1 (fun _ _ z => z) ((rl.ext e).setOc hi h2 (rl.keep.free h1) h3 ⟨L, ep, rfl, h4, h5, h6, h7⟩ fun j hj ho => ?_)
    obtain ⟨o', _, _, h8⟩ := rl.own_any ho
    rw [h1] at h8; cases h8
  · exact a1.elim
theorem s_dnew {i : Nat} {nm : Str} {fn : List S → R (List (List (Option Int)) × List D)} (hN : X.N.Nodup) (hi : X.N[i]? = some nm) (hl : Loc X.env.scope nm) (hf : X.fn nm = true ∨ X.env.scope.names.lookup nm = some .local) (hx : PE X e (tG c (pCN c) fn)) (hn : swapsWith e (some (.Name nm p)) pos.line X.env = pure false) :
    PS X (.Assign [.Name nm p] e pos) (tS c fun δ => thenS (fn δ) δ fun q => asgS i (.dow q.1 q.2) δ) := (ps_set hN hi hl hx hn hf).impD dnew_read
end
end PD
namespace PD
open PySem PySem.Spec PyProof.Rows L2
section
variable {X : Cx} {c : Cfg} {e x y z tg : Expr} {es elts : List Expr} {ss : List Stmt} {pos p p2 p3 tpos apos cpos ap2 cp2 : Pos} {f g h : List S → R D} {pins : List (Addr × Obj)} {s : Shared} {σ : L2.St} {F H : Hp} {A : Around} {E : Value → Shared → Prop}
theorem des_len {K : PySem.W.Frag} : ∀ {L : List DictEntry} {ks : List (List (Option Int))} {ds : List D}, DEs K F L ks ds → L.length = ks.length ∧ ks.length = ds.length
  | _, _, _, .nil => ⟨rfl, rfl⟩
  | _, _, _, .cons _ _ _ t => by
    obtain ⟨h1, h2⟩ := des_len t
    exact ⟨by simp [h1], by simp [h2]⟩
def rLenD (K : PySem.W.Frag) : List V → Hp → VK → Prop := fun xs H Q => ∃ F a L ep ks ds, xs = [.ref a] ∧ Same F H ∧ H a = some (DO a L ep) ∧ (a == sysModules) = false ∧ L.length ≤ sizeLine ∧ ks.Nodup ∧ DEs K F L ks ds ∧ Q (.int ((ks.length : Nat) : Int)) H
theorem call_lenD : CallR X (.builtin "len") (rLenD X.K) := by
  intro pins s σ H xs us Q I r hh
  obtain ⟨F, a, L, ep, ks, ds, rfl, sm, ha, hd, hz, nd, de, q⟩ := hh
  obtain ⟨u, rfl, rx⟩ := vals1 r
  cases (show u = Value.ref a from rx)
  obtain ⟨xs, xr, hl, dd⟩ := dict_n I sm ha nd de
  have hx := (xr_len xr).1
  have hn := line63
  exact call_len_dictH hd dd (by rw [hl]; omega) ⟨.int ((ks.length : Nat) : Int), H, I.tok _, ⟨s.toks + 1, by rw [hx]⟩, q⟩
theorem e_dlen (hK : c.K = X.K) {i : Nat} {nm : Str} (hg : Gl X "len") (hm : X.mg "len" = none) (hN : X.N[i]? = some nm) (hv : Vis X.env.scope nm) (hd : (nm == ("__debug__" : Str)) = false) (hcd : (nm == ("__classdict__" : Str)) = false) :
    PE X (.Call (.Name "len" p) [.Name nm p2] [] pos) (tD c fun δ => (slC δ i).bind fun q => .ok (.int ((q.1.length : Nat) : Int))) :=
  (pe_callB call_lenD hg hm (by decide +kernel) (pa_cons (c_var (c := c) hN hv hd hcd) pa_nil (star_cons _ rfl)) (by decide) (by decide) (star_cons _ rfl) rfl).impD fun σ H Q ⟨F, δ, rl, a⟩ => ⟨F, δ, rl, (a.bind anti_D).mono fun v H1 ⟨q, F1, e1, p1, a1⟩ => by
    obtain ⟨b, L, ep, rfl, h2, h3, h4, h5, h6⟩ := p1
    rw [hK] at h6
    exact ⟨F1, b, L, ep, q.1, q.2, rfl, e1.fh, h2, h3, h4, h5, h6, a1.ret (a := D.int _) e1.fh (.int _)⟩⟩
theorem dict_is {a : Addr} {L : List DictEntry} {ep : Nat} (I : Inv X pins σ H s) (ha : H a = some (DO a L ep)) : s.TypeIs (.ref a) "dict" ∧ (∀ b, Value.ref a = .ref b → ∃ ob, s.heap.get? b = some ob ∧ ob.dict = none) := by
  obtain ⟨⟨o, es, h1, h2, h3, h4⟩, _⟩ := (show ObjOk X.prog X.w H s.heap a (DO a L ep) from I.hok a _ ha)
  refine ⟨⟨o, h1, h2.1⟩, fun b q => ?_⟩
  cases q
  exact ⟨o, h1, h2.2.1⟩
theorem dict_get2 {Q : Value → Shared → Prop} {a b : Addr} {L : List DictEntry} {ep : Nat} {ks : List (List (Option Int))} {ds : List D} {k : List (Option Int)} {r : Value} {zv : V} {d : D} (hu : X.A.units + 64 < cLine) (I : Inv X pins σ H s) (sm : Same F H) (ha : H a = some (DO a L ep)) (hd : (a == sysModules) = false) (nd : ks.Nodup) (de : DEs X.K F L ks ds) (hb : SqT X.K H b (k.map oV)) (rz : L2.RelV zv r) (dz : DV X.K F zv d)
    (hq : ∀ w v s', Inv X pins σ H s' → L2.RelV v w → DV X.K F v ((findK k ks ds).getD d) → Q w s') : wpAny (model X.prog X.w) X.A (call (.builtin "dict.get") [.ref a, .ref b, r]) Q X.xe s := by
  obtain ⟨xs, xr, hl, dd⟩ := dict_n I sm ha nd de
  have room : (kN X.prog X.w).room X.A.in1 := tupleKind_room_in1 (by omega)
  refine call_meetsIn PySem.F.slot_dict_get dd.typeIs PySem.F.entry_dict_get (PySem.F.args_dict_get_3 _ _ _) (meetsH_dict_get_default (kN X.prog X.w) a b hd r) ⟨room, k.map oK, xs, key_n I hb, dd, ?_⟩
  rcases xr_find k xr with ⟨f1, f2⟩ | ⟨d0, pp, v, f1, f2, f3, f4⟩
  · rw [f2]
    exact hq _ zv _ (I.tok _) rz (by rw [f1]; exact dz)
  · rw [f2]
    exact hq _ v _ (I.tok _) f3 (by rw [f1]; exact f4)
theorem m2_of {nm : Str} {p2 apos cpos : Pos} {e1 e2 : Expr} (h1 : noStar e1 = true) (h2 : noStar e2 = true) (hl : (apos.endLine == cpos.line) = true) (hb : attributeBase (.Name nm p2) "get" X.env (eval (.Name nm p2) X.env) = eval (.Name nm p2) X.env) : M2 X (.Name nm p2) "get" apos e1 e2 cpos where
  base := hb
  few := by rw [star_cons _ h1, star_cons _ h2]; rfl
  line := hl
  trees := by rw [star_cons _ h1, star_cons _ h2]; rfl
theorem e_dgd (hK : c.K = X.K) (hu : X.A.units + 64 < cLine) {i : Nat} {nm : Str} (hx : PE X x (tB c f)) (hy : PE X y (tD c g)) (sx : noStar x = true) (sy : noStar y = true) (hl : (apos.endLine == cpos.line) = true) (hb : attributeBase (.Name nm p2) "get" X.env (eval (.Name nm p2) X.env) = eval (.Name nm p2) X.env)
    (hN : X.N[i]? = some nm) (hv : Vis X.env.scope nm) (hd : (nm == ("__debug__" : Str)) = false) (hcd : (nm == ("__classdict__" : Str)) = false) :
    PE X (.Call (.Attribute (.Name nm p2) "get" apos) [x, y] [] cpos) (tD c fun δ => (slC δ i).bind fun q => (f δ).bind fun kd => (g δ).bind fun d => (R.of (keyOf kd)).bind fun k => .ok ((findK k q.1 q.2).getD d)) := ⟨fun pins s σ H Q I hh => by
  obtain ⟨F, δ, rl, a⟩ := hh
  have m := m2_of (X := X) (nm := nm) (p2 := p2) (apos := apos) (cpos := cpos) sx sy hl hb
  refine wpAny_Call_method m.base m.few m.line PySem.F.plainAttrs_dict PySem.F.slot_dict_get PySem.F.type_dict_get (thn ((c_var (c := c) hN hv hd hcd).run pins s σ H _ I ⟨F, δ, rl, a.bind anti_D⟩) fun u s1 ⟨v, H1, I1, r1, q, F1, e1, p1, a1⟩ => ?_)
  obtain ⟨b, L, ep, rfl, h2, h3, h4, h5, h6⟩ := p1
  cases (show u = Value.ref b from r1)
  obtain ⟨t1, t2⟩ := dict_is I1 h2
  refine ⟨t1, t2, ?_⟩
  rw [m.trees]
  refine Calls.callWith_builtin rfl (Calls.evalArgs_plain (Calls.spliced_cons (thn (hx.run pins s1 σ H1 _ I1 ⟨F1, δ, rl.ext e1, a1.bind anti_D⟩) fun iv s2 ⟨v2, H2, I2, r2, kd, F2, e2, p2, a2⟩ =>
    Calls.spliced_cons (thn (hy.run pins s2 σ H2 _ I2 ⟨F2, δ, (rl.ext e1).ext e2, a2.bind anti_D⟩) fun fv s3 ⟨v3, H3, I3, r3, d, F3, e3, p3, a3⟩ => Calls.spliced_nil ?_))))
  cases hk : keyOf kd with
  | none => rw [hk] at a3; exact a3.elim
  | some k =>
    rw [hk] at a3
    have a4 : Aft c σ (pD c) F3 H3 (.ok ((findK k q.1 q.2).getD d)) Q := a3
    obtain ⟨kb', rfl, hsq⟩ := key_sq e3.fh (DVB.ext p2 e3) hk
    cases (show iv = Value.ref kb' from r2)
    have de3 : DEs X.K F3 L q.1 q.2 := by rw [← hK]; exact (h6.mono e2.ff).mono e3.ff
    rw [hK] at hsq
    exact dict_get2 hu I3 e3.fh (e3.hh _ _ (e2.hh _ _ h2)) h3 h5 de3 hsq r3 (by rw [← hK]; exact p3) fun w v s' I' rv dv => ⟨v, H3, I', rv, a4.ret e3.fh (show DV c.K F3 v _ from hK ▸ dv)⟩⟩
theorem n_dict0 : PE X (.Dict [] [] pos) (tG c (pCN c) fun _ => .ok ([], [])) := ⟨fun pins s σ H Q I hh => by
  obtain ⟨F, δ, rl, a⟩ := hh
  have hn := I.hok.fresh (Nat.le_refl s.heap.objs.size)
  have I1 := I.laid (a := s.heap.objs.size) (o := DO s.heap.objs.size [] 0) (h' := s.heap.push { cls := .type "dict", data := .dict #[] }) (t' := s.toks) (fun _ _ q => Heap.get?_push_of_some _ q) (Nat.le_refl _)
    ⟨⟨_, #[], Heap.get?_push_size _ rfl, ⟨rfl, rfl, rfl⟩, rfl, rfl⟩, ⟨_, Heap.get?_push_size _ rfl⟩, do_stab⟩
  have big : (s.heap.objs.size == sysModules) = false := beq_eq_false_iff_ne.mpr (Ne.symm (Nat.ne_of_lt I.big))
  have fp : F s.heap.objs.size = none := rl.sub.free hn
  refine wpAny_Dict_empty ?_
  exact ⟨.ref s.heap.objs.size, _, I1, rfl, a _ F _ (Ext.free rl.sub hn) ⟨_, _, _, rfl, hn, fp, upd_same, big, by simp, List.nodup_nil, .nil⟩⟩⟩
end
end PD
namespace PD
open PySem PySem.Spec PyProof.Rows L2
def okD : Option Int → D
  | none => .non
  | some i => .int i
def kD (k : List (Option Int)) : D := .tup (k.map okD)
def Itdc (a : Addr) (L : List DictEntry) (ep : Nat) : It :=
  ⟨fun i H => H a = some (DO a L ep) ∧ ∃ en q, L[i]? = some en ∧ en.key = .ref q, fun i H x H' => H' = H ∧ ∃ en q, L[i]? = some en ∧ en.key = .ref q ∧ x = .ref q, fun i H => H a = some (DO a L ep) ∧ L.length ≤ i⟩
theorem turn_dct {P : Program} {w : World} {K : PySem.W.Frag} {tg : Expr} {a : Addr} {L : List DictEntry} {ep : Nat} (it : Addr) : Turn P w K tg (Itdc a L ep) [it] it (fun i h => h.IsKeyIter it a i L.length ep) where
  mem := by simp
  obj := fun i h st b hb => by
    have e : b = it := by simpa using hb
    subst e
    obtain ⟨oi, e, c, dd⟩ := st
    exact ⟨oi, e, fun v z => by rw [dd] at z; cases z⟩
  keep := fun i h h' st k => st.at fun oi e => k it (by simp) oi e
  item := by
    intro X hP hw hK hc i pins s σ H E I hf st hg
    subst hP hw hK
    obtain ⟨hd, en, q, hen, hkey⟩ := hg
    obtain ⟨f0, f1, f2, f3, f4, f5⟩ := hf it (by simp)
    obtain ⟨⟨o, es, h1, h2, h3, h4⟩, _⟩ := (show ObjOk X.prog X.w H s.heap a (DO a L ep) from I.hok a _ hd)
    have hsz : es.size = L.length := by rw [← h4]; rfl
    have hen' : es[i]? = some en := by rw [← Array.getElem?_toList, h4]; exact hen
    refine next_key_item st h1 h3 hsz hen' fun h' st' sb => ?_
    have I1 : Inv X pins σ H { s with heap := h' } := I.turned (t' := s.toks) (fun b ob hb e => (sb.2 b hb).trans e) f0 f1 f3 f4 f5
    obtain ⟨oi, e, c, dd⟩ := id st'
    exact ⟨en.key, rfl, go_of (s := { s with heap := h' }) e c dd (by decide) ⟨.ref q, H, I1, hkey, ⟨rfl, en, q, hen, hkey, rfl⟩, st', fun b hb => (hf b hb).1⟩⟩
  done := by
    intro X hP hw hK hc i pins s σ H E I hf st hg
    subst hP hw hK
    obtain ⟨hd, hi⟩ := hg
    obtain ⟨f0, f1, f2, f3, f4, f5⟩ := hf it (by simp)
    obtain ⟨⟨o, es, h1, h2, h3, h4⟩, _⟩ := (show ObjOk X.prog X.w H s.heap a (DO a L ep) from I.hok a _ hd)
    have hsz : es.size = L.length := by rw [← h4]; rfl
    exact next_key_end (I.ok.hd hc) st h1 h3 hsz hi fun h' eb => ⟨rfl, I.turned (t' := s.toks) (fun b ob hb e => eb b ob hb e) f0 f1 f3 f4 f5⟩
  self := fun A i s Q E st h => by
    refine wpAny_pyIter_slot st.typeIs F.slot_dict_keyiterator_iter (wpAny_call_entry F.slot_dict_keyiterator_iter st.typeIs F.entry_dict_keyiterator_iter ?_ (F.args_dict_keyiterator_iter_1 _))
    show wpAny _ _ (ret (.ref it)) _ _ s
    exact wpAny_pure ⟨_, rfl, "dict_keyiterator", _, st.typeIs, F.slot_dict_keyiterator_next.lookup, h⟩
section
variable {X : Cx} {c : Cfg} {e x y z tg : Expr} {es elts : List Expr} {ss : List Stmt} {pos p p2 p3 tpos apos cpos ap2 cp2 : Pos} {f h : List S → R D} {g : List S → O} {pins : List (Addr × Obj)} {s : Shared} {σ : L2.St} {F H : Hp}
theorem pi_dct {te : TE} (he : PE X e te) : PI X tg e (fun σ H R => te σ H fun x H1 => ∃ a L ep, x = .ref a ∧ H1 a = some (DO a L ep) ∧ (a == sysModules) = false ∧ R (Itdc a L ep) H1) := by
  refine ⟨fun pins s σ H R I hh => ?_⟩
  refine thn (he.run pins s σ H _ I hh) fun v s1 ⟨x, H1, I1, r1, a, L, ep, ex, ha, hs, q⟩ => ?_
  subst ex
  cases (show v = Value.ref a from r1)
  obtain ⟨⟨o, es, h1, h2, h3, h4⟩, _⟩ := (show ObjOk X.prog X.w H1 s1.heap a (DO a L ep) from I1.hok a _ ha)
  refine wpAny_pyIter_dict_raw hs ⟨o, h1, h2, h3⟩ ?_
  have hsz : es.size = L.length := by rw [← h4]; rfl
  refine ⟨s1.heap.objs.size, [s1.heap.objs.size], _, _, H1, rfl, I1.kept (t' := s1.toks) fun b o e => Heap.get?_push_of_some _ e, turn_dct (a := a) (L := L) (ep := ep) _, ⟨_, Heap.get?_push_size _ rfl, rfl, by rw [hsz] <;> rfl⟩, fun b hb => ?_, q⟩
  have e : b = s1.heap.objs.size := by simpa using hb
  subst e
  exact I1.fpOk (Nat.le_refl _) (I1.hok.fresh (Nat.le_refl _))
theorem des_get {K : PySem.W.Frag} : ∀ {L : List DictEntry} {ks : List (List (Option Int))} {ds : List D} {i : Nat} {k : List (Option Int)}, DEs K F L ks ds → ks[i]? = some k → ∃ en b, L[i]? = some en ∧ en.key = .ref b ∧ SqT K F b (k.map oV)
  | _, _, _, _, _, .nil, h => by simp at h
  | _, _, _, 0, _, .cons s1 _ _ _, h => by
    simp at h
    subst h
    exact ⟨_, _, rfl, rfl, s1⟩
  | _, _, _, i + 1, k, .cons _ _ _ t, h => by
    obtain ⟨en, b, h1, h2⟩ := des_get (i := i) (k := k) t (by simpa using h)
    exact ⟨en, b, by simpa using h1, h2⟩
theorem dvs_key {K : PySem.W.Frag} : ∀ k : List (Option Int), DVs K F (k.map oV) (k.map okD)
  | [] => .nil
  | none :: k => .cons .non (dvs_key k)
  | some i :: k => .cons (.int i) (dvs_key k)
theorem itdc_ok {K : PySem.W.Frag} {F' : Hp} {C : Hp → Hp → Prop} {a : Addr} {L : List DictEntry} {ep : Nat} {ks : List (List (Option Int))} {ds : List D} (hC : ∀ F1 H1, C F1 H1 → Same F' F1 ∧ Same F1 H1 ∧ H1 a = some (DO a L ep)) (r : DEs K F' L ks ds) (hz : ∀ k ∈ ks, k.length ≤ sizeLine) : ItD K C (Itdc a L ep) (ks.map kD) := by
  refine ⟨fun i F1 H1 d hc hd => ?_, fun i F1 H1 hc hi => ⟨(hC F1 H1 hc).2.2, by rw [(des_len r).1]; simpa using hi⟩⟩
  obtain ⟨s1, s2, s3⟩ := hC F1 H1 hc
  rw [List.getElem?_map] at hd
  obtain ⟨k, hk, rfl⟩ := Option.map_eq_some_iff.mp hd
  obtain ⟨en, b, h1, h2, h3⟩ := des_get r hk
  refine ⟨⟨s3, en, b, h1, h2⟩, fun x H2 hy => ?_⟩
  obtain ⟨rfl, en', q, g1, g2, rfl⟩ := hy
  rw [h1] at g1
  cases g1
  rw [h2] at g2
  cases g2
  exact ⟨F1, Ext.refl s2, .tup (sqT_mono s1 h3) (by rw [List.length_map]; exact hz k (List.mem_of_getElem? hk)) (dvs_key k)⟩
def dkeysD (q : List (List (Option Int)) × List D) : R (List D) := if q.1.all (fun k => decide (k.length ≤ szN)) && decide (q.1.length ≤ szN) then .ok (q.1.map kD) else .bad
theorem dkeys_ok {q : List (List (Option Int)) × List D} {ds : List D} (e : dkeysD q = .ok ds) : ds = q.1.map kD ∧ (∀ k ∈ q.1, k.length ≤ sizeLine) ∧ q.1.length ≤ szN := by
  unfold dkeysD at e
  split at e
  · rename_i hc
    cases e
    rw [Bool.and_eq_true] at hc
    refine ⟨rfl, fun k hk => ?_, by simpa using hc.2⟩
    have := List.all_eq_true.mp hc.1 k hk
    rw [szN_eq]
    simpa using this
  · cases e
theorem i_ditB (hK : c.K = X.K) {i : Nat} {nm : Str} (hN : X.N[i]? = some nm) (hv : Vis X.env.scope nm) (hd : (nm == ("__debug__" : Str)) = false) (hcd : (nm == ("__classdict__" : Str)) = false) :
    PI X tg (.Name nm pos) (tI c Cb fun δ => (slC δ i).bind dkeysD) := ⟨fun pins s σ H R I hh => by
  refine (pi_dct (c_var (c := c) hN hv hd hcd)).run pins s σ H R I ?_
  obtain ⟨F, δ, rl, a⟩ := hh
  refine ⟨F, δ, rl, (Aft.bind anti_I a).mono fun v H1 ⟨q, F1, e1, p1, a1⟩ => ?_⟩
  obtain ⟨b, L, ep, rfl, h2, h3, h4, h5, h6⟩ := p1
  refine ⟨b, L, ep, rfl, h2, h3, ?_⟩
  cases hq : dkeysD q with
  | exc k => unfold dkeysD at hq; split at hq <;> cases hq
  | bad => rw [hq] at a1; exact a1.elim
  | ok ds =>
    rw [hq] at a1
    obtain ⟨rfl, hz, hl⟩ := dkeys_ok hq
    exact a1.ret (v := Itdc b L ep) e1.fh ⟨itdc_ok (fun F2 H2 hc => ⟨hc.1, hc.2.1, hc.2.2 _ _ h2⟩) h6 hz, by rw [List.length_map]; exact hl⟩⟩
def slCF (δ : List S) (i : Nat) : R (List (List (Option Int)) × List D) := match δ[i]? with
  | some (.dat (.dct ks vs)) => .ok (ks, vs)
  | _ => .bad
abbrev pCF (c : Cfg) : Hp → Hp → Hp → V → (List (List (Option Int)) × List D) → Prop := fun _ F' H' v q => ∃ a L ep, v = .ref a ∧ F' a = some (DO a L ep) ∧ (a == sysModules) = false ∧ DEs c.K F' L q.1 q.2
theorem anti_CF {c : Cfg} : Anti (pCF c) := fun _ _ _ _ _ _ _ h => h
theorem c_varF {i : Nat} {x : Str} (hN : X.N[i]? = some x) (hv : Vis X.env.scope x) (hd : (x == ("__debug__" : Str)) = false) (hcd : (x == ("__classdict__" : Str)) = false) : PE X (.Name x pos) (tG c (pCF c) fun δ => slCF δ i) :=
  (pe_var hN hv hd hcd).impD fun σ H Q ⟨F, δ, r, a⟩ => by
    dsimp only [slCF] at a
    cases q : δ[i]? with
    | none => rw [q] at a; exact a.elim
    | some s =>
      rw [q] at a
      cases s with
      | dat d =>
        obtain ⟨x, h1, h2⟩ := r.dat q
        cases h2 <;> first | exact a.elim | skip
        rename_i s1 y1 z1 n1 r1
        exact ⟨_, h1, a.ret r.sub ⟨_, _, _, rfl, s1, y1, r1⟩⟩
      | none => exact a.elim
      | ow oc => exact a.elim
      | hid => exact a.elim
      | exc _ => exact a.elim
theorem i_ditF (hK : c.K = X.K) {i : Nat} {nm : Str} (hN : X.N[i]? = some nm) (hv : Vis X.env.scope nm) (hd : (nm == ("__debug__" : Str)) = false) (hcd : (nm == ("__classdict__" : Str)) = false) :
    PI X tg (.Name nm pos) (tI c (fun F' _ => Cf F') fun δ => (slCF δ i).bind dkeysD) := ⟨fun pins s σ H R I hh => by
  refine (pi_dct (c_varF (c := c) hN hv hd hcd)).run pins s σ H R I ?_
  obtain ⟨F, δ, rl, a⟩ := hh
  refine ⟨F, δ, rl, (Aft.bind anti_I a).mono fun v H1 ⟨q, F1, e1, p1, a1⟩ => ?_⟩
  obtain ⟨b, L, ep, rfl, h2, h3, h6⟩ := p1
  refine ⟨b, L, ep, rfl, e1.fh _ _ h2, h3, ?_⟩
  cases hq : dkeysD q with
  | exc k => unfold dkeysD at hq; split at hq <;> cases hq
  | bad => rw [hq] at a1; exact a1.elim
  | ok ds =>
    rw [hq] at a1
    obtain ⟨rfl, hz, hl⟩ := dkeys_ok hq
    exact a1.ret (v := Itdc b L ep) e1.fh ⟨itdc_ok (fun F2 H2 hc => ⟨hc.1, hc.2, hc.2 _ _ (hc.1 _ _ h2)⟩) h6 hz, by rw [List.length_map]; exact hl⟩⟩
def popS (j : Nat) (δ : List S) : Option (List S × D) := match δ[j]? with
  | some (.ow (.l ds)) => match ds.getLast? with
    | some d => some (δ.set j (.own ds.dropLast), d)
    | none => none
  | _ => none
def fPG (i j : Nat) (h : List S → R D) (δ : List S) : R (List S × D) := (slC δ i).bind fun q => match popS j δ with
  | some (δ', kd) => (R.of (keyOf kd)).bind fun k => (noX (h δ')).bind fun d => .ok (δ', (findK k q.1 q.2).getD d)
  | none => .bad
/-- what follows: the state has changed -/
def AftM (c : Cfg) (F : Hp) (σ : L2.St) (r : R (List S × D)) (Q : VK) : Prop := match r with
  | .ok (δ', d) => ∀ v F' H', Same F F' → Rel c.K c.B F' δ' σ H' → DV c.K F' v d → Q v H'
  | _ => False
def tM (c : Cfg) (r : List S → R (List S × D)) : TE := fun σ H Q => ∃ F δ, Rel c.K c.B F δ σ H ∧ AftM c F σ (r δ) Q
theorem dict_at {i : Nat} {δ : List S} {q : List (List (Option Int)) × List D} (r : Rel c.K c.B F δ σ H) (hq : slC δ i = .ok q) : ∃ a L ep, σ[i]? = some (some (.ref a)) ∧ H a = some (DO a L ep) ∧ (a == sysModules) = false ∧ q.1.Nodup ∧ DEs c.K F L q.1 q.2 := by
  unfold slC at hq
  split at hq
  · rename_i ks vs hs
    cases hq
    obtain ⟨x, h1, h2⟩ := r.dat hs
    cases h2
    rename_i s1 y1 z1 n1 r1
    exact ⟨_, _, _, h1, r.sub _ _ s1, y1, n1, r1⟩
  · rename_i ks vs hs
    cases hq
    obtain ⟨b, L, ep, h1, h2, h3, h4, h5, h6, h7, h8⟩ := r.dow hs
    exact ⟨b, L, ep, h1, h4, h5, h7, h8⟩
  · cases hq
theorem e_popget (hK : c.K = X.K) (hu : X.A.units + 64 < cLine) {i j : Nat} {nm nq : Str} (hy : PE X y (tD c h)) (sy : noStar y = true) (hl : (apos.endLine == cpos.line) = true) (hl2 : (ap2.endLine == cp2.line) = true)
    (hb : attributeBase (.Name nm p2) "get" X.env (eval (.Name nm p2) X.env) = eval (.Name nm p2) X.env) (hb2 : attributeBase (.Name nq p3) "pop" X.env (eval (.Name nq p3) X.env) = eval (.Name nq p3) X.env)
    (hN : X.N[i]? = some nm) (hv : Vis X.env.scope nm) (hd : (nm == ("__debug__" : Str)) = false) (hcd : (nm == ("__classdict__" : Str)) = false)
    (hN2 : X.N[j]? = some nq) (hv2 : Vis X.env.scope nq) (hd2 : (nq == ("__debug__" : Str)) = false) (hcd2 : (nq == ("__classdict__" : Str)) = false) :
    PE X (.Call (.Attribute (.Name nm p2) "get" apos) [.Call (.Attribute (.Name nq p3) "pop" ap2) [] [] cp2, y] [] cpos) (tM c (fPG i j h)) := ⟨fun pins s σ H Q I hh => by
  obtain ⟨F, δ, rl, a⟩ := hh
  unfold fPG at a
  cases hq : slC δ i with
  | exc k => rw [hq] at a; exact a.elim
  | bad => rw [hq] at a; exact a.elim
  | ok q =>
    rw [hq] at a
    simp only [R.bind_ok] at a
    cases hp : popS j δ with
    | none => rw [hp] at a; exact a.elim
    | some w =>
      obtain ⟨δ', kd⟩ := w
      rw [hp] at a
      simp only at a
      cases hk : keyOf kd with
      | none => rw [hk] at a; exact a.elim
      | some k =>
        rw [hk] at a
        simp only [R.of, R.bind_ok] at a
        cases hh2 : h δ' with
        | exc _ => rw [hh2] at a; exact a.elim
        | bad => rw [hh2] at a; exact a.elim
        | ok d =>
          rw [hh2] at a
          simp only [noX, R.bind_ok] at a
          have a' : ∀ v F' H', Same F F' → Rel c.K c.B F' δ' σ H' → DV c.K F' v ((findK k q.1 q.2).getD d) → Q v H' := a
          unfold popS at hp
          split at hp
          · rename_i ds hδ
            split at hp
            · rename_i dl hlast
              cases hp
              obtain ⟨l, vs, g1, g2, g3, g4, g5, g6⟩ := rl.own hδ
              obtain ⟨b, L, ep, i1, i2, i3, i5, i6⟩ := dict_at rl hq
              have sy0 : noStar (.Call (.Attribute (.Name nq p3) "pop" ap2) [] [] cp2) = true := rfl
              have m := m2_of (X := X) (nm := nm) (p2 := p2) (apos := apos) (cpos := cpos) sy0 sy hl hb
              refine wpAny_Call_method m.base m.few m.line PySem.F.plainAttrs_dict PySem.F.slot_dict_get PySem.F.type_dict_get (thn ((pe_var hN hv hd hcd).run pins s σ H (fun v H' => v = .ref b ∧ H' = H) I ⟨_, i1, rfl, rfl⟩) fun u s1 ⟨v, H1, I1, r1, ev1, eH1⟩ => ?_)
              subst ev1 eH1
              cases (show u = Value.ref b from r1)
              obtain ⟨t1, t2⟩ := dict_is I1 i2
              refine ⟨t1, t2, ?_⟩
              rw [m.trees]
              have hvl : vs[vs.length - 1]? = some (vs[vs.length - 1]'(by
                have : ds ≠ [] := fun z => by subst z; simp at hlast
                have h0 : 0 < ds.length := List.length_pos_iff.mpr this
                rw [g6.length]; omega)) := List.getElem?_eq_getElem _
              obtain ⟨dl', hdl, pv⟩ := g6.get hvl
              have hdl2 : ds[vs.length - 1]? = some kd := by rw [g6.length, ← List.getLast?_eq_getElem?]; exact hlast
              rw [hdl2] at hdl
              cases hdl
              have hi' : i ≠ j := fun z => by
                subst z
                unfold slC at hq
                rw [hδ] at hq
                cases hq
              have rl2 := rl.mut (i := j) (vs := vs.dropLast) (ds := ds.dropLast) hδ g1 (by rw [List.length_dropLast]; omega) (by rw [List.dropLast_eq_take, List.dropLast_eq_take, ← g6.length]; exact g6.take _)
              refine Calls.callWith_builtin rfl (Calls.evalArgs_plain (Calls.spliced_cons (thn ((pe_bm0 PySem.F.plainAttrs_list PySem.F.slot_list_pop PySem.F.type_list_pop mt_pop (pe_var hN2 hv2 hd2 hcd2) hb2 hl2).run pins s1 σ H1 (fun v H' => v = (vs[vs.length - 1]'_) ∧ H' = upd H1 l (.lst vs.dropLast)) I1 ⟨_, g1, .inl ⟨rfl, vs, SqL.of g4⟩, l, vs, _, rfl, rfl, g4, hvl, rfl, rfl⟩) fun iv s2 ⟨v2, H2, I2, r2, ev2, eH2⟩ => ?_)))
              subst eH2
              refine Calls.spliced_cons (thn (hy.run pins s2 σ _ (fun v H3 => ∃ F3, Ext F (upd H1 l (.lst vs.dropLast)) F3 H3 ∧ DV c.K F3 v d) I2 ⟨F, _, rl2, by rw [hh2]; exact fun v F3 H3 e3 p3 => ⟨F3, e3, p3⟩⟩) fun fv s3 ⟨v3, H3, I3, r3, F3, e3, p3⟩ => Calls.spliced_nil ?_)
              have rl3 := rl2.ext e3
              have hq' : slC (δ.set j (.own ds.dropLast)) i = .ok q := by
                unfold slC
                rw [List.getElem?_set_ne (Ne.symm hi')]
                exact hq
              obtain ⟨b', L', ep', j1, j2, j3, j5, j6⟩ := dict_at rl3 hq'
              rw [i1] at j1
              cases j1
              subst ev2
              obtain ⟨kb', ekb, hsq⟩ := key_sqF (pv.mono e3.ff) hk
              rw [ekb] at r2
              cases (show iv = Value.ref kb' from r2)
              rw [hK] at hsq
              exact dict_get2 hu I3 rl3.sub j2 j3 j5 (by rw [← hK]; exact j6) (sqT_mono rl3.sub hsq) r3 (by rw [← hK]; exact p3) fun w v s' I' rv dv => ⟨v, H3, I', rv, a' v F3 H3 e3.ff rl3 (by rw [hK]; exact dv)⟩
            · cases hp
          · cases hp⟩
def fForPG (t : Tg) (i j : Nat) (h : List S → R D) (g : List S → O) : List S → O := fun δ => match fPG i j h δ with
  | .ok (δ', d) => thenS (itemsD d) δ' fun ds => forD t g ds δ'
  | _ => .bad
theorem for_core {t : Tg} {J : It} {ds : List D} {δ : List S} {D : Ends} (it : ItD c.K (Cf F) J ds) (r1 : Rel c.K c.B F δ σ H) (a1 : AftS c F (forD t g ds δ) D) : tFor (fun _ _ R => R J H) (gD c t) (tS c g) D σ H := by
    generalize ho : forD t g ds δ = o at a1
    refine ⟨fun i m σ H => m = ds.length - i ∧ i ≤ ds.length ∧ ∃ F2 δ2, Same F F2 ∧ Rel c.K c.B F2 δ2 σ H ∧ forD t g (ds.drop i) δ2 = o, ⟨ds.length, rfl, Nat.zero_le _, F, δ, fun _ _ z => z, r1, ho⟩, ?_⟩
    rintro i m σ2 H2 ⟨rfl, hile, F2, δ2, s2, r2, e2⟩
    have hC : Cf F F2 H2 := ⟨s2, r2.sub⟩
    by_cases hlt : i < ds.length
    · have hdi : ds[i]? = some ds[i] := List.getElem?_eq_getElem hlt
      rw [List.drop_eq_getElem_cons hlt] at e2
      obtain ⟨hgo, hyld⟩ := it.go i F2 H2 _ hC hdi
      refine .inr ⟨hgo, fun σ' H' => i + 1 ≤ ds.length ∧ ∃ F2 δ2, Same F F2 ∧ Rel c.K c.B F2 δ2 σ' H' ∧ forD t g (ds.drop (i + 1)) δ2 = o, fun σ' H' hn => ⟨ds.length - (i + 1), by omega, rfl, hn⟩, fun x H3 hy => ?_⟩
      obtain ⟨F3, e3, pv⟩ := hyld x H3 hy
      simp only [forD] at e2
      cases qs : setT t ds[i] δ2 with
      | none => rw [qs] at e2; subst e2; exact a1.elim
      | some δ' =>
        rw [qs] at e2
        refine ⟨F3, δ2, _, r2.ext e3, pv, δ', qs, fun σ' r' _ _ => ⟨F3, δ', r', ?_⟩⟩
        have a3 : AftS c F3 o D := AftS.mono a1 (s2.trans e3.ff)
        dsimp only at e2
        cases q : g δ' with
        | next δ'' => rw [q] at e2; exact fun σ' F' H' e r => ⟨hlt, F', δ'', (s2.trans e3.ff).trans e, r, e2⟩
        | cont δ'' => rw [q] at e2; exact fun σ' F' H' e r => ⟨hlt, F', δ'', (s2.trans e3.ff).trans e, r, e2⟩
        | brk δ'' => rw [q] at e2; subst e2; exact a3
        | ret d => rw [q] at e2; subst e2; exact a3
        | exc k δ'' => rw [q] at e2; subst e2; exact a3
        | bad => rw [q] at e2; subst e2; exact a3
    · have e : i = ds.length := by omega
      subst e
      rw [List.drop_length] at e2
      refine .inl ⟨it.stop _ F2 H2 hC (Nat.le_refl _), ?_⟩
      have e2' : O.next δ2 = o := e2
      subst e2'
      exact AftS.mono a1 s2 σ2 F2 H2 (fun _ _ z => z) r2
theorem s_forM {t : Tg} {r : List S → R (List S × D)} (hK : c.K = X.K) (hp : PassesOwn (model X.prog X.w) X.A X.env X.xe) (hc : X.calm = true) (he : PE X e (tM c r)) (hg : PG X tg (gD c t)) (hb : PSs X ss (tS c g))
    (hs : ∀ x, foldedSetIterable e X.env x = pure x) : PS X (.For tg e ss [] pos) (tS c fun δ => match r δ with
      | .ok (δ', d) => thenS (itemsD d) δ' fun ds => forD t g ds δ'
      | _ => .bad) :=
  (ps_for hp hc (pi_any he) hg hb hs).impD fun E σ H ⟨F, δ, rl, a⟩ => by
    refine ⟨F, δ, rl, ?_⟩
    dsimp only at a
    cases hr : r δ with
    | exc k => rw [hr] at a; exact a.elim
    | bad => rw [hr] at a; exact a.elim
    | ok w =>
      obtain ⟨δ', d⟩ := w
      rw [hr] at a
      intro v F' H' sm rl' dv
      have a2 : AftS c F' (thenS (itemsD d) δ' fun ds => forD t g ds δ') E := AftS.mono a sm
      cases dv with
      | non => exact a2.elim
      | bl _ => exact a2.elim
      | int _ => exact a2.elim
      | scr _ _ => exact a2.elim
      | dct _ _ _ _ _ => exact a2.elim
      | str l oa la => exact .inr (.inr ⟨_, rfl, for_core (its_ok (fun _ _ h => h.2) oa) rl' a2⟩)
      | lst s1 z1 r1 =>
        refine .inl ⟨_, _, rfl, SqL.of (rl'.sub _ _ s1), for_core ?_ rl' a2⟩
        rw [hK]
        exact itl_ok' (fun F2 H2 h => ⟨h.1, h.2, SqL.of (h.2 _ _ (h.1 _ _ s1))⟩) (by rw [← hK]; exact r1)
      | tup s1 z1 r1 =>
        rw [hK] at s1
        refine .inr (.inl ⟨_, _, rfl, sqT_mono rl'.sub s1, for_core ?_ rl' a2⟩)
        rw [hK]
        exact itt_ok (fun F2 H2 h => ⟨h.1, h.2, sqT_mono h.2 (sqT_mono h.1 s1)⟩) (by rw [← hK]; exact r1)
end
end PD
namespace PD
open PySem PySem.Spec PyProof.Rows L2
def Bg.hide (B : Bg) (j : Nat) (a : Addr) (vs : List V) : Bg := { B with F0 := fun b => if b = a then none else B.F0 b, G := upd B.G a (.lst vs), hv := fun i => if i = j then .ref a else B.hv i }
section
variable {K : PySem.W.Frag} {B : Bg} {F H : Hp} {δ : List S} {σ : L2.St} {j : Nat} {a : Addr} {vs : List V} {ds : List D}
theorem Rel.hide (r : Rel K B F δ σ H) (h0 : δ[j]? = some (.own ds)) (h1 : σ[j]? = some (some (.ref a))) (h2 : F a = none) (h4 : H a = some (.lst vs)) : Rel K (B.hide j a vs) F (δ.set j .hid) σ H := by
  have hjl : j < δ.length := by
    rcases Nat.lt_or_ge j δ.length with h | h
    · exact h
    · rw [List.getElem?_eq_none h] at h0; cases h0
  refine ⟨r.sub, fun b o e => ?_, fun b o e n => ?_, by rw [List.length_set]; exact r.len, fun i s q => ?_, fun i k b o1 o2 => ?_⟩
  · by_cases c : b = a
    · subst c
      have e' : upd B.G b (.lst vs) b = some o := e
      rw [upd_same] at e'
      cases e'
      exact h4
    · have e' : upd B.G a (.lst vs) b = some o := e
      rw [upd_ne c] at e'
      exact r.keep _ _ e'
  · have c : b ≠ a := fun z => by subst z; rw [h2] at e; cases e
    have n' : (if b = a then none else B.F0 b) = none := n
    rw [if_neg c] at n'
    show upd B.G a (.lst vs) b = none
    rw [upd_ne c]
    exact r.nw b o e n'
  · by_cases c : j = i
    · subst c
      rw [List.getElem?_set_self hjl] at q
      cases q
      exact ⟨_, h1, by show some (V.ref a) = some (if j = j then V.ref a else B.hv j); rw [if_pos rfl]⟩
    · rw [List.getElem?_set_ne c] at q
      obtain ⟨v, e1, e2⟩ := r.slot i s q
      refine ⟨v, e1, ?_⟩
      cases s with
      | none => trivial
      | dat d => exact e2
      | ow oc =>
        obtain ⟨a', o, g1, g2, g3, g4, g5⟩ := e2
        subst g1
        refine ⟨a', o, rfl, g2, ?_, g4, g5⟩
        have ne : a' ≠ a := fun z => by
          subst z
          exact c (r.sep j i a' ⟨⟨_, h0⟩, h1⟩ ⟨⟨_, q⟩, e1⟩)
        show upd B.G a (.lst vs) a' = none
        rw [upd_ne ne]; exact g3
      | hid =>
        show v = some (if i = j then V.ref a else B.hv i)
        rw [if_neg (fun z => c z.symm)]; exact e2
      | exc k => exact e2
  · have fx : ∀ m b, OwnAt (δ.set j .hid) σ m b → OwnAt δ σ m b := fun m b ⟨⟨oc, q1⟩, q2⟩ => by
      by_cases c : j = m
      · subst c
        rw [List.getElem?_set_self hjl] at q1
        cases q1
      · rw [List.getElem?_set_ne c] at q1
        exact ⟨⟨oc, q1⟩, q2⟩
    exact r.sep i k b (fx i b o1) (fx k b o2)
theorem Rel.unhide (r : Rel K (B.hide j a vs) F δ σ H) (h0 : δ[j]? = some .hid) (hB : B.G a = none) (hz : vs.length ≤ sizeLine) (hd : DVs K F vs ds) : Rel K B F (δ.set j (.own ds)) σ H := by
  have hjl : j < δ.length := by
    rcases Nat.lt_or_ge j δ.length with h | h
    · exact h
    · rw [List.getElem?_eq_none h] at h0; cases h0
  have gk : ∀ b, (B.hide j a vs).G b = none → B.G b = none := fun b e => by
    by_cases c : b = a
    · subst c; exact hB
    · have e' : upd B.G a (.lst vs) b = none := e
      rw [upd_ne c] at e'
      exact e'
  have ga : (B.hide j a vs).G a = some (.lst vs) := upd_same
  have fa : F a = none := by
    cases z : F a with
    | none => rfl
    | some o =>
      have := r.nw a o z (by show (if a = a then none else B.F0 a) = none; rw [if_pos rfl])
      rw [ga] at this; cases this
  have ha : H a = some (.lst vs) := r.keep _ _ ga
  obtain ⟨v, e1, e2⟩ := r.slot j _ h0
  have ev : v = some (.ref a) := by
    have e2' : v = some (if j = j then V.ref a else B.hv j) := e2
    rw [if_pos rfl] at e2'
    exact e2'
  subst ev
  have noown : ∀ m, m ≠ j → ¬ OwnAt δ σ m a := fun m hm ⟨⟨oc, q1⟩, q2⟩ => by
    obtain ⟨v, g1, a', o, g2, g3, g4, g5, g6⟩ := r.slot m _ q1
    rw [q2] at g1
    cases g1
    cases g2
    rw [ga] at g4; cases g4
  refine ⟨r.sub, fun b o e => ?_, fun b o e n => ?_, by rw [List.length_set]; exact r.len, fun i s q => ?_, fun i k b o1 o2 => ?_⟩
  · have c : b ≠ a := fun z => by subst z; rw [hB] at e; cases e
    refine r.keep b o ?_
    show upd B.G a (.lst vs) b = some o
    rw [upd_ne c]; exact e
  · refine gk b (r.nw b o e ?_)
    show (if b = a then none else B.F0 b) = none
    split
    · rfl
    · exact n
  · by_cases c : j = i
    · subst c
      rw [List.getElem?_set_self hjl] at q
      cases q
      exact ⟨_, e1, a, _, rfl, fa, hB, ha, vs, rfl, hz, hd⟩
    · rw [List.getElem?_set_ne c] at q
      obtain ⟨v, g1, g2⟩ := r.slot i s q
      refine ⟨v, g1, ?_⟩
      cases s with
      | none => trivial
      | dat d => exact g2
      | ow oc =>
        obtain ⟨a', o, k1, k2, k3, k4, k5⟩ := g2
        exact ⟨a', o, k1, k2, gk _ k3, k4, k5⟩
      | hid =>
        have g2' : v = some (if i = j then V.ref a else B.hv i) := g2
        rw [if_neg (fun z => c z.symm)] at g2'
        exact g2'
      | exc k => exact g2
  · by_cases ci : i = j
    · by_cases ck : k = j
      · rw [ci, ck]
      · exfalso
        subst ci
        obtain ⟨_, q2⟩ := o1
        rw [e1] at q2
        cases q2
        obtain ⟨⟨oc, q3⟩, q4⟩ := o2
        rw [List.getElem?_set_ne (fun z => ck z.symm)] at q3
        exact noown k ck ⟨⟨oc, q3⟩, q4⟩
    · by_cases ck : k = j
      · exfalso
        subst ck
        obtain ⟨_, q2⟩ := o2
        rw [e1] at q2
        cases q2
        obtain ⟨⟨oc, q3⟩, q4⟩ := o1
        rw [List.getElem?_set_ne (fun z => ci z.symm)] at q3
        exact noown i ci ⟨⟨oc, q3⟩, q4⟩
      · obtain ⟨⟨oc, q1⟩, q2⟩ := o1
        obtain ⟨⟨oc', q3⟩, q4⟩ := o2
        rw [List.getElem?_set_ne (fun z => ci z.symm)] at q1
        rw [List.getElem?_set_ne (fun z => ck z.symm)] at q3
        exact r.sep i k b ⟨⟨oc, q1⟩, q2⟩ ⟨⟨oc', q3⟩, q4⟩
end
def isHid (j : Nat) (δ : List S) : Bool := match δ[j]? with
  | some .hid => true
  | _ => false
theorem hid_get {j : Nat} {δ : List S} (h : isHid j δ = true) : δ[j]? = some .hid := by
  unfold isHid at h
  split at h
  · assumption
  · cases h
def shwO (j : Nat) (ds : List D) : O → O
  | .next δ => if isHid j δ then .next (δ.set j (.own ds)) else .bad
  | .exc k δ => if isHid j δ then .exc k (δ.set j (.own ds)) else .bad
  | .ret d => .ret d
  | _ => .bad
def forO (t : Tg) (g : List S → O) (j : Nat) (δ : List S) : O := match δ[j]? with
  | some (.ow (.l ds)) => shwO j ds (forD t g ds (δ.set j .hid))
  | _ => .bad
theorem forD_nobrk (t : Tg) (g : List S → O) (δ' : List S) : ∀ (ds : List D) (δ : List S), forD t g ds δ ≠ .brk δ' ∧ forD t g ds δ ≠ .cont δ'
  | [], δ => by simp [forD]
  | d :: ds, δ => by
    unfold forD
    split
    · simp
    · rename_i δ1 _
      cases g δ1 with
      | next δ2 => exact forD_nobrk t g δ' ds δ2
      | cont δ2 => exact forD_nobrk t g δ' ds δ2
      | brk _ => simp
      | ret _ => simp
      | exc _ _ => simp
      | bad => simp
section
variable {X : Cx} {c : Cfg} {tg : Expr} {ss : List Stmt} {pos p2 : Pos} {g : List S → O} {σ : L2.St} {F H : Hp}
theorem for_coreC {t : Tg} {J : It} {ds : List D} {δ : List S} {D : Ends} {C : Hp → Hp → Prop} (hCC : ∀ F2 δ2 σ2 H2, Same F F2 → Rel c.K c.B F2 δ2 σ2 H2 → C F2 H2) (it : ItD c.K C J ds) (r1 : Rel c.K c.B F δ σ H) (a1 : AftS c F (forD t g ds δ) D) : tFor (fun _ _ R => R J H) (gD c t) (tS c g) D σ H := by
    generalize ho : forD t g ds δ = o at a1
    refine ⟨fun i m σ H => m = ds.length - i ∧ i ≤ ds.length ∧ ∃ F2 δ2, Same F F2 ∧ Rel c.K c.B F2 δ2 σ H ∧ forD t g (ds.drop i) δ2 = o, ⟨ds.length, rfl, Nat.zero_le _, F, δ, fun _ _ z => z, r1, ho⟩, ?_⟩
    rintro i m σ2 H2 ⟨rfl, hile, F2, δ2, s2, r2, e2⟩
    have hC : C F2 H2 := hCC F2 δ2 σ2 H2 s2 r2
    by_cases hlt : i < ds.length
    · have hdi : ds[i]? = some ds[i] := List.getElem?_eq_getElem hlt
      rw [List.drop_eq_getElem_cons hlt] at e2
      obtain ⟨hgo, hyld⟩ := it.go i F2 H2 _ hC hdi
      refine .inr ⟨hgo, fun σ' H' => i + 1 ≤ ds.length ∧ ∃ F2 δ2, Same F F2 ∧ Rel c.K c.B F2 δ2 σ' H' ∧ forD t g (ds.drop (i + 1)) δ2 = o, fun σ' H' hn => ⟨ds.length - (i + 1), by omega, rfl, hn⟩, fun x H3 hy => ?_⟩
      obtain ⟨F3, e3, pv⟩ := hyld x H3 hy
      simp only [forD] at e2
      cases qs : setT t ds[i] δ2 with
      | none => rw [qs] at e2; subst e2; exact a1.elim
      | some δ' =>
        rw [qs] at e2
        refine ⟨F3, δ2, _, r2.ext e3, pv, δ', qs, fun σ' r' _ _ => ⟨F3, δ', r', ?_⟩⟩
        have a3 : AftS c F3 o D := AftS.mono a1 (s2.trans e3.ff)
        dsimp only at e2
        cases q : g δ' with
        | next δ'' => rw [q] at e2; exact fun σ' F' H' e r => ⟨hlt, F', δ'', (s2.trans e3.ff).trans e, r, e2⟩
        | cont δ'' => rw [q] at e2; exact fun σ' F' H' e r => ⟨hlt, F', δ'', (s2.trans e3.ff).trans e, r, e2⟩
        | brk δ'' => rw [q] at e2; subst e2; exact a3
        | ret d => rw [q] at e2; subst e2; exact a3
        | exc k δ'' => rw [q] at e2; subst e2; exact a3
        | bad => rw [q] at e2; subst e2; exact a3
    · have e : i = ds.length := by omega
      subst e
      rw [List.drop_length] at e2
      refine .inl ⟨it.stop _ F2 H2 hC (Nat.le_refl _), ?_⟩
      have e2' : O.next δ2 = o := e2
      subst e2'
      exact AftS.mono a1 s2 σ2 F2 H2 (fun _ _ z => z) r2
abbrev Cfg.hd (c : Cfg) (j : Nat) (a : Addr) (vs : List V) : Cfg := { c with B := c.B.hide j a vs }
theorem s_forO {t : Tg} {j : Nat} {nq : Str} (hK : c.K = X.K) (hp : PassesOwn (model X.prog X.w) X.A X.env X.xe) (hc : X.calm = true)
    (hN : X.N[j]? = some nq) (hv : Vis X.env.scope nq) (hd : (nq == ("__debug__" : Str)) = false) (hcd : (nq == ("__classdict__" : Str)) = false)
    (hg : ∀ a vs, PG X tg (gD (c.hd j a vs) t)) (hb : ∀ a vs, PSs X ss (tS (c.hd j a vs) g)) (hs : ∀ x, foldedSetIterable (.Name nq p2) X.env x = pure x) : PS X (.For tg (.Name nq p2) ss [] pos) (tS c (forO t g j)) := ⟨fun pins s σ H E I ⟨F, δ, rl, a⟩ => by
    unfold forO at a
    split at a
    · rename_i ds hδ
      obtain ⟨ad, vs, h1, h2, h3, h4, h5, h6⟩ := rl.own hδ
      have rh := rl.hide hδ h1 h2 h4
      have hu : ∀ {F' : Hp} {δ2 : List S} {σ' : L2.St} {H' : Hp}, Same F F' → isHid j δ2 = true → Rel c.K (c.B.hide j ad vs) F' δ2 σ' H' → Rel c.K c.B F' (δ2.set j (.own ds)) σ' H' := fun sm hh r => r.unhide (hid_get hh) h3 h5 (h6.mono sm)
      have a1 : AftS (c.hd j ad vs) F (forD t g ds (δ.set j .hid)) E := by
        cases ho : forD t g ds (δ.set j .hid) with
        | next δ2 =>
          rw [ho] at a
          unfold shwO at a
          dsimp only at a
          split at a
          · rename_i hh
            exact fun σ' F' H' sm r => a σ' F' H' sm (hu sm hh r)
          · exact a.elim
        | exc k δ2 =>
          rw [ho] at a
          unfold shwO at a
          dsimp only at a
          split at a
          · rename_i hh
            exact fun σ' F' H' sm r => a σ' F' H' sm (hu sm hh r)
          · exact a.elim
        | ret d =>
          rw [ho] at a
          refine fun v F' H' sm eo dv => a v F' H' sm ⟨eo.sub, fun b o e => ?_, fun b o e n => ?_⟩ dv
          · have cc : b ≠ ad := fun z => by subst z; rw [h3] at e; cases e
            refine eo.keep b o ?_
            show upd c.B.G ad (.lst vs) b = some o
            rw [upd_ne cc]; exact e
          · have hx := eo.nw b o e (by show (if b = ad then none else c.B.F0 b) = none; split; rfl; exact n)
            by_cases cc : b = ad
            · subst cc; exact h3
            · have hx' : upd c.B.G ad (.lst vs) b = none := hx
              rw [upd_ne cc] at hx'
              exact hx'
        | brk δ2 => exact absurd ho (forD_nobrk t g δ2 _ _).1
        | cont δ2 => exact absurd ho (forD_nobrk t g δ2 _ _).2
        | bad => rw [ho] at a; exact a.elim
      refine (ps_for hp hc (pi_any (pe_var hN hv hd hcd)) (hg ad vs) (hb ad vs) hs).run pins s σ H E I ?_
      refine ⟨_, h1, .inl ⟨ad, vs, rfl, SqL.of h4, ?_⟩⟩
      refine for_coreC (c := c.hd j ad vs) (C := fun F1 H1 => Same F F1 ∧ Same F1 H1 ∧ H1 ad = some (.lst vs)) (fun F2 δ2 σ2 H2 sm r => ⟨sm, r.sub, r.keep _ _ upd_same⟩) ?_ rh a1
      have : ItD X.K (fun F1 H1 => Same F F1 ∧ Same F1 H1 ∧ H1 ad = some (.lst vs)) (Itl X.K ad) ds := itl_ok' (fun F1 H1 h => ⟨h.1, h.2.1, SqL.of h.2.2⟩) (by rw [← hK]; exact h6)
      rw [← hK] at this ⊢
      exact this
    · exact a.elim⟩
end
end PD
namespace PD
open PySem PySem.Spec PyProof.Rows L2
def isNonD : D → Bool
  | .non => true
  | _ => false
def fIsn (neg : Bool) (f : List S → R D) : List S → R D := fun δ => (f δ).bind fun a => .ok (.bl (if neg then !isNonD a else isNonD a))
theorem non_iff {K : PySem.W.Frag} {F H : Hp} {v : V} {d : D} (h : DVB K F H v d) : decide (v = .non) = isNonD d := by
  rcases h with h | ⟨a, vs, ds, rfl, rfl, _⟩
  · cases h <;> simp [isNonD]
  · simp [isNonD]
def Cmp.isOp (neg : Bool) : CmpOp := if neg then .IsNot else .Is
section
variable {X : Cx} {c : Cfg} {x : Expr} {pos p : Pos} {k : Nat} {f : List S → R D}
theorem e_isn (neg : Bool) (hx : PE X x (tB c f)) : PE X (.Compare x [Cmp.isOp neg] [.Constant .none k p] pos) (tD c (fIsn neg f)) := by
  cases neg with
  | false => exact (pe_cmp (pc_isN hx) rfl).impD fun σ H Q ⟨F, δ, rl, a⟩ => ⟨F, δ, rl, (a.bind anti_D).mono fun u H1 ⟨du, F1, e1, p1, a1⟩ => by
      rw [non_iff p1]; exact a1.ret e1.fh (.bl _)⟩
  | true => exact (pe_cmp (pc_notN hx) rfl).impD fun σ H Q ⟨F, δ, rl, a⟩ => ⟨F, δ, rl, (a.bind anti_D).mono fun u H1 ⟨du, F1, e1, p1, a1⟩ => by
      rw [non_iff p1]; exact a1.ret e1.fh (.bl _)⟩
theorem t_isn (neg : Bool) (hx : PE X x (tB c f)) : PT X (.Compare x [Cmp.isOp neg] [.Constant .none k p] pos) (tT c (fTru (fIsn neg f))) := by
  have red : ∀ {σ : L2.St} {F H : Hp} {δ : List S} {Q : Bool → Hp → Prop}, Aft c σ pT F H (fTru (fIsn neg f) δ) Q → Aft c σ pT F H ((f δ).bind fun a => .ok (if neg then !isNonD a else isNonD a)) Q := fun {σ F H δ Q} a => by
    unfold fTru fIsn at a
    cases q : f δ with
    | ok d => simp only [q, R.bind_ok, R.of, truD] at a ⊢; exact a
    | exc k => simp only [q, R.bind_exc] at a ⊢; exact a
    | bad => simp only [q, R.bind_bad] at a ⊢; exact a
  cases neg with
  | false => exact (pt_cmp (pc_isN hx) rfl).impD fun σ H Q ⟨F, δ, rl, a⟩ => ⟨F, δ, rl, ((red a).bind anti_T).mono fun u H1 ⟨du, F1, e1, p1, a1⟩ => by
      rw [non_iff p1]; exact ⟨_, rfl, a1.ret e1.fh rfl⟩⟩
  | true => exact (pt_cmp (pc_notN hx) rfl).impD fun σ H Q ⟨F, δ, rl, a⟩ => ⟨F, δ, rl, ((red a).bind anti_T).mono fun u H1 ⟨du, F1, e1, p1, a1⟩ => by
      rw [non_iff p1]; exact ⟨_, rfl, a1.ret e1.fh rfl⟩⟩
end
mutual
inductive IE where
  | var (i : Nat) | con (d : D) | glb (j : Nat)
  | bin (o : AOp) (a b : IE) | cmp (o : COp) (a b : IE) | chain (o o' : COp) (a b c : IE) | isn (neg : Bool) (a : IE)
  | bop (and : Bool) (es : IEs) | not (a : IE) | neg (a : IE) | ife (t a b : IE)
  | tup (es : IEs) | lst (es : IEs) | idx (a b : IE) | cut (a : IE) (lo hi : IO)
  | bf (b : Bf) (es : IEs) | isi (t : Ty) (a : IE) | ise (i j : Nat) | call (j : Nat) (es : IEs)
  | lc (own : List (Str × Nat)) (t : Tg) (it : II) (tst : IO) (el : IE)
  | lset (a : IE) | sset (a : IE) | call0 (j : Nat) | join (a b : IE)
  | stp (a : IE) (lo hi st : IO) | ixo (a b : IE) | minp (a : IE)
  | din (neg : Bool) (a : IE) (i : Nat) | dget (i : Nat) (a : IE) | dlen (i : Nat) | dgd (i : Nat) (a b : IE)
inductive IEs where
  | nil | cons (a : IE) (r : IEs)
inductive IO where
  | no | yes (a : IE)
inductive II where
  | any (a : IE) | rng1 (a : IE) | rng2 (a b : IE) | enm (a : IE) | zip (a b : IE) | dit (i : Nat)
end
/-- what a term leans on -/
structure Gam where
  fn : Nat → List D → R D
  gl : Nat → Option D
  sub : Nat → Nat → Option Bool
  own : Nat → Bool
structure Ev where
  E : List S → R D
  B : List S → R D
  N : List S → R (List D)
  T : List S → R Bool
structure Evs where
  A : List S → R (List D)
  AB : List S → R (List D)
  E : Bool → List S → R D
  T : Bool → List S → R Bool
structure Evo where
  P : List S → R (Option Int)
  T : List S → R Bool
structure Evi where
  B : List S → R (List D)
  F : List S → R (List D)
def ofE (f : List S → R D) : Ev := ⟨f, f, fun _ => .bad, fTru f⟩
def ofN (n : List S → R (List D)) : Ev := ⟨fun δ => mapL (n δ), fun δ => mapL (n δ), n, fTru fun δ => mapL (n δ)⟩
def isNew : Bf → Bool
  | .list => true
  | .sorted => true
  | _ => false
def iseF (Γ : Gam) (su : Bool) (i j : Nat) : List S → R D := fun δ => if su then (match δ[i]? with
  | some (.exc k) => (R.of (Γ.sub k j)).bind fun b => .ok (.bl b)
  | _ => .bad) else .bad
mutual
def ev (Γ : Gam) (su : Bool) : IE → Ev
  | .var i => ⟨fun δ => slD δ i, fun δ => slB δ i, fun _ => .bad, fTru fun δ => slB δ i⟩
  | .con d => ofE fun _ => .ok d
  | .glb j => ofE fun _ => R.of (Γ.gl j)
  | .bin .add a b => let x := ev Γ su a; let y := ev Γ su b; ⟨fBin .add x.B y.B, fBin .add x.B y.B, fCat x.B y.B, fTru (fBin .add x.B y.B)⟩
  | .bin .mul a b => let x := ev Γ su a; let y := ev Γ su b; ⟨fBin .mul x.B y.B, fBin .mul x.B y.B, fRep x.B y.B, fTru (fBin .mul x.B y.B)⟩
  | .bin o a b => ofE (fBin o (ev Γ su a).B (ev Γ su b).B)
  | .cmp o a b => ofE (fCmp o (ev Γ su a).B (ev Γ su b).B)
  | .chain o o' a b c => ofE (fChain o o' (ev Γ su a).B (ev Γ su b).B (ev Γ su c).B)
  | .isn n a => ofE (fIsn n (ev Γ su a).B)
  | .bop k es => let x := evs Γ su es; ⟨x.E k, x.E k, fun _ => .bad, x.T k⟩
  | .not a => let x := ev Γ su a; ⟨fNot x.B, fNot x.B, fun _ => .bad, fTNot x.T⟩
  | .neg a => ofE (fNeg (ev Γ su a).B)
  | .ife t a b => let z := ev Γ su t; let x := ev Γ su a; let y := ev Γ su b; ⟨fIf z.T x.E y.E, fIf z.T x.B y.B, fIf z.T x.N y.N, fun _ => .bad⟩
  | .tup es => ofE (fTup (evs Γ su es).A)
  | .lst es => ofN (fLst (evs Γ su es).A)
  | .idx a b => ofE (fIdx (ev Γ su a).B (ev Γ su b).B)
  | .cut a lo hi => let x := ev Γ su a; let l := evo Γ su lo; let h := evo Γ su hi; ⟨fCut x.B l.P h.P, fCut x.B l.P h.P, fCutN x.B l.P h.P, fTru (fCut x.B l.P h.P)⟩
  | .bf b es => if su then ofE (fun _ => .bad) else if isNew b then ofN (fNew b (evs Γ su es).AB) else ofE (fBf b (evs Γ su es).AB)
  | .isi t a => ofE (fIsi t (ev Γ su a).B)
  | .ise i j => ofE (iseF Γ su i j)
  | .call j es => if su then ofE (fun _ => .bad) else ofE (fCall (Γ.fn j) (evs Γ su es).A)
  | .lc own t it tst el => if su then ofE (fun _ => .bad) else ofN (fLc (own.map (·.2)) t (evi Γ su it).B (evo Γ su tst).T (ev Γ su el).E)
  | .lset a => if su then ofE (fun _ => .bad) else let x := ev Γ su a; ofE (fun δ => (x.B δ).bind fun d => R.of (lsetD d))
  | .sset a => if su then ofE (fun _ => .bad) else let x := ev Γ su a; ofN (fun δ => (x.B δ).bind fun d => R.of (ssetD d))
  | .call0 j => if su then ofE (fun _ => .bad) else ofE (fun _ => Γ.fn j [])
  | .join a b => let x := ev Γ su a; let y := ev Γ su b; ofE (fun δ => (x.B δ).bind fun a => (isStr a).bind fun s => (y.B δ).bind fun b => R.of (joinS s b))
  | .stp a lo hi st => let x := ev Γ su a; let l := evo Γ su lo; let h := evo Γ su hi; let w := evo Γ su st; ofN (fStpN x.B l.P h.P w.P)
  | .ixo a b => ofE (fIxo (ev Γ su a).B (ev Γ su b).B)
  | .din neg a i => let x := ev Γ su a; ofE (fun δ => (x.B δ).bind fun a => (slC δ i).bind fun q => (R.of (keyOf a)).bind fun k => .ok (.bl (if neg then !(findK k q.1 q.2).isSome else (findK k q.1 q.2).isSome)))
  | .dget i a => let x := ev Γ su a; ofE (fun δ => (slC δ i).bind fun q => (x.B δ).bind fun b => (R.of (keyOf b)).bind fun k => R.of (findK k q.1 q.2))
  | .dlen i => if su then ofE (fun _ => .bad) else ofE (fun δ => (slC δ i).bind fun q => .ok (.int ((q.1.length : Nat) : Int)))
  | .dgd i a b => let x := ev Γ su a; let y := ev Γ su b; ofE (fun δ => (slC δ i).bind fun q => (x.B δ).bind fun kd => (y.E δ).bind fun d => (R.of (keyOf kd)).bind fun k => .ok ((findK k q.1 q.2).getD d))
  | .minp a => if su then ofE (fun _ => .bad) else let x := ev Γ su a; ofE (fun δ => (x.B δ).bind fun d => R.of (minPD d))
def evs (Γ : Gam) (su : Bool) : IEs → Evs
  | .nil => ⟨fNil, fNil, fun _ _ => .bad, fun _ _ => .bad⟩
  | .cons a r => let x := ev Γ su a; let y := evs Γ su r
    ⟨fCons x.E y.A, fCons x.B y.AB,
      fun k => match r with
        | .nil => x.E
        | .cons _ _ => if k then fAnd x.E (y.E k) else fOr x.E (y.E k),
      fun k => match r with
        | .nil => x.T
        | .cons _ _ => if k then fTAnd x.T (y.T k) else fTOr x.T (y.T k)⟩
def evo (Γ : Gam) (su : Bool) : IO → Evo
  | .no => ⟨fun _ => .ok none, fun _ => .ok true⟩
  | .yes a => let x := ev Γ su a; ⟨fun δ => (x.B δ).bind intOf, x.T⟩
def evi (Γ : Gam) (su : Bool) : II → Evi
  | .any a => let x := ev Γ su a; ⟨fun δ => (x.B δ).bind itemsD, fun δ => (x.E δ).bind itemsD⟩
  | .rng1 a => let x := ev Γ su a; ⟨fun δ => (x.B δ).bind rng1, fun δ => (x.B δ).bind rng1⟩
  | .rng2 a b => let x := ev Γ su a; let y := ev Γ su b; ⟨fun δ => (x.B δ).bind fun a => (y.B δ).bind fun b => rng2 a b, fun δ => (x.B δ).bind fun a => (y.B δ).bind fun b => rng2 a b⟩
  | .enm a => if su then ⟨fun _ => .bad, fun _ => .bad⟩ else let x := ev Γ su a; ⟨fun δ => (x.B δ).bind enumD, fun δ => (x.E δ).bind enumD⟩
  | .zip a b => if su then ⟨fun _ => .bad, fun _ => .bad⟩ else let x := ev Γ su a; let y := ev Γ su b; ⟨fun δ => (x.B δ).bind fun a => (y.B δ).bind fun b => zipD a b, fun δ => (x.E δ).bind fun a => (y.E δ).bind fun b => zipD a b⟩
  | .dit i => if su then ⟨fun _ => .bad, fun _ => .bad⟩ else ⟨fun δ => (slC δ i).bind dkeysD, fun δ => (slCF δ i).bind dkeysD⟩
end
structure Ctx where
  N : List Str
  sc : Scope
  blk : Option Scope
  fnN : List Str
  glN : List Str
  clN : List Str
def Ctx.fnB (q : Ctx) (x : Str) : Bool := match q.blk with
  | none => true
  | some s => s.names.lookup x == some .cell
def Ctx.inner (q : Ctx) (scope : Scope) : Ctx := { q with sc := relS scope q.sc, blk := some scope }
def visB (sc : Scope) (x : Str) : Bool := match sc.names.lookup x with
  | some .local => true
  | some .cell => true
  | some .free => true
  | _ => false
def locB (sc : Scope) (x : Str) : Bool := match sc.names.lookup x with
  | some .local => true
  | some .cell => true
  | _ => false
def glB (sc : Scope) (x : Str) : Bool := match sc.names.lookup x with
  | some .globalImplicit => true
  | _ => false
def plainN (x : Str) : Bool := !(x == ("__debug__" : Str)) && !(x == ("__classdict__" : Str))
def storeB (q : Ctx) (x : Str) : Bool := locB q.sc x && (q.fnB x || (match q.sc.names.lookup x with | some .local => true | _ => false))
def conB : D → Const → Bool
  | .non, .none => true
  | .bl b, .bool b' => b == b'
  | .int i, .int j => i == j
  | .str l, .str x => (x == mkS l) && okS l && decide (l.length ≤ szN)
  | _, _ => false
def notSet : Expr → Bool
  | .Set .. => false
  | _ => true
def isTupE : Expr → Bool
  | .Tuple _ _ _ => true
  | _ => false
def chkNs (q : Ctx) : List Nat → List Expr → Bool
  | [], es => es.isEmpty
  | i :: is, es => match es with
    | .Name x _ :: es => decide (q.N[i]? = some x) && storeB q x && chkNs q is es
    | _ => false
def chkT (q : Ctx) : Tg → Expr → Bool
  | .nm i, e => match e with
    | .Name x _ => decide (q.N[i]? = some x) && storeB q x
    | _ => false
  | .tup is, e => match e with
    | .Tuple es _ _ => chkNs q is es
    | _ => false
mutual
def chk (q : Ctx) : IE → Expr → Bool
  | .var i, e => match e with
    | .Name x _ => decide (q.N[i]? = some x) && visB q.sc x && plainN x
    | _ => false
  | .con d, e => match e with
    | .Constant k _ _ => conB d k
    | _ => false
  | .glb j, e => match e with
    | .Name x _ => decide (q.glN[j]? = some x) && glB q.sc x && plainN x
    | _ => false
  | .bin o a b, e => match e with
    | .BinOp x op y _ => decide (op = o.op) && chk q a x && chk q b y
    | _ => false
  | .cmp o a b, e => match e with
    | .Compare x [op] [y] _ => decide (op = o.op) && chk q a x && chk q b y && notSet y
    | _ => false
  | .chain o o' a b c, e => match e with
    | .Compare x [op, op'] [y, z] _ => decide (op = o.op) && decide (op' = o'.op) && chk q a x && chk q b y && chk q c z && notSet z
    | _ => false
  | .isn n a, e => match e with
    | .Compare x [op] [.Constant .none _ _] _ => decide (op = Cmp.isOp n) && chk q a x
    | _ => false
  | .bop k es, e => match e with
    | .BoolOp op vs _ => decide (op = if k then .And else .Or) && chks q es vs
    | _ => false
  | .not a, e => match e with
    | .UnaryOp .Not x _ => chk q a x
    | _ => false
  | .neg a, e => match e with
    | .UnaryOp .USub x _ => chk q a x
    | _ => false
  | .ife t a b, e => match e with
    | .IfExp z x y _ => chk q t z && chk q a x && chk q b y
    | _ => false
  | .tup es, e => match e with
    | .Tuple vs _ _ => chks q es vs
    | _ => false
  | .lst es, e => match e with
    | .List vs _ => chks q es vs
    | _ => false
  | .idx a b, e => match e with
    | .Subscript x y _ => chk q a x && chk q b y && noSlice y
    | _ => false
  | .cut a lo hi, e => match e with
    | .Subscript x (.Slice l h none _) _ => chk q a x && chko q lo l && chko q hi h
    | _ => false
  | .bf b es, e => match e with
    | .Call (.Name x _) (v :: vs) [] _ => decide (x = b.nm) && glB q.sc x && chks q es (v :: vs)
    | _ => false
  | .isi t a, e => match e with
    | .Call (.Name x _) [y, .Name z _] [] _ => decide (x = ("isinstance" : Str)) && glB q.sc x && decide (z = t.nm) && glB q.sc z && chk q a y
    | _ => false
  | .ise i j, e => match e with
    | .Call (.Name x _) [.Name y _, .Name z _] [] _ => decide (x = ("isinstance" : Str)) && glB q.sc x && decide (q.N[i]? = some y) && visB q.sc y && plainN y && decide (q.clN[j]? = some z) && glB q.sc z && plainN z
    | _ => false
  | .call j es, e => match e with
    | .Call (.Name x _) (v :: vs) [] _ => decide (q.fnN[j]? = some x) && glB q.sc x && plainN x && chks q es (v :: vs)
    | _ => false
  | .lc own t it tst el, e => match e with
    | .ListComp e [⟨tg, iter, ifs, a⟩] scope _ => decide (a = 0) && blkC q.N q.sc scope own && chki q it tg iter && chkT (q.inner scope) t tg && chkf (q.inner scope) tst ifs && chk (q.inner scope) el e && (t.slots.all fun j => decide (j ∈ own.map (·.2)))
    | _ => false
  | .lset a, e => match e with
    | .Call (.Name x _) [.Call (.Name z _) [y] [] _] [] _ => decide (x = ("len" : Str)) && glB q.sc x && decide (z = ("set" : Str)) && glB q.sc z && chk q a y
    | _ => false
  | .sset a, e => match e with
    | .Call (.Name x _) [.Call (.Name z _) [y] [] _] [] _ => decide (x = ("sorted" : Str)) && glB q.sc x && decide (z = ("set" : Str)) && glB q.sc z && chk q a y
    | _ => false
  | .call0 j, e => match e with
    | .Call (.Name x _) [] [] _ => decide (q.fnN[j]? = some x) && glB q.sc x && plainN x
    | _ => false
  | .join a b, e => match e with
    | .Call (.Attribute x nm apos) [y] [] pos => decide (nm = ("join" : Str)) && chk q a x && chk q b y && noSup x && (apos.endLine == pos.line)
    | _ => false
  | .stp a lo hi st, e => match e with
    | .Subscript x (.Slice l h (some w) _) _ => chk q a x && chko q lo l && chko q hi h && chko q st (some w)
    | _ => false
  | .din neg a i, e => match e with
    | .Compare x [op] [.Name nm _] _ => decide (op = if neg then .NotIn else .In) && chk q a x && decide (q.N[i]? = some nm) && visB q.sc nm && plainN nm
    | _ => false
  | .dget i a, e => match e with
    | .Subscript (.Name nm _) y _ => chk q a y && noSlice y && decide (q.N[i]? = some nm) && visB q.sc nm && plainN nm
    | _ => false
  | .dlen i, e => match e with
    | .Call (.Name x _) [.Name nm _] [] _ => decide (x = ("len" : Str)) && glB q.sc x && decide (q.N[i]? = some nm) && visB q.sc nm && plainN nm
    | _ => false
  | .dgd i a b, e => match e with
    | .Call (.Attribute (.Name nm _) m apos) [x, y] [] pos => decide (m = ("get" : Str)) && decide (q.N[i]? = some nm) && visB q.sc nm && plainN nm && (apos.endLine == pos.line) && chk q a x && chk q b y
    | _ => false
  | .minp a, e => match e with
    | .Call (.Name x _) [y] [] _ => decide (x = ("min" : Str)) && glB q.sc x && chk q a y
    | _ => false
  | .ixo a b, e => match e with
    | .Call (.Attribute x nm apos) [y] [] pos => decide (nm = ("index" : Str)) && chk q a x && chk q b y && noSup x && (apos.endLine == pos.line)
    | _ => false
def chks (q : Ctx) : IEs → List Expr → Bool
  | .nil, es => es.isEmpty
  | .cons a r, es => match es with
    | x :: xs => chk q a x && chks q r xs
    | _ => false
def chko (q : Ctx) : IO → Option Expr → Bool
  | .no, e => e.isNone
  | .yes a, e => match e with
    | some x => chk q a x
    | _ => false
def chkf (q : Ctx) : IO → List Expr → Bool
  | .no, e => e.isEmpty
  | .yes a, e => match e with
    | [x] => chk q a x
    | _ => false
def chki (q : Ctx) : II → Expr → Expr → Bool
  | .any a, _, x => chk q a x && notSet x
  | .rng1 a, _, e => match e with
    | .Call (.Name n _) [x] [] _ => decide (n = ("range" : Str)) && glB q.sc n && chk q a x
    | _ => false
  | .rng2 a b, _, e => match e with
    | .Call (.Name n _) [x, y] [] _ => decide (n = ("range" : Str)) && glB q.sc n && chk q a x && chk q b y
    | _ => false
  | .enm a, tg, e => match e with
    | .Call (.Name n _) [x] [] _ => decide (n = ("enumerate" : Str)) && glB q.sc n && chk q a x && isTupE tg
    | _ => false
  | .zip a b, tg, e => match e with
    | .Call (.Name n _) [x, y] [] _ => decide (n = ("zip" : Str)) && glB q.sc n && chk q a x && chk q b y && isTupE tg
    | _ => false
  | .dit i, _, e => match e with
    | .Name nm _ => decide (q.N[i]? = some nm) && visB q.sc nm && plainN nm
    | _ => false
end
end PD
namespace PD
open PySem PySem.Spec PyProof.Rows L2
def bNames : List Str := ["len", "int", "str", "list", "tuple", "sorted", "min", "max", "sum", "isinstance", "range", "bool", "enumerate", "zip", "set"]
structure GamOk (P : Program) (w : World) (K : PySem.W.Frag) (mg : Str → Option Value) (base : Heap) (Γ : Gam) (q : Ctx) (cv : Nat → Value) (k : Nat) : Prop where
  fn : ∀ j nm, q.fnN[j]? = some nm → FnD P w K mg base cv k nm (Γ.fn j)
  gl : ∀ j nm, q.glN[j]? = some nm → ∀ d, Γ.gl j = some d → ∃ v u, mg nm = some u ∧ RelV v u ∧ ∀ F, DV K F v d
  bi : ∀ nm ∈ bNames, mg nm = none
  nm : ∀ j nm, q.clN[j]? = some nm → mg nm = some (cv j) ∨ (mg nm = none ∧ bootBuiltins nm = some (cv j) ∧ nm ≠ "__name__")
  exc : ∀ j nm, q.clN[j]? = some nm → Γ.own j = true → ∃ C, cv j = .ref C ∧ mg nm = some (.ref C) ∧ PySem.W.excIn K C [.type "ValueError", .type "Exception", .type "BaseException", .type "object"] "ValueError.__new__" = true ∧ PySem.W.keepIn K (.ref C) = true ∧
    PySem.W.subIn K (.ref C) (.type "BaseException") = some true ∧ PySem.W.typeIn K (.ref C) = some (.type "type")
  xm : ∀ k j b, Γ.sub k j = some b → PySem.W.exmOne K (cv k) (cv j) = some b
  kit : ∀ k j b, Γ.sub k j = some b → ∃ E, cv k = .ref E ∧ ExcC K E ∧ PySem.W.kitOne K (cv k) (cv j) = some b ∧ ∃ v, RelV v (cv j) ∧ ∀ u, RelV v u → u = cv j
/-- the names of a block are those of the def -/
theorem GamOk.inner {P : Program} {w : World} {K : PySem.W.Frag} {mg : Str → Option Value} {base : Heap} {Γ : Gam} {q : Ctx} {cv : Nat → Value} {k : Nat} (g : GamOk P w K mg base Γ q cv k) (s : Scope) : GamOk P w K mg base Γ (q.inner s) cv k :=
  ⟨g.fn, g.gl, g.bi, g.nm, g.exc, g.xm, g.kit⟩
structure Good (X : Cx) (c : Cfg) (Γ : Gam) (q : Ctx) (su : Bool) (k : Nat) : Prop where
  hK : c.K = X.K
  hN : X.N = q.N
  nd : X.N.Nodup
  hsc : X.env.scope = q.sc
  hfn : ∀ x, q.fnB x = true → X.fn x = true
  un : X.A.units + 64 < cLine
  tk : Takes X c.W
  gm : GamOk X.prog X.w X.K X.mg X.base Γ q c.cv k
  rm : su = false → Room k X.A
  cal : su = false → X.calm = true
  ise : su = true → ∃ (a : Addr) (oe : Obj) (pn : List (Addr × Obj)) (Y : Cx), X = Y.suite a ((a, oe) :: pn) ∧ c.B.ea = a ∧ Zc (c.cv c.B.ek) none oe ∧ ∃ vs, oe.data = .fields vs
section
variable {X : Cx} {c : Cfg} {Γ : Gam} {q : Ctx} {su : Bool} {k : Nat} {e : Expr}
theorem pe_bad {α : Type} {P : Hp → Hp → Hp → V → α → Prop} : PE X e (tG c P fun _ => .bad) := ⟨fun _ _ _ _ _ _ ⟨_, _, _, a⟩ => a.elim⟩
theorem pt_bad : PT X e (tT c fun _ => .bad) := ⟨fun _ _ _ _ _ _ ⟨_, _, _, a⟩ => a.elim⟩
theorem vis_of {sc : Scope} {x : Str} (h : visB sc x = true) : Vis sc x := by
  unfold visB at h
  split at h
  · exact .inl (by assumption)
  · exact .inr (.inl (by assumption))
  · exact .inr (.inr (by assumption))
  · cases h
theorem loc_of {sc : Scope} {x : Str} (h : locB sc x = true) : Loc sc x := by
  unfold locB at h
  split at h
  · exact .inl (by assumption)
  · exact .inr (by assumption)
  · cases h
theorem gl_of (G : Good X c Γ q su k) {x : Str} (h : glB q.sc x = true) : Gl X x := by
  unfold glB at h
  split at h
  · show X.env.scope.names.lookup x = _
    rw [G.hsc]; assumption
  · cases h
theorem plain_of {x : Str} (h : plainN x = true) : (x == ("__debug__" : Str)) = false ∧ (x == ("__classdict__" : Str)) = false := by
  simp only [plainN, Bool.and_eq_true, Bool.not_eq_true'] at h
  exact h
theorem store_of (G : Good X c Γ q su k) {x : Str} (h : storeB q x = true) : Loc X.env.scope x ∧ (X.fn x = true ∨ X.env.scope.names.lookup x = some .local) := by
  simp only [storeB, Bool.and_eq_true, Bool.or_eq_true] at h
  rw [G.hsc]
  refine ⟨loc_of h.1, ?_⟩
  rcases h.2 with z | z
  · exact .inl (G.hfn x z)
  · refine .inr ?_
    split at z
    · assumption
    · cases z
theorem bi_of (G : Good X c Γ q su k) {x : Str} (h : x ∈ bNames) : X.mg x = none := G.gm.bi x h
/-- everything of an expression that is no list of its own -/
structure Snd (X : Cx) (c : Cfg) (e : Expr) (v : Ev) : Prop where
  E : PE X e (tD c v.E)
  B : PE X e (tB c v.B)
  N : PE X e (tN c v.N)
  T : PT X e (tT c v.T)
theorem snd_e {f : List S → R D} (hK : c.K = X.K) (h : PE X e (tD c f)) (hp : plainT e = true) : Snd X c e (ofE f) := ⟨h, e_b h, pe_bad, t_val hK (e_b h) hp⟩
theorem snd_n {f : List S → R (List D)} (hK : c.K = X.K) (h : PE X e (tN c f)) (hp : plainT e = true) : Snd X c e (ofN f) := ⟨n_e h, e_b (n_e h), h, t_val hK (e_b (n_e h)) hp⟩
theorem notSet_of (h : notSet e = true) : ∀ es k p, e ≠ .Set es k p := by
  intro es k p z
  subst z
  simp [notSet] at h
theorem folded_of {env : Env} (h : notSet e = true) (x : Value) : foldedSetIterable e env x = pure x := by
  cases e <;> first | rfl | (simp [notSet] at h; done)
theorem chk_star {ir : IE} (h : chk q ir e = true) : noStar e = true := by
  cases e <;> first | rfl | skip
  cases ir <;> simp [chk] at h
theorem chks_star : ∀ {r : IEs} {es : List Expr}, chks q r es = true → es.all noStar = true
  | .nil, es, h => by
    simp only [chks, List.isEmpty_iff] at h
    subst h; rfl
  | .cons a r, es, h => by
    simp only [chks] at h
    split at h
    · simp only [Bool.and_eq_true] at h
      simp only [List.all_cons, Bool.and_eq_true]
      exact ⟨chk_star h.1, chks_star h.2⟩
    · cases h
theorem e_ise {i j : Nat} {y z : Str} {p p1 p2 pos : Pos} (G : Good X c Γ q su k) (hg : Gl X "isinstance") (hi : X.N[i]? = some y) (hv : Vis X.env.scope y) (hd : plainN y = true) (hj : q.clN[j]? = some z) (hz : Gl X z) (hdz : plainN z = true) :
    PE X (.Call (.Name "isinstance" p) [.Name y p1, .Name z p2] [] pos) (tD c (iseF Γ su i j)) := by
  cases su with
  | false => exact pe_bad
  | true =>
    obtain ⟨a, oe, pn, Y, rfl, ea, hz2, hf⟩ := G.ise rfl
    refine ⟨fun pins s σ H Q I h => ?_⟩
    obtain ⟨F, δ, rl, af⟩ := h
    dsimp only [iseF] at af
    rw [if_pos rfl] at af
    cases qi : δ[i]? with
    | none => rw [qi] at af; exact af.elim
    | some sl =>
      rw [qi] at af
      cases sl with
      | exc k' =>
        dsimp only at af
        obtain ⟨v, z1, z2, z3⟩ := rl.slot i _ qi
        cases qs : Γ.sub k' j with
        | none => rw [qs] at af; exact af.elim
        | some b =>
          rw [qs] at af
          subst z3
          obtain ⟨E, e1, e2, e3, w, e4, e5⟩ := G.gm.kit _ _ _ qs
          have hzE : Zc (.ref E) none oe := by rw [← e1]; exact hz2
          have hpz : PE (Y.suite a ((a, oe) :: pn)) (.Name z p2) (tC w) := by
            rcases G.gm.nm j z hj with h1 | ⟨h1, h2, h3⟩
            · exact pe_glob hz h1 e4 (plain_of hdz).1
            · exact pe_bltn hz h1 h2 e4 h3 (plain_of hdz).1
          refine (pe_callB (call_isE e2 hzE hf) hg (bi_of G (by decide)) (by decide +kernel) (pa_cons (pe_var hi hv (plain_of hd).1 (plain_of hd).2) (pa_cons hpz pa_nil)) (by decide) (by decide) rfl rfl).run pins s σ H Q I ?_
          refine ⟨_, by rw [z1, z2], w, c.cv j, b, by rw [ea], e5, by rw [← e1]; exact e3, ?_⟩
          exact af.ret (v := .bl b) rl.sub (.bl b)
      | none => exact af.elim
      | dat _ => exact af.elim
      | ow _ => exact af.elim
      | hid => exact af.elim
end
end PD
namespace PD
open PySem PySem.Spec PyProof.Rows L2
structure SndA (X : Cx) (c : Cfg) (es : List Expr) (v : Evs) : Prop where
  A : PA X es (tAD c v.A)
  AB : PA X es (tAB c v.AB)
  E : ∀ (k : Bool) (pos : Pos), PE X (.BoolOp (if k then .And else .Or) es pos) (tD c (v.E k))
  T : ∀ (k : Bool) (pos : Pos), PW X (.BoolOp (if k then .And else .Or) es pos) (tT c (v.T k))
structure SndI (X : Cx) (c : Cfg) (tg e : Expr) (v : Evi) : Prop where
  B : PI X tg e (tI c Cb v.B)
  F : PI X tg e (tI c (fun F' _ => Cf F') v.F)
theorem pw_bad {X : Cx} {c : Cfg} {e : Expr} : PW X e (tT c fun _ => .bad) := ⟨fun _ _ _ _ _ _ _ ⟨_, _, _, a⟩ => a.elim⟩
section
variable {X : Cx} {c : Cfg} {Γ : Gam} {q : Ctx} {su : Bool} {k : Nat} {e : Expr}
theorem Good.blk (G : Good X c Γ q false k) (s : Shared) (H : Hp) (scope : Scope) (C : Addr) (cl : List (Str × Addr)) (fp : List Addr) : Good (X.blk s H scope (compEnvC scope cl C X.env) fp) c.blk Γ (q.inner scope) false k where
  hK := G.hK
  hN := G.hN
  nd := G.nd
  hsc := by
    show relS scope X.env.scope = relS scope q.sc
    rw [G.hsc]
  hfn := fun x h => h
  un := G.un
  tk := takes0
  gm := G.gm.inner scope
  rm := G.rm
  cal := G.cal
  ise := fun h => by cases h
theorem names_of (G : Good X c Γ q su k) : ∀ {is : List Nat} {es : List Expr}, chkNs q is es = true → NamesOk X es is
  | [], es, h => by
    simp only [chkNs, List.isEmpty_iff] at h
    subst h; exact .nil
  | i :: is, es, h => by
    simp only [chkNs] at h
    split at h
    · simp only [Bool.and_eq_true, decide_eq_true_eq] at h
      obtain ⟨⟨h1, h2⟩, h3⟩ := h
      obtain ⟨s1, s2⟩ := store_of G h2
      exact .cons (by rw [G.hN]; exact h1) s1 s2 (names_of G h3)
    · cases h
theorem pg_of (G : Good X c Γ q false k) {t : Tg} {tg : Expr} (h : chkT q t tg = true) : PG X tg (gD c t) := by
  cases t with
  | nm i =>
    simp only [chkT] at h
    split at h
    · simp only [Bool.and_eq_true, decide_eq_true_eq] at h
      obtain ⟨s1, s2⟩ := store_of G h.2
      exact g_nm G.nd (by rw [G.hN]; exact h.1) s1 s2
    · cases h
  | tup is =>
    simp only [chkT] at h
    split at h
    · exact g_tup G.hK (G.cal rfl) G.nd (names_of G h)
    · cases h
theorem dv_con {K : PySem.W.Frag} {d : D} {x : Const} (h : conB d x = true) : (∃ v, (∀ F, DV K F v d) ∧ ∀ (X : Cx) (n : Nat) (p : Pos), PE X (.Constant x n p) (tC v)) := by
  cases d <;> cases x <;> simp [conB] at h
  · exact ⟨.non, fun _ => .non, fun _ _ _ => pe_non⟩
  · subst h; exact ⟨.bl _, fun _ => .bl _, fun _ _ _ => pe_bl⟩
  · subst h; exact ⟨.int _, fun _ => .int _, fun _ _ _ => pe_int⟩
  · obtain ⟨⟨h1, h2⟩, h3⟩ := h
    subst h1
    exact ⟨.str (mkS _), fun _ => .str _ h2 (by rw [szN_eq]; exact h3), fun _ _ _ => pe_str⟩
theorem chki_set {it : II} {tg : Expr} (h : chki q it tg e = true) : notSet e = true := by
  cases it <;> simp only [chki] at h
  · simp only [Bool.and_eq_true] at h; exact h.2
  all_goals
    split at h
    · rfl
    · cases h
theorem bf_ok {b : Bf} {es : List Expr} {x : Expr} {fs : List S → R (List D)} {p pos : Pos} (G : Good X c Γ q false k) (hg : Gl X b.nm) (ha : PA X (x :: es) (tAB c fs)) (hs : (x :: es).all noStar = true) (hn : isNew b = false) : PE X (.Call (.Name b.nm p) (x :: es) [] pos) (tD c (fBf b fs)) := by
  cases b with
  | len => exact bf_len G.hK hg (bi_of G (by decide)) ha hs
  | int => exact bf_int G.hK hg (bi_of G (by decide)) ha hs
  | str => exact bf_str hg (bi_of G (by decide)) ha hs
  | tuple => exact bf_tuple G.hK hg (bi_of G (by decide)) ha hs
  | min => exact bf_min (G.cal rfl) hg (bi_of G (by decide)) ha hs
  | max => exact bf_max (G.cal rfl) hg (bi_of G (by decide)) ha hs
  | sum => exact bf_sum (G.cal rfl) hg (bi_of G (by decide)) ha hs
  | list => cases hn
  | sorted => cases hn
theorem bn_ok {b : Bf} {es : List Expr} {x : Expr} {fs : List S → R (List D)} {p pos : Pos} (G : Good X c Γ q false k) (hg : Gl X b.nm) (ha : PA X (x :: es) (tAB c fs)) (hs : (x :: es).all noStar = true) (hn : isNew b = true) : PE X (.Call (.Name b.nm p) (x :: es) [] pos) (tN c (fNew b fs)) := by
  cases b with
  | list => exact bn_list G.hK hg (bi_of G (by decide)) ha hs
  | sorted => exact bn_sorted hg (bi_of G (by decide)) ha hs
  | _ => cases hn
theorem mem_isi : ("isinstance" : Str) ∈ bNames := by decide
theorem mem_rng : ("range" : Str) ∈ bNames := by decide
theorem mem_ty (t : Ty) : t.nm ∈ bNames := by cases t <;> decide
mutual
theorem sound : ∀ (ir : IE) {X : Cx} {c : Cfg} {Γ : Gam} {q : Ctx} {su : Bool} {k : Nat} {e : Expr}, Good X c Γ q su k → chk q ir e = true → Snd X c e (ev Γ su ir)
  | .var i, X, c, Γ, q, su, k, e, G, h => by
    simp only [chk] at h
    split at h
    · simp only [Bool.and_eq_true, decide_eq_true_eq] at h
      obtain ⟨⟨h1, h2⟩, h3⟩ := h
      rw [← G.hN] at h1
      rw [← G.hsc] at h2
      have hv := vis_of h2
      have pl := plain_of h3
      exact ⟨e_var h1 hv pl.1 pl.2, b_var h1 hv pl.1 pl.2, pe_bad, t_val G.hK (b_var h1 hv pl.1 pl.2) rfl⟩
    · cases h
  | .con d, X, c, Γ, q, su, k, e, G, h => by
    simp only [chk] at h
    split at h
    · obtain ⟨v, h1, h2⟩ := dv_con (K := c.K) h
      exact snd_e G.hK (e_con (h2 X _ _) h1) rfl
    · cases h
  | .glb j, X, c, Γ, q, su, k, e, G, h => by
    simp only [chk] at h
    split at h
    · simp only [Bool.and_eq_true, decide_eq_true_eq] at h
      obtain ⟨⟨h1, h2⟩, h3⟩ := h
      simp only [ev]
      cases qj : Γ.gl j with
      | none => exact snd_e G.hK pe_bad rfl
      | some d =>
        obtain ⟨v, u, e1, e2, e3⟩ := G.gm.gl j _ h1 d qj
        exact snd_e G.hK (e_con (pe_glob (gl_of G h2) e1 e2 (plain_of h3).1) fun F => by rw [G.hK]; exact e3 F) rfl
    · cases h
  | .bin o a b, X, c, Γ, q, su, k, e, G, h => by
    simp only [chk] at h
    split at h
    · simp only [Bool.and_eq_true, decide_eq_true_eq] at h
      obtain ⟨⟨rfl, h2⟩, h3⟩ := h
      have sa := sound a G h2
      have sb := sound b G h3
      rename_i pos
      have E := e_bin (pos := pos) G.hK o sa.B sb.B
      cases o with
      | add => exact ⟨E, e_b E, n_cat G.hK sa.B sb.B, t_val G.hK (e_b E) rfl⟩
      | mul => exact ⟨E, e_b E, n_rep G.hK sa.B sb.B, t_val G.hK (e_b E) rfl⟩
      | sub => exact snd_e G.hK E rfl
      | fdiv => exact snd_e G.hK E rfl
      | mod => exact snd_e G.hK E rfl
      | pow => exact snd_e G.hK E rfl
    · cases h
  | .cmp o a b, X, c, Γ, q, su, k, e, G, h => by
    simp only [chk] at h
    split at h
    · simp only [Bool.and_eq_true, decide_eq_true_eq] at h
      obtain ⟨⟨⟨rfl, h2⟩, h3⟩, h4⟩ := h
      have sa := sound a G h2
      have sb := sound b G h3
      rename_i pos
      have E := e_cmp (pos := pos) G.hK G.un o sa.B sb.B (notSet_of h4)
      exact ⟨E, e_b E, pe_bad, t_cmp G.hK G.un o sa.B sb.B (notSet_of h4)⟩
    · cases h
  | .chain o o' a b d, X, c, Γ, q, su, k, e, G, h => by
    simp only [chk] at h
    split at h
    · simp only [Bool.and_eq_true, decide_eq_true_eq] at h
      obtain ⟨⟨⟨⟨⟨rfl, rfl⟩, h2⟩, h3⟩, h4⟩, h5⟩ := h
      have sa := sound a G h2
      have sb := sound b G h3
      have sd := sound d G h4
      rename_i pos
      have E := e_chain (pos := pos) G.hK G.un o o' sa.B sb.B sd.B (notSet_of h5)
      exact ⟨E, e_b E, pe_bad, t_chain G.hK G.un o o' sa.B sb.B sd.B (notSet_of h5)⟩
    · cases h
  | .isn n a, X, c, Γ, q, su, k, e, G, h => by
    simp only [chk] at h
    split at h
    · simp only [Bool.and_eq_true, decide_eq_true_eq] at h
      obtain ⟨rfl, h2⟩ := h
      have sa := sound a G h2
      exact ⟨e_isn n sa.B, e_b (e_isn n sa.B), pe_bad, t_isn n sa.B⟩
    · cases h
  | .bop kk es, X, c, Γ, q, su, k, e, G, h => by
    simp only [chk] at h
    split at h
    · simp only [Bool.and_eq_true, decide_eq_true_eq] at h
      obtain ⟨rfl, h2⟩ := h
      have sa := sounds es G h2
      exact ⟨sa.E kk _, e_b (sa.E kk _), pe_bad, (sa.T kk _).pt⟩
    · cases h
  | .not a, X, c, Γ, q, su, k, e, G, h => by
    simp only [chk] at h
    split at h
    · have sa := sound a G h
      exact ⟨e_not G.hK sa.B, e_b (e_not G.hK sa.B), pe_bad, t_not sa.T⟩
    · cases h
  | .neg a, X, c, Γ, q, su, k, e, G, h => by
    simp only [chk] at h
    split at h
    · have sa := sound a G h
      exact snd_e G.hK (e_neg sa.B) rfl
    · cases h
  | .ife t a b, X, c, Γ, q, su, k, e, G, h => by
    simp only [chk] at h
    split at h
    · simp only [Bool.and_eq_true] at h
      obtain ⟨⟨h1, h2⟩, h3⟩ := h
      have st := sound t G h1
      have sa := sound a G h2
      have sb := sound b G h3
      exact ⟨e_if anti_D st.T sa.E sb.E, e_if anti_B st.T sa.B sb.B, e_if anti_N st.T sa.N sb.N, pt_bad⟩
    · cases h
  | .tup es, X, c, Γ, q, su, k, e, G, h => by
    simp only [chk] at h
    split at h
    · have sa := sounds es G h
      exact snd_e G.hK (e_tup sa.A) rfl
    · cases h
  | .lst es, X, c, Γ, q, su, k, e, G, h => by
    simp only [chk] at h
    split at h
    · have sa := sounds es G h
      exact snd_n G.hK (n_lst sa.A) rfl
    · cases h
  | .idx a b, X, c, Γ, q, su, k, e, G, h => by
    simp only [chk] at h
    split at h
    · simp only [Bool.and_eq_true] at h
      obtain ⟨⟨h1, h2⟩, h3⟩ := h
      have sa := sound a G h1
      have sb := sound b G h2
      exact snd_e G.hK (e_idx G.hK sa.B sb.B h3) rfl
    · cases h
  | .cut a lo hi, X, c, Γ, q, su, k, e, G, h => by
    simp only [chk] at h
    split at h
    · simp only [Bool.and_eq_true] at h
      obtain ⟨⟨h1, h2⟩, h3⟩ := h
      have sa := sound a G h1
      have sl := soundo lo G h2
      have sh := soundo hi G h3
      have E := e_cut (pos := ‹Pos›) (p2 := ‹Pos›) G.hK sa.B sl sh
      exact ⟨e_cut G.hK sa.B sl sh, e_b (e_cut G.hK sa.B sl sh), n_cut sa.B sl sh, t_val G.hK (e_b (e_cut G.hK sa.B sl sh)) rfl⟩
    · cases h
  | .bf b es, X, c, Γ, q, su, k, e, G, h => by
    simp only [chk] at h
    split at h
    · simp only [Bool.and_eq_true, decide_eq_true_eq] at h
      obtain ⟨⟨rfl, h2⟩, h3⟩ := h
      have sa := sounds es G h3
      simp only [ev]
      cases su with
      | true => exact snd_e G.hK pe_bad rfl
      | false =>
        rw [if_neg (by decide)]
        cases hn : isNew b with
        | true => rw [if_pos rfl]; exact snd_n G.hK (bn_ok G (gl_of G h2) sa.AB (chks_star h3) hn) rfl
        | false => rw [if_neg (by decide)]; exact snd_e G.hK (bf_ok G (gl_of G h2) sa.AB (chks_star h3) hn) rfl
    · cases h
  | .isi t a, X, c, Γ, q, su, k, e, G, h => by
    simp only [chk] at h
    split at h
    · simp only [Bool.and_eq_true, decide_eq_true_eq] at h
      obtain ⟨⟨⟨⟨rfl, h2⟩, rfl⟩, h4⟩, h5⟩ := h
      have sa := sound a G h5
      exact snd_e G.hK (e_isi G.hK t (gl_of G h2) (bi_of G mem_isi) (gl_of G h4) (bi_of G (mem_ty t)) sa.B (chk_star h5)) rfl
    · cases h
  | .ise i j, X, c, Γ, q, su, k, e, G, h => by
    simp only [chk] at h
    split at h
    · simp only [Bool.and_eq_true, decide_eq_true_eq] at h
      obtain ⟨⟨⟨⟨⟨⟨⟨rfl, h2⟩, h3⟩, h4⟩, h5⟩, h6⟩, h7⟩, h8⟩ := h
      rw [← G.hN] at h3
      rw [← G.hsc] at h4
      exact snd_e G.hK (e_ise G (gl_of G h2) h3 (vis_of h4) h5 h6 (gl_of G h7) h8) rfl
    · cases h
  | .call j es, X, c, Γ, q, su, k, e, G, h => by
    simp only [chk] at h
    split at h
    · simp only [Bool.and_eq_true, decide_eq_true_eq] at h
      obtain ⟨⟨⟨h1, h2⟩, h3⟩, h4⟩ := h
      have sa := sounds es G h4
      simp only [ev]
      cases su with
      | true => exact snd_e G.hK pe_bad rfl
      | false => exact snd_e G.hK (e_call G.hK (G.gm.fn j _ h1) (G.rm rfl) (gl_of G h2) G.tk sa.A (chks_star h4) (plain_of h3).1) rfl
    · cases h
  | .lset a, X, c, Γ, q, su, k, e, G, h => by
    simp only [chk] at h
    split at h
    · simp only [Bool.and_eq_true, decide_eq_true_eq] at h
      obtain ⟨⟨⟨⟨rfl, h2⟩, rfl⟩, h4⟩, h5⟩ := h
      have sa := sound a G h5
      simp only [ev]
      cases su with
      | true => exact snd_e G.hK pe_bad rfl
      | false => exact snd_e G.hK (e_lset G.hK (G.cal rfl) (gl_of G h2) (bi_of G (by decide)) (gl_of G h4) (bi_of G (by decide)) sa.B (chk_star h5)) rfl
    · cases h
  | .sset a, X, c, Γ, q, su, k, e, G, h => by
    simp only [chk] at h
    split at h
    · simp only [Bool.and_eq_true, decide_eq_true_eq] at h
      obtain ⟨⟨⟨⟨rfl, h2⟩, rfl⟩, h4⟩, h5⟩ := h
      have sa := sound a G h5
      simp only [ev]
      cases su with
      | true => exact snd_e G.hK pe_bad rfl
      | false => exact snd_n G.hK (n_sset G.hK (G.cal rfl) (gl_of G h2) (bi_of G (by decide)) (gl_of G h4) (bi_of G (by decide)) sa.B (chk_star h5)) rfl
    · cases h
  | .call0 j, X, c, Γ, q, su, k, e, G, h => by
    simp only [chk] at h
    split at h
    · simp only [Bool.and_eq_true, decide_eq_true_eq] at h
      obtain ⟨⟨h1, h2⟩, h3⟩ := h
      simp only [ev]
      cases su with
      | true => exact snd_e G.hK pe_bad rfl
      | false => exact snd_e G.hK (e_call0 G.hK (G.gm.fn j _ h1) (G.rm rfl) (gl_of G h2) G.tk (plain_of h3).1) rfl
    · cases h
  | .join a b, X, c, Γ, q, su, k, e, G, h => by
    simp only [chk] at h
    split at h
    · simp only [Bool.and_eq_true, decide_eq_true_eq] at h
      obtain ⟨⟨⟨⟨rfl, h2⟩, h3⟩, h4⟩, h5⟩ := h
      have sa := sound a G h2
      have sb := sound b G h3
      simp only [ev]
      exact snd_e G.hK (e_join G.hK sa.B sb.B (chk_star h3) h4 h5) rfl
    · cases h
  | .stp a lo hi st, X, c, Γ, q, su, k, e, G, h => by
    simp only [chk] at h
    split at h
    · simp only [Bool.and_eq_true] at h
      obtain ⟨⟨⟨h1, h2⟩, h3⟩, h4⟩ := h
      have sa := sound a G h1
      have sl := soundo lo G h2
      have sh := soundo hi G h3
      have sw := soundo st G h4
      exact snd_n G.hK (n_stp sa.B sl sh sw) rfl
    · cases h
  | .din neg a i, X, c, Γ, q, su, k, e, G, h => by
    simp only [chk] at h
    split at h
    · simp only [Bool.and_eq_true, decide_eq_true_eq] at h
      obtain ⟨⟨⟨⟨rfl, h2⟩, h3⟩, h4⟩, h5⟩ := h
      have sa := sound a G h2
      rw [← G.hN] at h3
      rw [← G.hsc] at h4
      have pl := plain_of h5
      have E := fun pos p2 => e_din (pos := pos) (p2 := p2) G.hK G.un neg sa.B h3 (vis_of h4) pl.1 pl.2
      exact ⟨E _ _, e_b (E _ _), pe_bad, t_din G.hK G.un neg sa.B h3 (vis_of h4) pl.1 pl.2⟩
    · cases h
  | .dget i a, X, c, Γ, q, su, k, e, G, h => by
    simp only [chk] at h
    split at h
    · simp only [Bool.and_eq_true, decide_eq_true_eq] at h
      obtain ⟨⟨⟨⟨h1, h2⟩, h3⟩, h4⟩, h5⟩ := h
      have sa := sound a G h1
      rw [← G.hN] at h3
      rw [← G.hsc] at h4
      have pl := plain_of h5
      exact snd_e G.hK (e_dget G.hK G.un sa.B h2 h3 (vis_of h4) pl.1 pl.2) rfl
    · cases h
  | .dlen i, X, c, Γ, q, su, k, e, G, h => by
    simp only [chk] at h
    split at h
    · simp only [Bool.and_eq_true, decide_eq_true_eq] at h
      obtain ⟨⟨⟨⟨rfl, h2⟩, h3⟩, h4⟩, h5⟩ := h
      rw [← G.hN] at h3
      rw [← G.hsc] at h4
      have pl := plain_of h5
      simp only [ev]
      cases su with
      | true => exact snd_e G.hK pe_bad rfl
      | false => exact snd_e G.hK (e_dlen G.hK (gl_of G h2) (bi_of G (by decide)) h3 (vis_of h4) pl.1 pl.2) rfl
    · cases h
  | .dgd i a b, X, c, Γ, q, su, k, e, G, h => by
    simp only [chk] at h
    split at h
    · simp only [Bool.and_eq_true, decide_eq_true_eq] at h
      obtain ⟨⟨⟨⟨⟨⟨rfl, h3⟩, h4⟩, h5⟩, h6⟩, h7⟩, h8⟩ := h
      have sa := sound a G h7
      have sb := sound b G h8
      rw [← G.hN] at h3
      rw [← G.hsc] at h4
      have pl := plain_of h5
      exact snd_e G.hK (e_dgd G.hK G.un sa.B sb.E (chk_star h7) (chk_star h8) h6 rfl h3 (vis_of h4) pl.1 pl.2) rfl
    · cases h
  | .minp a, X, c, Γ, q, su, k, e, G, h => by
    simp only [chk] at h
    split at h
    · simp only [Bool.and_eq_true, decide_eq_true_eq] at h
      obtain ⟨⟨rfl, h2⟩, h3⟩ := h
      have sa := sound a G h3
      simp only [ev]
      cases su with
      | true => exact snd_e G.hK pe_bad rfl
      | false => exact snd_e G.hK (e_minp G.hK (G.cal rfl) G.un (gl_of G h2) (bi_of G (by decide)) sa.B (chk_star h3)) rfl
    · cases h
  | .ixo a b, X, c, Γ, q, su, k, e, G, h => by
    simp only [chk] at h
    split at h
    · simp only [Bool.and_eq_true, decide_eq_true_eq] at h
      obtain ⟨⟨⟨⟨rfl, h2⟩, h3⟩, h4⟩, h5⟩ := h
      have sa := sound a G h2
      have sb := sound b G h3
      exact snd_e G.hK (e_ixo G.hK sa.B sb.B (chk_star h3) h4 h5) rfl
    · cases h
  | .lc own t it tst el, X, c, Γ, q, su, k, e, G, h => by
    simp only [chk] at h
    split at h
    · simp only [Bool.and_eq_true, decide_eq_true_eq, List.all_eq_true] at h
      obtain ⟨⟨⟨⟨⟨⟨rfl, h2⟩, h3⟩, h4⟩, h5⟩, h6⟩, h7⟩ := h
      simp only [ev]
      cases su with
      | true => exact snd_e G.hK pe_bad rfl
      | false =>
        have hn : notSet _ = true := chki_set h3
        refine snd_n G.hK (n_lc (G.cal rfl) G.nd (blkOk_by (by rw [G.hN, G.hsc]; exact h2)) (soundi it G h3).B (fun s H C cl fp => pg_of (G.blk s H _ C cl fp) h4) (fun s H C cl fp => soundf tst (G.blk s H _ C cl fp) h5) (fun s H C cl fp => (sound el (G.blk s H _ C cl fp) h6).E) h7 (folded_of hn)) rfl
    · cases h
theorem sounds : ∀ (r : IEs) {X : Cx} {c : Cfg} {Γ : Gam} {q : Ctx} {su : Bool} {k : Nat} {es : List Expr}, Good X c Γ q su k → chks q r es = true → SndA X c es (evs Γ su r)
  | .nil, X, c, Γ, q, su, k, es, G, h => by
    simp only [chks, List.isEmpty_iff] at h
    subst h
    exact ⟨a_nil, ab_nil, fun _ _ => pe_bad, fun _ _ => pw_bad⟩
  | .cons a r, X, c, Γ, q, su, k, es, G, h => by
    simp only [chks] at h
    split at h
    · simp only [Bool.and_eq_true] at h
      have sa := sound a G h.1
      have sr := sounds r G h.2
      refine ⟨a_cons sa.E sr.A (chk_star h.1), ab_cons sa.B sr.AB (chk_star h.1), fun kk pos => ?_, fun kk pos => ?_⟩
      · cases r with
        | nil =>
          have := h.2
          simp only [chks, List.isEmpty_iff] at this
          subst this
          exact pe_one sa.E
        | cons b r' =>
          rename_i xs
          cases xs with
          | nil => simp [chks] at h
          | cons y ys =>
            cases kk with
            | true => exact e_and G.hK sa.E (sr.E true pos)
            | false => exact e_or G.hK sa.E (sr.E false pos)
      · cases r with
        | nil =>
          have := h.2
          simp only [chks, List.isEmpty_iff] at this
          subst this
          cases kk with
          | true => exact pw_and1 sa.T
          | false => exact pw_or1 sa.T
        | cons b r' =>
          rename_i xs
          cases xs with
          | nil => simp [chks] at h
          | cons y ys =>
            cases kk with
            | true => exact t_and sa.T (sr.T true pos)
            | false => exact t_or sa.T (sr.T false pos)
    · cases h
theorem soundo : ∀ (r : IO) {X : Cx} {c : Cfg} {Γ : Gam} {q : Ctx} {su : Bool} {k : Nat} {e : Option Expr}, Good X c Γ q su k → chko q r e = true → PO X e (tG c pO (evo Γ su r).P)
  | .no, X, c, Γ, q, su, k, e, G, h => by
    simp only [chko, Option.isNone_iff_eq_none] at h
    subst h
    exact o_none
  | .yes a, X, c, Γ, q, su, k, e, G, h => by
    simp only [chko] at h
    split at h
    · exact o_some (sound a G h).B
    · cases h
theorem soundf : ∀ (r : IO) {X : Cx} {c : Cfg} {Γ : Gam} {q : Ctx} {su : Bool} {k : Nat} {e : List Expr}, Good X c Γ q su k → chkf q r e = true → PTs X e (tT c (evo Γ su r).T)
  | .no, X, c, Γ, q, su, k, e, G, h => by
    simp only [chkf, List.isEmpty_iff] at h
    subst h
    exact ts_nil
  | .yes a, X, c, Γ, q, su, k, e, G, h => by
    simp only [chkf] at h
    split at h
    · exact pts_one (sound a G h).T
    · cases h
theorem soundi : ∀ (r : II) {X : Cx} {c : Cfg} {Γ : Gam} {q : Ctx} {su : Bool} {k : Nat} {tg e : Expr}, Good X c Γ q su k → chki q r tg e = true → SndI X c tg e (evi Γ su r)
  | .any a, X, c, Γ, q, su, k, tg, e, G, h => by
    simp only [chki, Bool.and_eq_true] at h
    have sa := sound a G h.1
    exact ⟨i_anyB G.hK sa.B, i_anyF G.hK sa.E⟩
  | .rng1 a, X, c, Γ, q, su, k, tg, e, G, h => by
    simp only [chki] at h
    split at h
    · simp only [Bool.and_eq_true, decide_eq_true_eq] at h
      obtain ⟨⟨rfl, h2⟩, h3⟩ := h
      have sa := sound a G h3
      exact ⟨i_range1 (fun _ _ _ _ h => h.2.1) (gl_of G h2) (bi_of G mem_rng) sa.B (chk_star h3), i_range1 (fun _ _ _ _ h => h.2) (gl_of G h2) (bi_of G mem_rng) sa.B (chk_star h3)⟩
    · cases h
  | .rng2 a b, X, c, Γ, q, su, k, tg, e, G, h => by
    simp only [chki] at h
    split at h
    · simp only [Bool.and_eq_true, decide_eq_true_eq] at h
      obtain ⟨⟨⟨rfl, h2⟩, h3⟩, h4⟩ := h
      have sa := sound a G h3
      have sb := sound b G h4
      exact ⟨i_range2 (fun _ _ _ _ h => h.2.1) (gl_of G h2) (bi_of G mem_rng) sa.B sb.B (chk_star h3) (chk_star h4), i_range2 (fun _ _ _ _ h => h.2) (gl_of G h2) (bi_of G mem_rng) sa.B sb.B (chk_star h3) (chk_star h4)⟩
    · cases h
  | .enm a, X, c, Γ, q, su, k, tg, e, G, h => by
    simp only [chki] at h
    split at h
    · simp only [Bool.and_eq_true, decide_eq_true_eq] at h
      obtain ⟨⟨⟨rfl, h2⟩, h3⟩, h4⟩ := h
      have sa := sound a G h3
      cases su with
      | true => exact ⟨⟨fun _ _ _ _ _ _ ⟨_, _, _, a⟩ => a.elim⟩, ⟨fun _ _ _ _ _ _ ⟨_, _, _, a⟩ => a.elim⟩⟩
      | false =>
        cases tg <;> simp only [isTupE, Bool.false_eq_true] at h4
        exact ⟨i_enB G.hK (gl_of G h2) (bi_of G (by decide)) sa.B (chk_star h3), i_enF G.hK (gl_of G h2) (bi_of G (by decide)) sa.E (chk_star h3)⟩
    · cases h
  | .zip a b, X, c, Γ, q, su, k, tg, e, G, h => by
    simp only [chki] at h
    split at h
    · simp only [Bool.and_eq_true, decide_eq_true_eq] at h
      obtain ⟨⟨⟨⟨rfl, h2⟩, h3⟩, h4⟩, h5⟩ := h
      have sa := sound a G h3
      have sb := sound b G h4
      cases su with
      | true => exact ⟨⟨fun _ _ _ _ _ _ ⟨_, _, _, a⟩ => a.elim⟩, ⟨fun _ _ _ _ _ _ ⟨_, _, _, a⟩ => a.elim⟩⟩
      | false =>
        cases tg <;> simp only [isTupE, Bool.false_eq_true] at h5
        exact ⟨i_zpB G.hK (gl_of G h2) (bi_of G (by decide)) sa.B sb.B (chk_star h3) (chk_star h4), i_zpF G.hK (gl_of G h2) (bi_of G (by decide)) sa.E sb.E (chk_star h3) (chk_star h4)⟩
    · cases h
  | .dit i, X, c, Γ, q, su, k, tg, e, G, h => by
    simp only [chki] at h
    split at h
    · simp only [Bool.and_eq_true, decide_eq_true_eq] at h
      obtain ⟨⟨h3, h4⟩, h5⟩ := h
      rw [← G.hN] at h3
      rw [← G.hsc] at h4
      have pl := plain_of h5
      cases su with
      | true => exact ⟨⟨fun _ _ _ _ _ _ ⟨_, _, _, a⟩ => a.elim⟩, ⟨fun _ _ _ _ _ _ ⟨_, _, _, a⟩ => a.elim⟩⟩
      | false => exact ⟨i_ditB G.hK h3 (vis_of h4) pl.1 pl.2, i_ditF G.hK h3 (vis_of h4) pl.1 pl.2⟩
    · cases h
end
end
end PD
namespace PD
open PySem PySem.Spec PyProof.Rows L2
mutual
inductive IS where
  | ret (e : IE) | retN | pass | never
  | set (i : Nat) (e : IE) | new (i : Nat) (e : IE) | tset (is : List Nat) (e : IE) | par (i j : Nat) (a b : IE) | parN (i j : Nat) (a b : IE) | dput (i : Nat) (k v : IE) | dnew (i : Nat) (k v : IE) | par3 (i j l : Nat) (k v b d : IE) | trp (i j l : Nat) (a b d : IE) | parM (i j : Nat) (a b : IE) | dnew0 (i : Nat) | tuM (i j : Nat) (a b : IE) | aug (i : Nat) (e : IE)
  | app (i : Nat) (e : IE) | ext (i : Nat) (e : IE) | expr (e : IE)
  | ite (t : IE) (a b : ISs) | whl (n : Nat) (t : IE) (b : ISs) | for (t : Tg) (it : II) (b : ISs) | fpg (t : Tg) (i j : Nat) (e : IE) (b : ISs) | fro (t : Tg) (j : Nat) (b : ISs)
  | raise (k : Nat) | tri (b : ISs) (hs : IHs)
inductive ISs where
  | nil | cons (s : IS) (r : ISs) | frz (i : Nat) (r : ISs)
inductive IHs where
  | nil | cons (j i : Nat) (su : ISs) (r : IHs)
end
def parS (i j : Nat) (δ : List S) : List D → O
  | [a, b] => if i < δ.length ∧ j < δ.length then .next ((δ.set i (.dat a)).set j (.dat b)) else .bad
  | _ => .bad
def parNS (i j : Nat) (δ : List S) (a : D) (ds : List D) : O := if i < δ.length ∧ j < δ.length then .next ((δ.set i (.dat a)).set j (.own ds)) else .bad
def trpS (i j l : Nat) (δ : List S) : List D → O
  | [a, b, d] => if i < δ.length ∧ j < δ.length ∧ l < δ.length then .next (((δ.set i (.dat a)).set j (.dat b)).set l (.dat d)) else .bad
  | _ => .bad
def parMS (i j : Nat) (δ : List S) (ds : List D) (b : D) : O := if i < δ.length ∧ j < δ.length then .next ((δ.set i (.own ds)).set j (.dat b)) else .bad
def par3S (i j l : Nat) (δ : List S) (q : List (List (Option Int)) × List D) (b d : D) : O := if i < δ.length ∧ j < δ.length ∧ l < δ.length then .next (((δ.set i (.dow q.1 q.2)).set j (.dat b)).set l (.dat d)) else .bad
mutual
def ex (Γ : Gam) (su : Bool) : IS → List S → O
  | .ret e => fun δ => thenS ((ev Γ su e).E δ) δ fun d => .ret d
  | .retN => fun _ => .ret .non
  | .pass => oNext
  | .never => fun _ => .bad
  | .set i e => fun δ => thenS ((ev Γ su e).E δ) δ fun d => asgS i (.dat d) δ
  | .new i e => fNewS i (ev Γ su e).N
  | .tset is e => fun δ => if su then .bad else thenS ((ev Γ su e).E δ) δ fun d => match setT (.tup is) d δ with | some δ' => .next δ' | none => .bad
  | .par i j a b => fun δ => if su then .bad else thenS ((evs Γ su (.cons a (.cons b .nil))).A δ) δ fun ds => parS i j δ ds
  | .parN i j a b => fun δ => if su then .bad else thenS ((ev Γ su a).E δ) δ fun d => thenS ((ev Γ su b).N δ) δ fun ds => parNS i j δ d ds
  | .dput i k v => fun δ => if isDow i δ then thenS ((ev Γ su v).E δ) δ fun d => thenS ((ev Γ su k).E δ) δ fun kd => thenS (R.of (keyOf kd)) δ fun kk => putS i δ kk d else .bad
  | .dnew i k v => fun δ => thenS (fD1 (ev Γ su k).E (ev Γ su v).E δ) δ fun q => asgS i (.dow q.1 q.2) δ
  | .par3 i j l k v b d => fun δ => if su then .bad else thenS (fD1 (ev Γ su k).E (ev Γ su v).E δ) δ fun q => thenS ((ev Γ su b).E δ) δ fun b' => thenS ((ev Γ su d).E δ) δ fun d' => par3S i j l δ q b' d'
  | .trp i j l a b d => fun δ => if su then .bad else thenS ((evs Γ su (.cons a (.cons b (.cons d .nil)))).A δ) δ fun ds => trpS i j l δ ds
  | .parM i j a b => fun δ => if su then .bad else thenS ((ev Γ su a).N δ) δ fun ds => thenS ((ev Γ su b).E δ) δ fun d => parMS i j δ ds d
  | .dnew0 i => fun δ => asgS i (.dow [] []) δ
  | .tuM i j a b => fun δ => if su then .bad else thenS ((ev Γ su a).N δ) δ fun ds => thenS ((ev Γ su b).E δ) δ fun d => parMS i j δ ds d
  | .aug i e => fun δ => thenS (slD δ i) δ fun a => thenS ((ev Γ su e).E δ) δ fun b => thenS (augD a b) δ fun d => asgS i (.dat d) δ
  | .app i e => fun δ => if isOwn i δ then thenS ((ev Γ su e).E δ) δ fun d => appS i δ d else .bad
  | .ext i e => fun δ => if isOwn i δ then thenS ((ev Γ su e).B δ) δ fun d => extS i δ d else .bad
  | .expr e => fun δ => thenS ((ev Γ su e).B δ) δ fun _ => .next δ
  | .ite t a b => fun δ => thenS ((ev Γ su t).T δ) δ fun k => if k then exs Γ su a δ else exs Γ su b δ
  | .whl n t b => whileD (ev Γ su t).T (exs Γ su b) n
  | .for t it b => fun δ => if su then .bad else fFor t (evi Γ su it).F (exs Γ su b) δ
  | .fpg t i j e b => fun δ => if su then .bad else fForPG t i j (ev Γ su e).E (exs Γ su b) δ
  | .fro t j b => fun δ => if su then .bad else forO t (exs Γ su b) j δ
  | .raise k => fun δ => if su then .bad else if Γ.own k then .exc k δ else .bad
  | .tri b hs => fun δ => if su then .bad else fTry Γ.sub (exs Γ su b) (exh Γ hs) δ
def exs (Γ : Gam) (su : Bool) : ISs → List S → O
  | .nil => oNext
  | .cons s r => seqS (ex Γ su s) (exs Γ su r)
  | .frz i r => fun δ => match frzS i δ with | some δ' => exs Γ su r δ' | none => .bad
def exh (Γ : Gam) : IHs → List (Nat × Nat × (List S → O))
  | .nil => []
  | .cons j i s r => (j, i, exs Γ true s) :: exh Γ r
end
def isStar : Expr → Bool
  | .Starred .. => true
  | _ => false
/-- two or three names at once: in which form they are stored -/
def swNames (sc : Scope) (ts : List Expr) : List Str := ts.filterMap fun
  | .Name id pos => if sc.names.lookup id == some .local && pos.line == ((ts.head?.map (·.pos.line)).getD 0) then some id else none
  | _ => none
def swS (sc : Scope) (ts vs : List Expr) : Option (Option (List Str)) :=
  if (!(ts.length == 2 || ts.length == 3) || vs.length != ts.length) = true then some none
  else if vs.any isStar = true then some none
  else if ((swNames sc ts).length != ts.length || (swNames sc ts).eraseDups.length != (swNames sc ts).length) = true then some none
  else if vs.all (foldedForSure 8) = true then some none
  else if vs.all (constantsAlone 8) = true then none
  else some (some (swNames sc ts))
theorem sw_of {env : Env} {sc : Scope} {ts vs : List Expr} {k k' : Nat} {p p' : Pos} {r : Option (List Str)} (hk : env.scope.kind = .function) (hs : env.scope = sc) (h : swS sc ts vs = some r) :
    swappedStores [.Tuple ts k p] (.Tuple vs k' p') env = pure r := by
  have hb : env.blockKind = .function := by unfold Env.blockKind; rw [hk]; rfl
  subst hs
  unfold swS at h
  unfold swappedStores
  show (if (!(ts.length == 2 || ts.length == 3) || vs.length != ts.length || env.blockKind != ScopeKind.function) = true then pure none
    else if vs.any isStar = true then pure none
    else if ((swNames env.scope ts).length != ts.length || (swNames env.scope ts).eraseDups.length != (swNames env.scope ts).length) = true then pure none
    else if vs.all (foldedForSure 8) = true then pure none
    else if vs.all (constantsAlone 8) = true then (do
      unsupported "assign.tuple-of-constant-expressions:order-of-the-stores"
      pure (some (swNames env.scope ts)))
    else pure (some (swNames env.scope ts)) : Sem (Option (List Str))) = pure r
  rw [hb]
  split at h
  · cases h
    rename_i c
    rw [if_pos (by simpa using c)]
  · rename_i c
    rw [if_neg (by simpa using c)]
    split at h
    · cases h
      rename_i c
      rw [if_pos c]
    · rename_i c
      rw [if_neg c]
      split at h
      · cases h
        rename_i c
        rw [if_pos c]
      · rename_i c
        rw [if_neg c]
        split at h
        · cases h
          rename_i c
          rw [if_pos c]
        · rename_i c
          rw [if_neg c]
          split at h
          · cases h
          · cases h
            rename_i c
            rw [if_neg c]
def lineB (a p : Pos) : Bool := a.endLine == p.line
/-- a name := a comprehension on its line: stored within the block -/
def swLc (sc : Scope) (y : Str) (py pos : Pos) (scope : Scope) : Bool :=
  (match sc.names.lookup y with | some .local => true | _ => false) && (py.line == pos.line) && !(scope.names.any fun (n, k) => n == y && (k == .local || k == .cell))
def kindB (sc : Scope) : Bool := match sc.kind with
  | .function => true
  | _ => false
mutual
def chkS (q : Ctx) : IS → Stmt → Bool
  | .ret e, s => match s with
    | .Return (some x) _ => chk q e x
    | _ => false
  | .retN, s => match s with
    | .Return none _ => true
    | _ => false
  | .pass, s => match s with
    | .Pass _ => true
    | _ => false
  | .never, _ => true
  | .set i e, s => match s with
    | .Assign [.Name x _] v _ => decide (q.N[i]? = some x) && storeB q x && chk q e v && noComp v
    | _ => false
  | .new i e, s => match s with
    | .Assign [.Name x px] v _ => decide (q.N[i]? = some x) && storeB q x && chk q e v && kindB q.sc && (match v with
        | .ListComp _ _ scope pos => if swLc q.sc x px pos scope then true else true
        | _ => noComp v)
    | _ => false
  | .tset is e, s => match s with
    | .Assign [.Tuple ts _ _] v _ => chkNs q is ts && chk q e v && noComp v && kindB q.sc && (match v with
        | .Tuple vs _ _ => (match swS q.sc ts vs with | some none => true | _ => false)
        | _ => true)
    | _ => false
  | .par i j a b, s => match s with
    | .Assign [.Tuple [.Name x px, .Name y py] kt pt] (.Tuple [u, v] _ _) _ => decide (q.N[i]? = some x) && decide (q.N[j]? = some y) && decide (i ≠ j) && kindB q.sc &&
        (match q.sc.names.lookup x with | some .local => true | _ => false) && (match q.sc.names.lookup y with | some .local => true | _ => false) &&
        decide (swS q.sc [.Name x px, .Name y py] [u, v] = some (some [x, y])) && chk q a u && chk q b v
    | _ => false
  | .parN i j a b, s => match s with
    | .Assign [.Tuple [.Name x px, .Name y py] kt pt] (.Tuple [u, v] _ _) _ => decide (q.N[i]? = some x) && decide (q.N[j]? = some y) && decide (i ≠ j) && kindB q.sc &&
        (match q.sc.names.lookup x with | some .local => true | _ => false) && (match q.sc.names.lookup y with | some .local => true | _ => false) &&
        decide (swS q.sc [.Name x px, .Name y py] [u, v] = some (some [x, y])) && chk q a u && chk q b v
    | _ => false
  | .dput i k v, s => match s with
    | .Assign [.Subscript (.Name nm _) y _] e _ => decide (q.N[i]? = some nm) && visB q.sc nm && plainN nm && chk q k y && chk q v e && noComp e
    | _ => false
  | .dnew i k v, s => match s with
    | .Assign [.Name nm _] (.Dict [some x] [y] _) _ => decide (q.N[i]? = some nm) && storeB q nm && chk q k x && chk q v y
    | _ => false
  | .par3 i j l k v b d, s => match s with
    | .Assign [.Tuple [.Name x px, .Name y py, .Name z pz] kt pt] (.Tuple [.Dict [some kx] [vx] dp, bx, dx] _ _) _ => decide (q.N[i]? = some x) && decide (q.N[j]? = some y) && decide (q.N[l]? = some z) && decide (i ≠ j) && decide (i ≠ l) && decide (j ≠ l) && kindB q.sc &&
        (match q.sc.names.lookup x with | some .local => true | _ => false) && (match q.sc.names.lookup y with | some .local => true | _ => false) && (match q.sc.names.lookup z with | some .local => true | _ => false) &&
        decide (swS q.sc [.Name x px, .Name y py, .Name z pz] [.Dict [some kx] [vx] dp, bx, dx] = some (some [x, y, z])) && chk q k kx && chk q v vx && chk q b bx && chk q d dx
    | _ => false
  | .trp i j l a b d, s => match s with
    | .Assign [.Tuple [.Name x px, .Name y py, .Name z pz] kt pt] (.Tuple [ax, bx, dx] _ _) _ => decide (q.N[i]? = some x) && decide (q.N[j]? = some y) && decide (q.N[l]? = some z) && decide (i ≠ j) && decide (i ≠ l) && decide (j ≠ l) && kindB q.sc &&
        (match q.sc.names.lookup x with | some .local => true | _ => false) && (match q.sc.names.lookup y with | some .local => true | _ => false) && (match q.sc.names.lookup z with | some .local => true | _ => false) &&
        decide (swS q.sc [.Name x px, .Name y py, .Name z pz] [ax, bx, dx] = some (some [x, y, z])) && chk q a ax && chk q b bx && chk q d dx
    | _ => false
  | .parM i j a b, s => match s with
    | .Assign [.Tuple [.Name x px, .Name y py] kt pt] (.Tuple [u, v] _ _) _ => decide (q.N[i]? = some x) && decide (q.N[j]? = some y) && decide (i ≠ j) && kindB q.sc && (match q.sc.names.lookup x with | some .local => true | _ => false) && (match q.sc.names.lookup y with | some .local => true | _ => false) &&
        decide (swS q.sc [.Name x px, .Name y py] [u, v] = some (some [x, y])) && chk q a u && chk q b v
    | _ => false
  | .tuM i j a b, s => match s with
    | .Assign [.Tuple [.Name x px, .Name y py] kt pt] (.Tuple [u, v] _ _) _ => decide (q.N[i]? = some x) && storeB q x && decide (q.N[j]? = some y) && storeB q y && decide (i ≠ j) && kindB q.sc && (match swS q.sc [.Name x px, .Name y py] [u, v] with | some none => true | _ => false) && chk q a u && chk q b v
    | _ => false
  | .dnew0 i, s => match s with
    | .Assign [.Name nm _] (.Dict [] [] _) _ => decide (q.N[i]? = some nm) && storeB q nm
    | _ => false
  | .aug i e, s => match s with
    | .AugAssign (.Name x _) .Add v _ => decide (q.N[i]? = some x) && storeB q x && chk q e v
    | _ => false
  | .app i e, s => match s with
    | .Expr (.Call (.Attribute (.Name x _) m ap) [v] [] p) _ => decide (m = ("append" : Str)) && decide (q.N[i]? = some x) && visB q.sc x && plainN x && lineB ap p && chk q e v
    | _ => false
  | .ext i e, s => match s with
    | .Expr (.Call (.Attribute (.Name x _) m ap) [v] [] p) _ => decide (m = ("extend" : Str)) && decide (q.N[i]? = some x) && visB q.sc x && plainN x && lineB ap p && chk q e v
    | _ => false
  | .expr e, s => match s with
    | .Expr v _ => chk q e v && noComp v
    | _ => false
  | .ite t a b, s => match s with
    | .If c x y _ => chk q t c && chkSs q a x && chkSs q b y
    | _ => false
  | .whl _ t b, s => match s with
    | .While c x [] _ => chk q t c && chkSs q b x
    | _ => false
  | .for t it b, s => match s with
    | .For tg x body [] _ => chkT q t tg && chki q it tg x && chkSs q b body
    | _ => false
  | .fpg t i j e b, s => match s with
    | .For tg (.Call (.Attribute (.Name nm _) m apos) [.Call (.Attribute (.Name nq _) m2 ap2) [] [] cp2, y] [] cpos) body [] _ => chkT q t tg && decide (m = ("get" : Str)) && decide (m2 = ("pop" : Str)) && decide (q.N[i]? = some nm) && visB q.sc nm && plainN nm && decide (q.N[j]? = some nq) && visB q.sc nq && plainN nq && (apos.endLine == cpos.line) && (ap2.endLine == cp2.line) && chk q e y && chkSs q b body
    | _ => false
  | .fro t j b, s => match s with
    | .For tg (.Name nq _) body [] _ => chkT q t tg && decide (q.N[j]? = some nq) && visB q.sc nq && plainN nq && chkSs q b body
    | _ => false
  | .raise k, s => match s with
    | .Raise (some (.Call (.Name x _) [.Constant (.str _) _ _] [] _)) none _ => decide (q.clN[k]? = some x) && glB q.sc x && plainN x
    | _ => false
  | .tri b hs, s => match s with
    | .Try body (h :: r) [] [] _ => chkSs q b body && chkH q hs (h :: r)
    | _ => false
def chkSs (q : Ctx) : ISs → List Stmt → Bool
  | .nil, ss => ss.isEmpty
  | .cons s r, ss => match ss with
    | x :: xs => chkS q s x && chkSs q r xs
    | _ => false
  | .frz _ r, ss => chkSs q r ss
def chkH (q : Ctx) : IHs → List ExceptHandler → Bool
  | .nil, hs => hs.isEmpty
  | .cons j i su r, hs => match hs with
    | .ExceptHandler (some (.Name x _)) (some n) (b :: bs) _ :: rest => decide (q.clN[j]? = some x) && glB q.sc x && plainN x && decide (q.N[i]? = some n) && (match q.sc.names.lookup n with | some .local => true | _ => false) && chkSs q su (b :: bs) && chkH q r rest
    | _ => false
end
end PD
namespace PD
open PySem PySem.Spec PyProof.Rows L2
structure GoodS (X : Cx) (c : Cfg) (Γ : Gam) (q : Ctx) (su : Bool) (k : Nat) : Prop where
  g : Good X c Γ q su k
  po : PassesOwn (model X.prog X.w) X.A X.env X.xe
  stk : su = false → X.stack = X.env :: X.outer
  frm : su = false → X.env.frame = some X.env.locals
  knd : X.env.scope.kind = .function
section
variable {X : Cx} {c : Cfg} {Γ : Gam} {q : Ctx} {su : Bool} {k : Nat}
theorem GoodS.tr (G : GoodS X c Γ q false k) {W : WX} {pn : List (Addr × Obj)} {xe : Value → Shared → Prop} (tk : Takes (X.tr pn xe) W) (po : PassesOwn (model X.prog X.w) X.A X.env xe) : GoodS (X.tr pn xe) { c with W := W } Γ q false k where
  g := { hK := G.g.hK, hN := G.g.hN, nd := G.g.nd, hsc := G.g.hsc, hfn := G.g.hfn, un := G.g.un, tk := tk, gm := G.g.gm, rm := G.g.rm, cal := G.g.cal, ise := fun h => by cases h }
  po := po
  stk := G.stk
  frm := G.frm
  knd := G.knd
theorem GoodS.hd (G : GoodS X c Γ q su k) (j : Nat) (a : Addr) (vs : List V) : GoodS X (c.hd j a vs) Γ q su k where
  g := { hK := G.g.hK, hN := G.g.hN, nd := G.g.nd, hsc := G.g.hsc, hfn := G.g.hfn, un := G.g.un, tk := G.g.tk, gm := G.g.gm, rm := G.g.rm, cal := G.g.cal, ise := G.g.ise }
  po := G.po
  stk := G.stk
  frm := G.frm
  knd := G.knd
theorem GoodS.suite (G : GoodS X c Γ q false k) {a : Addr} {oe : Obj} {pn : List (Addr × Obj)} {j : Nat} (hz : Zc (c.cv j) none oe) (hf : ∃ vs, oe.data = .fields vs) : GoodS (X.suite a ((a, oe) :: pn)) (c.suite a j) Γ q true k where
  g := { hK := G.g.hK, hN := G.g.hN, nd := G.g.nd, hsc := G.g.hsc, hfn := G.g.hfn, un := G.g.un, tk := takes0, gm := G.g.gm, rm := (fun h => by cases h), cal := (fun h => by cases h), ise := fun _ => ⟨a, oe, pn, X, rfl, rfl, hz, hf⟩ }
  po := PassesOwn.never
  stk := fun h => by cases h
  frm := fun h => by cases h
  knd := G.knd
theorem s_par {i j : Nat} {x y : Str} {a b : Expr} {fs : List S → R (List D)} {px py pt pt2 pos : Pos} {kt k2 : Nat} (hc : X.calm = true) (hN : X.N.Nodup) (hi : X.N[i]? = some x) (hj : X.N[j]? = some y) (hij : i ≠ j) (hx : X.env.scope.names.lookup x = some .local) (hy : X.env.scope.names.lookup y = some .local) (ha : PA X [a, b] (tAD c fs))
    (hw : swappedStores [.Tuple [.Name x px, .Name y py] kt pt] (.Tuple [a, b] k2 pt2) X.env = pure (some [x, y])) :
    PS X (.Assign [.Tuple [.Name x px, .Name y py] kt pt] (.Tuple [a, b] k2 pt2) pos) (tS c fun δ => thenS (fs δ) δ fun ds => parS i j δ ds) :=
  (ps_par hc hN hi hj hij hx hy ha hw (by unfold swapsWithSole; exact swaps_no rfl)).impD fun E σ H ⟨F, δ, rl, a⟩ => ⟨F, δ, rl, aft_thenS rl a fun ds vs F1 H1 e p a1 => by
    unfold parS at a1
    split at a1
    · cases p with
      | cons p1 p2 =>
        cases p2 with
        | cons p2 p3 =>
          cases p3
          split at a1
          · exact ⟨_, _, rfl, a1 _ F1 H1 (fun _ _ z => z) (((rl.ext e).setD p1).setD p2)⟩
          · exact a1.elim
    · exact a1.elim⟩
theorem s_parN {i j : Nat} {x y : Str} {a b : Expr} {f : List S → R D} {fn : List S → R (List D)} {px py pt pt2 pos : Pos} {kt k2 : Nat} (hc : X.calm = true) (hN : X.N.Nodup) (hi : X.N[i]? = some x) (hj : X.N[j]? = some y) (hij : i ≠ j) (hx : X.env.scope.names.lookup x = some .local) (hy : X.env.scope.names.lookup y = some .local) (ha : PE X a (tD c f)) (hb : PE X b (tN c fn)) (sa : noStar a = true) (sb : noStar b = true)
    (hw : swappedStores [.Tuple [.Name x px, .Name y py] kt pt] (.Tuple [a, b] k2 pt2) X.env = pure (some [x, y])) :
    PS X (.Assign [.Tuple [.Name x px, .Name y py] kt pt] (.Tuple [a, b] k2 pt2) pos) (tS c fun δ => thenS (f δ) δ fun d => thenS (fn δ) δ fun ds => parNS i j δ d ds) :=
  (ps_par hc hN hi hj hij hx hy (pa_cons ha (pa_cons hb pa_nil (star_cons _ sb)) (star_cons _ sa)) hw (by unfold swapsWithSole; exact swaps_no rfl)).impD fun E σ H ⟨F, δ, rl, a⟩ => ⟨F, δ, rl, aft_thenS rl a fun d v F1 H1 e1 p1 a1 =>
    ⟨F1, δ, rl.ext e1, aft_thenS (rl.ext e1) a1 fun ds w F2 H2 e2 p2 a2 => by
      obtain ⟨q, vs, rfl, h1, h2, h3, h4, h5⟩ := p2
      unfold parNS at a2
      split at a2
      · rename_i hi2
        have r2 : Rel c.K c.B F2 (δ.set i (.dat d)) (σ.set i (some v)) H2 := ((rl.ext e1).ext e2).setD (DV.mono e2.ff p1)
        have r1 := rl.ext e1
        refine ⟨_, _, rfl, a2 _ F2 H2 (fun _ _ z => z) (r2.setO (by simpa using hi2.2) h2 (r1.keep.free h1) h3 h4 h5 fun m hm ho => ?_)⟩
        have ho' : OwnAt δ σ m q := by
          obtain ⟨⟨d1, q1⟩, z1⟩ := ho
          by_cases hmi : i = m
          · subst hmi
            rw [List.getElem?_set_self hi2.1] at q1
            cases q1
          · rw [List.getElem?_set_ne hmi] at q1 z1
            exact ⟨⟨d1, q1⟩, z1⟩
        obtain ⟨o', _, _, h6⟩ := r1.own_any ho'
        rw [h1] at h6; cases h6
      · exact a2.elim⟩⟩
theorem s_trp {i j l : Nat} {x y z : Str} {a b d : Expr} {fs : List S → R (List D)} {px py pz pt pt2 pos : Pos} {kt k2 : Nat} (hc : X.calm = true) (hN : X.N.Nodup) (hi : X.N[i]? = some x) (hj : X.N[j]? = some y) (hl : X.N[l]? = some z) (hij : i ≠ j) (hil : i ≠ l) (hjl : j ≠ l) (hx : X.env.scope.names.lookup x = some .local) (hy : X.env.scope.names.lookup y = some .local) (hz : X.env.scope.names.lookup z = some .local)
    (ha : PA X [a, b, d] (tAD c fs)) (hw : swappedStores [.Tuple [.Name x px, .Name y py, .Name z pz] kt pt] (.Tuple [a, b, d] k2 pt2) X.env = pure (some [x, y, z])) :
    PS X (.Assign [.Tuple [.Name x px, .Name y py, .Name z pz] kt pt] (.Tuple [a, b, d] k2 pt2) pos) (tS c fun δ => thenS (fs δ) δ fun ds => trpS i j l δ ds) :=
  (ps_par3 hc hN hi hj hl hij hil hjl hx hy hz ha hw (by unfold swapsWithSole; exact swaps_no rfl)).impD fun E σ H ⟨F, δ, rl, a⟩ => ⟨F, δ, rl, aft_thenS rl a fun ds vs F1 H1 e p a1 => by
    unfold trpS at a1
    split at a1
    · cases p with
      | cons p1 p2 =>
        cases p2 with
        | cons p2 p3 =>
          cases p3 with
          | cons p3 p4 =>
            cases p4
            split at a1
            · exact ⟨_, _, _, rfl, a1 _ F1 H1 (fun _ _ z => z) ((((rl.ext e).setD p1).setD p2).setD p3)⟩
            · exact a1.elim
    · exact a1.elim⟩
theorem s_parM {i j : Nat} {x y : Str} {a b : Expr} {f : List S → R D} {fn : List S → R (List D)} {px py pt pt2 pos : Pos} {kt k2 : Nat} (hc : X.calm = true) (hN : X.N.Nodup) (hi : X.N[i]? = some x) (hj : X.N[j]? = some y) (hij : i ≠ j) (hx : X.env.scope.names.lookup x = some .local) (hy : X.env.scope.names.lookup y = some .local) (ha : PE X a (tN c fn)) (hb : PE X b (tD c f)) (sa : noStar a = true) (sb : noStar b = true)
    (hw : swappedStores [.Tuple [.Name x px, .Name y py] kt pt] (.Tuple [a, b] k2 pt2) X.env = pure (some [x, y])) :
    PS X (.Assign [.Tuple [.Name x px, .Name y py] kt pt] (.Tuple [a, b] k2 pt2) pos) (tS c fun δ => thenS (fn δ) δ fun ds => thenS (f δ) δ fun d => parMS i j δ ds d) :=
  (ps_par hc hN hi hj hij hx hy (pa_cons ha (pa_cons hb pa_nil (star_cons _ sb)) (star_cons _ sa)) hw (by unfold swapsWithSole; exact swaps_no rfl)).impD fun E σ H ⟨F, δ, rl, a⟩ => ⟨F, δ, rl, aft_thenS rl a fun ds v F1 H1 e1 p1 a1 =>
    ⟨F1, δ, rl.ext e1, aft_thenS (rl.ext e1) a1 fun d w F2 H2 e2 p2 a2 => by
      obtain ⟨q, vs, rfl, h1, h2, h3, h4, h5⟩ := p1
      unfold parMS at a2
      split at a2
      · rename_i hi2
        have f2 : F2 q = none := by
          cases z : F2 q with
          | none => rfl
          | some o => have := e2.nw _ _ z h2; rw [h3] at this; cases this
        have r3 := (rl.ext e1).ext e2
        have ro := r3.setO (i := i) hi2.1 f2 (rl.keep.free h1) (e2.hh _ _ h3) h4 (h5.mono e2.ff) (fun m hm ho => by
          obtain ⟨o', _, _, h8⟩ := rl.own_any ho
          rw [h1] at h8; cases h8)
        exact ⟨_, _, rfl, a2 _ F2 H2 (fun _ _ z => z) (ro.setD p2)⟩
      · exact a2.elim⟩⟩
theorem s_tuM {i j : Nat} {x y : Str} {a b : Expr} {f : List S → R D} {fn : List S → R (List D)} {px py pt pt2 pos : Pos} {kt k2 : Nat} (hc : X.calm = true) (hN : X.N.Nodup) (hi : X.N[i]? = some x) (hj : X.N[j]? = some y) (hij : i ≠ j) (lx : Loc X.env.scope x) (fx : X.fn x = true ∨ X.env.scope.names.lookup x = some .local) (ly : Loc X.env.scope y) (fy : X.fn y = true ∨ X.env.scope.names.lookup y = some .local) (ha : PE X a (tN c fn)) (hb : PE X b (tD c f)) (sa : noStar a = true) (sb : noStar b = true)
    (hw : swappedStores [.Tuple [.Name x px, .Name y py] kt pt] (.Tuple [a, b] k2 pt2) X.env = pure none) :
    PS X (.Assign [.Tuple [.Name x px, .Name y py] kt pt] (.Tuple [a, b] k2 pt2) pos) (tS c fun δ => thenS (fn δ) δ fun ds => thenS (f δ) δ fun d => parMS i j δ ds d) :=
  (ps_asg (pe_tup (pa_cons ha (pa_cons hb pa_nil (star_cons _ sb)) (star_cons _ sa))) (pg_tup hc (pgs_cons (pg_name hN hi lx fx) (pgs_cons (pg_name hN hj ly fy) pgs_nil rfl) rfl) (n := 2) rfl rfl) (by unfold swapsWithSole; exact swaps_no rfl) hw rfl).impD fun E σ H ⟨F, δ, rl, a⟩ => ⟨F, δ, rl, aft_thenS rl a fun ds v F1 H1 e1 p1 a1 =>
    ⟨F1, δ, rl.ext e1, aft_thenS (rl.ext e1) a1 fun d w F2 H2 e2 p2 a2 => by
      obtain ⟨q, vs, rfl, h1, h2, h3, h4, h5⟩ := p1
      refine ⟨by show 2 ≤ sizeLine; rw [szN_eq]; decide, fun T hT => ?_⟩
      unfold parMS at a2
      split at a2
      · rename_i hi2
        have f2 : F2 q = none := by
          cases z : F2 q with
          | none => rfl
          | some o => have := e2.nw _ _ z h2; rw [h3] at this; cases this
        have e3 : Ext F2 H2 F2 (upd H2 T (.tup [.ref q, w])) := Ext.free e2.fh hT
        have r3 := ((rl.ext e1).ext e2).ext e3
        have ro := r3.setO (i := i) hi2.1 f2 (rl.keep.free h1) (e3.hh _ _ (e2.hh _ _ h3)) h4 (h5.mono e2.ff) (fun m hm ho => by
          obtain ⟨o', _, _, h8⟩ := rl.own_any ho
          rw [h1] at h8; cases h8)
        exact ⟨T, [.ref q, w], rfl, SqT.of upd_same, rfl, _, _, rfl, _, _, rfl, rfl, a2 _ F2 _ (fun _ _ z => z) (ro.setD p2)⟩
      · exact a2.elim⟩⟩
theorem s_par3 {i j l : Nat} {x y z : Str} {a b d : Expr} {fq : List S → R (List (List (Option Int)) × List D)} {f g : List S → R D} {px py pz pt pt2 pos : Pos} {kt k2 : Nat} (hc : X.calm = true) (hN : X.N.Nodup) (hi : X.N[i]? = some x) (hj : X.N[j]? = some y) (hl : X.N[l]? = some z) (hij : i ≠ j) (hil : i ≠ l) (hjl : j ≠ l) (hx : X.env.scope.names.lookup x = some .local) (hy : X.env.scope.names.lookup y = some .local) (hz : X.env.scope.names.lookup z = some .local)
    (ha : PE X a (tG c (pCN c) fq)) (hb : PE X b (tD c f)) (hd : PE X d (tD c g)) (sa : noStar a = true) (sb : noStar b = true) (sd : noStar d = true)
    (hw : swappedStores [.Tuple [.Name x px, .Name y py, .Name z pz] kt pt] (.Tuple [a, b, d] k2 pt2) X.env = pure (some [x, y, z])) :
    PS X (.Assign [.Tuple [.Name x px, .Name y py, .Name z pz] kt pt] (.Tuple [a, b, d] k2 pt2) pos) (tS c fun δ => thenS (fq δ) δ fun q => thenS (f δ) δ fun b' => thenS (g δ) δ fun d' => par3S i j l δ q b' d') :=
  (ps_par3 hc hN hi hj hl hij hil hjl hx hy hz (pa_cons ha (pa_cons hb (pa_cons hd pa_nil (star_cons _ sd)) (star_cons _ sb)) (star_cons _ sa)) hw (by unfold swapsWithSole; exact swaps_no rfl)).impD fun E σ H ⟨F, δ, rl, a⟩ => ⟨F, δ, rl, aft_thenS rl a fun q v F1 H1 e1 p1 a1 =>
    ⟨F1, δ, rl.ext e1, aft_thenS (rl.ext e1) a1 fun b' w F2 H2 e2 p2 a2 => ⟨F2, δ, (rl.ext e1).ext e2, aft_thenS ((rl.ext e1).ext e2) a2 fun d' u F3 H3 e3 p3 a3 => by
      obtain ⟨ad, L, ep, rfl, h1, h2, h3, h4, h5, h6, h7⟩ := p1
      unfold par3S at a3
      split at a3
      · rename_i hlt
        have f2 : F2 ad = none := by
          cases z : F2 ad with
          | none => rfl
          | some o => have := e2.nw _ _ z h2; rw [h3] at this; cases this
        have f3 : F3 ad = none := by
          cases z : F3 ad with
          | none => rfl
          | some o => have := e3.nw _ _ z f2; rw [e2.hh _ _ h3] at this; cases this
        have r3 := ((rl.ext e1).ext e2).ext e3
        have ro := r3.setOc (i := i) (a := ad) (o := DO ad L ep) (oc := .d q.1 q.2) hlt.1 f3 (rl.keep.free h1) (e3.hh _ _ (e2.hh _ _ h3)) ⟨L, ep, rfl, h4, h5, h6, (h7.mono e2.ff).mono e3.ff⟩ (fun m hm ho => by
          obtain ⟨o', _, _, h8⟩ := rl.own_any ho
          rw [h1] at h8; cases h8)
        exact ⟨_, _, _, rfl, a3 _ F3 H3 (fun _ _ z => z) ((ro.setD (DV.mono e3.ff p2)).setD p3)⟩
      · exact a3.elim⟩⟩⟩
theorem sw_false {elt : Expr} {gs : List Comprehension} {scope : Scope} {pos py : Pos} {y : Str} {l : Nat} {env : Env} (hk : env.scope.kind = .function) (h : swLc env.scope y py pos scope = false) : swapsWith (.ListComp elt gs scope pos) (some (.Name y py)) l env = pure false := by
  have hb : env.blockKind = .function := by unfold Env.blockKind; rw [hk]; rfl
  unfold swapsWith
  simp only [hb]
  have e : (env.kindOf y == some NameKind.local && py.line == pos.line && !(scope.names.any fun (n, k) => n == y && (k == .local || k == .cell))) = swLc env.scope y py pos scope := by
    unfold swLc
    show (env.scope.names.lookup y == some NameKind.local && _ && _) = _
    have : (env.scope.names.lookup y == some NameKind.local) = (match env.scope.names.lookup y with | some .local => true | _ => false) := by
      cases env.scope.names.lookup y with
      | none => rfl
      | some v => cases v <;> rfl
    rw [this] <;> rfl
  rw [h] at e
  simp only [Expr.pos]
  show (pure (true && env.kindOf y == some NameKind.local && py.line == pos.line && !(scope.names.any fun (n, k) => n == y && (k == .local || k == .cell))) : Sem Bool) = pure false
  rw [Bool.true_and, e]
theorem sw_lc_true {elt : Expr} {gs : List Comprehension} {scope : Scope} {pos py : Pos} {y : Str} {l : Nat} {env : Env} (hk : env.scope.kind = .function) (h : swLc env.scope y py pos scope = true) : env.scope.names.lookup y = some .local ∧ swapsWith (.ListComp elt gs scope pos) (some (.Name y py)) l env = pure true := by
  unfold swLc at h
  simp only [Bool.and_eq_true, Bool.not_eq_true'] at h
  obtain ⟨⟨h1, h2⟩, h3⟩ := h
  have hy : env.scope.names.lookup y = some .local := by
    split at h1
    · assumption
    · cases h1
  exact ⟨hy, sw_true hk hy h2 h3⟩
/-- name = [..] in both forms -/
theorem s_newLc {i : Nat} {x : Str} {px pos : Pos} {ir : IE} {v : Expr} (G : GoodS X c Γ q su k) (hi : X.N[i]? = some x) (hl : Loc X.env.scope x) (hf : X.fn x = true ∨ X.env.scope.names.lookup x = some .local) (hc : chk q ir v = true)
    (hv : (∀ el gs scope p, v ≠ .ListComp el gs scope p) → noComp v = true) : PS X (.Assign [.Name x px] v pos) (tS c (fNewS i (ev Γ su ir).N)) := by
  by_cases hn : noComp v = true
  · exact s_new G.g.nd hi hl hf (sound ir G.g hc).N (swaps_no hn)
  · cases v with
    | ListComp el gs scope p =>
      cases hs : swLc X.env.scope x px p scope with
      | false => exact s_new G.g.nd hi hl hf (sound ir G.g hc).N (sw_false G.knd hs)
      | true =>
        obtain ⟨h1, h2⟩ := sw_lc_true (elt := el) (gs := gs) (l := pos.line) G.knd hs
        cases ir with
        | lc own t it tst el' =>
          have h := hc
          simp only [chk] at h
          split at h
          · rename_i heq
            cases heq
            simp only [Bool.and_eq_true, decide_eq_true_eq, List.all_eq_true] at h
            obtain ⟨⟨⟨⟨⟨⟨rfl, g2⟩, g3⟩, g4⟩, g5⟩, g6⟩, g7⟩ := h
            simp only [ev]
            cases su with
            | true =>
              refine ⟨fun pins s σ H E I ⟨F, δ, rl, a⟩ => ?_⟩
              exact a.elim
            | false =>
              rw [if_neg (by decide)]
              have hn : notSet _ = true := chki_set g3
              refine (ps_setLc (G.g.cal rfl) G.g.nd hi h1 h2 (soundi it G.g g3).B (blkOk_by (by rw [G.g.hN, G.g.hsc]; exact g2)) (fun s H C cl fp => pg_of (G.g.blk s H _ C cl fp) g4) (fun s H C cl fp => soundf tst (G.g.blk s H _ C cl fp) g5) (fun s H C cl fp => (sound el' (G.g.blk s H _ C cl fp) g6).E) (folded_of hn)).impD fun E σ H h => ?_
              exact lc_read g7 σ H _ (new_read E σ H h)
          · cases h
        | _ => simp [chk] at hc
    | SetComp a b d e => exact absurd (hv (by intro _ _ _ _ z; cases z)) hn
    | DictComp a b d e f => exact absurd (hv (by intro _ _ _ _ z; cases z)) hn
    | _ => exact absurd rfl hn
end
end PD
namespace PD
open PySem PySem.Spec PyProof.Rows L2
theorem ps_bad {X : Cx} {c : Cfg} {st : Stmt} : PS X st (tS c fun _ => .bad) := s_never
theorem kind_of {sc : Scope} (h : kindB sc = true) : sc.kind = .function := by
  unfold kindB at h
  split at h
  · assumption
  · cases h
theorem lk_local {sc : Scope} {x : Str} (h : (match sc.names.lookup x with | some .local => true | _ => false) = true) : sc.names.lookup x = some .local := by
  split at h
  · assumption
  · cases h
mutual
theorem soundS : ∀ (s : IS) {X : Cx} {c : Cfg} {Γ : Gam} {q : Ctx} {su : Bool} {k : Nat} {st : Stmt}, GoodS X c Γ q su k → chkS q s st = true → PS X st (tS c (ex Γ su s))
  | .ret e, X, c, Γ, q, su, k, st, G, h => by
    simp only [chkS] at h
    split at h
    · exact s_ret (sound e G.g h).E
    · cases h
  | .retN, X, c, Γ, q, su, k, st, G, h => by
    simp only [chkS] at h
    split at h
    · exact s_retN
    · cases h
  | .pass, X, c, Γ, q, su, k, st, G, h => by
    simp only [chkS] at h
    split at h
    · exact s_pass
    · cases h
  | .never, X, c, Γ, q, su, k, st, G, h => s_never
  | .set i e, X, c, Γ, q, su, k, st, G, h => by
    simp only [chkS] at h
    split at h
    · simp only [Bool.and_eq_true, decide_eq_true_eq] at h
      obtain ⟨⟨⟨h1, h2⟩, h3⟩, h4⟩ := h
      obtain ⟨s1, s2⟩ := store_of G.g h2
      exact s_set G.g.nd (by rw [G.g.hN]; exact h1) s1 s2 (sound e G.g h3).E h4
    · cases h
  | .new i e, X, c, Γ, q, su, k, st, G, h => by
    simp only [chkS] at h
    split at h
    · simp only [Bool.and_eq_true, decide_eq_true_eq] at h
      obtain ⟨⟨⟨⟨h1, h2⟩, h3⟩, h4⟩, h5⟩ := h
      obtain ⟨s1, s2⟩ := store_of G.g h2
      refine s_newLc G (by rw [G.g.hN]; exact h1) s1 s2 h3 fun hne => ?_
      split at h5
      · exact absurd rfl (hne _ _ _ _)
      · exact h5
    · cases h
  | .tset is e, X, c, Γ, q, su, k, st, G, h => by
    simp only [chkS] at h
    split at h
    · simp only [Bool.and_eq_true] at h
      obtain ⟨⟨⟨⟨h1, h2⟩, h3⟩, h4⟩, h5⟩ := h
      cases su with
      | true => exact ps_bad
      | false =>
        refine s_tup G.g.hK (G.g.cal rfl) G.g.nd (names_of G.g h1) (sound e G.g h2).E h3 ?_
        split at h5
        · split at h5
          · exact sw_of G.knd G.g.hsc (by assumption)
          · cases h5
        · exact swap_none (by assumption)
    · cases h
  | .par i j a b, X, c, Γ, q, su, k, st, G, h => by
    simp only [chkS] at h
    split at h
    · simp only [Bool.and_eq_true, decide_eq_true_eq] at h
      obtain ⟨⟨⟨⟨⟨⟨⟨⟨h1, h2⟩, h3⟩, h4⟩, h5⟩, h6⟩, h7⟩, h8⟩, h9⟩ := h
      cases su with
      | true => exact ps_bad
      | false =>
        rename_i u v _ _ _
        have hch : chks q (.cons a (.cons b .nil)) [u, v] = true := by simp only [chks, h8, h9]; rfl
        have sa := sounds (.cons a (.cons b .nil)) G.g hch
        exact s_par (G.g.cal rfl) G.g.nd (by rw [G.g.hN]; exact h1) (by rw [G.g.hN]; exact h2) h3 (by rw [G.g.hsc]; exact lk_local h5) (by rw [G.g.hsc]; exact lk_local h6) sa.A (sw_of G.knd G.g.hsc h7)
    · cases h
  | .parN i j a b, X, c, Γ, q, su, k, st, G, h => by
    simp only [chkS] at h
    split at h
    · simp only [Bool.and_eq_true, decide_eq_true_eq] at h
      obtain ⟨⟨⟨⟨⟨⟨⟨⟨h1, h2⟩, h3⟩, h4⟩, h5⟩, h6⟩, h7⟩, h8⟩, h9⟩ := h
      cases su with
      | true => exact ps_bad
      | false =>
        exact s_parN (G.g.cal rfl) G.g.nd (by rw [G.g.hN]; exact h1) (by rw [G.g.hN]; exact h2) h3 (by rw [G.g.hsc]; exact lk_local h5) (by rw [G.g.hsc]; exact lk_local h6) (sound a G.g h8).E (sound b G.g h9).N (chk_star h8) (chk_star h9) (sw_of G.knd G.g.hsc h7)
    · cases h
  | .dput i k' v, X, c, Γ, q, su, k, st, G, h => by
    simp only [chkS] at h
    split at h
    · simp only [Bool.and_eq_true, decide_eq_true_eq] at h
      obtain ⟨⟨⟨⟨⟨h1, h2⟩, h3⟩, h4⟩, h5⟩, h6⟩ := h
      rw [← G.g.hN] at h1
      rw [← G.g.hsc] at h2
      have pl := plain_of h3
      exact s_dput G.g.hK G.g.un (sound v G.g h5).E (sound k' G.g h4).E h1 (vis_of h2) pl.1 pl.2 (swaps_no h6)
    · cases h
  | .dnew i k' v, X, c, Γ, q, su, k, st, G, h => by
    simp only [chkS] at h
    split at h
    · simp only [Bool.and_eq_true, decide_eq_true_eq] at h
      obtain ⟨⟨⟨h1, h2⟩, h3⟩, h4⟩ := h
      obtain ⟨s1, s2⟩ := store_of G.g h2
      exact s_dnew G.g.nd (by rw [G.g.hN]; exact h1) s1 s2 (n_dict1 G.g.hK G.g.un (sound k' G.g h3).E (sound v G.g h4).E) (swaps_no rfl)
    · cases h
  | .par3 i j l k' v b d, X, c, Γ, q, su, k, st, G, h => by
    simp only [chkS] at h
    split at h
    · simp only [Bool.and_eq_true, decide_eq_true_eq] at h
      obtain ⟨⟨⟨⟨⟨⟨⟨⟨⟨⟨⟨⟨⟨⟨h1, h2⟩, h3⟩, h4⟩, h5⟩, h6⟩, h7⟩, h8⟩, h9⟩, h10⟩, h11⟩, h12⟩, h13⟩, h14⟩, h15⟩ := h
      cases su with
      | true => exact ps_bad
      | false =>
        exact s_par3 (G.g.cal rfl) G.g.nd (by rw [G.g.hN]; exact h1) (by rw [G.g.hN]; exact h2) (by rw [G.g.hN]; exact h3) h4 h5 h6 (by rw [G.g.hsc]; exact lk_local h8) (by rw [G.g.hsc]; exact lk_local h9) (by rw [G.g.hsc]; exact lk_local h10)
          (n_dict1 G.g.hK G.g.un (sound k' G.g h12).E (sound v G.g h13).E) (sound b G.g h14).E (sound d G.g h15).E rfl (chk_star h14) (chk_star h15) (sw_of G.knd G.g.hsc h11)
    · cases h
  | .trp i j l a b d, X, c, Γ, q, su, k, st, G, h => by
    simp only [chkS] at h
    split at h
    · simp only [Bool.and_eq_true, decide_eq_true_eq] at h
      obtain ⟨⟨⟨⟨⟨⟨⟨⟨⟨⟨⟨⟨⟨h1, h2⟩, h3⟩, h4⟩, h5⟩, h6⟩, h7⟩, h8⟩, h9⟩, h10⟩, h11⟩, h12⟩, h13⟩, h14⟩ := h
      cases su with
      | true => exact ps_bad
      | false =>
        rename_i u v w _ _ _
        have hch : chks q (.cons a (.cons b (.cons d .nil))) [u, v, w] = true := by simp only [chks, h12, h13, h14]; rfl
        have sa := sounds (.cons a (.cons b (.cons d .nil))) G.g hch
        exact s_trp (G.g.cal rfl) G.g.nd (by rw [G.g.hN]; exact h1) (by rw [G.g.hN]; exact h2) (by rw [G.g.hN]; exact h3) h4 h5 h6 (by rw [G.g.hsc]; exact lk_local h8) (by rw [G.g.hsc]; exact lk_local h9) (by rw [G.g.hsc]; exact lk_local h10) sa.A (sw_of G.knd G.g.hsc h11)
    · cases h
  | .parM i j a b, X, c, Γ, q, su, k, st, G, h => by
    simp only [chkS] at h
    split at h
    · simp only [Bool.and_eq_true, decide_eq_true_eq] at h
      obtain ⟨⟨⟨⟨⟨⟨⟨⟨h1, h2⟩, h3⟩, h4⟩, h5⟩, h6⟩, h7⟩, h8⟩, h9⟩ := h
      cases su with
      | true => exact ps_bad
      | false =>
        exact s_parM (G.g.cal rfl) G.g.nd (by rw [G.g.hN]; exact h1) (by rw [G.g.hN]; exact h2) h3 (by rw [G.g.hsc]; exact lk_local h5) (by rw [G.g.hsc]; exact lk_local h6) (sound a G.g h8).N (sound b G.g h9).E (chk_star h8) (chk_star h9) (sw_of G.knd G.g.hsc h7)
    · cases h
  | .tuM i j a b, X, c, Γ, q, su, k, st, G, h => by
    simp only [chkS] at h
    split at h
    · simp only [Bool.and_eq_true, decide_eq_true_eq] at h
      obtain ⟨⟨⟨⟨⟨⟨⟨⟨h1, h2⟩, h3⟩, h4⟩, h5⟩, h6⟩, h7⟩, h8⟩, h9⟩ := h
      obtain ⟨s1, s2⟩ := store_of G.g h2
      obtain ⟨s3, s4⟩ := store_of G.g h4
      cases su with
      | true => exact ps_bad
      | false =>
        refine s_tuM (G.g.cal rfl) G.g.nd (by rw [G.g.hN]; exact h1) (by rw [G.g.hN]; exact h3) h5 s1 s2 s3 s4 (sound a G.g h8).N (sound b G.g h9).E (chk_star h8) (chk_star h9) ?_
        split at h7
        · exact sw_of G.knd G.g.hsc (by assumption)
        · cases h7
    · cases h
  | .dnew0 i, X, c, Γ, q, su, k, st, G, h => by
    simp only [chkS] at h
    split at h
    · simp only [Bool.and_eq_true, decide_eq_true_eq] at h
      obtain ⟨h1, h2⟩ := h
      obtain ⟨s1, s2⟩ := store_of G.g h2
      exact s_dnew (fn := fun _ => .ok ([], [])) G.g.nd (by rw [G.g.hN]; exact h1) s1 s2 n_dict0 (swaps_no rfl)
    · cases h
  | .aug i e, X, c, Γ, q, su, k, st, G, h => by
    simp only [chkS] at h
    split at h
    · simp only [Bool.and_eq_true, decide_eq_true_eq] at h
      obtain ⟨⟨h1, h2⟩, h3⟩ := h
      obtain ⟨s1, s2⟩ := store_of G.g h2
      exact s_aug G.g.nd (by rw [G.g.hN]; exact h1) s1 s2 (sound e G.g h3).E
    · cases h
  | .app i e, X, c, Γ, q, su, k, st, G, h => by
    simp only [chkS] at h
    split at h
    · simp only [Bool.and_eq_true, decide_eq_true_eq] at h
      obtain ⟨⟨⟨⟨⟨rfl, h2⟩, h3⟩, h4⟩, h5⟩, h6⟩ := h
      rw [← G.g.hN] at h2
      rw [← G.g.hsc] at h3
      exact s_append G.g.hK h2 (vis_of h3) (plain_of h4).1 (plain_of h4).2 (sound e G.g h6).E (chk_star h6) h5 rfl
    · cases h
  | .ext i e, X, c, Γ, q, su, k, st, G, h => by
    simp only [chkS] at h
    split at h
    · simp only [Bool.and_eq_true, decide_eq_true_eq] at h
      obtain ⟨⟨⟨⟨⟨rfl, h2⟩, h3⟩, h4⟩, h5⟩, h6⟩ := h
      rw [← G.g.hN] at h2
      rw [← G.g.hsc] at h3
      exact s_extend G.g.hK h2 (vis_of h3) (plain_of h4).1 (plain_of h4).2 (sound e G.g h6).B (chk_star h6) h5 rfl
    · cases h
  | .expr e, X, c, Γ, q, su, k, st, G, h => by
    simp only [chkS] at h
    split at h
    · simp only [Bool.and_eq_true] at h
      exact s_expr (sound e G.g h.1).B h.2
    · cases h
  | .ite t a b, X, c, Γ, q, su, k, st, G, h => by
    simp only [chkS] at h
    split at h
    · simp only [Bool.and_eq_true] at h
      obtain ⟨⟨h1, h2⟩, h3⟩ := h
      exact s_if (sound t G.g h1).T (soundSs a G h2) (soundSs b G h3)
    · cases h
  | .whl n t b, X, c, Γ, q, su, k, st, G, h => by
    simp only [chkS] at h
    split at h
    · simp only [Bool.and_eq_true] at h
      exact s_while G.po (sound t G.g h.1).T (soundSs b G h.2)
    · cases h
  | .for t it b, X, c, Γ, q, su, k, st, G, h => by
    simp only [chkS] at h
    split at h
    · simp only [Bool.and_eq_true] at h
      obtain ⟨⟨h1, h2⟩, h3⟩ := h
      cases su with
      | true => exact ps_bad
      | false => exact s_for G.po (G.g.cal rfl) (soundi it G.g h2).F (pg_of G.g h1) (soundSs b G h3) (folded_of (chki_set h2))
    · cases h
  | .fpg t i j e b, X, c, Γ, q, su, k, st, G, h => by
    simp only [chkS] at h
    split at h
    · simp only [Bool.and_eq_true, decide_eq_true_eq] at h
      obtain ⟨⟨⟨⟨⟨⟨⟨⟨⟨⟨⟨⟨h1, rfl⟩, rfl⟩, h4⟩, h5⟩, h6⟩, h7⟩, h8⟩, h9⟩, h10⟩, h11⟩, h12⟩, h13⟩ := h
      rw [← G.g.hN] at h4 h7
      rw [← G.g.hsc] at h5 h8
      have pl := plain_of h6
      have pl2 := plain_of h9
      cases su with
      | true => exact ps_bad
      | false => exact s_forM G.g.hK G.po (G.g.cal rfl) (e_popget G.g.hK G.g.un (sound e G.g h12).E (chk_star h12) h10 h11 rfl rfl h4 (vis_of h5) pl.1 pl.2 h7 (vis_of h8) pl2.1 pl2.2) (pg_of G.g h1) (soundSs b G h13) (folded_of rfl)
    · cases h
  | .fro t j b, X, c, Γ, q, su, k, st, G, h => by
    simp only [chkS] at h
    split at h
    · simp only [Bool.and_eq_true, decide_eq_true_eq] at h
      obtain ⟨⟨⟨⟨h1, h4⟩, h5⟩, h6⟩, h7⟩ := h
      rw [← G.g.hN] at h4
      rw [← G.g.hsc] at h5
      have pl := plain_of h6
      cases su with
      | true => exact ps_bad
      | false => exact s_forO G.g.hK G.po (G.g.cal rfl) h4 (vis_of h5) pl.1 pl.2 (fun a vs => pg_of (G.hd j a vs).g h1) (fun a vs => soundSs b (G.hd j a vs) h7) (folded_of rfl)
    · cases h
  | .raise j, X, c, Γ, q, su, k, st, G, h => by
    simp only [chkS] at h
    split at h
    · simp only [Bool.and_eq_true, decide_eq_true_eq] at h
      obtain ⟨⟨h1, h2⟩, h3⟩ := h
      cases su with
      | true => exact ps_bad
      | false =>
        simp only [ex]
        cases hr : Γ.own j with
        | true => exact s_raise (G.g.cal rfl) G.g.tk ⟨G.g.gm.exc j _ h1 hr⟩ (gl_of G.g h2) (plain_of h3).1
        | false => exact ps_bad
    · cases h
  | .tri b hs, X, c, Γ, q, su, k, st, G, h => by
    simp only [chkS] at h
    split at h
    · simp only [Bool.and_eq_true] at h
      cases su with
      | true => exact ps_bad
      | false => exact s_try (G.stk rfl) (G.frm rfl) G.g.nd G.g.tk G.g.gm.xm (fun W pn xe tk po => soundSs b (G.tr tk po) h.1) (soundH hs G h.2)
    · cases h
theorem soundSs : ∀ (r : ISs) {X : Cx} {c : Cfg} {Γ : Gam} {q : Ctx} {su : Bool} {k : Nat} {ss : List Stmt}, GoodS X c Γ q su k → chkSs q r ss = true → PSs X ss (tS c (exs Γ su r))
  | .nil, X, c, Γ, q, su, k, ss, G, h => by
    simp only [chkSs, List.isEmpty_iff] at h
    subst h
    exact ss_nil
  | .cons s r, X, c, Γ, q, su, k, ss, G, h => by
    simp only [chkSs] at h
    split at h
    · simp only [Bool.and_eq_true] at h
      exact ss_cons (soundS s G h.1) (soundSs r G h.2)
    · cases h
  | .frz i r, X, c, Γ, q, su, k, ss, G, h => by
    simp only [chkSs] at h
    exact ss_freeze i (soundSs r G h)
theorem soundH : ∀ (r : IHs) {X : Cx} {c : Cfg} {Γ : Gam} {q : Ctx} {k : Nat} {hs : List ExceptHandler}, GoodS X c Γ q false k → chkH q r hs = true → HdD X c hs (exh Γ r)
  | .nil, X, c, Γ, q, k, hs, G, h => by
    simp only [chkH, List.isEmpty_iff] at h
    subst h
    exact .nil
  | .cons j i su r, X, c, Γ, q, k, hs, G, h => by
    simp only [chkH] at h
    split at h
    · simp only [Bool.and_eq_true, decide_eq_true_eq] at h
      obtain ⟨⟨⟨⟨⟨⟨h1, h2⟩, h3⟩, h4⟩, h5⟩, h6⟩, h7⟩ := h
      refine .cons ⟨gl_of G.g h2, (plain_of h3).1, G.g.gm.nm j _ h1⟩ (by rw [G.g.hN]; exact h4) ?_ (fun a oe kk pn hz hf => soundSs su (G.suite hz hf) h6) (soundH r G h7)
      show X.env.scope.names.lookup _ = _
      rw [G.g.hsc]
      exact lk_local h5
    · cases h
end
end PD
namespace PD
open PySem PySem.Spec PyProof.Rows L2
def outR : O → R D
  | .ret d => .ok d
  | .next _ => .ok .non
  | .exc k _ => .exc k
  | _ => .bad
/-- what a def does, by data -/
def evF (Γ : Gam) (n m : Nat) (body : ISs) : List D → R D := fun ds => if ds.length = n then outR (exs Γ false body (ds.map .dat ++ List.replicate (m - n) .none)) else .bad
structure Gam0 where
  gl : Nat → Option D
  sub : Nat → Nat → Option Bool
  own : Nat → Bool
def gam (Z : Gam0) (gs : List (List D → R D)) : Gam := { fn := fun j => (gs[j]?).getD fun _ => .bad, gl := Z.gl, sub := Z.sub, own := Z.own }
section
variable {P : Program} {w : World} {K : PySem.W.Frag} {mg : Str → Option Value} {base : Heap} {Γ : Gam} {q : Ctx} {cv : Nat → Value} {k : Nat}
theorem GamOk.ctx (g : GamOk P w K mg base Γ q cv k) (N : List Str) (sc : Scope) (b : Option Scope) : GamOk P w K mg base Γ { q with N := N, sc := sc, blk := b } cv k :=
  ⟨g.fn, g.gl, g.bi, g.nm, g.exc, g.xm, g.kit⟩
theorem FnD.mono {nm : Str} {g : List D → R D} (h : FnD P w K mg base cv k nm g) {j : Nat} (hj : k ≤ j) : FnD P w K mg base cv j nm g := by
  obtain ⟨n, fa, fd, ps, h1, h2, h3⟩ := h
  exact ⟨n, fa, fd, ps, h1, h2.mono hj, h3⟩
theorem GamOk.mono (g : GamOk P w K mg base Γ q cv k) {j : Nat} (hj : k ≤ j) : GamOk P w K mg base Γ q cv j :=
  ⟨fun i nm h => (g.fn i nm h).mono hj, g.gl, g.bi, g.nm, g.exc, g.xm, g.kit⟩
theorem start_slot {vs : List V} {N : List Str} {i : Nat} {v : V} (h : vs[i]? = some v) : (L2.start N vs)[i]? = some (some v) := by
  unfold L2.start
  have hi : i < vs.length := by
    rcases Nat.lt_or_ge i vs.length with z | z
    · exact z
    · rw [List.getElem?_eq_none z] at h; cases h
  rw [List.getElem?_append_left (by simpa using hi), List.getElem?_map, h]
  rfl
theorem rel_start {F H : Hp} {vs : List V} {ds : List D} {N : List Str} {hv : Nat → V} {ea : Addr} {ek : Nat} (sm : Same F H) (h : DVs K F vs ds) (hl : vs.length ≤ N.length) :
    Rel K ⟨F, H, hv, ea, ek⟩ F (ds.map S.dat ++ List.replicate (N.length - ds.length) S.none) (L2.start N vs) H := by
  have hlen := h.length
  have noown : ∀ i es, (ds.map S.dat ++ List.replicate (N.length - ds.length) S.none)[i]? ≠ some (S.ow es) := fun i es z => by
    have := List.mem_of_getElem? z
    rcases List.mem_append.mp this with m | m
    · obtain ⟨d, _, e⟩ := List.mem_map.mp m; cases e
    · have := List.eq_of_mem_replicate m; cases this
  refine ⟨sm, fun _ _ z => z, fun b o z n => ?_, ?_, fun i s z => ?_, fun i j a o1 o2 => ?_⟩
  · have n' : F b = none := n
    rw [z] at n'; cases n'
  · simp [L2.start, hlen]
  · by_cases hi : i < ds.length
    · rw [List.getElem?_append_left (by simpa using hi), List.getElem?_map, List.getElem?_eq_getElem hi] at z
      cases z
      obtain ⟨v, hv, pv⟩ := h.get' (List.getElem?_eq_getElem hi)
      exact ⟨some v, start_slot hv, v, rfl, pv⟩
    · rw [List.getElem?_append_right (by simpa using Nat.le_of_not_lt hi)] at z
      have hs : s = .none := by
        have := List.mem_of_getElem? z
        exact List.eq_of_mem_replicate this
      subst hs
      have hlt : i < N.length := by
        rcases Nat.lt_or_ge (i - (ds.map S.dat).length) (N.length - ds.length) with g | g
        · rw [List.length_map] at g; omega
        · rw [List.getElem?_eq_none (by simpa using g)] at z; cases z
      refine ⟨none, ?_, trivial⟩
      unfold L2.start
      rw [List.getElem?_append_right (by rw [List.length_map, hlen]; exact Nat.le_of_not_lt hi), List.getElem?_replicate, List.length_map, hlen]
      rw [if_pos (by omega)]
  · obtain ⟨⟨es, z⟩, _⟩ := o1
    exact absurd z (noown i es)
theorem fn_ok {x qual : Str} {st : Stmt} {f : Addr} {fd : FuncData} {N ps : List Str} {body : ISs} (F : Fun K x qual st f fd) (S : FnScope N ps (defScope st)) (hc : chkSs { q with N := N, sc := defScope st, blk := none } body (defBody st) = true) (gm : GamOk P w K mg base Γ q cv k) :
    FnOk P w K mg base (L2.CX P w) (k + 1) f fd ps (spD K cv ps.length (evF Γ ps.length N.length body)) := by
  refine F.okX S (fun vs H Q E h => ?_) (fun cdv A outer s H vs Q E hr h => ?_)
  · obtain ⟨_, _, _, _, hl, _⟩ := h
    exact hl
  · obtain ⟨F0, ds, sm, dv, hl, hm⟩ := h
    have hpN : ps.length ≤ N.length := by
      have := congrArg List.length S.pre
      rw [List.length_take] at this
      omega
    refine ⟨tS ⟨K, ⟨F0, H, fun _ => .non, 0, 0⟩, cv, fun cls d _ H' => E cls d H'⟩ (exs Γ false body), soundSs body (q := { q with N := N, sc := defScope st, blk := none }) (k := k) ?G hc, ?R⟩
    case G => exact
      { g := { hK := rfl, hN := rfl, nd := S.nd, hsc := rfl, hfn := fun _ _ => rfl, un := hr.units, tk := takes_of rfl rfl rfl rfl, gm := gm.ctx _ _ _, rm := fun _ => hr, cal := fun _ => rfl, ise := fun h => by cases h }
        po := passes_of rfl
        stk := fun _ => rfl
        frm := fun _ => rfl
        knd := S.kind }
    case R =>
      have hds : ds.length = ps.length := by rw [← dv.length]; exact hl
      refine ⟨F0, _, rel_start sm dv (by rw [hl]; exact hpN), ?_⟩
      unfold evF at hm
      rw [if_pos hds] at hm
      rw [hds]
      cases z : exs Γ false body (ds.map .dat ++ List.replicate (N.length - ps.length) .none) with
      | ret d =>
        rw [z] at hm
        exact fun v F' H' e r p => hm v F' H' ⟨e, r.keep, r.sub, r.nw⟩ p
      | next δ' =>
        rw [z] at hm
        exact fun σ' F' H' e r => hm .non F' H' ⟨e, r.keep, r.sub, r.nw⟩ .non
      | exc j δ' =>
        rw [z] at hm
        exact fun σ' F' H' e r => hm F' H' ⟨e, r.keep, r.sub, r.nw⟩
      | brk _ => rw [z] at hm; exact hm.elim
      | cont _ => rw [z] at hm; exact hm.elim
      | bad => rw [z] at hm; exact hm.elim
theorem fn_d {nm : Str} {st : Stmt} {f : Addr} {fd : FuncData} {N ps : List Str} {body : ISs} (F : Fun K nm nm st f fd) (hm : mg nm = some (.ref f)) (hb : Binds K fd ps []) (S : FnScope N ps (defScope st)) (hc : chkSs { q with N := N, sc := defScope st, blk := none } body (defBody st) = true) (gm : GamOk P w K mg base Γ q cv k) :
    FnD P w K mg base cv (k + 1) nm (evF Γ ps.length N.length body) :=
  ⟨ps.length, f, fd, ps, fun ds h => by unfold evF; rw [if_neg h], fn_ok F S hc gm, hm, F.kp, hb⟩
theorem GamOk.push {Z : Gam0} {gs : List (List D → R D)} {nm : Str} {g : List D → R D} (gm : GamOk P w K mg base (gam Z gs) q cv k) (hl : q.fnN.length = gs.length) {j : Nat} (hj : k ≤ j) (G : FnD P w K mg base cv j nm g) : GamOk P w K mg base (gam Z (gs ++ [g])) { q with fnN := q.fnN ++ [nm] } cv j := by
  refine ⟨fun i x h => ?_, gm.gl, gm.bi, gm.nm, gm.exc, gm.xm, gm.kit⟩
  have h' : (q.fnN ++ [nm])[i]? = some x := h
  show FnD _ _ _ _ _ _ _ _ (((gs ++ [g])[i]?).getD fun _ => .bad)
  rcases Nat.lt_trichotomy i q.fnN.length with hi | hi | hi
  · rw [List.getElem?_append_left hi] at h'
    rw [List.getElem?_append_left (by rw [← hl]; exact hi)]
    exact (gm.fn i x h').mono hj
  · subst hi
    rw [List.getElem?_append_right (Nat.le_refl _), Nat.sub_self] at h'
    cases h'
    rw [hl, List.getElem?_append_right (Nat.le_refl _), Nat.sub_self]
    exact G
  · rw [List.getElem?_eq_none (by rw [List.length_append]; simp; omega)] at h'
    cases h'
/-- one more def -/
theorem GamOk.def {Z : Gam0} {gs : List (List D → R D)} {nm : Str} {st : Stmt} {f : Addr} {fd : FuncData} {N ps : List Str} {body : ISs} (gm : GamOk P w K mg base (gam Z gs) q cv k) (hl : q.fnN.length = gs.length)
    (F : Fun K nm nm st f fd) (hm : mg nm = some (.ref f)) (hb : Binds K fd ps []) (S : FnScope N ps (defScope st)) (hc : chkSs { q with N := N, sc := defScope st, blk := none } body (defBody st) = true) :
    GamOk P w K mg base (gam Z (gs ++ [evF (gam Z gs) ps.length N.length body])) { q with fnN := q.fnN ++ [nm] } cv (k + 1) :=
  gm.push hl (Nat.le_succ k) (fn_d F hm hb S hc gm)
/-- a def that calls itself, to a depth -/
def recF (Z : Gam0) (gs : List (List D → R D)) (n m : Nat) (body : ISs) : Nat → List D → R D
  | 0 => fun _ => .bad
  | t + 1 => evF (gam Z (gs ++ [recF Z gs n m body t])) n m body
theorem rec_d {Z : Gam0} {gs : List (List D → R D)} {nm : Str} {st : Stmt} {f : Addr} {fd : FuncData} {N ps : List Str} {body : ISs} (gm : GamOk P w K mg base (gam Z gs) q cv k) (hl : q.fnN.length = gs.length)
    (F : Fun K nm nm st f fd) (hm : mg nm = some (.ref f)) (hb : Binds K fd ps []) (S : FnScope N ps (defScope st)) (hc : chkSs { q with N := N, sc := defScope st, blk := none, fnN := q.fnN ++ [nm] } body (defBody st) = true) :
    ∀ t, FnD P w K mg base cv (k + t) nm (recF Z gs ps.length N.length body t)
  | 0 => ⟨ps.length, f, fd, ps, fun _ _ => rfl, ⟨fun vs H Q E ⟨_, _, _, _, _, h⟩ => h.elim, fun A outer s H args us vs Q E _ _ _ _ ⟨_, _, _, _, _, h⟩ => h.elim⟩, hm, F.kp, hb⟩
  | t + 1 => by
    have ih := rec_d gm hl F hm hb S hc t
    have g2 := gm.push hl (Nat.le_add_right k t) ih
    exact fn_d (q := { q with fnN := q.fnN ++ [nm] }) F hm hb S hc g2
theorem GamOk.defRec {Z : Gam0} {gs : List (List D → R D)} {nm : Str} {st : Stmt} {f : Addr} {fd : FuncData} {N ps : List Str} {body : ISs} (t : Nat) (gm : GamOk P w K mg base (gam Z gs) q cv k) (hl : q.fnN.length = gs.length)
    (F : Fun K nm nm st f fd) (hm : mg nm = some (.ref f)) (hb : Binds K fd ps []) (S : FnScope N ps (defScope st)) (hc : chkSs { q with N := N, sc := defScope st, blk := none, fnN := q.fnN ++ [nm] } body (defBody st) = true) :
    GamOk P w K mg base (gam Z (gs ++ [recF Z gs ps.length N.length body t])) { q with fnN := q.fnN ++ [nm] } cv (k + t) :=
  gm.push hl (Nat.le_add_right k t) (rec_d gm hl F hm hb S hc t)
theorem kit_own {a b : Addr} {v : Bool} (h1 : PySem.W.isClsIn K b = true) (h2 : PySem.W.typeIn K (.ref b) = some (.type "type")) (h3 : PySem.W.subIn K (.ref a) (.ref b) = some v) (sf : PySem.W.subIn K (.ref a) (.ref a) = some true) : PySem.W.kitOne K (.ref a) (.ref b) = some v := by
  unfold PySem.W.kitOne
  by_cases e : a = b
  · subst e
    rw [sf] at h3
    rw [if_pos (by simp)]
    exact h3
  · rw [if_neg (by simpa using e)]
    show (if ((PySem.W.clsIn K b).isSome && PySem.W.typeIn K (.ref b) == some (.type "type")) = true then PySem.W.subIn K (.ref a) (.ref b) else none) = _
    have h1' : (PySem.W.clsIn K b).isSome = true := h1
    rw [h1', h2, if_pos (by decide)]
    exact h3
theorem kit_bi {a : Addr} {T : String} {v : Bool} (h1 : PySem.W.kitMeta T = true) (h3 : PySem.W.subIn K (.ref a) (.type T) = some v) : PySem.W.kitOne K (.ref a) (.type T) = some v := by
  unfold PySem.W.kitOne
  rw [if_neg (by simp)]
  show (if PySem.W.kitMeta T = true then PySem.W.subIn K (.ref a) (.type T) else none) = _
  rw [if_pos h1]
  exact h3
/-- the law's own promise -/
def spLaw (K : PySem.W.Frag) : Sp := fun vs H Q _ => ∃ (a : Addr) (ns : List Int), vs = [.ref a] ∧ SqL K H a (ns.map V.int) ∧ ns.length ≤ 63 ∧ ∀ H', Q (.bl true) H'
theorem law_of {f : Addr} {fd : FuncData} {ps : List Str} {n : Nat} {g : List D → R D} (F : FnOk P w K mg base (L2.CX P w) k f fd ps (spD K cv n g)) (hn : n = 1) (h : ∀ ns : List Int, ns.length ≤ 63 → g [.scr ns] = .ok (.bl true)) :
    FnOk P w K mg base (L2.CX P w) k f fd ps (spLaw K) := by
  refine F.imp fun vs H Q E ⟨a, ns, e, hs, hl, q⟩ => ?_
  subst e
  refine ⟨H, [.scr ns], fun _ _ z => z, .cons (.scr hs (Nat.le_trans hl (by decide))) .nil, by rw [hn]; rfl, ?_⟩
  rw [h ns hl]
  intro v F' H' e p
  cases p
  exact q H'
end
end PD
namespace PD
open PySem L2
section
variable (Γ : Gam) (su : Bool) (δ : List S)
@[simp] theorem bnd_ok {α β : Type} (a : α) (f : α → R β) : (R.ok a).bind f = f a := (rfl)
@[simp] theorem bnd_exc {α β : Type} (c : Nat) (f : α → R β) : (R.exc c : R α).bind f = .exc c := (rfl)
@[simp] theorem bnd_bad {α β : Type} (f : α → R β) : (R.bad : R α).bind f = .bad := (rfl)
@[simp] theorem of_some' {α : Type} (a : α) : R.of (some a) = .ok a := (rfl)
@[simp] theorem of_none' {α : Type} : R.of (none : Option α) = .bad := (rfl)
@[simp] theorem thenS_ok {α : Type} (a : α) (k : α → O) : thenS (.ok a) δ k = k a := (rfl)
@[simp] theorem thenS_exc {α : Type} (j : Nat) (k : α → O) : thenS (.exc j : R α) δ k = .exc j δ := (rfl)
@[simp] theorem thenS_bad {α : Type} (k : α → O) : thenS (.bad : R α) δ k = .bad := (rfl)
@[simp] theorem mapL_ok (ds : List D) : mapL (.ok ds) = .ok (.lst ds) := (rfl)
@[simp] theorem mapL_bad : mapL .bad = .bad := (rfl)
@[simp] theorem slD_dat (d : D) (l : List S) : slD (.dat d :: l) 0 = .ok d := (rfl)
@[simp] theorem slB_dat (d : D) (l : List S) : slB (.dat d :: l) 0 = .ok d := (rfl)
@[simp] theorem slB_own (ds : List D) (l : List S) : slB (.own ds :: l) 0 = .ok (.lst ds) := (rfl)
@[simp] theorem slD_succ (s : S) (l : List S) (i : Nat) : slD (s :: l) (i + 1) = slD l i := by simp [slD]
@[simp] theorem slB_succ (s : S) (l : List S) (i : Nat) : slB (s :: l) (i + 1) = slB l i := by simp [slB]
@[simp] theorem fNil_ap : fNil δ = .ok [] := (rfl)
variable (a b c : IE) (r : IEs)
@[simp] theorem evE_var (i : Nat) : (ev Γ su (.var i)).E δ = slD δ i := (rfl)
@[simp] theorem evB_var (i : Nat) : (ev Γ su (.var i)).B δ = slB δ i := (rfl)
@[simp] theorem evT_var (i : Nat) : (ev Γ su (.var i)).T δ = (slB δ i).bind fun a => R.of (truD a) := (rfl)
@[simp] theorem evE_con (d : D) : (ev Γ su (.con d)).E δ = .ok d := (rfl)
@[simp] theorem evB_con (d : D) : (ev Γ su (.con d)).B δ = .ok d := (rfl)
@[simp] theorem evE_glb (j : Nat) : (ev Γ su (.glb j)).E δ = R.of (Γ.gl j) := (rfl)
@[simp] theorem evB_glb (j : Nat) : (ev Γ su (.glb j)).B δ = R.of (Γ.gl j) := (rfl)
@[simp] theorem evE_bin (o : AOp) : (ev Γ su (.bin o a b)).E δ = ((ev Γ su a).B δ).bind fun x => ((ev Γ su b).B δ).bind fun y => R.of (binD o x y) := by cases o <;> rfl
@[simp] theorem evB_bin (o : AOp) : (ev Γ su (.bin o a b)).B δ = ((ev Γ su a).B δ).bind fun x => ((ev Γ su b).B δ).bind fun y => R.of (binD o x y) := by cases o <;> rfl
@[simp] theorem evN_add : (ev Γ su (.bin .add a b)).N δ = ((ev Γ su a).B δ).bind fun x => ((ev Γ su b).B δ).bind fun y => catD x y := (rfl)
@[simp] theorem evN_mul : (ev Γ su (.bin .mul a b)).N δ = ((ev Γ su a).B δ).bind fun x => ((ev Γ su b).B δ).bind fun y => repD x y := (rfl)
@[simp] theorem evE_cmp (o : COp) : (ev Γ su (.cmp o a b)).E δ = ((ev Γ su a).B δ).bind fun x => ((ev Γ su b).B δ).bind fun y => (R.of (cmpD o x y)).bind fun k => .ok (.bl k) := (rfl)
@[simp] theorem evB_cmp (o : COp) : (ev Γ su (.cmp o a b)).B δ = ((ev Γ su a).B δ).bind fun x => ((ev Γ su b).B δ).bind fun y => (R.of (cmpD o x y)).bind fun k => .ok (.bl k) := (rfl)
@[simp] theorem evT_cmp (o : COp) : (ev Γ su (.cmp o a b)).T δ = ((ev Γ su a).B δ).bind fun x => ((ev Γ su b).B δ).bind fun y => R.of (cmpD o x y) := by
  show fTru (fCmp o _ _) δ = _
  simp only [fTru, fCmp]
  cases (ev Γ su a).B δ <;> simp
  cases (ev Γ su b).B δ <;> simp
  rename_i x y
  cases cmpD o x y <;> rfl
@[simp] theorem evE_chain (o o' : COp) : (ev Γ su (.chain o o' a b c)).E δ = ((ev Γ su a).B δ).bind fun x => ((ev Γ su b).B δ).bind fun y => (R.of (cmpD o x y)).bind fun k => if k then ((ev Γ su c).B δ).bind fun d => (R.of (cmpD o' y d)).bind fun k' => .ok (.bl k') else .ok (.bl false) := (rfl)
@[simp] theorem evB_chain (o o' : COp) : (ev Γ su (.chain o o' a b c)).B δ = ((ev Γ su a).B δ).bind fun x => ((ev Γ su b).B δ).bind fun y => (R.of (cmpD o x y)).bind fun k => if k then ((ev Γ su c).B δ).bind fun d => (R.of (cmpD o' y d)).bind fun k' => .ok (.bl k') else .ok (.bl false) := (rfl)
@[simp] theorem evT_chain (o o' : COp) : (ev Γ su (.chain o o' a b c)).T δ = ((ev Γ su a).B δ).bind fun x => ((ev Γ su b).B δ).bind fun y => (R.of (cmpD o x y)).bind fun k => if k then ((ev Γ su c).B δ).bind fun d => R.of (cmpD o' y d) else .ok false := by
  show fTru (fChain o o' _ _ _) δ = _
  simp only [fTru, fChain]
  cases (ev Γ su a).B δ <;> simp
  cases (ev Γ su b).B δ <;> simp
  rename_i x y
  cases cmpD o x y with
  | none => rfl
  | some k =>
    cases k with
    | false => rfl
    | true =>
      simp
      cases (ev Γ su c).B δ <;> simp
      rename_i d
      cases cmpD o' y d <;> rfl
@[simp] theorem evE_isn (n : Bool) : (ev Γ su (.isn n a)).E δ = ((ev Γ su a).B δ).bind fun x => .ok (.bl (if n then !isNonD x else isNonD x)) := (rfl)
@[simp] theorem evB_isn (n : Bool) : (ev Γ su (.isn n a)).B δ = ((ev Γ su a).B δ).bind fun x => .ok (.bl (if n then !isNonD x else isNonD x)) := (rfl)
@[simp] theorem evT_isn (n : Bool) : (ev Γ su (.isn n a)).T δ = ((ev Γ su a).B δ).bind fun x => .ok (if n then !isNonD x else isNonD x) := by
  show fTru (fIsn n _) δ = _
  simp only [fTru, fIsn]
  cases (ev Γ su a).B δ <;> simp [truD]
@[simp] theorem evE_bop (k : Bool) : (ev Γ su (.bop k r)).E δ = (evs Γ su r).E k δ := (rfl)
@[simp] theorem evB_bop (k : Bool) : (ev Γ su (.bop k r)).B δ = (evs Γ su r).E k δ := (rfl)
@[simp] theorem evT_bop (k : Bool) : (ev Γ su (.bop k r)).T δ = (evs Γ su r).T k δ := (rfl)
@[simp] theorem evsE_one (k : Bool) : (evs Γ su (.cons a .nil)).E k δ = (ev Γ su a).E δ := (rfl)
@[simp] theorem evsT_one (k : Bool) : (evs Γ su (.cons a .nil)).T k δ = (ev Γ su a).T δ := (rfl)
@[simp] theorem evsE_and : (evs Γ su (.cons a (.cons b r))).E true δ = ((ev Γ su a).E δ).bind fun x => (R.of (truD x)).bind fun k => if k then (evs Γ su (.cons b r)).E true δ else .ok x := (rfl)
@[simp] theorem evsE_or : (evs Γ su (.cons a (.cons b r))).E false δ = ((ev Γ su a).E δ).bind fun x => (R.of (truD x)).bind fun k => if k then .ok x else (evs Γ su (.cons b r)).E false δ := (rfl)
@[simp] theorem evsT_and : (evs Γ su (.cons a (.cons b r))).T true δ = ((ev Γ su a).T δ).bind fun k => if k then (evs Γ su (.cons b r)).T true δ else .ok false := (rfl)
@[simp] theorem evsT_or : (evs Γ su (.cons a (.cons b r))).T false δ = ((ev Γ su a).T δ).bind fun k => if k then .ok true else (evs Γ su (.cons b r)).T false δ := (rfl)
@[simp] theorem evE_not : (ev Γ su (.not a)).E δ = ((ev Γ su a).B δ).bind fun x => (R.of (truD x)).bind fun k => .ok (.bl (!k)) := (rfl)
@[simp] theorem evB_not : (ev Γ su (.not a)).B δ = ((ev Γ su a).B δ).bind fun x => (R.of (truD x)).bind fun k => .ok (.bl (!k)) := (rfl)
@[simp] theorem evT_not : (ev Γ su (.not a)).T δ = ((ev Γ su a).T δ).bind fun k => .ok (!k) := (rfl)
def negD : D → R D
  | .int i => .ok (.int (-i))
  | _ => .bad
@[simp] theorem negD_int (i : Int) : negD (.int i) = .ok (.int (-i)) := (rfl)
@[simp] theorem evE_neg : (ev Γ su (.neg a)).E δ = ((ev Γ su a).B δ).bind negD := (rfl)
@[simp] theorem evB_neg : (ev Γ su (.neg a)).B δ = ((ev Γ su a).B δ).bind negD := (rfl)
@[simp] theorem evE_ife : (ev Γ su (.ife c a b)).E δ = ((ev Γ su c).T δ).bind fun k => if k then (ev Γ su a).E δ else (ev Γ su b).E δ := (rfl)
@[simp] theorem evB_ife : (ev Γ su (.ife c a b)).B δ = ((ev Γ su c).T δ).bind fun k => if k then (ev Γ su a).B δ else (ev Γ su b).B δ := (rfl)
@[simp] theorem evN_ife : (ev Γ su (.ife c a b)).N δ = ((ev Γ su c).T δ).bind fun k => if k then (ev Γ su a).N δ else (ev Γ su b).N δ := (rfl)
@[simp] theorem evsA_nil : (evs Γ su .nil).A δ = .ok [] := (rfl)
@[simp] theorem evsAB_nil : (evs Γ su .nil).AB δ = .ok [] := (rfl)
@[simp] theorem evsA_cons : (evs Γ su (.cons a r)).A δ = ((ev Γ su a).E δ).bind fun d => ((evs Γ su r).A δ).bind fun ds => .ok (d :: ds) := (rfl)
@[simp] theorem evsAB_cons : (evs Γ su (.cons a r)).AB δ = ((ev Γ su a).B δ).bind fun d => ((evs Γ su r).AB δ).bind fun ds => .ok (d :: ds) := (rfl)
def lenOk (ds : List D) : R (List D) := if ds.length ≤ szN then .ok ds else .bad
@[simp] theorem evE_tup : (ev Γ su (.tup r)).E δ = ((evs Γ su r).A δ).bind fun ds => if ds.length ≤ szN then .ok (.tup ds) else .bad := (rfl)
@[simp] theorem evB_tup : (ev Γ su (.tup r)).B δ = ((evs Γ su r).A δ).bind fun ds => if ds.length ≤ szN then .ok (.tup ds) else .bad := (rfl)
@[simp] theorem evN_lst : (ev Γ su (.lst r)).N δ = ((evs Γ su r).A δ).bind fun ds => if ds.length ≤ szN then .ok ds else .bad := (rfl)
@[simp] theorem evE_lst : (ev Γ su (.lst r)).E δ = mapL (((evs Γ su r).A δ).bind fun ds => if ds.length ≤ szN then .ok ds else .bad) := (rfl)
@[simp] theorem evB_lst : (ev Γ su (.lst r)).B δ = mapL (((evs Γ su r).A δ).bind fun ds => if ds.length ≤ szN then .ok ds else .bad) := (rfl)
@[simp] theorem evE_idx : (ev Γ su (.idx a b)).E δ = ((ev Γ su a).B δ).bind fun x => ((ev Γ su b).B δ).bind fun y => R.of (idxD x y) := (rfl)
@[simp] theorem evB_idx : (ev Γ su (.idx a b)).B δ = ((ev Γ su a).B δ).bind fun x => ((ev Γ su b).B δ).bind fun y => R.of (idxD x y) := (rfl)
@[simp] theorem evT_idx : (ev Γ su (.idx a b)).T δ = (((ev Γ su a).B δ).bind fun x => ((ev Γ su b).B δ).bind fun y => R.of (idxD x y)).bind fun z => R.of (truD z) := (rfl)
@[simp] theorem evoP_no : (evo Γ su .no).P δ = .ok none := (rfl)
@[simp] theorem evoP_yes : (evo Γ su (.yes a)).P δ = ((ev Γ su a).B δ).bind intOf := (rfl)
@[simp] theorem evoT_no : (evo Γ su .no).T δ = .ok true := (rfl)
@[simp] theorem evoT_yes : (evo Γ su (.yes a)).T δ = (ev Γ su a).T δ := (rfl)
@[simp] theorem intOf_int (i : Int) : intOf (.int i) = .ok (some i) := (rfl)
@[simp] theorem evE_cut (l h : IO) : (ev Γ su (.cut a l h)).E δ = ((ev Γ su a).B δ).bind fun x => ((evo Γ su l).P δ).bind fun y => ((evo Γ su h).P δ).bind fun z => R.of (cutD x y z) := (rfl)
@[simp] theorem evB_cut (l h : IO) : (ev Γ su (.cut a l h)).B δ = ((ev Γ su a).B δ).bind fun x => ((evo Γ su l).P δ).bind fun y => ((evo Γ su h).P δ).bind fun z => R.of (cutD x y z) := (rfl)
@[simp] theorem evN_cut (l h : IO) : (ev Γ su (.cut a l h)).N δ = ((ev Γ su a).B δ).bind fun x => ((evo Γ su l).P δ).bind fun y => ((evo Γ su h).P δ).bind fun z => cutN x y z := (rfl)
@[simp] theorem evE_len : (ev Γ false (.bf .len r)).E δ = ((evs Γ false r).AB δ).bind fun ds => R.of (bfD .len ds) := (rfl)
@[simp] theorem evB_len : (ev Γ false (.bf .len r)).B δ = ((evs Γ false r).AB δ).bind fun ds => R.of (bfD .len ds) := (rfl)
@[simp] theorem evT_len : (ev Γ false (.bf .len r)).T δ = (((evs Γ false r).AB δ).bind fun ds => R.of (bfD .len ds)).bind fun z => R.of (truD z) := (rfl)
@[simp] theorem evE_int : (ev Γ false (.bf .int r)).E δ = ((evs Γ false r).AB δ).bind fun ds => R.of (bfD .int ds) := (rfl)
@[simp] theorem evB_int : (ev Γ false (.bf .int r)).B δ = ((evs Γ false r).AB δ).bind fun ds => R.of (bfD .int ds) := (rfl)
@[simp] theorem evT_int : (ev Γ false (.bf .int r)).T δ = (((evs Γ false r).AB δ).bind fun ds => R.of (bfD .int ds)).bind fun z => R.of (truD z) := (rfl)
@[simp] theorem evE_str : (ev Γ false (.bf .str r)).E δ = ((evs Γ false r).AB δ).bind fun ds => R.of (bfD .str ds) := (rfl)
@[simp] theorem evB_str : (ev Γ false (.bf .str r)).B δ = ((evs Γ false r).AB δ).bind fun ds => R.of (bfD .str ds) := (rfl)
@[simp] theorem evT_str : (ev Γ false (.bf .str r)).T δ = (((evs Γ false r).AB δ).bind fun ds => R.of (bfD .str ds)).bind fun z => R.of (truD z) := (rfl)
@[simp] theorem evE_tuple : (ev Γ false (.bf .tuple r)).E δ = ((evs Γ false r).AB δ).bind fun ds => R.of (bfD .tuple ds) := (rfl)
@[simp] theorem evB_tuple : (ev Γ false (.bf .tuple r)).B δ = ((evs Γ false r).AB δ).bind fun ds => R.of (bfD .tuple ds) := (rfl)
@[simp] theorem evT_tuple : (ev Γ false (.bf .tuple r)).T δ = (((evs Γ false r).AB δ).bind fun ds => R.of (bfD .tuple ds)).bind fun z => R.of (truD z) := (rfl)
@[simp] theorem evE_min : (ev Γ false (.bf .min r)).E δ = ((evs Γ false r).AB δ).bind fun ds => R.of (bfD .min ds) := (rfl)
@[simp] theorem evB_min : (ev Γ false (.bf .min r)).B δ = ((evs Γ false r).AB δ).bind fun ds => R.of (bfD .min ds) := (rfl)
@[simp] theorem evT_min : (ev Γ false (.bf .min r)).T δ = (((evs Γ false r).AB δ).bind fun ds => R.of (bfD .min ds)).bind fun z => R.of (truD z) := (rfl)
@[simp] theorem evE_max : (ev Γ false (.bf .max r)).E δ = ((evs Γ false r).AB δ).bind fun ds => R.of (bfD .max ds) := (rfl)
@[simp] theorem evB_max : (ev Γ false (.bf .max r)).B δ = ((evs Γ false r).AB δ).bind fun ds => R.of (bfD .max ds) := (rfl)
@[simp] theorem evT_max : (ev Γ false (.bf .max r)).T δ = (((evs Γ false r).AB δ).bind fun ds => R.of (bfD .max ds)).bind fun z => R.of (truD z) := (rfl)
@[simp] theorem evE_sum : (ev Γ false (.bf .sum r)).E δ = ((evs Γ false r).AB δ).bind fun ds => R.of (bfD .sum ds) := (rfl)
@[simp] theorem evB_sum : (ev Γ false (.bf .sum r)).B δ = ((evs Γ false r).AB δ).bind fun ds => R.of (bfD .sum ds) := (rfl)
@[simp] theorem evT_sum : (ev Γ false (.bf .sum r)).T δ = (((evs Γ false r).AB δ).bind fun ds => R.of (bfD .sum ds)).bind fun z => R.of (truD z) := (rfl)
@[simp] theorem evN_list : (ev Γ false (.bf .list r)).N δ = ((evs Γ false r).AB δ).bind fun ds => R.of (newD .list ds) := (rfl)
@[simp] theorem evE_list : (ev Γ false (.bf .list r)).E δ = mapL (((evs Γ false r).AB δ).bind fun ds => R.of (newD .list ds)) := (rfl)
@[simp] theorem evB_list : (ev Γ false (.bf .list r)).B δ = mapL (((evs Γ false r).AB δ).bind fun ds => R.of (newD .list ds)) := (rfl)
@[simp] theorem evN_sorted : (ev Γ false (.bf .sorted r)).N δ = ((evs Γ false r).AB δ).bind fun ds => R.of (newD .sorted ds) := (rfl)
@[simp] theorem evE_sorted : (ev Γ false (.bf .sorted r)).E δ = mapL (((evs Γ false r).AB δ).bind fun ds => R.of (newD .sorted ds)) := (rfl)
@[simp] theorem evB_sorted : (ev Γ false (.bf .sorted r)).B δ = mapL (((evs Γ false r).AB δ).bind fun ds => R.of (newD .sorted ds)) := (rfl)
@[simp] theorem evE_isi (t : Ty) : (ev Γ su (.isi t a)).E δ = ((ev Γ su a).B δ).bind fun d => .ok (.bl (isiD t d)) := (rfl)
@[simp] theorem evB_isi (t : Ty) : (ev Γ su (.isi t a)).B δ = ((ev Γ su a).B δ).bind fun d => .ok (.bl (isiD t d)) := (rfl)
@[simp] theorem evT_isi (t : Ty) : (ev Γ su (.isi t a)).T δ = ((ev Γ su a).B δ).bind fun d => .ok (isiD t d) := by
  show fTru (fIsi t _) δ = _
  simp only [fTru, fIsi]
  cases (ev Γ su a).B δ <;> simp [truD]
@[simp] theorem evE_ise (i j : Nat) : (ev Γ su (.ise i j)).E δ = iseF Γ su i j δ := (rfl)
@[simp] theorem evB_ise (i j : Nat) : (ev Γ su (.ise i j)).B δ = iseF Γ su i j δ := (rfl)
@[simp] theorem evT_ise (i j : Nat) : (ev Γ su (.ise i j)).T δ = (iseF Γ su i j δ).bind fun z => R.of (truD z) := (rfl)
@[simp] theorem evE_call (j : Nat) : (ev Γ false (.call j r)).E δ = ((evs Γ false r).A δ).bind (Γ.fn j) := (rfl)
@[simp] theorem evB_call (j : Nat) : (ev Γ false (.call j r)).B δ = ((evs Γ false r).A δ).bind (Γ.fn j) := (rfl)
@[simp] theorem evT_call (j : Nat) : (ev Γ false (.call j r)).T δ = (((evs Γ false r).A δ).bind (Γ.fn j)).bind fun z => R.of (truD z) := (rfl)
@[simp] theorem evN_lc (own : List (Str × Nat)) (t : Tg) (it : II) (tst : IO) (el : IE) : (ev Γ false (.lc own t it tst el)).N δ = ((evi Γ false it).B δ).bind fun ds => lcD t (evo Γ false tst).T (ev Γ false el).E (wipeS δ (own.map (·.2))) ds := (rfl)
@[simp] theorem evE_lc (own : List (Str × Nat)) (t : Tg) (it : II) (tst : IO) (el : IE) : (ev Γ false (.lc own t it tst el)).E δ = mapL (((evi Γ false it).B δ).bind fun ds => lcD t (evo Γ false tst).T (ev Γ false el).E (wipeS δ (own.map (·.2))) ds) := (rfl)
@[simp] theorem evB_lc (own : List (Str × Nat)) (t : Tg) (it : II) (tst : IO) (el : IE) : (ev Γ false (.lc own t it tst el)).B δ = mapL (((evi Γ false it).B δ).bind fun ds => lcD t (evo Γ false tst).T (ev Γ false el).E (wipeS δ (own.map (·.2))) ds) := (rfl)
@[simp] theorem evT_lc (own : List (Str × Nat)) (t : Tg) (it : II) (tst : IO) (el : IE) : (ev Γ false (.lc own t it tst el)).T δ = (mapL (((evi Γ false it).B δ).bind fun ds => lcD t (evo Γ false tst).T (ev Γ false el).E (wipeS δ (own.map (·.2))) ds)).bind fun z => R.of (truD z) := (rfl)
@[simp] theorem eviB_any : (evi Γ su (.any a)).B δ = ((ev Γ su a).B δ).bind itemsD := (rfl)
@[simp] theorem eviF_any : (evi Γ su (.any a)).F δ = ((ev Γ su a).E δ).bind itemsD := (rfl)
@[simp] theorem eviB_rng1 : (evi Γ su (.rng1 a)).B δ = ((ev Γ su a).B δ).bind rng1 := (rfl)
@[simp] theorem eviF_rng1 : (evi Γ su (.rng1 a)).F δ = ((ev Γ su a).B δ).bind rng1 := (rfl)
@[simp] theorem eviB_rng2 : (evi Γ su (.rng2 a b)).B δ = ((ev Γ su a).B δ).bind fun x => ((ev Γ su b).B δ).bind fun y => rng2 x y := (rfl)
@[simp] theorem eviF_rng2 : (evi Γ su (.rng2 a b)).F δ = ((ev Γ su a).B δ).bind fun x => ((ev Γ su b).B δ).bind fun y => rng2 x y := (rfl)
@[simp] theorem eviB_enm : (evi Γ false (.enm a)).B δ = ((ev Γ false a).B δ).bind enumD := (rfl)
@[simp] theorem eviF_enm : (evi Γ false (.enm a)).F δ = ((ev Γ false a).E δ).bind enumD := (rfl)
@[simp] theorem eviB_zip : (evi Γ false (.zip a b)).B δ = ((ev Γ false a).B δ).bind fun x => ((ev Γ false b).B δ).bind fun y => zipD x y := (rfl)
@[simp] theorem eviF_zip : (evi Γ false (.zip a b)).F δ = ((ev Γ false a).E δ).bind fun x => ((ev Γ false b).E δ).bind fun y => zipD x y := (rfl)
@[simp] theorem evE_lset : (ev Γ false (.lset a)).E δ = ((ev Γ false a).B δ).bind fun d => R.of (lsetD d) := (rfl)
@[simp] theorem evB_lset : (ev Γ false (.lset a)).B δ = ((ev Γ false a).B δ).bind fun d => R.of (lsetD d) := (rfl)
@[simp] theorem evE_sset : (ev Γ false (.sset a)).E δ = mapL (((ev Γ false a).B δ).bind fun d => R.of (ssetD d)) := (rfl)
@[simp] theorem evB_sset : (ev Γ false (.sset a)).B δ = mapL (((ev Γ false a).B δ).bind fun d => R.of (ssetD d)) := (rfl)
@[simp] theorem evN_sset : (ev Γ false (.sset a)).N δ = ((ev Γ false a).B δ).bind fun d => R.of (ssetD d) := (rfl)
@[simp] theorem evE_call0 (j : Nat) : (ev Γ false (.call0 j)).E δ = Γ.fn j [] := (rfl)
@[simp] theorem evB_call0 (j : Nat) : (ev Γ false (.call0 j)).B δ = Γ.fn j [] := (rfl)
@[simp] theorem evE_join : (ev Γ su (.join a b)).E δ = ((ev Γ su a).B δ).bind fun x => (isStr x).bind fun s => ((ev Γ su b).B δ).bind fun y => R.of (joinS s y) := (rfl)
@[simp] theorem evB_join : (ev Γ su (.join a b)).B δ = ((ev Γ su a).B δ).bind fun x => (isStr x).bind fun s => ((ev Γ su b).B δ).bind fun y => R.of (joinS s y) := (rfl)
@[simp] theorem evE_stp (l h w : IO) : (ev Γ su (.stp a l h w)).E δ = mapL (((ev Γ su a).B δ).bind fun x => ((evo Γ su l).P δ).bind fun y => ((evo Γ su h).P δ).bind fun z => ((evo Γ su w).P δ).bind fun k => stpN x y z k) := (rfl)
@[simp] theorem evB_stp (l h w : IO) : (ev Γ su (.stp a l h w)).B δ = mapL (((ev Γ su a).B δ).bind fun x => ((evo Γ su l).P δ).bind fun y => ((evo Γ su h).P δ).bind fun z => ((evo Γ su w).P δ).bind fun k => stpN x y z k) := (rfl)
@[simp] theorem evN_stp (l h w : IO) : (ev Γ su (.stp a l h w)).N δ = ((ev Γ su a).B δ).bind fun x => ((evo Γ su l).P δ).bind fun y => ((evo Γ su h).P δ).bind fun z => ((evo Γ su w).P δ).bind fun k => stpN x y z k := (rfl)
@[simp] theorem evE_ixo : (ev Γ su (.ixo a b)).E δ = ((ev Γ su a).B δ).bind fun x => (isLst x).bind fun s => ((ev Γ su b).B δ).bind fun y => R.of (ixoD (.lst s) y) := (rfl)
@[simp] theorem evB_ixo : (ev Γ su (.ixo a b)).B δ = ((ev Γ su a).B δ).bind fun x => (isLst x).bind fun s => ((ev Γ su b).B δ).bind fun y => R.of (ixoD (.lst s) y) := (rfl)
@[simp] theorem evE_minp : (ev Γ false (.minp a)).E δ = ((ev Γ false a).B δ).bind fun d => R.of (minPD d) := (rfl)
@[simp] theorem evB_minp : (ev Γ false (.minp a)).B δ = ((ev Γ false a).B δ).bind fun d => R.of (minPD d) := (rfl)
@[simp] theorem evE_din (neg : Bool) (i : Nat) : (ev Γ su (.din neg a i)).E δ = ((ev Γ su a).B δ).bind fun x => (slC δ i).bind fun q => (R.of (keyOf x)).bind fun k => .ok (.bl (if neg then !(findK k q.1 q.2).isSome else (findK k q.1 q.2).isSome)) := (rfl)
@[simp] theorem evB_din (neg : Bool) (i : Nat) : (ev Γ su (.din neg a i)).B δ = ((ev Γ su a).B δ).bind fun x => (slC δ i).bind fun q => (R.of (keyOf x)).bind fun k => .ok (.bl (if neg then !(findK k q.1 q.2).isSome else (findK k q.1 q.2).isSome)) := (rfl)
@[simp] theorem evT_din (neg : Bool) (i : Nat) : (ev Γ su (.din neg a i)).T δ = (((ev Γ su a).B δ).bind fun x => (slC δ i).bind fun q => (R.of (keyOf x)).bind fun k => .ok (.bl (if neg then !(findK k q.1 q.2).isSome else (findK k q.1 q.2).isSome))).bind fun z => R.of (truD z) := (rfl)
@[simp] theorem evE_dget (i : Nat) : (ev Γ su (.dget i a)).E δ = (slC δ i).bind fun q => ((ev Γ su a).B δ).bind fun b => (R.of (keyOf b)).bind fun k => R.of (findK k q.1 q.2) := (rfl)
@[simp] theorem evB_dget (i : Nat) : (ev Γ su (.dget i a)).B δ = (slC δ i).bind fun q => ((ev Γ su a).B δ).bind fun b => (R.of (keyOf b)).bind fun k => R.of (findK k q.1 q.2) := (rfl)
@[simp] theorem evE_dlen (i : Nat) : (ev Γ false (.dlen i)).E δ = (slC δ i).bind fun q => .ok (.int ((q.1.length : Nat) : Int)) := (rfl)
@[simp] theorem evB_dlen (i : Nat) : (ev Γ false (.dlen i)).B δ = (slC δ i).bind fun q => .ok (.int ((q.1.length : Nat) : Int)) := (rfl)
@[simp] theorem evE_dgd (i : Nat) : (ev Γ su (.dgd i a b)).E δ = (slC δ i).bind fun q => ((ev Γ su a).B δ).bind fun kd => ((ev Γ su b).E δ).bind fun d => (R.of (keyOf kd)).bind fun k => .ok ((findK k q.1 q.2).getD d) := (rfl)
@[simp] theorem evB_dgd (i : Nat) : (ev Γ su (.dgd i a b)).B δ = (slC δ i).bind fun q => ((ev Γ su a).B δ).bind fun kd => ((ev Γ su b).E δ).bind fun d => (R.of (keyOf kd)).bind fun k => .ok ((findK k q.1 q.2).getD d) := (rfl)
@[simp] theorem eviB_dit (i : Nat) : (evi Γ false (.dit i)).B δ = (slC δ i).bind dkeysD := (rfl)
@[simp] theorem eviF_dit (i : Nat) : (evi Γ false (.dit i)).F δ = (slCF δ i).bind dkeysD := (rfl)
@[simp] theorem isLst_lst (l : List D) : isLst (.lst l) = .ok l := (rfl)
@[simp] theorem isStr_str (l : List Nat) : isStr (.str l) = .ok l := (rfl)
@[simp] theorem itemsD_lst (ds : List D) : itemsD (.lst ds) = .ok ds := (rfl)
@[simp] theorem itemsD_tup (ds : List D) : itemsD (.tup ds) = .ok ds := (rfl)
@[simp] theorem itemsD_str (l : List Nat) : itemsD (.str l) = .ok (l.map fun k => .str [k]) := (rfl)
def andThen (o : O) (k : List S → O) : O := match o with
  | .next δ' => k δ'
  | o => o
@[simp] theorem at_next (k : List S → O) : andThen (.next δ) k = k δ := (rfl)
@[simp] theorem at_ret (k : List S → O) (d : D) : andThen (.ret d) k = .ret d := (rfl)
@[simp] theorem at_exc (k : List S → O) (j : Nat) : andThen (.exc j δ) k = .exc j δ := (rfl)
@[simp] theorem at_bad (k : List S → O) : andThen .bad k = .bad := (rfl)
@[simp] theorem at_brk (k : List S → O) : andThen (.brk δ) k = .brk δ := (rfl)
@[simp] theorem at_cont (k : List S → O) : andThen (.cont δ) k = .cont δ := (rfl)
@[simp] theorem exs_nil : exs Γ su .nil δ = .next δ := (rfl)
@[simp] theorem exs_cons (s : IS) (r : ISs) : exs Γ su (.cons s r) δ = andThen (ex Γ su s δ) (exs Γ su r) := (rfl)
def optO : Option (List S) → (List S → O) → O
  | some δ, k => k δ
  | none, _ => .bad
@[simp] theorem optO_some (k : List S → O) : optO (some δ) k = k δ := (rfl)
@[simp] theorem exs_frz (i : Nat) (r : ISs) : exs Γ su (.frz i r) δ = optO (frzS i δ) (exs Γ su r) := by
  show (match frzS i δ with | some δ' => exs Γ su r δ' | none => .bad) = _
  cases frzS i δ <;> rfl
@[simp] theorem ex_ret : ex Γ su (.ret a) δ = thenS ((ev Γ su a).E δ) δ fun d => .ret d := (rfl)
@[simp] theorem ex_retN : ex Γ su .retN δ = .ret .non := (rfl)
@[simp] theorem ex_pass : ex Γ su .pass δ = .next δ := (rfl)
@[simp] theorem ex_set (i : Nat) : ex Γ su (.set i a) δ = thenS ((ev Γ su a).E δ) δ fun d => asgS i (.dat d) δ := (rfl)
@[simp] theorem ex_new (i : Nat) : ex Γ su (.new i a) δ = thenS ((ev Γ su a).N δ) δ fun ds => asgS i (.own ds) δ := (rfl)
@[simp] theorem ex_tset (is : List Nat) : ex Γ false (.tset is a) δ = thenS ((ev Γ false a).E δ) δ fun d => optO (setT (.tup is) d δ) .next := by
  show (if false = true then O.bad else thenS ((ev Γ false a).E δ) δ fun d => match setT (.tup is) d δ with | some δ' => .next δ' | none => .bad) = _
  rw [if_neg (by decide)]
  congr 1
  funext d
  cases setT (.tup is) d δ <;> rfl
@[simp] theorem ex_par (i j : Nat) : ex Γ false (.par i j a b) δ = thenS (((ev Γ false a).E δ).bind fun x => ((ev Γ false b).E δ).bind fun y => .ok [x, y]) δ fun ds => parS i j δ ds := by
  show thenS ((evs Γ false (.cons a (.cons b .nil))).A δ) δ _ = _
  simp only [evsA_cons, evsA_nil, R.bind_ok]
  cases (ev Γ false a).E δ <;> simp
  cases (ev Γ false b).E δ <;> simp
@[simp] theorem ex_parN (i j : Nat) : ex Γ false (.parN i j a b) δ = thenS ((ev Γ false a).E δ) δ fun d => thenS ((ev Γ false b).N δ) δ fun ds => parNS i j δ d ds := (rfl)
@[simp] theorem ex_dput (i : Nat) : ex Γ su (.dput i a b) δ = if isDow i δ then thenS ((ev Γ su b).E δ) δ fun d => thenS ((ev Γ su a).E δ) δ fun kd => thenS (R.of (keyOf kd)) δ fun kk => putS i δ kk d else .bad := (rfl)
@[simp] theorem ex_dnew (i : Nat) : ex Γ su (.dnew i a b) δ = thenS (((ev Γ su a).E δ).bind fun kd => ((ev Γ su b).E δ).bind fun d => (R.of (keyOf kd)).bind fun k => .ok (([k], [d]) : List (List (Option Int)) × List D)) δ fun q => asgS i (.dow q.1 q.2) δ := (rfl)
@[simp] theorem ex_par3 (i j l : Nat) (x y : IE) : ex Γ false (.par3 i j l a b x y) δ = thenS (((ev Γ false a).E δ).bind fun kd => ((ev Γ false b).E δ).bind fun d => (R.of (keyOf kd)).bind fun k => .ok (([k], [d]) : List (List (Option Int)) × List D)) δ fun q => thenS ((ev Γ false x).E δ) δ fun b' => thenS ((ev Γ false y).E δ) δ fun d' => par3S i j l δ q b' d' := (rfl)
@[simp] theorem ex_trp (i j l : Nat) (x : IE) : ex Γ false (.trp i j l a b x) δ = thenS (((ev Γ false a).E δ).bind fun u => ((ev Γ false b).E δ).bind fun v => ((ev Γ false x).E δ).bind fun w => .ok [u, v, w]) δ fun ds => trpS i j l δ ds := by
  show thenS ((evs Γ false (.cons a (.cons b (.cons x .nil)))).A δ) δ _ = _
  simp only [evsA_cons, evsA_nil, bnd_ok]
  cases (ev Γ false a).E δ <;> simp only [bnd_ok, bnd_exc, bnd_bad]
  cases (ev Γ false b).E δ <;> simp only [bnd_ok, bnd_exc, bnd_bad]
  cases (ev Γ false x).E δ <;> rfl
@[simp] theorem ex_parM (i j : Nat) : ex Γ false (.parM i j a b) δ = thenS ((ev Γ false a).N δ) δ fun ds => thenS ((ev Γ false b).E δ) δ fun d => parMS i j δ ds d := (rfl)
@[simp] theorem ex_tuM (i j : Nat) : ex Γ false (.tuM i j a b) δ = thenS ((ev Γ false a).N δ) δ fun ds => thenS ((ev Γ false b).E δ) δ fun d => parMS i j δ ds d := (rfl)
@[simp] theorem ex_dnew0 (i : Nat) : ex Γ su (.dnew0 i) δ = asgS i (.dow [] []) δ := (rfl)
@[simp] theorem ex_fpg (t : Tg) (i j : Nat) (x : ISs) : ex Γ false (.fpg t i j a x) δ = fForPG t i j (ev Γ false a).E (exs Γ false x) δ := (rfl)
@[simp] theorem ex_fro (t : Tg) (j : Nat) (x : ISs) : ex Γ false (.fro t j x) δ = forO t (exs Γ false x) j δ := (rfl)
@[simp] theorem ex_aug (i : Nat) : ex Γ su (.aug i a) δ = thenS (slD δ i) δ fun x => thenS ((ev Γ su a).E δ) δ fun y => thenS (augD x y) δ fun d => asgS i (.dat d) δ := (rfl)
@[simp] theorem augD_int (x y : Int) : augD (.int x) (.int y) = .ok (.int (x + y)) := (rfl)
@[simp] theorem ex_app (i : Nat) : ex Γ su (.app i a) δ = if isOwn i δ then thenS ((ev Γ su a).E δ) δ fun d => appS i δ d else .bad := (rfl)
@[simp] theorem ex_ext (i : Nat) : ex Γ su (.ext i a) δ = if isOwn i δ then thenS ((ev Γ su a).B δ) δ fun d => extS i δ d else .bad := (rfl)
@[simp] theorem ex_expr : ex Γ su (.expr a) δ = thenS ((ev Γ su a).B δ) δ fun _ => .next δ := (rfl)
@[simp] theorem ex_ite (t : IE) (x y : ISs) : ex Γ su (.ite t x y) δ = thenS ((ev Γ su t).T δ) δ fun k => if k then exs Γ su x δ else exs Γ su y δ := (rfl)
@[simp] theorem ex_whl (n : Nat) (t : IE) (x : ISs) : ex Γ su (.whl n t x) δ = whileD (ev Γ su t).T (exs Γ su x) n δ := (rfl)
@[simp] theorem ex_for (t : Tg) (it : II) (x : ISs) : ex Γ false (.for t it x) δ = thenS ((evi Γ false it).F δ) δ fun ds => forD t (exs Γ false x) ds δ := (rfl)
@[simp] theorem ex_raise (k : Nat) : ex Γ false (.raise k) δ = if Γ.own k then .exc k δ else .bad := (rfl)
def tryO (sub : Nat → Nat → Option Bool) (hl : List (Nat × Nat × (List S → O))) : O → O
  | .exc k δ' => hdD sub hl k δ'
  | o => o
@[simp] theorem tryO_exc (sub : Nat → Nat → Option Bool) (hl : List (Nat × Nat × (List S → O))) (k : Nat) : tryO sub hl (.exc k δ) = hdD sub hl k δ := (rfl)
@[simp] theorem tryO_ret (sub : Nat → Nat → Option Bool) (hl : List (Nat × Nat × (List S → O))) (d : D) : tryO sub hl (.ret d) = .ret d := (rfl)
@[simp] theorem tryO_next (sub : Nat → Nat → Option Bool) (hl : List (Nat × Nat × (List S → O))) : tryO sub hl (.next δ) = .next δ := (rfl)
@[simp] theorem tryO_cont (sub : Nat → Nat → Option Bool) (hl : List (Nat × Nat × (List S → O))) : tryO sub hl (.cont δ) = .cont δ := (rfl)
@[simp] theorem tryO_brk (sub : Nat → Nat → Option Bool) (hl : List (Nat × Nat × (List S → O))) : tryO sub hl (.brk δ) = .brk δ := (rfl)
@[simp] theorem tryO_bad (sub : Nat → Nat → Option Bool) (hl : List (Nat × Nat × (List S → O))) : tryO sub hl .bad = .bad := (rfl)
@[simp] theorem ex_tri (x : ISs) (hs : IHs) : ex Γ false (.tri x hs) δ = tryO Γ.sub (exh Γ hs) (exs Γ false x δ) := by
  show fTry Γ.sub (exs Γ false x) (exh Γ hs) δ = _
  unfold fTry
  cases exs Γ false x δ <;> rfl
def selO : Option Bool → O → O → O
  | some true, a, _ => a
  | some false, _, b => b
  | none, _, _ => .bad
@[simp] theorem selO_t (a b : O) : selO (some true) a b = a := (rfl)
@[simp] theorem selO_f (a b : O) : selO (some false) a b = b := (rfl)
@[simp] theorem hdD_nil (sub : Nat → Nat → Option Bool) (k : Nat) : hdD sub [] k δ = .exc k δ := (rfl)
@[simp] theorem hdD_cons (sub : Nat → Nat → Option Bool) (k j i : Nat) (g : List S → O) (hl : List (Nat × Nat × (List S → O))) : hdD sub ((j, i, g) :: hl) k δ = selO (sub k j) (unS i (g ((clrS δ).set i (.exc k)))) (hdD sub hl k δ) := by
  show (match sub k j with | none => O.bad | some true => unS i (g ((clrS δ).set i (.exc k))) | some false => hdD sub hl k δ) = _
  cases sub k j with
  | none => rfl
  | some b => cases b <;> rfl
@[simp] theorem clrS_nil : clrS [] = [] := (rfl)
@[simp] theorem clrS_dat (d : D) : clrS (.dat d :: δ) = .dat d :: clrS δ := (rfl)
@[simp] theorem clrS_none : clrS (.none :: δ) = .none :: clrS δ := (rfl)
@[simp] theorem clrS_own (d : List D) : clrS (.own d :: δ) = .own d :: clrS δ := (rfl)
@[simp] theorem clrS_exc (k : Nat) : clrS (.exc k :: δ) = .none :: clrS δ := (rfl)
@[simp] theorem unS_next (i : Nat) : unS i (.next δ) = .next ((clrS δ).set i .none) := (rfl)
@[simp] theorem unS_ret (i : Nat) (d : D) : unS i (.ret d) = .ret d := (rfl)
def iseO (Γ : Gam) (j : Nat) : Option S → R D
  | some (.exc k) => (R.of (Γ.sub k j)).bind fun b => .ok (.bl b)
  | _ => .bad
@[simp] theorem iseO_exc (k j : Nat) : iseO Γ j (some (.exc k)) = (R.of (Γ.sub k j)).bind fun b => .ok (.bl b) := (rfl)
@[simp] theorem iseF_t (i j : Nat) : iseF Γ true i j δ = iseO Γ j δ[i]? := by
  unfold iseF
  rw [if_pos rfl]
  rcases δ[i]? with _ | s
  · rfl
  · cases s <;> rfl
@[simp] theorem exh_nil : exh Γ .nil = [] := (rfl)
@[simp] theorem exh_cons (j i : Nat) (x : ISs) (hs : IHs) : exh Γ (.cons j i x hs) = (j, i, exs Γ true x) :: exh Γ hs := (rfl)
@[simp] theorem outR_ret (d : D) : outR (.ret d) = .ok d := (rfl)
@[simp] theorem outR_next : outR (.next δ) = .ok .non := (rfl)
@[simp] theorem outR_exc (k : Nat) : outR (.exc k δ) = .exc k := (rfl)
theorem gam_fn (Z : Gam0) (gs : List (List D → R D)) (j : Nat) : (gam Z gs).fn j = (gs[j]?).getD fun _ => .bad := (rfl)
@[simp] theorem gam_gl (Z : Gam0) (gs : List (List D → R D)) : (gam Z gs).gl = Z.gl := (rfl)
@[simp] theorem gam_sub (Z : Gam0) (gs : List (List D → R D)) : (gam Z gs).sub = Z.sub := (rfl)
@[simp] theorem gam_own (Z : Gam0) (gs : List (List D → R D)) : (gam Z gs).own = Z.own := (rfl)
end
@[simp] theorem setT_nm (i : Nat) (d : D) (δ : List S) : setT (.nm i) d δ = if i < δ.length then some (δ.set i (.dat d)) else none := (rfl)
@[simp] theorem setT_tup (is : List Nat) (ds : List D) (δ : List S) : setT (.tup is) (.tup ds) δ = setS is ds δ := (rfl)
@[simp] theorem isNon_int (i : Int) : isNonD (.int i) = false := (rfl)
@[simp] theorem isNon_non : isNonD .non = true := (rfl)
@[simp] theorem isNon_tup (ds : List D) : isNonD (.tup ds) = false := (rfl)
section
variable (i j : Int) (x y : List Nat) (xs ys : List D)
@[simp] theorem truD_int : truD (.int i) = some (i != 0) := (rfl)
@[simp] theorem truD_bl (k : Bool) : truD (.bl k) = some k := (rfl)
@[simp] theorem truD_non : truD .non = some false := (rfl)
@[simp] theorem truD_str : truD (.str x) = some (!x.isEmpty) := (rfl)
@[simp] theorem truD_lst : truD (.lst xs) = some (!xs.isEmpty) := (rfl)
@[simp] theorem truD_tup : truD (.tup xs) = some (!xs.isEmpty) := (rfl)
@[simp] theorem add_int : binD .add (.int i) (.int j) = some (.int (i + j)) := (rfl)
@[simp] theorem sub_int : binD .sub (.int i) (.int j) = some (.int (i - j)) := (rfl)
theorem mul_int (h : j.natAbs < 2 ^ 64) : binD .mul (.int i) (.int j) = some (.int (i * j)) := by simp only [binD, if_pos (Or.inr h)]
theorem mul_int' (h : i.natAbs < 2 ^ 64) : binD .mul (.int i) (.int j) = some (.int (i * j)) := by simp only [binD, if_pos (Or.inl h)]
theorem fdiv_int (h : 0 < j ∧ j < 1073741824) : binD .fdiv (.int i) (.int j) = some (.int (i / j)) := by simp only [binD, if_pos h]
theorem mod_int (h : 0 < j) : binD .mod (.int i) (.int j) = some (.int (i % j)) := by simp only [binD, if_pos h]
theorem add_str (h : x.length + y.length ≤ szN) : binD .add (.str x) (.str y) = some (.str (x ++ y)) := by simp only [binD, if_pos h]
theorem add_tup (h : xs.length + ys.length ≤ szN) : binD .add (.tup xs) (.tup ys) = some (.tup (xs ++ ys)) := by simp only [binD, if_pos h]
theorem add_lst (h : xs.length + ys.length ≤ szN) : binD .add (.lst xs) (.lst ys) = some (.lst (xs ++ ys)) := by simp only [binD, if_pos h]
@[simp] theorem lt_int : cmpD .lt (.int i) (.int j) = some (decide (i < j)) := (rfl)
@[simp] theorem le_int : cmpD .le (.int i) (.int j) = some (decide (i ≤ j)) := (rfl)
@[simp] theorem gt_int : cmpD .gt (.int i) (.int j) = some (decide (j < i)) := (rfl)
@[simp] theorem ge_int : cmpD .ge (.int i) (.int j) = some (decide (j ≤ i)) := (rfl)
@[simp] theorem eq_int : cmpD .eq (.int i) (.int j) = some (decide (i = j)) := by
  rw [cmpD, if_pos (by simp [eqOk, noScr, dep]), eqD]
  by_cases h : i = j <;> simp [h]
@[simp] theorem ne_int : cmpD .ne (.int i) (.int j) = some (!decide (i = j)) := by
  rw [cmpD, if_pos (by simp [eqOk, noScr, dep]), eqD]
  by_cases h : i = j <;> simp [h]
@[simp] theorem eq_str : cmpD .eq (.str x) (.str y) = some (decide (x = y)) := by
  rw [cmpD, if_pos (by simp [eqOk, noScr, dep]), eqD]
  by_cases h : x = y <;> simp [h]
@[simp] theorem ne_str : cmpD .ne (.str x) (.str y) = some (!decide (x = y)) := by
  rw [cmpD, if_pos (by simp [eqOk, noScr, dep]), eqD]
  by_cases h : x = y <;> simp [h]
@[simp] theorem len_str : bfD .len [.str x] = some (.int x.length) := (rfl)
@[simp] theorem len_lst : bfD .len [.lst xs] = some (.int xs.length) := (rfl)
@[simp] theorem len_tup : bfD .len [.tup xs] = some (.int xs.length) := (rfl)
@[simp] theorem len_scr (ns : List Int) : bfD .len [.scr ns] = some (.int ns.length) := (rfl)
@[simp] theorem int_int : bfD .int [.int i] = some (.int i) := (rfl)
@[simp] theorem idx_lst : idxD (.lst xs) (.int i) = atI xs i := (rfl)
@[simp] theorem idx_tup : idxD (.tup xs) (.int i) = atI xs i := (rfl)
@[simp] theorem idx_str : idxD (.str x) (.int i) = (atI x i).map fun c => .str [c] := (rfl)
@[simp] theorem idx_scr (ns : List Int) : idxD (.scr ns) (.int i) = (atI ns i).map .int := (rfl)
@[simp] theorem isi_ib : isiD .int (.bl true) = true := (rfl)
end
end PD
local macro_rules
  | `(tactic| simp? only [$xs,*] $[$l:location]?) => `(tactic| simp only [PD.bnd_ok, PD.bnd_exc, PD.bnd_bad, PD.of_some', PD.of_none', PD.thenS_ok, PD.thenS_exc, PD.thenS_bad, PD.mapL_ok, PD.mapL_bad, PD.slD_dat, PD.slB_dat, PD.slB_own, PD.slD_succ, PD.slB_succ, PD.fNil_ap, PD.evE_var, PD.evB_var, PD.evT_var, PD.evE_con, PD.evB_con, PD.evE_glb, PD.evB_glb, PD.evE_bin, PD.evB_bin, PD.evN_add, PD.evN_mul, PD.evE_cmp, PD.evB_cmp, PD.evT_cmp, PD.evE_chain, PD.evB_chain, PD.evT_chain, PD.evE_isn, PD.evB_isn, PD.evT_isn, PD.evE_bop, PD.evB_bop, PD.evT_bop, PD.evsE_one, PD.evsT_one, PD.evsE_and, PD.evsE_or, PD.evsT_and, PD.evsT_or, PD.evE_not, PD.evB_not, PD.evT_not, PD.negD_int, PD.evE_neg, PD.evB_neg, PD.evE_ife, PD.evB_ife, PD.evN_ife, PD.evsA_nil, PD.evsAB_nil, PD.evsA_cons, PD.evsAB_cons, PD.evE_tup, PD.evB_tup, PD.evN_lst, PD.evE_lst, PD.evB_lst, PD.evE_idx, PD.evB_idx, PD.evT_idx, PD.evoP_no, PD.evoP_yes, PD.evoT_no, PD.evoT_yes, PD.intOf_int, PD.evE_cut, PD.evB_cut, PD.evN_cut, PD.evE_len, PD.evB_len, PD.evT_len, PD.evE_int, PD.evB_int, PD.evT_int, PD.evE_str, PD.evB_str, PD.evT_str, PD.evE_tuple, PD.evB_tuple, PD.evT_tuple, PD.evE_min, PD.evB_min, PD.evT_min, PD.evE_max, PD.evB_max, PD.evT_max, PD.evE_sum, PD.evB_sum, PD.evT_sum, PD.evN_list, PD.evE_list, PD.evB_list, PD.evN_sorted, PD.evE_sorted, PD.evB_sorted, PD.evE_isi, PD.evB_isi, PD.evT_isi, PD.evE_ise, PD.evB_ise, PD.evT_ise, PD.evE_call, PD.evB_call, PD.evT_call, PD.evN_lc, PD.evE_lc, PD.evB_lc, PD.evT_lc, PD.eviB_any, PD.eviF_any, PD.eviB_rng1, PD.eviF_rng1, PD.eviB_rng2, PD.eviF_rng2, PD.eviB_enm, PD.eviF_enm, PD.eviB_zip, PD.eviF_zip, PD.evE_lset, PD.evB_lset, PD.evE_sset, PD.evB_sset, PD.evN_sset, PD.evE_call0, PD.evB_call0, PD.evE_join, PD.evB_join, PD.evE_stp, PD.evB_stp, PD.evN_stp, PD.evE_ixo, PD.evB_ixo, PD.evE_minp, PD.evB_minp, PD.evE_din, PD.evB_din, PD.evT_din, PD.evE_dget, PD.evB_dget, PD.evE_dlen, PD.evB_dlen, PD.evE_dgd, PD.evB_dgd, PD.eviB_dit, PD.eviF_dit, PD.isLst_lst, PD.isStr_str, PD.itemsD_lst, PD.itemsD_tup, PD.itemsD_str, PD.at_next, PD.at_ret, PD.at_exc, PD.at_bad, PD.at_brk, PD.at_cont, PD.exs_nil, PD.exs_cons, PD.optO_some, PD.exs_frz, PD.ex_ret, PD.ex_retN, PD.ex_pass, PD.ex_set, PD.ex_new, PD.ex_tset, PD.ex_par, PD.ex_parN, PD.ex_dput, PD.ex_dnew, PD.ex_par3, PD.ex_trp, PD.ex_parM, PD.ex_tuM, PD.ex_dnew0, PD.ex_fpg, PD.ex_fro, PD.ex_aug, PD.augD_int, PD.ex_app, PD.ex_ext, PD.ex_expr, PD.ex_ite, PD.ex_whl, PD.ex_for, PD.ex_raise, PD.tryO_exc, PD.tryO_ret, PD.tryO_next, PD.tryO_cont, PD.tryO_brk, PD.tryO_bad, PD.ex_tri, PD.selO_t, PD.selO_f, PD.hdD_nil, PD.hdD_cons, PD.clrS_nil, PD.clrS_dat, PD.clrS_none, PD.clrS_own, PD.clrS_exc, PD.unS_next, PD.unS_ret, PD.iseO_exc, PD.iseF_t, PD.exh_nil, PD.exh_cons, PD.outR_ret, PD.outR_next, PD.outR_exc, PD.gam_gl, PD.gam_sub, PD.gam_own, PD.setT_nm, PD.setT_tup, PD.isNon_int, PD.isNon_non, PD.isNon_tup, PD.truD_int, PD.truD_bl, PD.truD_non, PD.truD_str, PD.truD_lst, PD.truD_tup, PD.add_int, PD.sub_int, PD.lt_int, PD.le_int, PD.gt_int, PD.ge_int, PD.eq_int, PD.ne_int, PD.eq_str, PD.ne_str, PD.len_str, PD.len_lst, PD.len_tup, PD.len_scr, PD.int_int, PD.idx_lst, PD.idx_tup, PD.idx_str, PD.idx_scr, PD.isi_ib, PD.slC, PD.slCF, PD.isDow, PD.putS, PD.par3S, PD.trpS, PD.parMS, PD.asgS, PD.appS, PD.extS, PD.wipeS, PD.isOwn, PD.frzS, PD.setS, List.length_cons, List.length_nil, List.set_cons_zero, List.set_cons_succ, List.getElem?_cons_zero, List.getElem?_cons_succ, List.map_cons, List.map_nil, List.cons_append, List.nil_append, List.replicate_succ, List.replicate_zero, if_true, ite_true, ite_false, decide_true, decide_false, Bool.not_true, Bool.not_false, Bool.false_eq_true, Nat.reduceAdd, Nat.reduceSub, Nat.reduceLT, Nat.reduceLeDiff, ↓reduceIte, Nat.zero_lt_succ, Nat.lt_add_left_iff_pos, Int.reduceEq, Int.reduceLT, Int.reduceLE, $xs,*] $[$l:location]?)
namespace PD
open PySem L2
/-- a for that goes through -/
theorem forD_inv {t : Tg} {b : List S → O} (I : Nat → List S → Prop) {ds : List D} {δ : List S} (h0 : I 0 δ)
    (step : ∀ i d δ, ds[i]? = some d → I i δ → ∃ δ', setT t d δ = some δ' ∧ ∃ δ'', (b δ' = .next δ'' ∨ b δ' = .cont δ'') ∧ I (i + 1) δ'') : ∃ δ', forD t b ds δ = .next δ' ∧ I ds.length δ' := by
  induction ds generalizing δ I with
  | nil => exact ⟨δ, rfl, h0⟩
  | cons d ds ih =>
    obtain ⟨δ', e1, δ'', e2, h1⟩ := step 0 d δ rfl h0
    obtain ⟨δ3, e3, h3⟩ := ih (fun i => I (i + 1)) h1 (fun i d' δ' hd hI => step (i + 1) d' δ' (by simpa using hd) hI)
    refine ⟨δ3, ?_, h3⟩
    simp only [forD, e1]
    rcases e2 with e2 | e2 <;> simp only [e2, e3]
/-- a for that goes through, or is left by a return -/
theorem forD_ret {t : Tg} {b : List S → O} (I : Nat → List S → Prop) (r : D) {ds : List D} {δ : List S} (h0 : I 0 δ)
    (step : ∀ i d δ, ds[i]? = some d → I i δ → ∃ δ', setT t d δ = some δ' ∧ ((∃ δ'', b δ' = .next δ'' ∧ I (i + 1) δ'') ∨ b δ' = .ret r)) : (∃ δ', forD t b ds δ = .next δ' ∧ I ds.length δ') ∨ forD t b ds δ = .ret r := by
  induction ds generalizing δ I with
  | nil => exact .inl ⟨δ, rfl, h0⟩
  | cons d ds ih =>
    obtain ⟨δ', e1, h1⟩ := step 0 d δ rfl h0
    rcases h1 with ⟨δ'', e2, h1⟩ | h1
    · simp only [forD, e1, e2]
      exact ih (fun i => I (i + 1)) h1 (fun i d' δ' hd hI => step (i + 1) d' δ' (by simpa using hd) hI)
    · exact .inr (by simp only [forD, e1, h1])
/-- a comprehension -/
theorem lcD_eq {t : Tg} {tst : List S → R Bool} {elt : List S → R D} {δ : List S} (p : D → Bool) (f : D → D) {ds : List D}
    (h : ∀ d ∈ ds, ∃ δ', setT t d δ = some δ' ∧ tst δ' = .ok (p d) ∧ (p d = true → elt δ' = .ok (f d))) : lcD t tst elt δ ds = .ok ((ds.filter p).map f) := by
  induction ds with
  | nil => rfl
  | cons d ds ih =>
    obtain ⟨δ', e1, e2, e3⟩ := h d List.mem_cons_self
    have ih' := ih fun d' hd => h d' (List.mem_cons_of_mem _ hd)
    simp only [lcD, e1, e2, noX, R.bind_ok]
    cases hp : p d with
    | true => simp only [if_true, e3 hp, R.bind_ok, ih', List.filter_cons_of_pos hp, List.map_cons]
    | false => rw [if_neg (by decide), ih', List.filter_cons_of_neg (by simp [hp])]
/-- a while: a number that falls, an end -/
theorem whileD_inv {t : List S → R Bool} {b : List S → O} (I : List S → Prop) (μ : List S → Nat) (Q : List S → Prop)
    (step : ∀ δ, I δ → (t δ = .ok false ∧ Q δ) ∨ (t δ = .ok true ∧ ∃ δ', (b δ = .next δ' ∨ b δ = .cont δ') ∧ I δ' ∧ μ δ' < μ δ)) : ∀ (n : Nat) (δ : List S), I δ → μ δ < n → ∃ δ', whileD t b n δ = .next δ' ∧ Q δ'
  | 0, δ, h, hn => absurd hn (Nat.not_lt_zero _)
  | n + 1, δ, h, hn => by
    rcases step δ h with ⟨e, q⟩ | ⟨e, δ', e2, h2, hm⟩
    · exact ⟨δ, by simp [whileD, e, thenS], q⟩
    · obtain ⟨δ3, e3, q3⟩ := whileD_inv I μ Q step n δ' h2 (by omega)
      refine ⟨δ3, ?_, q3⟩
      rcases e2 with e2 | e2 <;> simp [whileD, e, thenS, e2, e3]
theorem while_end {t : List S → R Bool} {b : List S → O} {n : Nat} {δ : List S} (h : t δ = .ok false) : whileD t b (n + 1) δ = .next δ := by simp [whileD, h, thenS]
theorem while_go {t : List S → R Bool} {b : List S → O} {n : Nat} {δ δ' : List S} (h : t δ = .ok true) (h2 : b δ = .next δ') : whileD t b (n + 1) δ = whileD t b n δ' := by simp [whileD, h, thenS, h2]
def cellA (ns : List Int) (k : Nat) : Int := ns.getD k 0
def cellIR : ISs := .cons (.ite (.cmp .lt (.var 1) (.bf .len (.cons (.var 0) .nil))) (.cons (.ret (.idx (.var 0) (.var 1))) .nil) .nil) (.cons (.ret (.con (.int 0))) .nil)
theorem atI_some {α : Type} {l : List α} {k : Nat} (h : k < l.length) : atI l (k : Int) = some l[k] := by
  unfold atI ixN
  rw [if_pos (by omega), if_pos (by omega)]
  simp [h]
theorem cell_ok (Γ : Gam) (ns : List Int) (k : Nat) : evF Γ 2 2 cellIR [.scr ns, .int k] = .ok (.int (cellA ns k)) := by
  by_cases h : k < ns.length
  · have h' : (k : Int) < (ns.length : Int) := by omega
    simp [evF, cellIR, h', atI_some h, cellA, h]
  · have h' : ¬ (k : Int) < (ns.length : Int) := by omega
    simp [evF, cellIR, h', cellA, h]
def rowIR (j : Nat) : ISs := .cons (.set 2 (.call j (.cons (.var 0) (.cons (.var 1) .nil)))) (.cons (.new 3 (.lst .nil)) (.cons (.for (.nm 4) (.rng1 (.con (.int 60))) (.cons (.ite (.cmp .lt (.call j (.cons (.var 0) (.cons (.var 1) .nil))) (.bin .pow (.con (.int 10)) (.con (.int 18)))) (.cons (.set 2 (.bin .mod (.bin .add (.bin .add (.bin .add (.bin .mul (.var 2) (.con (.int 48271))) (.bin .mul (.con (.int 131)) (.var 4))) (.con (.int 7))) (.call j (.cons (.var 0) (.cons (.bin .mod (.bin .add (.bin .add (.var 1) (.con (.int 1))) (.var 4)) (.con (.int 20))) .nil)))) (.con (.int 2147483647)))) (.cons (.app 3 (.bin .mod (.bin .fdiv (.var 2) (.con (.int 11))) (.con (.int 1000)))) .nil)) (.cons (.app 3 (.bin .mod (.var 2) (.con (.int 1000)))) (.cons (.set 2 (.bin .fdiv (.var 2) (.con (.int 1000)))) .nil)) ) .nil)) (.frz 3 (.cons (.ret (.var 3)) .nil))))
/-- the numbers of a row -/
def Rw (l : List Int) : Prop := l.length = 60 ∧ ∀ x ∈ l, 0 ≤ x ∧ x < 1000
theorem rng1_60 : rng1 (.int 60) = .ok (rngL 0 60) := rfl
theorem rngL_get {lo : Int} {n i : Nat} {d : D} (h : (rngL lo n)[i]? = some d) : i < n ∧ d = .int (lo + i) := by
  have hi : i < n := by
    rcases Nat.lt_or_ge i n with h' | h'
    · exact h'
    · rw [List.getElem?_eq_none (by rw [rng_len]; exact h')] at h; cases h
  unfold rngL at h
  rw [List.getElem?_map, List.getElem?_range hi] at h
  cases h
  exact ⟨hi, rfl⟩
theorem row_ok (Γ : Gam) (j : Nat) (ns : List Int) (hj : ∀ k : Nat, Γ.fn j [.scr ns, .int k] = .ok (.int (cellA ns k))) (a : Nat) : ∃ l, Rw l ∧ evF Γ 2 5 (rowIR j) [.scr ns, .int a] = .ok (.lst (l.map .int)) := by
  let body : List S → O := exs Γ false (.cons (.ite (.cmp .lt (.call j (.cons (.var 0) (.cons (.var 1) .nil))) (.bin .pow (.con (.int 10)) (.con (.int 18)))) (.cons (.set 2 (.bin .mod (.bin .add (.bin .add (.bin .add (.bin .mul (.var 2) (.con (.int 48271))) (.bin .mul (.con (.int 131)) (.var 4))) (.con (.int 7))) (.call j (.cons (.var 0) (.cons (.bin .mod (.bin .add (.bin .add (.var 1) (.con (.int 1))) (.var 4)) (.con (.int 20))) .nil)))) (.con (.int 2147483647)))) (.cons (.app 3 (.bin .mod (.bin .fdiv (.var 2) (.con (.int 11))) (.con (.int 1000)))) .nil)) (.cons (.app 3 (.bin .mod (.var 2) (.con (.int 1000)))) (.cons (.set 2 (.bin .fdiv (.var 2) (.con (.int 1000)))) .nil)) ) .nil)
  let I : Nat → List S → Prop := fun i δ => ∃ (c : Int) (l : List Int) (s : S), δ = [.dat (.scr ns), .dat (.int a), .dat (.int c), .own (l.map .int), s] ∧ l.length = i ∧ ∀ x ∈ l, 0 ≤ x ∧ x < 1000
  have key := forD_inv (t := .nm 4) (b := body) I (ds := rngL 0 60) (δ := [.dat (.scr ns), .dat (.int a), .dat (.int (cellA ns a)), .own [], .none])
    ⟨cellA ns a, [], .none, rfl, rfl, by simp⟩ (fun i d δ hd hI => by
      obtain ⟨hi, hd'⟩ := rngL_get hd
      rw [Int.zero_add] at hd'
      subst hd'
      obtain ⟨c, l, s, rfl, rfl, hl⟩ := hI
      have hz : l.length < szN := by simp [szN]; omega
      have ha : ((a : Int) + 1 + (l.length : Int)) % 20 = (((a + 1 + l.length) % 20 : Nat) : Int) := by omega
      have hp : binD .pow (.int 10) (.int 18) = some (.int 1000000000000000000) := rfl
      refine ⟨[.dat (.scr ns), .dat (.int a), .dat (.int c), .own (l.map .int), .dat (.int l.length)], by simp [setT], ?_⟩
      by_cases hc : cellA ns a < 1000000000000000000
      · refine ⟨[.dat (.scr ns), .dat (.int a), .dat (.int ((c * 48271 + 131 * l.length + 7 + cellA ns ((a + 1 + l.length) % 20)) % 2147483647)), .own ((l ++ [(c * 48271 + 131 * l.length + 7 + cellA ns ((a + 1 + l.length) % 20)) % 2147483647 / 11 % 1000]).map .int), .dat (.int l.length)], .inl ?_, _, _, _, rfl, by simp, ?_⟩
        · simp? only [body, hj, hp, hc, mul_int _ 48271 (by decide), mul_int' 131 _ (by decide), mod_int _ 2147483647 (by decide), mod_int _ 20 (by decide), mod_int _ 1000 (by decide), fdiv_int _ 11 (by decide), ha, List.length_map, hz, List.map_append]
        · intro x hx
          simp at hx
          rcases hx with hx | rfl
          · exact hl x hx
          · omega
      · refine ⟨[.dat (.scr ns), .dat (.int a), .dat (.int (c / 1000)), .own ((l ++ [c % 1000]).map .int), .dat (.int l.length)], .inl ?_, _, _, _, rfl, by simp, ?_⟩
        · simp [body, hj, hp, hc, mod_int, fdiv_int, asgS, appS, isOwn, hz]
        · intro x hx
          simp at hx
          rcases hx with hx | rfl
          · exact hl x hx
          · omega)
  obtain ⟨δ', e, c, l, s, rfl, hl, hb⟩ := key
  refine ⟨l, ⟨by simpa [rng_len] using hl, hb⟩, ?_⟩
  have e' : forD (.nm 4) body (rngL 0 60) [.dat (.scr ns), .dat (.int a), .dat (.int (cellA ns a)), .own [], .none] = .next [.dat (.scr ns), .dat (.int a), .dat (.int c), .own (l.map .int), s] := e
  have hs : 0 ≤ szN := Nat.zero_le _
  simp? only [evF, rowIR, hj, hs, rng1_60]
  rw [show exs Γ false _ = body from rfl, e']
  simp [frzS]
end PD
namespace PD
open PySem L2
def dig (n : Nat) : List Nat := if n < 10 then [48 + n] else if n < 100 then [48 + n / 10, 48 + n % 10] else [48 + n / 100, 48 + n / 10 % 10, 48 + n % 10]
def allN (n : Nat) (p : Nat → Bool) : Bool := Nat.rec true (fun k b => p k && b) n
theorem allN_get {p : Nat → Bool} : ∀ {n : Nat}, allN n p = true → ∀ k, k < n → p k = true
  | 0, _, k, h => absurd h (Nat.not_lt_zero _)
  | n + 1, e, k, h => by
    have e' : (p n && allN n p) = true := e
    rw [Bool.and_eq_true] at e'
    rcases Nat.lt_or_ge k n with hk | hk
    · exact allN_get e'.2 k hk
    · rw [show k = n by omega]; exact e'.1
theorem strI_dig : (allN 1000 fun n => strI (n : Int) == dig n) = true := by decide +kernel
theorem int_dig : (allN 1000 fun n => PySem.intText? (mkS (dig n)) == some (n : Int)) = true := by decide +kernel
theorem int_zero : (allN 10 fun c => PySem.intText? (mkS [48, 48 + c]) == some (c : Int)) = true := by decide +kernel
theorem dig_len {n : Nat} : (dig n).length ≤ 3 := by
  unfold dig
  split
  · simp
  · split <;> simp
theorem okS_dig {n : Nat} (h : n < 1000) : okS (dig n) = true := by
  unfold dig okS
  split
  · simp; omega
  · split <;> simp <;> omega
theorem str_dig {n : Nat} (h : n < 1000) : bfD .str [.int n] = some (.str (dig n)) := by
  have e : strI (n : Int) = dig n := by simpa using allN_get strI_dig n h
  have hl : Int.natAbs (n : Int) < 2 ^ 10 := by omega
  have hg : (Int.natAbs (n : Int)).log2 < 1920 := by
    rcases Nat.eq_zero_or_pos (Int.natAbs (n : Int)) with h0 | h0
    · rw [h0]; decide
    · have := (Nat.log2_lt (by omega)).mpr hl
      omega
  simp only [bfD]
  rw [if_pos ⟨hg, by rw [e]; exact okS_dig h, by rw [e]; exact Nat.le_trans dig_len (by decide)⟩, e]
theorem int_of_dig {n : Nat} (h : n < 1000) : bfD .int [.str (dig n)] = some (.int n) := by
  have e : PySem.intText? (mkS (dig n)) = some (n : Int) := by simpa using allN_get int_dig n h
  simp only [bfD]
  rw [if_pos (Nat.le_trans dig_len (by decide)), e]; rfl
theorem int_of_zero {c : Nat} (h : c < 10) : bfD .int [.str [48, 48 + c]] = some (.int c) := by
  have e : PySem.intText? (mkS [48, 48 + c]) = some (c : Int) := by simpa using allN_get int_zero c h
  simp only [bfD]
  rw [if_pos (by simp), e]; rfl
theorem dig_inj {m n : Nat} (hm : m < 1000) (hn : n < 1000) (h : dig m = dig n) : m = n := by
  have a := allN_get int_dig m hm
  have b := allN_get int_dig n hn
  simp only [beq_iff_eq] at a b
  rw [h, b] at a
  simp at a
  omega
theorem dig1 {n : Nat} (h : n < 10) : dig n = [48 + n] := by simp [dig, h]
theorem dig2 {n : Nat} (h : 10 ≤ n) (h2 : n < 100) : dig n = [48 + n / 10, 48 + n % 10] := by simp [dig, h2]; omega
theorem dig3 {n : Nat} (h : 100 ≤ n) : dig n = [48 + n / 100, 48 + n / 10 % 10, 48 + n % 10] := by simp [dig, show ¬ n < 10 by omega, show ¬ n < 100 by omega]
/-- a digit put behind -/
theorem dig_snoc {m c : Nat} (h : 1 ≤ m) (h2 : m < 100) (hc : c < 10) : dig m ++ [48 + c] = dig (10 * m + c) := by
  rcases Nat.lt_or_ge m 10 with h3 | h3
  · rw [dig1 h3, dig2 (by omega) (by omega)]; simp; omega
  · rw [dig2 h3 h2, dig3 (by omega)]; simp; omega
/-- beginnings -/
theorem cutL_hi {α : Type} (l : List α) (k : Nat) (h : k ≤ l.length) : cutL l none (some (k : Int)) = l.take k := by
  unfold cutL
  have e1 : HT.sIx l.length 0 none = 0 := rfl
  have e2 : HT.sIx l.length l.length (some (k : Int)) = k := by
    simp only [HT.sIx]
    rw [if_neg (by omega)]
    simp; omega
  rw [e1, e2]; simp
theorem dig_take1 {n : Nat} (h : 10 ≤ n) (h2 : n < 100) : (dig n).take 1 = dig (n / 10) := by rw [dig2 h h2, dig1 (by omega)]; rfl
theorem dig_take1' {n : Nat} (h : 100 ≤ n) (h2 : n < 1000) : (dig n).take 1 = dig (n / 100) := by rw [dig3 h, dig1 (by omega)]; rfl
theorem dig_take2 {n : Nat} (h : 100 ≤ n) (h2 : n < 1000) : (dig n).take 2 = dig (n / 10) := by
  rw [dig3 h, dig2 (by omega) (by omega)]
  simp; omega
/-- index into a row -/
theorem rw_at {l : List Int} (h : Rw l) (k : Nat) (hk : k < 60) : ∃ n : Nat, n < 1000 ∧ atI (l.map D.int) (k : Int) = some (.int n) := by
  have hl : k < (l.map D.int).length := by rw [List.length_map, h.1]; exact hk
  have hb := h.2 (l[k]'(by simpa using hl)) (List.getElem_mem _)
  refine ⟨(l[k]'(by simpa using hl)).toNat, by omega, ?_⟩
  rw [atI_some hl, List.getElem_map]
  congr 2
  omega
theorem anyD_ints (n : Int) : ∀ l : List Int, anyD (.int n) (l.map .int) = decide (n ∈ l)
  | [] => by simp [anyD]
  | a :: l => by
    rw [List.map_cons, anyD, anyD_ints n l, eqD]
    by_cases h : n = a
    · subst h; simp
    · have h' : ¬ a = n := fun e => h e.symm
      simp [h, h']
theorem noScrs_ints : ∀ l : List Int, noScrs (l.map .int) = true
  | [] => rfl
  | a :: l => by rw [List.map_cons, noScrs, noScrs_ints l]; rfl
theorem deps_ints : ∀ l : List Int, deps (l.map .int) = 0
  | [] => rfl
  | a :: l => by rw [List.map_cons, deps, deps_ints l]; rfl
theorem inD_ints (n : Int) (l : List Int) : inD (.int n) (.lst (l.map .int)) = some (decide (n ∈ l)) := by
  rw [inD, if_pos (by simp [inOk, noScr, noScrs_ints, dep]), anyD_ints]
  all_goals (intros; simp_all)
theorem in_ints (n : Int) (l : List Int) : cmpD .inn (.int n) (.lst (l.map .int)) = some (decide (n ∈ l)) := inD_ints n l
theorem nin_ints (n : Int) (l : List Int) : cmpD .nin (.int n) (.lst (l.map .int)) = some (!decide (n ∈ l)) := by
  show (inD _ _).map _ = _
  rw [inD_ints]; rfl
theorem eqDs_ints : ∀ l m : List Int, eqDs (l.map .int) (m.map .int) = decide (l = m)
  | [], [] => by simp [eqDs]
  | [], b :: m => by simp [eqDs]
  | a :: l, [] => by simp [eqDs]
  | a :: l, b :: m => by
    rw [List.map_cons, List.map_cons, eqDs, eqDs_ints l m, eqD]
    by_cases h : a = b <;> simp [h]
theorem eq_ints (l m : List Int) : cmpD .eq (.lst (l.map .int)) (.lst (m.map .int)) = some (decide (l = m)) := by
  rw [cmpD, if_pos (by simp [eqOk, noScr, noScrs_ints, dep, deps_ints]), eqD, eqDs_ints]
theorem ne_ints (l m : List Int) : cmpD .ne (.lst (l.map .int)) (.lst (m.map .int)) = some (!decide (l = m)) := by
  rw [cmpD, if_pos (by simp [eqOk, noScr, noScrs_ints, dep, deps_ints]), eqD, eqDs_ints]
theorem intsOf_ints : ∀ l : List Int, intsOf (l.map .int) = some l
  | [] => rfl
  | a :: l => by rw [List.map_cons, intsOf, intsOf_ints l]; rfl
/-- a sorted list -/
theorem sortI_self {l : List Int} (h : l.Pairwise (· ≤ ·)) : sortI l = l := sorted_unique (sortI_perm l) (sortI_sorted l) h
theorem lcD_map {α : Type} {t : Tg} {tst : List S → R Bool} {elt : List S → R D} {δ : List S} (g : α → D) (p : α → Bool) (f : α → D) {xs : List α}
    (h : ∀ x ∈ xs, ∃ δ', setT t (g x) δ = some δ' ∧ tst δ' = .ok (p x) ∧ (p x = true → elt δ' = .ok (f x))) : lcD t tst elt δ (xs.map g) = .ok ((xs.filter p).map f) := by
  induction xs with
  | nil => rfl
  | cons x xs ih =>
    obtain ⟨δ', e1, e2, e3⟩ := h x List.mem_cons_self
    have ih' := ih fun d' hd => h d' (List.mem_cons_of_mem _ hd)
    simp only [List.map_cons, lcD, e1, e2, noX, R.bind_ok]
    cases hp : p x with
    | true => simp only [if_true, e3 hp, R.bind_ok, ih', List.filter_cons_of_pos hp, List.map_cons]
    | false => rw [if_neg (by decide), ih', List.filter_cons_of_neg (by simp [hp])]
theorem forD_pre {α β : Type} {t : Tg} {body : List S → O} (g : α → D) (J : β → List S → Prop) (f : β → α → β) : ∀ (xs : List α) (b : β) (δ : List S), J b δ →
    (∀ pre x post, xs = pre ++ x :: post → ∀ δ, J (pre.foldl f b) δ → ∃ δ', setT t (g x) δ = some δ' ∧ ∃ δ'', (body δ' = .next δ'' ∨ body δ' = .cont δ'') ∧ J (f (pre.foldl f b) x) δ'') → ∃ δ', forD t body (xs.map g) δ = .next δ' ∧ J (xs.foldl f b) δ'
  | [], b, δ, h, _ => ⟨δ, rfl, h⟩
  | x :: xs, b, δ, h, st => by
    obtain ⟨δ', e1, δ'', e2, h2⟩ := st [] x xs rfl δ h
    obtain ⟨δ3, e3, h3⟩ := forD_pre g J f xs (f b x) δ'' h2 (fun pre y post e δ hj => st (x :: pre) y post (by rw [e]; rfl) δ hj)
    refine ⟨δ3, ?_, h3⟩
    simp only [List.map_cons, forD, e1]
    rcases e2 with e2 | e2 <;> simp only [e2, e3]
theorem foldl_filter {α : Type} (p : α → Bool) : ∀ (xs b : List α), xs.foldl (fun b x => if p x then b ++ [x] else b) b = b ++ xs.filter p
  | [], b => by simp
  | x :: xs, b => by
    rw [List.foldl_cons, foldl_filter p xs]
    cases h : p x <;> simp [h]
theorem rngL_nat (lo n : Nat) : rngL (lo : Int) n = (List.range' lo n).map fun k : Nat => D.int k := by
  unfold rngL
  rw [List.range'_eq_map_range, List.map_map]
  apply List.map_congr_left
  intro k _
  simp
theorem rng2_nat (lo hi : Nat) (h : hi < 1000) (h2 : lo < 1000) : rng2 (.int lo) (.int ((hi : Int) + 1)) = .ok ((List.range' lo (hi + 1 - lo)).map fun k : Nat => D.int k) := by
  rw [rng2, if_pos (by simp only [szN]; omega), ← rngL_nat]
  congr 2
  omega
/-- a display of small length, at a number -/
theorem atI_lit {α : Type} (l : List α) (k : Nat) (h : k < l.length) : ∃ x ∈ l, atI l (k : Int) = some x := ⟨l[k], List.getElem_mem h, atI_some h⟩
end PD
namespace PD
open PySem L2
def cb_in_range (ι ξ : Nat → Nat) : ISs := (.cons (.ret (.bop true (.cons (.isi .int (.var 0)) (.cons (.not (.isi .bool (.var 0))) (.cons (.chain .le .le (.var 1) (.var 0) (.var 2)) .nil))))) .nil)
def ct_are_values_1 (ι ξ : Nat → Nat) : IO := (.yes (.not (.call (ι 0) (.cons (.var 2) (.cons (.con (.int 0)) (.cons (.con (.int 9)) .nil))))))
def ct_are_values_2 (ι ξ : Nat → Nat) : IO := (.yes (.cmp .ge (.var 2) (.var 3)))
def ce_are_values_1 (ι ξ : Nat → Nat) : IE := (.con (.int 1))
def cb_are_values (ι ξ : Nat → Nat) : ISs := (.cons (.ite (.bop false (.cons (.not (.isi .tuple (.var 0))) (.cons (.not (.chain .le .le (.con (.int 1)) (.bf .len (.cons (.var 0) .nil)) (.var 1))) (.cons (.lc [("one", 2)] (.nm 2) (.any (.var 0)) (ct_are_values_1 ι ξ) (.var 2)) .nil)))) (.cons (.ret (.con (.bl false))) .nil) .nil) (.cons (.ret (.not (.lc [("one", 2), ("other", 3)] (.tup [2, 3]) (.zip (.var 0) (.cut (.var 0) (.yes (.con (.int 1))) .no)) (ct_are_values_2 ι ξ) (ce_are_values_1 ι ξ)))) .nil))
def ct_are_conditions_1 (ι ξ : Nat → Nat) : IO := (.yes (.cmp .nin (.var 0) (.idx (.idx (.var 1) (.idx (.var 2) (.con (.int 0)))) (.con (.int 0)))))
def cb_are_conditions_1 (ι ξ : Nat → Nat) : ISs := (.cons (.ite (.bop false (.cons (.not (.isi .tuple (.var 2))) (.cons (.cmp .ne (.bf .len (.cons (.var 2) .nil)) (.con (.int 2))) (.cons (.not (.call (ι 0) (.cons (.idx (.var 2) (.con (.int 0))) (.cons (.con (.int 0)) (.cons (.bin .sub (.bf .len (.cons (.var 1) .nil)) (.con (.int 1))) .nil))))) .nil)))) (.cons (.ret (.con (.bl false))) .nil) .nil) (.cons (.ite (.bop false (.cons (.not (.call (ι 1) (.cons (.idx (.var 2) (.con (.int 1))) (.cons (.con (.int 4)) .nil)))) (.cons (.lc [("value", 0)] (.nm 0) (.any (.idx (.var 2) (.con (.int 1)))) (ct_are_conditions_1 ι ξ) (.var 0)) .nil))) (.cons (.ret (.con (.bl false))) .nil) .nil) .nil))
def ct_are_conditions_2 (ι ξ : Nat → Nat) : IO := (.yes (.cmp .ge (.idx (.var 2) (.con (.int 0))) (.idx (.var 3) (.con (.int 0)))))
def ce_are_conditions_1 (ι ξ : Nat → Nat) : IE := (.con (.int 1))
def cb_are_conditions (ι ξ : Nat → Nat) : ISs := (.cons (.ite (.bop false (.cons (.not (.isi .tuple (.var 0))) (.cons (.cmp .gt (.bf .len (.cons (.var 0) .nil)) (.con (.int 2))) .nil))) (.cons (.ret (.con (.bl false))) .nil) .nil) (.cons (.for (.nm 2) (.any (.var 0)) (cb_are_conditions_1 ι ξ)) (.cons (.ret (.not (.lc [("one", 2), ("other", 3)] (.tup [2, 3]) (.zip (.var 0) (.cut (.var 0) (.yes (.con (.int 1))) .no)) (ct_are_conditions_2 ι ξ) (ce_are_conditions_1 ι ξ)))) .nil)))
def cb_are_fields_1 (ι ξ : Nat → Nat) : ISs := (.cons (.ite (.bop false (.cons (.not (.isi .tuple (.var 2))) (.cons (.cmp .ne (.bf .len (.cons (.var 2) .nil)) (.con (.int 2))) (.cons (.not (.call (ι 1) (.cons (.idx (.var 2) (.con (.int 0))) (.cons (.con (.int 4)) .nil)))) .nil)))) (.cons (.ret (.con (.bl false))) .nil) .nil) (.cons (.ite (.not (.call (ι 2) (.cons (.idx (.var 2) (.con (.int 1))) (.cons (.cut (.var 0) .no (.yes (.var 1))) .nil)))) (.cons (.ret (.con (.bl false))) .nil) .nil) .nil))
def cb_are_fields (ι ξ : Nat → Nat) : ISs := (.cons (.ite (.bop false (.cons (.not (.isi .tuple (.var 0))) (.cons (.not (.chain .le .le (.con (.int 1)) (.bf .len (.cons (.var 0) .nil)) (.con (.int 4)))) .nil))) (.cons (.ret (.con (.bl false))) .nil) .nil) (.cons (.for (.tup [1, 2]) (.enm (.var 0)) (cb_are_fields_1 ι ξ)) (.cons (.ret (.con (.bl true))) .nil)))
def cb_is_rule_1 (ι ξ : Nat → Nat) : ISs := (.cons (.ite (.bop false (.cons (.not (.isi .tuple (.var 2))) (.cons (.cmp .ne (.bf .len (.cons (.var 2) .nil)) (.con (.int 2))) (.cons (.not (.call (ι 0) (.cons (.idx (.var 2) (.con (.int 0))) (.cons (.con (.int 0)) (.cons (.bin .sub (.bf .len (.cons (.var 0) .nil)) (.con (.int 1))) .nil))))) .nil)))) (.cons (.ret (.con (.bl false))) .nil) .nil) (.cons (.ite (.bop false (.cons (.not (.call (ι 0) (.cons (.idx (.var 2) (.con (.int 1))) (.cons (.con (.int 0)) (.cons (.con (.int 9)) .nil))))) (.cons (.cmp .nin (.idx (.var 2) (.con (.int 1))) (.idx (.idx (.var 0) (.idx (.var 2) (.con (.int 0)))) (.con (.int 0)))) .nil))) (.cons (.ret (.con (.bl false))) .nil) .nil) .nil))
def cb_is_rule (ι ξ : Nat → Nat) : ISs := (.cons (.ite (.bop false (.cons (.not (.isi .tuple (.var 1))) (.cons (.cmp .ne (.bf .len (.cons (.var 1) .nil)) (.con (.int 2))) (.cons (.not (.isi .str (.idx (.var 1) (.con (.int 0))))) .nil)))) (.cons (.ret (.con (.bl false))) .nil) .nil) (.cons (.tset [3, 4] (.var 1)) (.cons (.ite (.bop false (.cons (.cmp .nin (.var 3) (.tup (.cons (.con (.str [101, 110, 116, 114, 121])) (.cons (.con (.str [110, 101, 101, 100, 115])) (.cons (.con (.str [115, 101, 110, 100])) .nil))))) (.cons (.not (.isi .tuple (.var 4))) .nil))) (.cons (.ret (.con (.bl false))) .nil) .nil) (.cons (.ite (.not (.chain .le .le (.bin .add (.con (.int 1)) (.bf .int (.cons (.cmp .eq (.var 3) (.con (.str [110, 101, 101, 100, 115]))) .nil))) (.bf .len (.cons (.var 4) .nil)) (.con (.int 3)))) (.cons (.ret (.con (.bl false))) .nil) .nil) (.cons (.for (.nm 2) (.any (.var 4)) (cb_is_rule_1 ι ξ)) (.cons (.ret (.cmp .eq (.lset (.lc [("field", 5), ("value", 1)] (.tup [5, 1]) (.any (.var 4)) .no (.var 5))) (.bf .len (.cons (.var 4) .nil)))) .nil))))))
def ct_is_form_1 (ι ξ : Nat → Nat) : IO := (.yes (.not (.call (ι 4) (.cons (.idx (.var 0) (.con (.int 0))) (.cons (.var 1) .nil)))))
def cb_is_form (ι ξ : Nat → Nat) : ISs := (.cons (.ite (.bop false (.cons (.not (.isi .tuple (.var 0))) (.cons (.cmp .ne (.bf .len (.cons (.var 0) .nil)) (.con (.int 3))) (.cons (.not (.call (ι 3) (.cons (.idx (.var 0) (.con (.int 0))) .nil))) (.cons (.not (.isi .tuple (.idx (.var 0) (.con (.int 1))))) .nil))))) (.cons (.ret (.con (.bl false))) .nil) .nil) (.cons (.ite (.bop false (.cons (.cmp .gt (.bf .len (.cons (.idx (.var 0) (.con (.int 1))) .nil)) (.con (.int 4))) (.cons (.lc [("one", 1)] (.nm 1) (.any (.idx (.var 0) (.con (.int 1)))) (ct_is_form_1 ι ξ) (.var 1)) .nil))) (.cons (.ret (.con (.bl false))) .nil) .nil) (.cons (.ret (.bop true (.cons (.isi .str (.idx (.var 0) (.con (.int 2)))) (.cons (.cmp .inn (.idx (.var 0) (.con (.int 2))) (.tup (.cons (.con (.str [115, 104, 111, 119, 110])) (.cons (.con (.str [97, 108, 108])) .nil)))) .nil)))) .nil)))
def cb_check_form (ι ξ : Nat → Nat) : ISs := (.cons (.ite (.not (.call (ι 5) (.cons (.var 0) .nil))) (.cons (.raise (ξ 0)) .nil) .nil) .nil)
def cb_is_record_1 (ι ξ : Nat → Nat) : ISs := (.cons (.ite (.bop true (.cons (.isn true (.var 2)) (.cons (.bop false (.cons (.not (.call (ι 0) (.cons (.var 2) (.cons (.con (.int 0)) (.cons (.con (.int 9)) .nil))))) (.cons (.cmp .nin (.var 2) (.idx (.var 3) (.con (.int 0)))) .nil))) .nil))) (.cons (.ret (.con (.bl false))) .nil) .nil) .nil)
def cb_is_record (ι ξ : Nat → Nat) : ISs := (.cons (.ite (.bop false (.cons (.not (.isi .tuple (.var 1))) (.cons (.cmp .ne (.bf .len (.cons (.var 1) .nil)) (.bf .len (.cons (.idx (.var 0) (.con (.int 0))) .nil))) .nil))) (.cons (.ret (.con (.bl false))) .nil) .nil) (.cons (.for (.tup [2, 3]) (.zip (.var 1) (.idx (.var 0) (.con (.int 0)))) (cb_is_record_1 ι ξ)) (.cons (.ret (.con (.bl true))) .nil)))
def cb_check_record (ι ξ : Nat → Nat) : ISs := (.cons (.ite (.not (.call (ι 7) (.cons (.var 0) (.cons (.var 1) .nil)))) (.cons (.raise (ξ 1)) .nil) .nil) .nil)
def ct_shown_of_1 (ι ξ : Nat → Nat) : IO := (.yes (.bop false (.cons (.cmp .nin (.var 5) (.var 2)) (.cons (.cmp .nin (.idx (.var 1) (.var 5)) (.var 6)) .nil))))
def ce_shown_of_1 (ι ξ : Nat → Nat) : IE := (.con (.int 1))
def cb_shown_of_1 (ι ξ : Nat → Nat) : ISs := (.cons (.ite (.not (.lc [("other", 5), ("values", 6)] (.tup [5, 6]) (.any (.idx (.var 4) (.con (.int 1)))) (ct_shown_of_1 ι ξ) (ce_shown_of_1 ι ξ))) (.cons (.app 2 (.var 3)) .nil) .nil) .nil)
def cb_shown_of (ι ξ : Nat → Nat) : ISs := (.cons (.new 2 (.lst .nil)) (.cons (.for (.tup [3, 4]) (.enm (.idx (.var 0) (.con (.int 0)))) (cb_shown_of_1 ι ξ)) (.frz 2 (.cons (.ret (.var 2)) .nil))))
def ct_holds_1 (ι ξ : Nat → Nat) : IO := (.yes (.bop false (.cons (.cmp .nin (.var 3) (.var 0)) (.cons (.cmp .ne (.idx (.var 1) (.var 3)) (.var 4)) .nil))))
def ce_holds_1 (ι ξ : Nat → Nat) : IE := (.con (.int 1))
def cb_holds (ι ξ : Nat → Nat) : ISs := (.cons (.ret (.not (.lc [("field", 3), ("value", 4)] (.tup [3, 4]) (.any (.var 2)) (ct_holds_1 ι ξ) (ce_holds_1 ι ξ)))) .nil)
def ct_broken_of_1 (ι ξ : Nat → Nat) : IO := (.yes (.bop true (.cons (.cmp .inn (.idx (.var 5) (.con (.int 0))) (.var 2)) (.cons (.call (ι 10) (.cons (.var 3) (.cons (.var 1) (.cons (.idx (.var 5) (.con (.int 1))) .nil)))) .nil))))
def cb_broken_of (ι ξ : Nat → Nat) : ISs := (.cons (.set 3 (.call (ι 9) (.cons (.var 0) (.cons (.var 1) .nil)))) (.cons (.ret (.lc [("number", 4), ("rule", 5)] (.tup [4, 5]) (.enm (.idx (.var 0) (.con (.int 1)))) (ct_broken_of_1 ι ξ) (.var 4))) .nil))
def cb_entered_1 (ι ξ : Nat → Nat) : ISs := (.cons (.ite (.bop true (.cons (.cmp .eq (.var 6) (.con (.str [110, 101, 101, 100, 115]))) (.cons (.cmp .eq (.idx (.var 7) (.con (.int 0))) (.tup (.cons (.var 2) (.cons (.var 3) .nil)))) (.cons (.not (.call (ι 10) (.cons (.var 4) (.cons (.var 1) (.cons (.cut (.var 7) (.yes (.con (.int 1))) .no) .nil))))) .nil)))) (.cons (.ret (.con .non)) .nil) .nil) .nil)
def cb_entered (ι ξ : Nat → Nat) : ISs := (.cons (.set 4 (.call (ι 9) (.cons (.var 0) (.cons (.var 1) .nil)))) (.cons (.ite (.bop false (.cons (.cmp .nin (.var 2) (.var 4)) (.cons (.cmp .eq (.idx (.var 1) (.var 2)) (.var 3)) .nil))) (.cons (.ret (.con .non)) .nil) .nil) (.cons (.for (.tup [6, 7]) (.any (.idx (.var 0) (.con (.int 1)))) (cb_entered_1 ι ξ)) (.cons (.set 5 (.bin .add (.bin .add (.cut (.var 1) .no (.yes (.var 2))) (.tup (.cons (.var 3) .nil))) (.cut (.var 1) (.yes (.bin .add (.var 2) (.con (.int 1)))) .no))) (.cons (.ret (.ife (.call (ι 11) (.cons (.var 0) (.cons (.var 5) (.cons (.tup (.cons (.con (.str [101, 110, 116, 114, 121])) .nil)) .nil)))) (.con .non) (.var 5))) .nil)))))
def cb_check_entry (ι ξ : Nat → Nat) : ISs := (.cons (.ite (.not (.call (ι 0) (.cons (.var 1) (.cons (.con (.int 0)) (.cons (.bin .sub (.bf .len (.cons (.idx (.var 0) (.con (.int 0))) .nil)) (.con (.int 1))) .nil))))) (.cons (.raise (ξ 2)) .nil) .nil) (.cons (.ite (.bop true (.cons (.isn true (.var 2)) (.cons (.bop false (.cons (.not (.call (ι 0) (.cons (.var 2) (.cons (.con (.int 0)) (.cons (.con (.int 9)) .nil))))) (.cons (.cmp .nin (.var 2) (.idx (.idx (.idx (.var 0) (.con (.int 0))) (.var 1)) (.con (.int 0)))) .nil))) .nil))) (.cons (.raise (ξ 2)) .nil) .nil) .nil))
def cb_enter (ι ξ : Nat → Nat) : ISs := (.cons (.expr (.call (ι 6) (.cons (.var 0) .nil))) (.cons (.expr (.call (ι 8) (.cons (.var 0) (.cons (.var 1) .nil)))) (.cons (.expr (.call (ι 13) (.cons (.var 0) (.cons (.var 2) (.cons (.var 3) .nil))))) (.cons (.ret (.call (ι 12) (.cons (.var 0) (.cons (.var 1) (.cons (.var 2) (.cons (.var 3) .nil)))))) .nil))))
def ct_can_send_of_1 (ι ξ : Nat → Nat) : IO := (.yes (.isn false (.idx (.var 1) (.var 2))))
def cb_can_send_of (ι ξ : Nat → Nat) : ISs := (.cons (.ite (.lc [("number", 2)] (.nm 2) (.any (.call (ι 9) (.cons (.var 0) (.cons (.var 1) .nil)))) (ct_can_send_of_1 ι ξ) (.var 2)) (.cons (.ret (.con (.bl false))) .nil) .nil) (.cons (.ret (.not (.call (ι 11) (.cons (.var 0) (.cons (.var 1) (.cons (.tup (.cons (.con (.str [101, 110, 116, 114, 121])) (.cons (.con (.str [115, 101, 110, 100])) .nil))) .nil)))))) .nil))
def ct_is_clean_1 (ι ξ : Nat → Nat) : IO := (.yes (.bop true (.cons (.isn true (.var 4)) (.cons (.cmp .nin (.var 3) (.var 2)) .nil))))
def cb_is_clean (ι ξ : Nat → Nat) : ISs := (.cons (.set 2 (.call (ι 9) (.cons (.var 0) (.cons (.var 1) .nil)))) (.cons (.ret (.not (.lc [("number", 3), ("value", 4)] (.tup [3, 4]) (.enm (.var 1)) (ct_is_clean_1 ι ξ) (.var 3)))) .nil))
def ce_every_record_1 (ι ξ : Nat → Nat) : IE := (.bin .add (.var 5) (.tup (.cons (.var 6) .nil)))
def cb_every_record_2 (ι ξ : Nat → Nat) : ISs := (.cons (.ext 4 (.lc [("value", 6)] (.nm 6) (.any (.bin .add (.tup (.cons (.con .non) .nil)) (.var 2))) .no (ce_every_record_1 ι ξ))) .nil)
def cb_every_record_1 (ι ξ : Nat → Nat) : ISs := (.cons (.new 4 (.lst .nil)) (.cons (.for (.nm 5) (.any (.var 1)) (cb_every_record_2 ι ξ)) (.frz 4 (.cons (.set 1 (.var 4)) .nil))))
def cb_every_record (ι ξ : Nat → Nat) : ISs := (.cons (.set 1 (.lst (.cons (.tup .nil) .nil))) (.cons (.for (.tup [2, 3]) (.any (.idx (.var 0) (.con (.int 0)))) (cb_every_record_1 ι ξ)) (.cons (.ret (.var 1)) .nil)))
def cb_law_cell (ι ξ : Nat → Nat) : ISs := (.cons (.ite (.cmp .lt (.var 1) (.bf .len (.cons (.var 0) .nil))) (.cons (.ret (.idx (.var 0) (.var 1))) .nil) .nil) (.cons (.ret (.con (.int 0))) .nil))
def cb_law_row_1 (ι ξ : Nat → Nat) : ISs := (.cons (.ite (.cmp .lt (.call (ι 18) (.cons (.var 0) (.cons (.var 1) .nil))) (.bin .pow (.con (.int 10)) (.con (.int 18)))) (.cons (.set 2 (.bin .mod (.bin .add (.bin .add (.bin .add (.bin .mul (.var 2) (.con (.int 48271))) (.bin .mul (.con (.int 131)) (.var 4))) (.con (.int 7))) (.call (ι 18) (.cons (.var 0) (.cons (.bin .mod (.bin .add (.bin .add (.var 1) (.con (.int 1))) (.var 4)) (.con (.int 20))) .nil)))) (.con (.int 2147483647)))) (.cons (.app 3 (.bin .mod (.bin .fdiv (.var 2) (.con (.int 11))) (.con (.int 1000)))) .nil)) (.cons (.app 3 (.bin .mod (.var 2) (.con (.int 1000)))) (.cons (.set 2 (.bin .fdiv (.var 2) (.con (.int 1000)))) .nil))) .nil)
def cb_law_row (ι ξ : Nat → Nat) : ISs := (.cons (.set 2 (.call (ι 18) (.cons (.var 0) (.cons (.var 1) .nil)))) (.cons (.new 3 (.lst .nil)) (.cons (.for (.nm 4) (.rng1 (.con (.int 60))) (cb_law_row_1 ι ξ)) (.frz 3 (.cons (.ret (.var 3)) .nil)))))
def ce_law_values_1 (ι ξ : Nat → Nat) : IE := (.bin .mod (.idx (.var 0) (.bin .mod (.bin .add (.var 1) (.var 3)) (.con (.int 60)))) (.con (.int 10)))
def cb_law_values (ι ξ : Nat → Nat) : ISs := (.cons (.set 2 (.sset (.lc [("spot", 3)] (.nm 3) (.rng1 (.bin .add (.con (.int 1)) (.bin .mod (.idx (.var 0) (.bin .mod (.bin .add (.var 1) (.con (.int 5))) (.con (.int 60)))) (.con (.int 3))))) .no (ce_law_values_1 ι ξ)))) (.cons (.ret (.bf .tuple (.cons (.var 2) .nil))) .nil))
def ct_law_form_1 (ι ξ : Nat → Nat) : IO := (.yes (.cmp .eq (.bin .mod (.idx (.var 0) (.bin .mod (.bin .add (.bin .add (.bin .mul (.con (.int 3)) (.var 4)) (.var 7)) (.var 14)) (.con (.int 60)))) (.con (.int 2))) (.con (.int 0))))
def cb_law_form_2 (ι ξ : Nat → Nat) : ISs := (.cons (.set 12 (.idx (.idx (.var 3) (.var 7)) (.con (.int 0)))) (.cons (.set 13 (.bf .tuple (.cons (.lc [("value", 14)] (.nm 14) (.any (.var 12)) (ct_law_form_1 ι ξ) (.var 14)) .nil))) (.cons (.ite (.bop true (.cons (.cmp .eq (.bin .mod (.idx (.var 0) (.bin .mod (.bin .add (.bin .add (.con (.int 20)) (.bin .mul (.con (.int 5)) (.var 4))) (.var 7)) (.con (.int 60)))) (.con (.int 3))) (.con (.int 0))) (.cons (.cmp .ne (.var 13) (.tup .nil)) (.cons (.cmp .lt (.bf .len (.cons (.var 6) .nil)) (.con (.int 2))) .nil)))) (.cons (.set 6 (.bin .add (.var 6) (.tup (.cons (.tup (.cons (.var 7) (.cons (.var 13) .nil))) .nil)))) .nil) .nil) .nil)))
def cb_law_form_1 (ι ξ : Nat → Nat) : ISs := (.cons (.set 6 (.tup .nil)) (.cons (.for (.nm 7) (.rng1 (.var 4)) (cb_law_form_2 ι ξ)) (.cons (.set 3 (.bin .add (.var 3) (.tup (.cons (.tup (.cons (.call (ι 20) (.cons (.var 1) (.cons (.bin .mul (.con (.int 8)) (.var 4)) .nil))) (.cons (.var 6) .nil))) .nil)))) .nil)))
def ce_law_form_1 (ι ξ : Nat → Nat) : IE := (.bin .mod (.bin .add (.idx (.var 0) (.bin .add (.con (.int 41)) (.var 4))) (.var 10)) (.bf .len (.cons (.var 3) .nil)))
def cb_law_form_4 (ι ξ : Nat → Nat) : ISs := (.cons (.ite (.cmp .nin (.var 10) (.lc [("field", 15), ("value", 14)] (.tup [15, 14]) (.any (.var 9)) .no (.var 15))) (.cons (.set 12 (.idx (.idx (.var 3) (.var 10)) (.con (.int 0)))) (.cons (.app 9 (.tup (.cons (.var 10) (.cons (.idx (.var 12) (.bin .mod (.idx (.var 1) (.bin .mod (.bin .add (.bin .add (.con (.int 40)) (.var 4)) (.var 10)) (.con (.int 60)))) (.bf .len (.cons (.var 12) .nil)))) .nil)))) .nil)) .nil) .nil)
def cb_law_form_3 (ι ξ : Nat → Nat) : ISs := (.cons (.new 8 (.lc [("at", 10)] (.nm 10) (.rng1 (.bin .add (.con (.int 1)) (.bin .mod (.idx (.var 0) (.bin .add (.con (.int 45)) (.var 4))) (.con (.int 3))))) .no (ce_law_form_1 ι ξ))) (.frz 8 (.cons (.new 9 (.lst .nil)) (.cons (.for (.nm 10) (.any (.var 8)) (cb_law_form_4 ι ξ)) (.cons (.set 11 (.idx (.var 2) (.bin .mod (.idx (.var 0) (.bin .add (.con (.int 50)) (.var 4))) (.bf .len (.cons (.var 2) .nil))))) (.cons (.ite (.bop false (.cons (.cmp .ne (.var 11) (.con (.str [110, 101, 101, 100, 115]))) (.cons (.cmp .gt (.bf .len (.cons (.var 9) .nil)) (.con (.int 1))) .nil))) (.cons (.set 5 (.bin .add (.var 5) (.tup (.cons (.tup (.cons (.var 11) (.cons (.bf .tuple (.cons (.var 9) .nil)) .nil))) .nil)))) .nil) .nil) .nil))))))
def cb_law_form (ι ξ : Nat → Nat) : ISs := (.cons (.set 3 (.tup .nil)) (.cons (.for (.nm 4) (.rng1 (.bin .add (.con (.int 1)) (.bin .mod (.idx (.var 0) (.con (.int 0))) (.con (.int 4))))) (cb_law_form_1 ι ξ)) (.cons (.set 5 (.tup .nil)) (.cons (.for (.nm 4) (.rng1 (.ife (.cmp .ne (.var 2) (.tup .nil)) (.bin .mod (.idx (.var 0) (.con (.int 40))) (.con (.int 4))) (.con (.int 0)))) (cb_law_form_3 ι ξ)) (.cons (.ret (.tup (.cons (.var 3) (.cons (.var 5) (.cons (.idx (.lst (.cons (.con (.str [115, 104, 111, 119, 110])) (.cons (.con (.str [97, 108, 108])) .nil))) (.bin .mod (.idx (.var 0) (.con (.int 55))) (.con (.int 2)))) .nil))))) .nil)))))
def ce_law_records_1 (ι ξ : Nat → Nat) : IE := (.bin .add (.var 5) (.tup (.cons (.var 6) .nil)))
def cb_law_records_2 (ι ξ : Nat → Nat) : ISs := (.cons (.set 4 (.bin .add (.var 4) (.lc [("value", 6)] (.nm 6) (.any (.bin .add (.tup (.cons (.con .non) .nil)) (.var 2))) .no (ce_law_records_1 ι ξ)))) .nil)
def cb_law_records_1 (ι ξ : Nat → Nat) : ISs := (.cons (.set 4 (.lst .nil)) (.cons (.for (.nm 5) (.any (.var 1)) (cb_law_records_2 ι ξ)) (.cons (.set 1 (.var 4)) .nil)))
def cb_law_records (ι ξ : Nat → Nat) : ISs := (.cons (.set 1 (.lst (.cons (.tup .nil) .nil))) (.cons (.for (.tup [2, 3]) (.any (.idx (.var 0) (.con (.int 0)))) (cb_law_records_1 ι ξ)) (.cons (.ret (.var 1)) .nil)))
def ce_law_entries_1 (ι ξ : Nat → Nat) : IE := (.tup (.cons (.var 2) (.cons (.var 3) .nil)))
def cb_law_entries_1 (ι ξ : Nat → Nat) : ISs := (.cons (.set 1 (.bin .add (.var 1) (.lc [("value", 3)] (.nm 3) (.any (.bin .add (.tup (.cons (.con .non) .nil)) (.idx (.idx (.idx (.var 0) (.con (.int 0))) (.var 2)) (.con (.int 0))))) .no (ce_law_entries_1 ι ξ)))) .nil)
def cb_law_entries (ι ξ : Nat → Nat) : ISs := (.cons (.set 1 (.lst .nil)) (.cons (.for (.nm 2) (.rng1 (.bf .len (.cons (.idx (.var 0) (.con (.int 0))) .nil))) (cb_law_entries_1 ι ξ)) (.cons (.ret (.var 1)) .nil)))
def cb_shown (ι ξ : Nat → Nat) : ISs := (.cons (.expr (.call (ι 6) (.cons (.var 0) .nil))) (.cons (.expr (.call (ι 8) (.cons (.var 0) (.cons (.var 1) .nil)))) (.cons (.ret (.call (ι 9) (.cons (.var 0) (.cons (.var 1) .nil)))) .nil)))
def cb_broken_rules (ι ξ : Nat → Nat) : ISs := (.cons (.expr (.call (ι 6) (.cons (.var 0) .nil))) (.cons (.expr (.call (ι 8) (.cons (.var 0) (.cons (.var 1) .nil)))) (.cons (.ret (.call (ι 11) (.cons (.var 0) (.cons (.var 1) (.cons (.tup (.cons (.con (.str [101, 110, 116, 114, 121])) (.cons (.con (.str [115, 101, 110, 100])) .nil))) .nil))))) .nil)))
def cb_can_send (ι ξ : Nat → Nat) : ISs := (.cons (.expr (.call (ι 6) (.cons (.var 0) .nil))) (.cons (.expr (.call (ι 8) (.cons (.var 0) (.cons (.var 1) .nil)))) (.cons (.ret (.call (ι 15) (.cons (.var 0) (.cons (.var 1) .nil)))) .nil)))
def ce_sent_1 (ι ξ : Nat → Nat) : IE := (.ife (.bop false (.cons (.cmp .inn (.var 3) (.var 2)) (.cons (.cmp .eq (.idx (.var 0) (.con (.int 2))) (.con (.str [97, 108, 108]))) .nil))) (.var 4) (.con .non))
def cb_sent (ι ξ : Nat → Nat) : ISs := (.cons (.expr (.call (ι 6) (.cons (.var 0) .nil))) (.cons (.expr (.call (ι 8) (.cons (.var 0) (.cons (.var 1) .nil)))) (.cons (.ite (.not (.call (ι 15) (.cons (.var 0) (.cons (.var 1) .nil)))) (.cons (.ret (.con .non)) .nil) .nil) (.cons (.set 2 (.call (ι 9) (.cons (.var 0) (.cons (.var 1) .nil)))) (.cons (.ret (.bf .tuple (.cons (.lc [("number", 3), ("value", 4)] (.tup [3, 4]) (.enm (.var 1)) .no (ce_sent_1 ι ξ)) .nil))) .nil)))))
def ct_clean_records_1 (ι ξ : Nat → Nat) : IO := (.yes (.bop true (.cons (.call (ι 15) (.cons (.var 0) (.cons (.var 1) .nil))) (.cons (.call (ι 16) (.cons (.var 0) (.cons (.var 1) .nil))) .nil))))
def cb_clean_records (ι ξ : Nat → Nat) : ISs := (.cons (.expr (.call (ι 6) (.cons (.var 0) .nil))) (.cons (.ret (.lc [("record", 1)] (.nm 1) (.any (.call (ι 17) (.cons (.var 0) .nil))) (ct_clean_records_1 ι ξ) (.var 1))) .nil))
def ct_law_shown_1 (ι ξ : Nat → Nat) : IO := (.yes (.bop true (.cons (.cmp .inn (.var 5) (.var 2)) (.cons (.cmp .inn (.idx (.var 1) (.var 5)) (.var 6)) .nil))))
def cb_law_shown_1 (ι ξ : Nat → Nat) : ISs := (.cons (.new 4 (.lc [("other", 5), ("some", 6)] (.tup [5, 6]) (.any (.idx (.idx (.idx (.var 0) (.con (.int 0))) (.var 3)) (.con (.int 1)))) (ct_law_shown_1 ι ξ) (.var 5))) (.frz 4 (.cons (.ite (.cmp .eq (.bf .len (.cons (.var 4) .nil)) (.bf .len (.cons (.idx (.idx (.idx (.var 0) (.con (.int 0))) (.var 3)) (.con (.int 1))) .nil))) (.cons (.app 2 (.var 3)) .nil) .nil) .nil)))
def cb_law_shown (ι ξ : Nat → Nat) : ISs := (.cons (.new 2 (.lst .nil)) (.cons (.for (.nm 3) (.rng1 (.bf .len (.cons (.idx (.var 0) (.con (.int 0))) .nil))) (cb_law_shown_1 ι ξ)) (.frz 2 (.cons (.ret (.var 2)) .nil))))
def ct_law_holds_1 (ι ξ : Nat → Nat) : IO := (.yes (.bop true (.cons (.cmp .inn (.var 4) (.var 3)) (.cons (.cmp .eq (.idx (.var 1) (.var 4)) (.var 5)) .nil))))
def cb_law_holds (ι ξ : Nat → Nat) : ISs := (.cons (.set 3 (.call (ι 29) (.cons (.var 0) (.cons (.var 1) .nil)))) (.cons (.ret (.cmp .eq (.bf .len (.cons (.lc [("field", 4), ("value", 5)] (.tup [4, 5]) (.any (.var 2)) (ct_law_holds_1 ι ξ) (.var 4)) .nil)) (.bf .len (.cons (.var 2) .nil)))) .nil))
def ct_law_sends_1 (ι ξ : Nat → Nat) : IO := (.yes (.isn false (.idx (.var 1) (.var 2))))
def ct_law_sends_2 (ι ξ : Nat → Nat) : IO := (.yes (.bop true (.cons (.cmp .ne (.var 3) (.con (.str [110, 101, 101, 100, 115]))) (.cons (.call (ι 30) (.cons (.var 0) (.cons (.var 1) (.cons (.var 4) .nil)))) .nil))))
def cb_law_sends (ι ξ : Nat → Nat) : ISs := (.cons (.ite (.cmp .ne (.lc [("at", 2)] (.nm 2) (.any (.call (ι 29) (.cons (.var 0) (.cons (.var 1) .nil)))) (ct_law_sends_1 ι ξ) (.var 2)) (.lst .nil)) (.cons (.ret (.con (.bl false))) .nil) .nil) (.cons (.ret (.cmp .eq (.lc [("kind", 3), ("pairs", 4)] (.tup [3, 4]) (.any (.idx (.var 0) (.con (.int 1)))) (ct_law_sends_2 ι ξ) (.var 4)) (.lst .nil))) .nil))
def ct_law_clean_1 (ι ξ : Nat → Nat) : IO := (.yes (.bop true (.cons (.isn true (.idx (.var 1) (.var 3))) (.cons (.cmp .nin (.var 3) (.var 2)) .nil))))
def cb_law_clean (ι ξ : Nat → Nat) : ISs := (.cons (.set 2 (.call (ι 29) (.cons (.var 0) (.cons (.var 1) .nil)))) (.cons (.ret (.cmp .eq (.lc [("at", 3)] (.nm 3) (.rng1 (.bf .len (.cons (.var 1) .nil))) (ct_law_clean_1 ι ξ) (.var 3)) (.lst .nil))) .nil))
def cb_law_entry_1 (ι ξ : Nat → Nat) : ISs := (.cons (.ite (.bop true (.cons (.cmp .eq (.var 5) (.con (.str [110, 101, 101, 100, 115]))) (.cons (.cmp .eq (.idx (.var 6) (.con (.int 0))) (.tup (.cons (.var 2) (.cons (.var 3) .nil)))) (.cons (.not (.call (ι 30) (.cons (.var 0) (.cons (.var 1) (.cons (.cut (.var 6) (.yes (.con (.int 1))) .no) .nil))))) .nil)))) (.cons (.ret (.con .non)) .nil) .nil) (.cons (.ite (.bop true (.cons (.cmp .eq (.var 5) (.con (.str [101, 110, 116, 114, 121]))) (.cons (.call (ι 30) (.cons (.var 0) (.cons (.var 4) (.cons (.var 6) .nil)))) .nil))) (.cons (.ret (.con .non)) .nil) .nil) .nil))
def cb_law_entry (ι ξ : Nat → Nat) : ISs := (.cons (.ite (.bop false (.cons (.cmp .nin (.var 2) (.call (ι 29) (.cons (.var 0) (.cons (.var 1) .nil)))) (.cons (.cmp .eq (.idx (.var 1) (.var 2)) (.var 3)) .nil))) (.cons (.ret (.con .non)) .nil) .nil) (.cons (.set 4 (.bin .add (.bin .add (.cut (.var 1) .no (.yes (.var 2))) (.tup (.cons (.var 3) .nil))) (.cut (.var 1) (.yes (.bin .add (.var 2) (.con (.int 1)))) .no))) (.cons (.for (.tup [5, 6]) (.any (.idx (.var 0) (.con (.int 1)))) (cb_law_entry_1 ι ξ)) (.cons (.ret (.var 4)) .nil))))
def cb_blank (ι ξ : Nat → Nat) : ISs := (.cons (.ret (.bin .mul (.tup (.cons (.con .non) .nil)) (.bf .len (.cons (.idx (.var 0) (.con (.int 0))) .nil)))) .nil)
def ce_entries_of_1 (ι ξ : Nat → Nat) : IE := (.tup (.cons (.var 2) (.cons (.var 4) .nil)))
def cb_entries_of_1 (ι ξ : Nat → Nat) : ISs := (.cons (.ext 1 (.lc [("value", 4)] (.nm 4) (.any (.bin .add (.tup (.cons (.con .non) .nil)) (.idx (.var 3) (.con (.int 0))))) .no (ce_entries_of_1 ι ξ))) .nil)
def cb_entries_of (ι ξ : Nat → Nat) : ISs := (.cons (.new 1 (.lst .nil)) (.cons (.for (.tup [2, 3]) (.enm (.idx (.var 0) (.con (.int 0)))) (cb_entries_of_1 ι ξ)) (.frz 1 (.cons (.ret (.var 1)) .nil))))
def cb_filled_2 (ι ξ : Nat → Nat) : ISs := (.cons (.set 6 (.call (ι 12) (.cons (.var 0) (.cons (.idx (.var 2) (.var 3)) (.cons (.var 4) (.cons (.var 5) .nil)))))) (.cons (.ite (.bop true (.cons (.isn true (.var 6)) (.cons (.din true (.var 6) 1) .nil))) (.cons (.dput 1 (.var 6) (.tup (.cons (.idx (.var 2) (.var 3)) (.cons (.tup (.cons (.var 4) (.cons (.var 5) .nil))) .nil)))) (.cons (.app 2 (.var 6)) .nil)) .nil) .nil))
def cb_filled_1 (ι ξ : Nat → Nat) : ISs := (.cons (.for (.tup [4, 5]) (.any (.call (ι 35) (.cons (.var 0) .nil))) (cb_filled_2 ι ξ)) (.cons (.aug 3 (.con (.int 1))) .nil))
def cb_filled (ι ξ : Nat → Nat) : ISs := (.cons (.dnew 1 (.call (ι 34) (.cons (.var 0) .nil)) (.con .non)) (.cons (.new 2 (.lst (.cons (.call (ι 34) (.cons (.var 0) .nil)) .nil))) (.cons (.set 3 (.con (.int 0))) (.cons (.whl 1000000 (.cmp .lt (.var 3) (.bf .len (.cons (.var 2) .nil))) (cb_filled_1 ι ξ)) (.frz 1 (.frz 2 (.cons (.ret (.tup (.cons (.var 2) (.cons (.var 1) .nil)))) .nil)))))))
def cb_law_filled_up_3 (ι ξ : Nat → Nat) : ISs := (.cons (.set 9 (.call (ι 33) (.cons (.var 0) (.cons (.var 6) (.cons (.var 7) (.cons (.var 8) .nil)))))) (.cons (.ite (.bop true (.cons (.isn true (.var 9)) (.cons (.din true (.var 9) 2) .nil))) (.cons (.dput 2 (.var 9) (.bin .add (.dget 2 (.var 6)) (.con (.int 1)))) (.cons (.app 5 (.var 9)) .nil)) .nil) .nil))
def cb_law_filled_up_2 (ι ξ : Nat → Nat) : ISs := (.cons (.for (.tup [7, 8]) (.any (.var 4)) (cb_law_filled_up_3 ι ξ)) .nil)
def cb_law_filled_up_1 (ι ξ : Nat → Nat) : ISs := (.cons (.new 5 (.lst .nil)) (.cons (.for (.nm 6) (.any (.var 3)) (cb_law_filled_up_2 ι ξ)) (.frz 5 (.cons (.set 3 (.var 5)) .nil))))
def cb_law_filled_up (ι ξ : Nat → Nat) : ISs := (.cons (.set 1 (.bin .mul (.tup (.cons (.con .non) .nil)) (.bf .len (.cons (.idx (.var 0) (.con (.int 0))) .nil)))) (.cons (.par3 2 3 4 (.var 1) (.con (.int 0)) (.lst (.cons (.var 1) .nil)) (.call (ι 23) (.cons (.var 0) .nil))) (.cons (.whl 1000000 (.cmp .ne (.var 3) (.lst .nil)) (cb_law_filled_up_1 ι ξ)) (.frz 2 (.cons (.ret (.var 2)) .nil)))))
def ct_unenterable_1 (ι ξ : Nat → Nat) : IO := (.yes (.din true (.var 2) 1))
def cb_unenterable (ι ξ : Nat → Nat) : ISs := (.cons (.expr (.call (ι 6) (.cons (.var 0) .nil))) (.cons (.set 1 (.idx (.call (ι 36) (.cons (.var 0) .nil)) (.con (.int 1)))) (.cons (.ret (.lc [("record", 2)] (.nm 2) (.any (.call (ι 28) (.cons (.var 0) .nil))) (ct_unenterable_1 ι ξ) (.var 2))) .nil)))
def cb_law_snare (ι ξ : Nat → Nat) : ISs := (.cons (.trp 6 7 8 (.bin .mod (.idx (.var 1) (.con (.int 0))) (.con (.int 4))) (.bin .add (.con (.int 4)) (.bin .mod (.idx (.var 1) (.con (.int 1))) (.con (.int 3)))) (.bin .add (.con (.int 7)) (.bin .mod (.idx (.var 1) (.con (.int 2))) (.con (.int 3))))) (.cons (.set 2 (.ife (.cmp .eq (.bin .mod (.idx (.var 0) (.con (.int 0))) (.con (.int 3))) (.con (.int 0))) (.tup (.cons (.var 6) .nil)) (.tup (.cons (.var 6) (.cons (.con (.int 9)) .nil))))) (.cons (.set 3 (.ife (.cmp .eq (.bin .mod (.idx (.var 0) (.con (.int 1))) (.con (.int 3))) (.con (.int 0))) (.tup (.cons (.var 7) .nil)) (.tup (.cons (.var 7) (.cons (.con (.int 8)) .nil))))) (.cons (.set 4 (.tup (.cons (.tup (.cons (.var 2) (.cons (.tup .nil) .nil))) (.cons (.tup (.cons (.var 3) (.cons (.tup (.cons (.tup (.cons (.con (.int 0)) (.cons (.tup (.cons (.var 6) .nil)) .nil))) .nil)) .nil))) (.cons (.tup (.cons (.tup (.cons (.var 8) .nil)) (.cons (.tup .nil) .nil))) .nil))))) (.cons (.set 5 (.tup (.cons (.tup (.cons (.con (.str [110, 101, 101, 100, 115])) (.cons (.tup (.cons (.tup (.cons (.con (.int 0)) (.cons (.var 6) .nil))) (.cons (.tup (.cons (.con (.int 2)) (.cons (.var 8) .nil))) .nil))) .nil))) (.cons (.tup (.cons (.con (.str [101, 110, 116, 114, 121])) (.cons (.tup (.cons (.tup (.cons (.con (.int 0)) (.cons (.var 6) .nil))) (.cons (.tup (.cons (.con (.int 2)) (.cons (.var 8) .nil))) (.cons (.tup (.cons (.con (.int 1)) (.cons (.var 7) .nil))) .nil)))) .nil))) .nil)))) (.cons (.ite (.cmp .eq (.bin .mod (.idx (.var 0) (.con (.int 2))) (.con (.int 3))) (.con (.int 0))) (.cons (.set 5 (.bin .add (.var 5) (.tup (.cons (.tup (.cons (.con (.str [115, 101, 110, 100])) (.cons (.ife (.cmp .gt (.bin .mod (.idx (.var 0) (.con (.int 0))) (.con (.int 3))) (.con (.int 0))) (.tup (.cons (.tup (.cons (.con (.int 0)) (.cons (.con (.int 9)) .nil))) (.cons (.tup (.cons (.con (.int 2)) (.cons (.var 8) .nil))) .nil))) (.tup (.cons (.tup (.cons (.con (.int 2)) (.cons (.var 8) .nil))) .nil))) .nil))) .nil)))) .nil) .nil) (.cons (.ite (.cmp .eq (.bin .mod (.idx (.var 0) (.con (.int 3))) (.con (.int 4))) (.con (.int 0))) (.cons (.set 5 (.cut (.var 5) (.yes (.con (.int 1))) .no)) .nil) .nil) (.cons (.ret (.tup (.cons (.var 4) (.cons (.var 5) (.cons (.idx (.lst (.cons (.con (.str [115, 104, 111, 119, 110])) (.cons (.con (.str [97, 108, 108])) .nil))) (.bin .mod (.idx (.var 0) (.con (.int 4))) (.con (.int 2)))) .nil))))) .nil))))))))
def cb_way_of_1 (ι ξ : Nat → Nat) : ISs := (.cons (.tset [1, 3] (.dget 0 (.var 1))) (.cons (.app 2 (.var 3)) .nil))
def cb_way_of (ι ξ : Nat → Nat) : ISs := (.cons (.new 2 (.lst .nil)) (.cons (.whl 1000000 (.isn true (.dget 0 (.var 1))) (cb_way_of_1 ι ξ)) (.cons (.ret (.bf .tuple (.cons (.stp (.var 2) .no .no (.yes (.neg (.con (.int 1))))) .nil))) .nil)))
def cb_count_reached (ι ξ : Nat → Nat) : ISs := (.cons (.expr (.call (ι 6) (.cons (.var 0) .nil))) (.cons (.ret (.bf .len (.cons (.idx (.call (ι 36) (.cons (.var 0) .nil)) (.con (.int 0))) .nil))) .nil))
def cb_entries_for (ι ξ : Nat → Nat) : ISs := (.cons (.expr (.call (ι 6) (.cons (.var 0) .nil))) (.cons (.expr (.call (ι 8) (.cons (.var 0) (.cons (.var 1) .nil)))) (.cons (.tset [2, 3] (.call (ι 36) (.cons (.var 0) .nil))) (.cons (.ite (.din true (.var 1) 3) (.cons (.raise (ξ 3)) .nil) .nil) (.cons (.ret (.call (ι 40) (.cons (.var 3) (.cons (.var 1) .nil)))) .nil)))))
def cb_stale_entries_1 (ι ξ : Nat → Nat) : ISs := (.cons (.ite (.bop true (.cons (.call (ι 15) (.cons (.var 0) (.cons (.var 1) .nil))) (.cons (.not (.call (ι 16) (.cons (.var 0) (.cons (.var 1) .nil)))) .nil))) (.cons (.ret (.call (ι 40) (.cons (.var 3) (.cons (.var 1) .nil)))) .nil) .nil) .nil)
def cb_stale_entries (ι ξ : Nat → Nat) : ISs := (.cons (.expr (.call (ι 6) (.cons (.var 0) .nil))) (.cons (.tset [2, 3] (.call (ι 36) (.cons (.var 0) .nil))) (.cons (.for (.nm 1) (.any (.var 2)) (cb_stale_entries_1 ι ξ)) (.cons (.raise (ξ 4)) .nil))))
def cb_check_clean (ι ξ : Nat → Nat) : ISs := (.cons (.expr (.call (ι 8) (.cons (.var 0) (.cons (.var 1) .nil)))) (.cons (.ite (.bop false (.cons (.not (.call (ι 15) (.cons (.var 0) (.cons (.var 1) .nil)))) (.cons (.not (.call (ι 16) (.cons (.var 0) (.cons (.var 1) .nil)))) .nil))) (.cons (.raise (ξ 3)) .nil) .nil) .nil))
def ct_orders_of_1 (ι ξ : Nat → Nat) : IO := (.yes (.isn false (.idx (.var 2) (.var 5))))
def cb_orders_of_1 (ι ξ : Nat → Nat) : ISs := (.cons (.set 6 (.call (ι 12) (.cons (.var 0) (.cons (.var 2) (.cons (.var 5) (.cons (.idx (.var 1) (.var 5)) .nil)))))) (.cons (.ite (.isn true (.var 6)) (.cons (.aug 4 (.call (ι 45) (.cons (.var 0) (.cons (.var 1) (.cons (.var 6) .nil))))) .nil) .nil) .nil))
def cb_orders_of (ι ξ : Nat → Nat) : ISs := (.cons (.new 3 (.lc [("number", 5)] (.nm 5) (.any (.call (ι 9) (.cons (.var 0) (.cons (.var 1) .nil)))) (ct_orders_of_1 ι ξ) (.var 5))) (.frz 3 (.cons (.ite (.not (.var 3)) (.cons (.ret (.con (.int 1))) .nil) .nil) (.cons (.set 4 (.con (.int 0))) (.cons (.for (.nm 5) (.any (.var 3)) (cb_orders_of_1 ι ξ)) (.cons (.ret (.var 4)) .nil))))))
def cb_count_orders (ι ξ : Nat → Nat) : ISs := (.cons (.expr (.call (ι 6) (.cons (.var 0) .nil))) (.cons (.expr (.call (ι 44) (.cons (.var 0) (.cons (.var 1) .nil)))) (.cons (.ret (.call (ι 45) (.cons (.var 0) (.cons (.var 1) (.cons (.call (ι 34) (.cons (.var 0) .nil)) .nil))))) .nil)))
def cb_in_order_1 (ι ξ : Nat → Nat) : ISs := (.cons (.set 2 (.call (ι 12) (.cons (.var 0) (.cons (.var 2) (.cons (.var 3) (.cons (.idx (.var 1) (.var 3)) .nil)))))) (.cons (.ite (.isn false (.var 2)) (.cons (.ret (.con (.bl false))) .nil) .nil) .nil))
def cb_in_order (ι ξ : Nat → Nat) : ISs := (.cons (.expr (.call (ι 6) (.cons (.var 0) .nil))) (.cons (.expr (.call (ι 44) (.cons (.var 0) (.cons (.var 1) .nil)))) (.cons (.set 2 (.call (ι 34) (.cons (.var 0) .nil))) (.cons (.for (.nm 3) (.any (.call (ι 9) (.cons (.var 0) (.cons (.var 1) .nil)))) (cb_in_order_1 ι ξ)) (.cons (.ret (.con (.bl true))) .nil)))))
def ct_law_orders_1 (ι ξ : Nat → Nat) : IO := (.yes (.cmp .ne (.var 7) (.var 5)))
def cb_law_orders_1 (ι ξ : Nat → Nat) : ISs := (.cons (.set 6 (.call (ι 33) (.cons (.var 0) (.cons (.var 2) (.cons (.var 5) (.cons (.idx (.var 1) (.var 5)) .nil)))))) (.cons (.ite (.isn true (.var 6)) (.cons (.set 4 (.bin .add (.var 4) (.call (ι 48) (.cons (.var 0) (.cons (.var 1) (.cons (.var 6) (.cons (.bf .tuple (.cons (.lc [("one", 7)] (.nm 7) (.any (.var 3)) (ct_law_orders_1 ι ξ) (.var 7)) .nil)) .nil))))))) .nil) .nil) .nil))
def cb_law_orders (ι ξ : Nat → Nat) : ISs := (.cons (.ite (.cmp .eq (.var 3) (.tup .nil)) (.cons (.ret (.con (.int 1))) .nil) .nil) (.cons (.set 4 (.con (.int 0))) (.cons (.for (.nm 5) (.any (.var 3)) (cb_law_orders_1 ι ξ)) (.cons (.ret (.var 4)) .nil))))
end PD
namespace PD
open PySem L2
def inRg (d : D) (lo hi : Int) : Bool := match d with
  | .int i => decide (lo ≤ i) && decide (i ≤ hi)
  | _ => false
structure Fld where
  vs : List Int
  cs : List (Nat × List Int)
def iD (vs : List Int) : D := .tup (vs.map .int)
def cD (c : Nat × List Int) : D := .tup [.int c.1, iD c.2]
def Fld.d (f : Fld) : D := .tup [iD f.vs, .tup (f.cs.map cD)]
structure Rul where
  kd : Nat
  ps : List (Nat × Int)
def kdS : Nat → List Nat
  | 0 => [101, 110, 116, 114, 121]
  | 1 => [110, 101, 101, 100, 115]
  | _ => [115, 101, 110, 100]
def prD (p : Nat × Int) : D := .tup [.int p.1, .int p.2]
def Rul.d (r : Rul) : D := .tup [.str (kdS r.kd), .tup (r.ps.map prD)]
structure Frm where
  fs : List Fld
  rs : List Rul
  al : Bool
def sendS (b : Bool) : List Nat := if b then [97, 108, 108] else [115, 104, 111, 119, 110]
def Frm.d (F : Frm) : D := .tup [.tup (F.fs.map Fld.d), .tup (F.rs.map Rul.d), .str (sendS F.al)]
def ValsOk (vs : List Int) : Prop := vs ≠ [] ∧ vs.length ≤ 4 ∧ vs.Pairwise (· < ·) ∧ ∀ v ∈ vs, 0 ≤ v ∧ v ≤ 9
def FldOk (pre : List Fld) (f : Fld) : Prop := ValsOk f.vs ∧ f.cs.length ≤ 2 ∧ (f.cs.map (·.1)).Pairwise (· < ·) ∧ ∀ c ∈ f.cs, ∃ g, pre[c.1]? = some g ∧ ValsOk c.2 ∧ ∀ v ∈ c.2, v ∈ g.vs
def RulOk (fs : List Fld) (r : Rul) : Prop := r.kd < 3 ∧ 1 ≤ r.ps.length ∧ r.ps.length ≤ 3 ∧ (r.kd = 1 → 2 ≤ r.ps.length) ∧ (r.ps.map (·.1)).Nodup ∧ ∀ p ∈ r.ps, ∃ g, fs[p.1]? = some g ∧ p.2 ∈ g.vs
structure FrmOk (F : Frm) : Prop where
  ne : F.fs ≠ []
  le : F.fs.length ≤ 4
  fld : ∀ (i : Nat) (f : Fld), F.fs[i]? = some f → FldOk (F.fs.take i) f
  rle : F.rs.length ≤ 4
  rul : ∀ r ∈ F.rs, RulOk F.fs r
theorem cutL_from1 {α : Type} (l : List α) : cutL l (some 1) none = l.drop 1 := by
  unfold cutL
  have e1 : HT.sIx l.length 0 (some 1) = min 1 l.length := HT.sIx_nat l.length 0 1
  have e2 : HT.sIx l.length l.length none = l.length := rfl
  rw [e1, e2]
  cases l with
  | nil => rfl
  | cons a l => simp
theorem zipL_ints (a b : List Int) : zipL (a.map .int) (b.map .int) = (List.zip a b).map fun p => .tup [.int p.1, .int p.2] := by
  unfold zipL
  rw [List.zipWith_map, List.zip, List.map_zipWith]
theorem asc_zip {l : List Int} (h : l.Pairwise (· < ·)) : ∀ p ∈ List.zip l (l.drop 1), p.1 < p.2 := by
  induction l with
  | nil => simp
  | cons a l ih =>
    obtain ⟨h1, h2⟩ := List.pairwise_cons.mp h
    intro p hp
    cases l with
    | nil => simp at hp
    | cons b l =>
      simp only [List.drop_succ_cons, List.drop_zero, List.zip_cons_cons, List.mem_cons] at hp
      rcases hp with rfl | hp
      · exact h1 b List.mem_cons_self
      · exact ih h2 p (by simpa using hp)
theorem inD_tints (n : Int) (l : List Int) : inD (.int n) (.tup (l.map .int)) = some (decide (n ∈ l)) := by
  rw [inD, if_pos (by simp [inOk, noScr, noScrs_ints, dep]), anyD_ints]
  all_goals (intros; simp_all)
theorem nin_tints (n : Int) (l : List Int) : cmpD .nin (.int n) (.tup (l.map .int)) = some (!decide (n ∈ l)) := by
  show (inD _ _).map _ = _
  rw [inD_tints]; rfl
theorem anyD_non (l : List Int) : anyD .non (l.map .int) = false := by
  induction l with
  | nil => rfl
  | cons a l ih => rw [List.map_cons, anyD, ih]; rfl
theorem nin_non (l : List Int) : cmpD .nin .non (.tup (l.map .int)) = some true := by
  show (inD _ _).map _ = _
  rw [inD, if_pos (by simp [inOk, noScr, noScrs_ints, dep, deps_ints]), anyD_non]
  · rfl
  all_goals (intros; simp_all)
section
variable (Γ : Gam) (ι ξ : Nat → Nat)
theorem in_range_c (d : D) (lo hi : Int) : evF Γ 3 3 (cb_in_range ι ξ) [d, .int lo, .int hi] = .ok (.bl (inRg d lo hi)) := by
  cases d <;> simp? only [evF, cb_in_range, isiD, inRg]
  rename_i i
  by_cases h : lo ≤ i <;> simp [h]
def InRangeS (Γ : Gam) (j : Nat) : Prop := ∀ (d : D) (lo hi : Int), Γ.fn j [d, .int lo, .int hi] = .ok (.bl (inRg d lo hi))
variable {Γ ι ξ}
theorem are_values_c (h0 : InRangeS Γ (ι 0)) (vs : List Int) (hv : ValsOk vs) : evF Γ 2 4 (cb_are_values ι ξ) [iD vs, .int 4] = .ok (.bl true) := by
  obtain ⟨h1, h2, h3, h4⟩ := hv
  have hl : (1 : Int) ≤ (vs.length : Int) := by
    have : vs.length ≠ 0 := fun e => h1 (List.eq_nil_of_length_eq_zero e)
    omega
  have hl4 : (vs.length : Int) ≤ 4 := by omega
  have lc1 := lcD_map (t := .nm 2) (tst := (evo Γ false (ct_are_values_1 ι ξ)).T) (elt := (ev Γ false (.var 2)).E) (δ := [.dat (iD vs), .dat (.int 4), .none, .none]) D.int (fun _ => false) (fun v => .int v) (xs := vs) (fun v hv =>
    ⟨[.dat (iD vs), .dat (.int 4), .dat (.int v), .none], by simp? only [], by
      have := h4 v hv
      simp? only [ct_are_values_1, h0 _ _ _, inRg, this.1, this.2, Bool.and_true], fun z => by cases z⟩)
  have lc2 := lcD_map (t := .tup [2, 3]) (tst := (evo Γ false (ct_are_values_2 ι ξ)).T) (elt := (ev Γ false (ce_are_values_1 ι ξ)).E) (δ := [.dat (iD vs), .dat (.int 4), .none, .none]) (fun p : Int × Int => .tup [.int p.1, .int p.2]) (fun _ => false) (fun _ => .int 1) (xs := List.zip vs (vs.drop 1)) (fun p hp =>
    ⟨[.dat (iD vs), .dat (.int 4), .dat (.int p.1), .dat (.int p.2)], by simp? only [], by
      have := asc_zip h3 p hp
      simp? only [ct_are_values_2, show ¬ p.2 ≤ p.1 by omega], fun z => by cases z⟩)
  have n1 : (vs.filter fun _ => false).map (fun v => D.int v) = [] := by simp
  have n2 : ((List.zip vs (vs.drop 1)).filter fun _ => false).map (fun _ => D.int 1) = [] := by simp
  rw [n1] at lc1
  rw [n2] at lc2
  have hz : zipD (iD vs) (.tup (cutL (vs.map .int) (some 1) none)) = .ok ((List.zip vs (vs.drop 1)).map fun p => .tup [.int p.1, .int p.2]) := by
    rw [cutL_from1, ← List.map_drop]
    show R.ok (zipL _ _) = _
    rw [zipL_ints]
  have hi : itemsD (iD vs) = .ok (vs.map .int) := rfl
  have hlen : bfD .len [iD vs] = some (.int vs.length) := by simp [iD]
  have hcut : cutD (iD vs) (some 1) none = some (.tup (cutL (vs.map .int) (some 1) none)) := rfl
  have hty : isiD .tuple (iD vs) = true := rfl
  simp? only [evF, cb_are_values, hty, hlen, hl, hl4, hi, lc1, List.isEmpty_nil, hcut, hz, lc2]
end
end PD
namespace PD
open PySem L2
theorem at0 {α : Type} (x : α) (l : List α) : atI (x :: l) 0 = some x := atI_some (l := x :: l) (k := 0) (by simp)
theorem at1 {α : Type} (x y : α) (l : List α) : atI (x :: y :: l) 1 = some y := atI_some (l := x :: y :: l) (k := 1) (by simp)
theorem at2 {α : Type} (x y z : α) (l : List α) : atI (x :: y :: z :: l) 2 = some z := atI_some (l := x :: y :: z :: l) (k := 2) (by simp)
theorem at_map {α β : Type} (g : α → β) {l : List α} {k : Nat} {x : α} (h : l[k]? = some x) : atI (l.map g) (k : Int) = some (g x) := by
  have hk : k < l.length := by
    rcases Nat.lt_or_ge k l.length with z | z
    · exact z
    · rw [List.getElem?_eq_none z] at h; cases h
  rw [atI_some (by simpa using hk), List.getElem_map]
  rw [List.getElem?_eq_getElem hk] at h
  cases h; rfl
theorem lt_of_get {α : Type} {l : List α} {k : Nat} {x : α} (h : l[k]? = some x) : k < l.length := by
  rcases Nat.lt_or_ge k l.length with z | z
  · exact z
  · rw [List.getElem?_eq_none z] at h; cases h
theorem forD_all {α : Type} {t : Tg} {body : List S → O} (g : α → D) (J : List S → Prop) : ∀ (xs : List α) (δ : List S), J δ →
    (∀ x ∈ xs, ∀ δ, J δ → ∃ δ', setT t (g x) δ = some δ' ∧ ∃ δ'', (body δ' = .next δ'' ∨ body δ' = .cont δ'') ∧ J δ'') → ∃ δ', forD t body (xs.map g) δ = .next δ' ∧ J δ'
  | [], δ, h, _ => ⟨δ, rfl, h⟩
  | x :: xs, δ, h, st => by
    obtain ⟨δ', e1, δ'', e2, h2⟩ := st x List.mem_cons_self δ h
    obtain ⟨δ3, e3, h3⟩ := forD_all g J xs δ'' h2 fun y hy => st y (List.mem_cons_of_mem _ hy)
    refine ⟨δ3, ?_, h3⟩
    simp only [List.map_cons, forD, e1]
    rcases e2 with e2 | e2 <;> simp only [e2, e3]
theorem forD_keep {α : Type} {t : Tg} {body : List S → O} (g : α → D) (J : List S → Prop) (xs : List α) (δ : List S) (h : J δ)
    (st : ∀ x ∈ xs, ∀ δ, J δ → ∃ δ', setT t (g x) δ = some δ' ∧ J δ' ∧ body δ' = .next δ') : ∃ δ', forD t body (xs.map g) δ = .next δ' ∧ J δ' :=
  forD_all g J xs δ h fun x hx δ hJ => let ⟨δ', e1, e2, e3⟩ := st x hx δ hJ; ⟨δ', e1, δ', .inl e3, e2⟩
section
variable (c : Nat × List Int) (f : Fld) (r : Rul) (p : Nat × Int) (F : Frm) (vs : List Int)
theorem ty_iD : isiD .tuple (iD vs) = true := rfl
theorem ty_cD : isiD .tuple (cD c) = true := rfl
theorem len_cD : bfD .len [cD c] = some (.int 2) := rfl
theorem cD_0 : idxD (cD c) (.int 0) = some (.int c.1) := at0 _ _
theorem cD_1 : idxD (cD c) (.int 1) = some (iD c.2) := at1 _ _ _
theorem ty_fD : isiD .tuple f.d = true := rfl
theorem len_fD : bfD .len [f.d] = some (.int 2) := rfl
theorem fD_0 : idxD f.d (.int 0) = some (iD f.vs) := at0 _ _
theorem fD_1 : idxD f.d (.int 1) = some (.tup (f.cs.map cD)) := at1 _ _ _
theorem ty_rD : isiD .tuple r.d = true := rfl
theorem len_rD : bfD .len [r.d] = some (.int 2) := rfl
theorem rD_0 : idxD r.d (.int 0) = some (.str (kdS r.kd)) := at0 _ _
theorem rD_1 : idxD r.d (.int 1) = some (.tup (r.ps.map prD)) := at1 _ _ _
theorem ty_pD : isiD .tuple (prD p) = true := rfl
theorem len_pD : bfD .len [prD p] = some (.int 2) := rfl
theorem pD_0 : idxD (prD p) (.int 0) = some (.int p.1) := at0 _ _
theorem pD_1 : idxD (prD p) (.int 1) = some (.int p.2) := at1 _ _ _
theorem ty_FD : isiD .tuple F.d = true := rfl
theorem len_FD : bfD .len [F.d] = some (.int 3) := rfl
theorem FD_0 : idxD F.d (.int 0) = some (.tup (F.fs.map Fld.d)) := at0 _ _
theorem FD_1 : idxD F.d (.int 1) = some (.tup (F.rs.map Rul.d)) := at1 _ _ _
theorem FD_2 : idxD F.d (.int 2) = some (.str (sendS F.al)) := at2 _ _ _ _
theorem it_iD : itemsD (iD vs) = .ok (vs.map .int) := rfl
theorem nin_iD (n : Int) : cmpD .nin (.int n) (iD vs) = some (!decide (n ∈ vs)) := nin_tints n vs
theorem ty_tup (ds : List D) : isiD .tuple (.tup ds) = true := rfl
theorem ty_str (l : List Nat) : isiD .str (.str l) = true := rfl
end
section
variable {Γ : Gam} {ι ξ : Nat → Nat}
def AreValuesS (Γ : Gam) (j : Nat) : Prop := ∀ vs, ValsOk vs → Γ.fn j [iD vs, .int 4] = .ok (.bl true)
theorem zipL_cs (a b : List (Nat × List Int)) : zipL (a.map cD) (b.map cD) = (List.zip a b).map fun p => .tup [cD p.1, cD p.2] := by
  unfold zipL
  rw [List.zipWith_map, List.zip, List.map_zipWith]
theorem asc_zip_cs {l : List (Nat × List Int)} (h : (l.map (·.1)).Pairwise (· < ·)) : ∀ p ∈ List.zip l (l.drop 1), p.1.1 < p.2.1 := by
  induction l with
  | nil => simp
  | cons a l ih =>
    obtain ⟨h1, h2⟩ := List.pairwise_cons.mp h
    intro p hp
    cases l with
    | nil => simp at hp
    | cons b l =>
      simp only [List.drop_succ_cons, List.drop_zero, List.zip_cons_cons, List.mem_cons] at hp
      rcases hp with rfl | hp
      · exact h1 b.1 (by simp)
      · exact ih h2 p (by simpa using hp)
theorem are_conditions_c (h0 : InRangeS Γ (ι 0)) (h1 : AreValuesS Γ (ι 1)) (pre : List Fld) (f : Fld) (hf : FldOk pre f) : evF Γ 2 4 (cb_are_conditions ι ξ) [.tup (f.cs.map cD), .tup (pre.map Fld.d)] = .ok (.bl true) := by
  obtain ⟨_, k1, k2, k3⟩ := hf
  have hl : ¬ (2 : Int) < ((f.cs.map cD).length : Int) := by rw [List.length_map]; omega
  obtain ⟨δ', ef, s, rfl⟩ := forD_keep (t := .nm 2) (body := exs Γ false (cb_are_conditions_1 ι ξ)) cD (fun δ => ∃ s, δ = [.dat (.tup (f.cs.map cD)), .dat (.tup (pre.map Fld.d)), s, .none]) f.cs [.dat (.tup (f.cs.map cD)), .dat (.tup (pre.map Fld.d)), .none, .none] ⟨.none, rfl⟩ (fun c hc δ hJ => by
    obtain ⟨s, rfl⟩ := hJ
    refine ⟨[.dat (.tup (f.cs.map cD)), .dat (.tup (pre.map Fld.d)), .dat (cD c), .none], by simp? only [], ⟨_, rfl⟩, ?_⟩
    obtain ⟨g, hg, hv, hs⟩ := k3 c hc
    have hlt := lt_of_get hg
    have hr : inRg (.int c.1) 0 (((pre.map Fld.d).length : Int) - 1) = true := by
      rw [List.length_map]; simp [inRg]; omega
    have lc := lcD_map (t := .nm 0) (tst := (evo Γ false (ct_are_conditions_1 ι ξ)).T) (elt := (ev Γ false (.var 0)).E) (δ := [.none, .dat (.tup (pre.map Fld.d)), .dat (cD c), .none]) D.int (fun _ => false) (fun v => .int v) (xs := c.2) (fun v hv' =>
      ⟨[.dat (.int v), .dat (.tup (pre.map Fld.d)), .dat (cD c), .none], by simp? only [], by
        simp? only [ct_are_conditions_1, cD_0, at_map Fld.d hg, fD_0, nin_iD, hs v hv'], fun z => by cases z⟩)
    have n1 : (c.2.filter fun _ => false).map (fun v => D.int v) = [] := by simp
    rw [n1] at lc
    simp? only [cb_are_conditions_1, ty_cD, len_cD, cD_0, cD_1, h0 _ _ _, hr, h1 _ hv, it_iD, lc, List.isEmpty_nil])
  have lc2 := lcD_map (t := .tup [2, 3]) (tst := (evo Γ false (ct_are_conditions_2 ι ξ)).T) (elt := (ev Γ false (ce_are_conditions_1 ι ξ)).E) (δ := [.dat (.tup (f.cs.map cD)), .dat (.tup (pre.map Fld.d)), .none, .none]) (fun p : (Nat × List Int) × (Nat × List Int) => .tup [cD p.1, cD p.2]) (fun _ => false) (fun _ => .int 1) (xs := List.zip f.cs (f.cs.drop 1)) (fun p hp =>
    ⟨[.dat (.tup (f.cs.map cD)), .dat (.tup (pre.map Fld.d)), .dat (cD p.1), .dat (cD p.2)], by simp? only [], by
      have := asc_zip_cs k2 p hp
      simp? only [ct_are_conditions_2, cD_0, show ¬ (p.2.1 : Int) ≤ (p.1.1 : Int) by omega], fun z => by cases z⟩)
  have n2 : ((List.zip f.cs (f.cs.drop 1)).filter fun _ => false).map (fun _ => D.int 1) = [] := by simp
  rw [n2] at lc2
  have hz : zipD (.tup (f.cs.map cD)) (.tup (cutL (f.cs.map cD) (some 1) none)) = .ok ((List.zip f.cs (f.cs.drop 1)).map fun p => .tup [cD p.1, cD p.2]) := by
    rw [cutL_from1, ← List.map_drop]
    show R.ok (zipL _ _) = _
    rw [zipL_cs]
  have hcut : cutD (.tup (f.cs.map cD)) (some 1) none = some (.tup (cutL (f.cs.map cD) (some 1) none)) := rfl
  simp? only [evF, cb_are_conditions, ty_tup, hl, ef, hcut, hz, lc2, List.isEmpty_nil]
def AreCondS (Γ : Gam) (j : Nat) : Prop := ∀ pre f, FldOk pre f → Γ.fn j [.tup (f.cs.map cD), .tup (pre.map Fld.d)] = .ok (.bl true)
theorem enumL_map {α : Type} (g : α → D) (l : List α) : enumL (l.map g) = (l.mapIdx fun i x => (i, x)).map fun q : Nat × α => .tup [.int q.1, g q.2] := by
  apply List.ext_getElem?
  intro i
  simp only [enumL, List.getElem?_mapIdx, List.getElem?_map]
  cases l[i]? <;> rfl
theorem mem_idx {α : Type} {l : List α} {q : Nat × α} (h : q ∈ l.mapIdx fun i x => (i, x)) : l[q.1]? = some q.2 := by
  obtain ⟨i, hi⟩ := List.getElem?_of_mem h
  rw [List.getElem?_mapIdx] at hi
  obtain ⟨x, hx, rfl⟩ := Option.map_eq_some_iff.mp hi
  exact hx
theorem are_fields_c (h1 : AreValuesS Γ (ι 1)) (h2 : AreCondS Γ (ι 2)) (F : Frm) (hF : FrmOk F) : evF Γ 1 3 (cb_are_fields ι ξ) [.tup (F.fs.map Fld.d)] = .ok (.bl true) := by
  have hl : (1 : Int) ≤ ((F.fs.map Fld.d).length : Int) := by
    have : F.fs.length ≠ 0 := fun e => hF.ne (List.eq_nil_of_length_eq_zero e)
    rw [List.length_map]; omega
  have hl4 : ((F.fs.map Fld.d).length : Int) ≤ 4 := by rw [List.length_map]; have := hF.le; omega
  obtain ⟨δ', ef, s, t, rfl⟩ := forD_keep (t := .tup [1, 2]) (body := exs Γ false (cb_are_fields_1 ι ξ)) (fun q : Nat × Fld => .tup [.int q.1, q.2.d]) (fun δ => ∃ s t, δ = [.dat (.tup (F.fs.map Fld.d)), s, t]) (F.fs.mapIdx fun i x => (i, x)) [.dat (.tup (F.fs.map Fld.d)), .none, .none] ⟨.none, .none, rfl⟩ (fun q hq δ hJ => by
    obtain ⟨s, t, rfl⟩ := hJ
    refine ⟨[.dat (.tup (F.fs.map Fld.d)), .dat (.int q.1), .dat q.2.d], by simp? only [], ⟨_, _, rfl⟩, ?_⟩
    have hg := mem_idx hq
    have ok := hF.fld q.1 q.2 hg
    have hlt := lt_of_get hg
    have hcut : cutD (.tup (F.fs.map Fld.d)) none (some (q.1 : Int)) = some (.tup ((F.fs.take q.1).map Fld.d)) := by
      show some (D.tup (cutL _ _ _)) = _
      rw [cutL_hi _ _ (by rw [List.length_map]; omega), List.map_take]
    simp? only [cb_are_fields_1, ty_fD, len_fD, fD_0, fD_1, h1 _ ok.1, hcut, h2 _ _ ok])
  have hen : enumD (.tup (F.fs.map Fld.d)) = .ok ((F.fs.mapIdx fun i x => (i, x)).map fun q : Nat × Fld => .tup [.int q.1, q.2.d]) := by
    show R.ok (enumL _) = _
    rw [enumL_map]
  simp? only [evF, cb_are_fields, ty_tup, hl, hl4, hen, ef]
end
end PD
namespace PD
open PySem L2
theorem dedI_go : ∀ (ns acc : List Int), (∀ n ∈ ns, n ∉ acc) → ns.Nodup → ns.foldl PyProof.Rows.step_dedup acc = acc ++ ns
  | [], acc, _, _ => by simp
  | n :: ns, acc, h, nd => by
    obtain ⟨d1, d2⟩ := List.nodup_cons.mp nd
    have e : PyProof.Rows.step_dedup acc n = acc ++ [n] := by
      have hn := h n List.mem_cons_self
      simp [PyProof.Rows.step_dedup, hn]
    rw [List.foldl_cons, e, dedI_go ns (acc ++ [n]) (fun m hm => ?_) d2, List.append_assoc]
    · rfl
    · rw [List.mem_append]
      rintro (z | z)
      · exact h m (List.mem_cons_of_mem _ hm) z
      · rw [List.mem_singleton] at z; subst z; exact d1 hm
theorem dedI_nodup {ns : List Int} (h : ns.Nodup) : dedI ns = ns := by
  unfold dedI
  rw [dedI_go ns [] (by simp) h]; rfl
abbrev kNeeds : List Nat := [110, 101, 101, 100, 115]
abbrev kinds3 : List D := [.str [101, 110, 116, 114, 121], .str [110, 101, 101, 100, 115], .str [115, 101, 110, 100]]
theorem kd_in {k : Nat} (h : k < 3) : cmpD .nin (.str (kdS k)) (.tup kinds3) = some false := by
  rcases k with _ | _ | _ | k
  · rfl
  · rfl
  · rfl
  · omega
theorem kd_needs {k : Nat} (h : k < 3) : decide (kdS k = kNeeds) = decide (k = 1) := by
  rcases k with _ | _ | _ | k
  · rfl
  · rfl
  · rfl
  · omega
theorem int_bl (b : Bool) : bfD .int [.bl b] = some (.int (if b then 1 else 0)) := rfl
section
variable {Γ : Gam} {ι ξ : Nat → Nat}
theorem is_rule_c (h0 : InRangeS Γ (ι 0)) (F : Frm) (hF : FrmOk F) (r : Rul) (hr : RulOk F.fs r) : evF Γ 2 6 (cb_is_rule ι ξ) [.tup (F.fs.map Fld.d), r.d] = .ok (.bl true) := by
  obtain ⟨k0, k1, k2, k3, k4, k5⟩ := hr
  have hz3 : 3 ≤ szN := by decide
  have hlen : ((1 : Int) + if decide (r.kd = 1) = true then 1 else 0) ≤ ((r.ps.map prD).length : Int) := by
    rw [List.length_map]
    by_cases z : r.kd = 1
    · have := k3 z; simp [z]; omega
    · simp [z]; omega
  have hlen3 : ((r.ps.map prD).length : Int) ≤ 3 := by rw [List.length_map]; omega
  obtain ⟨δ', ef, s, rfl⟩ := forD_keep (t := .nm 2) (body := exs Γ false (cb_is_rule_1 ι ξ)) prD (fun δ => ∃ s, δ = [.dat (.tup (F.fs.map Fld.d)), .dat r.d, s, .dat (.str (kdS r.kd)), .dat (.tup (r.ps.map prD)), .none]) r.ps [.dat (.tup (F.fs.map Fld.d)), .dat r.d, .none, .dat (.str (kdS r.kd)), .dat (.tup (r.ps.map prD)), .none] ⟨.none, rfl⟩ (fun p hp δ hJ => by
    obtain ⟨s, rfl⟩ := hJ
    refine ⟨[.dat (.tup (F.fs.map Fld.d)), .dat r.d, .dat (prD p), .dat (.str (kdS r.kd)), .dat (.tup (r.ps.map prD)), .none], by simp? only [], ⟨_, rfl⟩, ?_⟩
    obtain ⟨g, hg, hv⟩ := k5 p hp
    have hlt := lt_of_get hg
    have hr1 : inRg (.int p.1) 0 (((F.fs.map Fld.d).length : Int) - 1) = true := by
      rw [List.length_map]; simp [inRg]; omega
    have ok := (hF.fld p.1 g hg).1.2.2.2 p.2 hv
    have hr2 : inRg (.int p.2) 0 9 = true := by simp [inRg, ok.1, ok.2]
    simp? only [cb_is_rule_1, ty_pD, len_pD, pD_0, pD_1, h0 _ _ _, hr1, hr2, at_map Fld.d hg, fD_0, nin_iD, hv])
  have lc := lcD_map (t := .tup [5, 1]) (tst := (evo Γ false .no).T) (elt := (ev Γ false (.var 5)).E) (δ := [.dat (.tup (F.fs.map Fld.d)), .none, s, .dat (.str (kdS r.kd)), .dat (.tup (r.ps.map prD)), .none]) prD (fun _ => true) (fun p => .int p.1) (xs := r.ps) (fun p hp =>
    ⟨[.dat (.tup (F.fs.map Fld.d)), .dat (.int p.2), s, .dat (.str (kdS r.kd)), .dat (.tup (r.ps.map prD)), .dat (.int p.1)], by simp? only [prD], by simp? only [], fun _ => by simp? only []⟩)
  rw [List.filter_eq_self.mpr (fun _ _ => rfl)] at lc
  have hset : lsetD (.lst (r.ps.map fun p => .int p.1)) = some (.int (r.ps.map prD).length) := by
    have e : (r.ps.map fun p => D.int (p.1 : Int)) = (r.ps.map fun p => (p.1 : Int)).map .int := by rw [List.map_map]; rfl
    have nd : (r.ps.map fun p => (p.1 : Int)).Nodup := by
      have := k4
      rw [show (r.ps.map fun p => (p.1 : Int)) = (r.ps.map (·.1)).map (fun n : Nat => (n : Int)) by rw [List.map_map]; rfl]
      exact List.Pairwise.map _ (fun a b hab z => hab (by omega)) this
    rw [e]
    show (match intsOf ((r.ps.map fun p => (p.1 : Int)).map .int) with | some ns => if ns.length ≤ 4000 then some (D.int ((dedI ns).length : Nat)) else none | none => none) = _
    rw [intsOf_ints]
    simp only [dedI_nodup nd, List.length_map]
    rw [if_pos (by omega)]
  have hts : setT (.tup [3, 4]) r.d [.dat (.tup (F.fs.map Fld.d)), .dat r.d, .none, .none, .none, .none] = some [.dat (.tup (F.fs.map Fld.d)), .dat r.d, .none, .dat (.str (kdS r.kd)), .dat (.tup (r.ps.map prD)), .none] := rfl
  simp? only [evF, cb_is_rule, ty_rD, len_rD, rD_0, rD_1, ty_str, hts, hz3, kd_in k0, ty_tup, int_bl, kd_needs k0, hlen, hlen3, ef, lc, hset]
def IsRuleS (Γ : Gam) (j : Nat) : Prop := ∀ F, FrmOk F → ∀ r, RulOk F.fs r → Γ.fn j [.tup (F.fs.map Fld.d), r.d] = .ok (.bl true)
def AreFieldsS (Γ : Gam) (j : Nat) : Prop := ∀ F, FrmOk F → Γ.fn j [.tup (F.fs.map Fld.d)] = .ok (.bl true)
theorem is_form_c (h3 : AreFieldsS Γ (ι 3)) (h4 : IsRuleS Γ (ι 4)) (F : Frm) (hF : FrmOk F) : evF Γ 1 2 (cb_is_form ι ξ) [F.d] = .ok (.bl true) := by
  have hz2 : 2 ≤ szN := by decide
  have hl : ¬ (4 : Int) < ((F.rs.map Rul.d).length : Int) := by rw [List.length_map]; have := hF.rle; omega
  have lc := lcD_map (t := .nm 1) (tst := (evo Γ false (ct_is_form_1 ι ξ)).T) (elt := (ev Γ false (.var 1)).E) (δ := [.dat F.d, .none]) Rul.d (fun _ => false) (fun r => r.d) (xs := F.rs) (fun r hr =>
    ⟨[.dat F.d, .dat r.d], by simp? only [], by simp? only [ct_is_form_1, FD_0, h4 F hF r (hF.rul r hr)], fun z => by cases z⟩)
  have n1 : (F.rs.filter fun _ => false).map (fun r => r.d) = [] := by simp
  rw [n1] at lc
  have hin : cmpD .inn (.str (sendS F.al)) (.tup [.str [115, 104, 111, 119, 110], .str [97, 108, 108]]) = some true := by cases F.al <;> rfl
  simp? only [evF, cb_is_form, ty_FD, len_FD, FD_0, FD_1, FD_2, h3 F hF, ty_tup, hl, lc, List.isEmpty_nil, ty_str, hz2, hin]
def IsFormS (Γ : Gam) (j : Nat) : Prop := ∀ F, FrmOk F → Γ.fn j [F.d] = .ok (.bl true)
theorem check_form_c (h5 : IsFormS Γ (ι 5)) (F : Frm) (hF : FrmOk F) : evF Γ 1 1 (cb_check_form ι ξ) [F.d] = .ok .non := by
  simp? only [evF, cb_check_form, h5 F hF]
def oD : Option Int → D
  | none => .non
  | some v => .int v
def rcD (l : List (Option Int)) : D := .tup (l.map oD)
structure RecOk (F : Frm) (l : List (Option Int)) : Prop where
  len : l.length = F.fs.length
  val : ∀ (i : Nat) (v : Int), l[i]? = some (some v) → ∃ f, F.fs[i]? = some f ∧ v ∈ f.vs
theorem zipL_map {α β : Type} (g : α → D) (k : β → D) (a : List α) (b : List β) : zipL (a.map g) (b.map k) = (List.zip a b).map fun p => .tup [g p.1, k p.2] := by
  unfold zipL
  rw [List.zipWith_map, List.zip, List.map_zipWith]
theorem mem_zip_get {α β : Type} {a : List α} {b : List β} {p : α × β} (h : p ∈ List.zip a b) : ∃ i : Nat, a[i]? = some p.1 ∧ b[i]? = some p.2 := by
  obtain ⟨i, hi⟩ := List.getElem?_of_mem h
  rw [List.zip, List.getElem?_zipWith] at hi
  split at hi
  · rename_i x y hx hy
    cases hi
    exact ⟨i, hx, hy⟩
  · cases hi
theorem is_record_c (h0 : InRangeS Γ (ι 0)) (F : Frm) (hF : FrmOk F) (l : List (Option Int)) (hl : RecOk F l) : evF Γ 2 4 (cb_is_record ι ξ) [F.d, rcD l] = .ok (.bl true) := by
  have hlen : bfD .len [rcD l] = some (.int l.length) := by show some (D.int ((l.map oD).length : Nat)) = _; rw [List.length_map]
  have hlen2 : (l.length : Int) = ((F.fs.map Fld.d).length : Int) := by rw [List.length_map, hl.len]
  obtain ⟨δ', ef, s, t, rfl⟩ := forD_keep (t := .tup [2, 3]) (body := exs Γ false (cb_is_record_1 ι ξ)) (fun p : Option Int × Fld => .tup [oD p.1, p.2.d]) (fun δ => ∃ s t, δ = [.dat F.d, .dat (rcD l), s, t]) (List.zip l F.fs) [.dat F.d, .dat (rcD l), .none, .none] ⟨.none, .none, rfl⟩ (fun p hp δ hJ => by
    obtain ⟨s, t, rfl⟩ := hJ
    refine ⟨[.dat F.d, .dat (rcD l), .dat (oD p.1), .dat p.2.d], by simp? only [], ⟨_, _, rfl⟩, ?_⟩
    obtain ⟨i, h1, h2⟩ := mem_zip_get hp
    obtain ⟨o, f⟩ := p
    cases o with
    | none =>
      have e : isNonD (oD none) = true := rfl
      simp? only [cb_is_record_1, e]
    | some v =>
      obtain ⟨f', hf', hv⟩ := hl.val i v h1
      have ef : f' = f := by rw [h2] at hf'; cases hf'; rfl
      subst ef
      have ok := (hF.fld i f' h2).1.2.2.2 v hv
      have hr : inRg (.int v) 0 9 = true := by simp [inRg, ok.1, ok.2]
      have e : isNonD (oD (some v)) = false := rfl
      have e2 : oD (some v) = .int v := rfl
      simp? only [cb_is_record_1, e, e2, h0 _ _ _, hr, fD_0, nin_iD, hv])
  have hz : zipD (rcD l) (.tup (F.fs.map Fld.d)) = .ok ((List.zip l F.fs).map fun p : Option Int × Fld => .tup [oD p.1, p.2.d]) := by
    show R.ok (zipL (l.map oD) (F.fs.map Fld.d)) = _
    rw [zipL_map]
  have hty : isiD .tuple (rcD l) = true := rfl
  simp? only [evF, cb_is_record, hty, hlen, FD_0, hlen2, hz, ef]
def IsRecordS (Γ : Gam) (j : Nat) : Prop := ∀ F, FrmOk F → ∀ l, RecOk F l → Γ.fn j [F.d, rcD l] = .ok (.bl true)
theorem check_record_c (h7 : IsRecordS Γ (ι 7)) (F : Frm) (hF : FrmOk F) (l : List (Option Int)) (hl : RecOk F l) : evF Γ 2 2 (cb_check_record ι ξ) [F.d, rcD l] = .ok .non := by
  simp? only [evF, cb_check_record, h7 F hF l hl]
/-- an entry -/
def EntOk (F : Frm) (i : Nat) (o : Option Int) : Prop := ∃ f, F.fs[i]? = some f ∧ ∀ v, o = some v → v ∈ f.vs
theorem check_entry_c (h0 : InRangeS Γ (ι 0)) (F : Frm) (hF : FrmOk F) (i : Nat) (o : Option Int) (he : EntOk F i o) : evF Γ 3 3 (cb_check_entry ι ξ) [F.d, .int i, oD o] = .ok .non := by
  obtain ⟨f, hf, hv⟩ := he
  have hlt := lt_of_get hf
  have hr1 : inRg (.int i) 0 (((F.fs.map Fld.d).length : Int) - 1) = true := by
    rw [List.length_map]; simp [inRg]; omega
  cases o with
  | none =>
    have e : isNonD (oD none) = true := rfl
    simp? only [evF, cb_check_entry, FD_0, h0 _ _ _, hr1, e]
  | some v =>
    have hv' := hv v rfl
    have ok := (hF.fld i f hf).1.2.2.2 v hv'
    have hr : inRg (.int v) 0 9 = true := by simp [inRg, ok.1, ok.2]
    have e : isNonD (oD (some v)) = false := rfl
    have e2 : oD (some v) = .int v := rfl
    simp? only [evF, cb_check_entry, FD_0, h0 _ _ _, hr1, e, e2, hr, at_map Fld.d hf, fD_0, nin_iD, hv']
end
end PD
namespace PD
open PySem L2
abbrev nD (l : List Nat) : List D := l.map fun n : Nat => D.int n
theorem nD_eq (l : List Nat) : nD l = (l.map fun n : Nat => (n : Int)).map .int := by simp [nD]
theorem mem_cast {n : Nat} {l : List Nat} : ((n : Int) ∈ l.map fun n : Nat => (n : Int)) ↔ n ∈ l := by
  rw [List.mem_map]
  constructor
  · rintro ⟨m, hm, e⟩
    have : m = n := by omega
    subst this; exact hm
  · exact fun h => ⟨n, h, rfl⟩
theorem nin_nD (n : Nat) (l : List Nat) : cmpD .nin (.int n) (.lst (nD l)) = some (!decide (n ∈ l)) := by
  rw [nD_eq, nin_ints]
  congr 2
  exact decide_eq_decide.mpr mem_cast
theorem in_nD (n : Nat) (l : List Nat) : cmpD .inn (.int n) (.lst (nD l)) = some (decide (n ∈ l)) := by
  rw [nD_eq, in_ints]
  congr 1
  exact decide_eq_decide.mpr mem_cast
def ovIn (o : Option Int) (vs : List Int) : Bool := match o with
  | some v => decide (v ∈ vs)
  | none => false
theorem nin_oD (o : Option Int) (vs : List Int) : cmpD .nin (oD o) (iD vs) = some (!ovIn o vs) := by
  cases o with
  | none => exact nin_non vs
  | some v => exact nin_tints v vs
def gv (l : List (Option Int)) (i : Nat) : Option Int := (l[i]?).getD none
def condH (found : List Nat) (l : List (Option Int)) (c : Nat × List Int) : Bool := decide (c.1 ∈ found) && ovIn (gv l c.1) c.2
def shStep (l : List (Option Int)) (b : List Nat) (q : Nat × Fld) : List Nat := if q.2.cs.all (condH b l) then b ++ [q.1] else b
def shownL (F : Frm) (l : List (Option Int)) : List Nat := (F.fs.mapIdx fun i x => (i, x)).foldl (shStep l) []
theorem at_rec {l : List (Option Int)} {i : Nat} (h : i < l.length) : atI (l.map oD) (i : Int) = some (oD (gv l i)) := by
  have e : l[i]? = some l[i] := List.getElem?_eq_getElem h
  rw [at_map oD e]
  simp [gv, e]
theorem shStep_len (l : List (Option Int)) : ∀ (qs : List (Nat × Fld)) (b : List Nat), (qs.foldl (shStep l) b).length ≤ b.length + qs.length
  | [], b => by simp
  | q :: qs, b => by
    have := shStep_len l qs (shStep l b q)
    have h2 : (shStep l b q).length ≤ b.length + 1 := by unfold shStep; split <;> simp
    simp only [List.foldl_cons, List.length_cons] at this ⊢
    omega
theorem filter_none_all {α : Type} {p : α → Bool} {l : List α} : (l.filter fun x => !p x).isEmpty = l.all p := by
  induction l with
  | nil => rfl
  | cons a l ih => cases h : p a <;> simp [h, ← ih]
section
variable {Γ : Gam} {ι ξ : Nat → Nat}
theorem shown_of_c (F : Frm) (hF : FrmOk F) (l : List (Option Int)) (hl : l.length = F.fs.length) : evF Γ 2 7 (cb_shown_of ι ξ) [F.d, rcD l] = .ok (.lst (nD (shownL F l))) := by
  have hz : 0 ≤ szN := Nat.zero_le _
  have hit : enumD (.tup (F.fs.map Fld.d)) = .ok ((F.fs.mapIdx fun i x => (i, x)).map fun q : Nat × Fld => .tup [.int q.1, q.2.d]) := by
    show R.ok (enumL _) = _
    rw [enumL_map]
  obtain ⟨δ', ef, s3, s4, rfl⟩ := forD_pre (t := .tup [3, 4]) (body := exs Γ false (cb_shown_of_1 ι ξ)) (fun q : Nat × Fld => .tup [.int q.1, q.2.d]) (fun (b : List Nat) δ => ∃ s3 s4, δ = [.dat F.d, .dat (rcD l), .own (nD b), s3, s4, .none, .none]) (shStep l) (F.fs.mapIdx fun i x => (i, x)) [] [.dat F.d, .dat (rcD l), .own [], .none, .none, .none, .none] ⟨.none, .none, rfl⟩ (fun pre q post e δ hJ => by
    obtain ⟨s3, s4, rfl⟩ := hJ
    have hq : q ∈ F.fs.mapIdx fun i x => (i, x) := by rw [e]; simp
    have hg := mem_idx hq
    have hlt := lt_of_get hg
    have hpl : pre.length ≤ 4 := by
      have := congrArg List.length e
      simp at this
      have := hF.le
      omega
    generalize hb : pre.foldl (shStep l) [] = b
    have hbl : (nD b).length < szN := by
      have := shStep_len l pre []
      rw [hb] at this
      simp [nD, szN] at this ⊢
      omega
    refine ⟨[.dat F.d, .dat (rcD l), .own (nD b), .dat (.int q.1), .dat q.2.d, .none, .none], by simp? only [], _, .inl ?_, .dat (.int q.1), .dat q.2.d, rfl⟩
    have ok := hF.fld q.1 q.2 hg
    have lc := lcD_map (t := .tup [5, 6]) (tst := (evo Γ false (ct_shown_of_1 ι ξ)).T) (elt := (ev Γ false (ce_shown_of_1 ι ξ)).E) (δ := [.dat F.d, .dat (rcD l), .own (nD b), .dat (.int q.1), .dat q.2.d, .none, .none]) cD (fun c => !condH b l c) (fun _ => .int 1) (xs := q.2.cs) (fun c hc =>
      ⟨[.dat F.d, .dat (rcD l), .own (nD b), .dat (.int q.1), .dat q.2.d, .dat (.int c.1), .dat (iD c.2)], by simp? only [cD], by
        obtain ⟨g, hg2, _⟩ := ok.2.2.2 c hc
        have hlt2 := lt_of_get hg2
        rw [List.length_take] at hlt2
        have hri : idxD (rcD l) (.int c.1) = some (oD (gv l c.1)) := at_rec (by omega)
        simp? only [ct_shown_of_1, nin_nD, hri, nin_oD, condH]
        cases decide (c.1 ∈ b) <;> simp, fun _ => by simp? only [ce_shown_of_1]⟩)
    have hem : (((q.2.cs.filter fun c => !condH b l c).map fun _ => D.int 1).isEmpty) = q.2.cs.all (condH b l) := by
      rw [List.isEmpty_map, filter_none_all]
    simp? only [cb_shown_of_1, fD_1, lc, hem, hbl, shStep]
    cases q.2.cs.all (condH b l) <;> simp [nD])
  simp? only [evF, cb_shown_of, hz, FD_0, hit, ef, shownL]
def ShownS (Γ : Gam) (j : Nat) : Prop := ∀ F, FrmOk F → ∀ l : List (Option Int), l.length = F.fs.length → Γ.fn j [F.d, rcD l] = .ok (.lst (nD (shownL F l)))
def holdP (there : List Nat) (l : List (Option Int)) (p : Nat × Int) : Bool := decide (p.1 ∈ there) && decide (gv l p.1 = some p.2)
theorem ne_oD (o : Option Int) (v : Int) : cmpD .ne (oD o) (.int v) = some (!decide (o = some v)) := by
  cases o with
  | none => rfl
  | some w => simp [oD]
theorem holds_c (there : List Nat) (l : List (Option Int)) (ps : List (Nat × Int)) (hp : ∀ p ∈ ps, p.1 < l.length) : evF Γ 3 5 (cb_holds ι ξ) [.lst (nD there), rcD l, .tup (ps.map prD)] = .ok (.bl (ps.all (holdP there l))) := by
  have lc := lcD_map (t := .tup [3, 4]) (tst := (evo Γ false (ct_holds_1 ι ξ)).T) (elt := (ev Γ false (ce_holds_1 ι ξ)).E) (δ := [.dat (.lst (nD there)), .dat (rcD l), .dat (.tup (ps.map prD)), .none, .none]) prD (fun p => !holdP there l p) (fun _ => .int 1) (xs := ps) (fun p hp' =>
    ⟨[.dat (.lst (nD there)), .dat (rcD l), .dat (.tup (ps.map prD)), .dat (.int p.1), .dat (.int p.2)], by simp? only [prD], by
      have hri : idxD (rcD l) (.int p.1) = some (oD (gv l p.1)) := at_rec (hp p hp')
      simp? only [ct_holds_1, nin_nD, hri, ne_oD, holdP]
      cases decide (p.1 ∈ there) <;> simp, fun _ => by simp? only [ce_holds_1]⟩)
  have hem : (((ps.filter fun p => !holdP there l p).map fun _ => D.int 1).isEmpty) = ps.all (holdP there l) := by
    rw [List.isEmpty_map, filter_none_all]
  simp? only [evF, cb_holds, lc, hem, Bool.not_not]
def HoldsS (Γ : Gam) (j : Nat) : Prop := ∀ (there : List Nat) (l : List (Option Int)) (ps : List (Nat × Int)), (∀ p ∈ ps, p.1 < l.length) → Γ.fn j [.lst (nD there), rcD l, .tup (ps.map prD)] = .ok (.bl (ps.all (holdP there l)))
def ksD (ks : List Nat) : D := .tup (ks.map fun k => .str (kdS k))
theorem kdS_inj {a b : Nat} (ha : a < 3) (hb : b < 3) (h : kdS a = kdS b) : a = b := by
  rcases a with _ | _ | _ | a <;> rcases b with _ | _ | _ | b <;> first | rfl | (revert h; decide) | omega
theorem noScrs_ks (ks : List Nat) : noScrs (ks.map fun k => D.str (kdS k)) = true := by
  induction ks with
  | nil => rfl
  | cons k ks ih => rw [List.map_cons, noScrs, ih]; rfl
theorem deps_ks (ks : List Nat) : deps (ks.map fun k => D.str (kdS k)) = 0 := by
  induction ks with
  | nil => rfl
  | cons k ks ih => rw [List.map_cons, deps, ih]; rfl
theorem anyD_ks {k : Nat} (hk : k < 3) : ∀ ks : List Nat, (∀ a ∈ ks, a < 3) → anyD (.str (kdS k)) (ks.map fun k => D.str (kdS k)) = decide (k ∈ ks)
  | [], _ => by simp [anyD]
  | a :: ks, h => by
    rw [List.map_cons, anyD, anyD_ks hk ks fun b hb => h b (List.mem_cons_of_mem _ hb), eqD]
    by_cases z : k = a
    · subst z; simp
    · have : ¬ kdS a = kdS k := fun e => z (kdS_inj (h a List.mem_cons_self) hk e).symm
      simp [z, this]
theorem in_ks {k : Nat} (hk : k < 3) (ks : List Nat) (h : ∀ a ∈ ks, a < 3) : cmpD .inn (.str (kdS k)) (ksD ks) = some (decide (k ∈ ks)) := by
  show inD _ (.tup _) = _
  rw [inD, if_pos (by simp [inOk, noScr, noScrs_ks, dep, deps_ks]), anyD_ks hk ks h]
  all_goals (intros; simp_all)
def brokP (F : Frm) (l : List (Option Int)) (ks : List Nat) (q : Nat × Rul) : Bool := decide (q.2.kd ∈ ks) && q.2.ps.all (holdP (shownL F l) l)
def brokenL (F : Frm) (l : List (Option Int)) (ks : List Nat) : List Nat := ((F.rs.mapIdx fun i x => (i, x)).filter (brokP F l ks)).map (·.1)
theorem broken_of_c (h9 : ShownS Γ (ι 9)) (h10 : HoldsS Γ (ι 10)) (F : Frm) (hF : FrmOk F) (l : List (Option Int)) (hl : l.length = F.fs.length) (ks : List Nat) (hk : ∀ a ∈ ks, a < 3) : evF Γ 3 6 (cb_broken_of ι ξ) [F.d, rcD l, ksD ks] = .ok (.lst (nD (brokenL F l ks))) := by
  have hit : enumD (.tup (F.rs.map Rul.d)) = .ok ((F.rs.mapIdx fun i x => (i, x)).map fun q : Nat × Rul => .tup [.int q.1, q.2.d]) := by
    show R.ok (enumL _) = _
    rw [enumL_map]
  have lc := lcD_map (t := .tup [4, 5]) (tst := (evo Γ false (ct_broken_of_1 ι ξ)).T) (elt := (ev Γ false (.var 4)).E) (δ := [.dat F.d, .dat (rcD l), .dat (ksD ks), .dat (.lst (nD (shownL F l))), .none, .none]) (fun q : Nat × Rul => .tup [.int q.1, q.2.d]) (brokP F l ks) (fun q => .int q.1) (xs := F.rs.mapIdx fun i x => (i, x)) (fun q hq =>
    ⟨[.dat F.d, .dat (rcD l), .dat (ksD ks), .dat (.lst (nD (shownL F l))), .dat (.int q.1), .dat q.2.d], by simp? only [], by
      have hr := hF.rul q.2 (List.mem_of_getElem? (mem_idx hq))
      have hp : ∀ p ∈ q.2.ps, p.1 < l.length := fun p hp => by
        obtain ⟨g, hg, _⟩ := hr.2.2.2.2.2 p hp
        have := lt_of_get hg
        omega
      simp? only [ct_broken_of_1, rD_0, rD_1, in_ks hr.1 ks hk, h10 _ _ _ hp, brokP]
      cases decide (q.2.kd ∈ ks) <;> simp, fun _ => by simp? only []⟩)
  have e : ((F.rs.mapIdx fun i x => (i, x)).filter (brokP F l ks)).map (fun q => D.int (q.1 : Int)) = nD (brokenL F l ks) := by
    rw [nD, brokenL, List.map_map]; rfl
  rw [e] at lc
  simp? only [evF, cb_broken_of, h9 F hF l hl, FD_1, hit, lc]
def BrokenS (Γ : Gam) (j : Nat) : Prop := ∀ F, FrmOk F → ∀ l : List (Option Int), l.length = F.fs.length → ∀ ks : List Nat, (∀ a ∈ ks, a < 3) → Γ.fn j [F.d, rcD l, ksD ks] = .ok (.lst (nD (brokenL F l ks)))
end
end PD
namespace PD
open PySem L2
theorem forD_find {α : Type} {t : Tg} {body : List S → O} (g : α → D) (J : List S → Prop) (r : D) (p : α → Bool) : ∀ (xs : List α) (δ : List S), J δ →
    (∀ x ∈ xs, ∀ δ, J δ → ∃ δ', setT t (g x) δ = some δ' ∧ J δ' ∧ body δ' = if p x then .ret r else .next δ') →
    (xs.any p = true ∧ forD t body (xs.map g) δ = .ret r) ∨ (xs.any p = false ∧ ∃ δ', forD t body (xs.map g) δ = .next δ' ∧ J δ')
  | [], δ, h, _ => .inr ⟨rfl, δ, rfl, h⟩
  | x :: xs, δ, h, st => by
    obtain ⟨δ', e1, h1, e2⟩ := st x List.mem_cons_self δ h
    cases hp : p x with
    | true =>
      rw [hp] at e2
      exact .inl ⟨by simp [hp], by simp only [List.map_cons, forD, e1, e2, if_true]⟩
    | false =>
      rw [hp] at e2
      have e2' : body δ' = .next δ' := e2
      rcases forD_find g J r p xs δ' h1 fun y hy => st y (List.mem_cons_of_mem _ hy) with ⟨a, b⟩ | ⟨a, δ3, b, c⟩
      · exact .inl ⟨by simp [hp, a], by simp only [List.map_cons, forD, e1, e2', b]⟩
      · exact .inr ⟨by simp [hp, a], δ3, by simp only [List.map_cons, forD, e1, e2', b], c⟩
theorem cutL_lo {α : Type} (l : List α) (k : Nat) (h : k ≤ l.length) : cutL l (some (k : Int)) none = l.drop k := by
  unfold cutL
  have e1 : HT.sIx l.length 0 (some (k : Int)) = min k l.length := HT.sIx_nat l.length 0 k
  have e2 : HT.sIx l.length l.length none = l.length := rfl
  rw [e1, e2, Nat.min_eq_left h]
  exact List.take_of_length_le (by simp)
def needP (there : List Nat) (l : List (Option Int)) (i : Nat) (o : Option Int) (r : Rul) : Bool := decide (r.kd = 1) && (match r.ps with
  | p :: rest => decide (p.1 = i ∧ o = some p.2) && !(rest.all (holdP there l))
  | [] => false)
def enteredL (F : Frm) (l : List (Option Int)) (i : Nat) (o : Option Int) : Option (List (Option Int)) :=
  if i ∉ shownL F l ∨ gv l i = o then none
  else if F.rs.any (needP (shownL F l) l i o) then none
  else if (brokenL F (l.set i o) [0]).isEmpty then some (l.set i o) else none
def orD : Option (List (Option Int)) → D
  | none => .non
  | some l => rcD l
theorem eq_oD (a b : Option Int) : cmpD .eq (oD a) (oD b) = some (decide (a = b)) := by
  cases a <;> cases b <;> first | rfl | simp [oD]
theorem eq_pair (p : Nat × Int) (i : Nat) (o : Option Int) : cmpD .eq (prD p) (.tup [.int i, oD o]) = some (decide (p.1 = i ∧ o = some p.2)) := by
  cases o with
  | none =>
    rw [cmpD, if_pos (by rfl), prD, oD, eqD, eqDs, eqDs, eqD, eqDs]
    simp [eqD]
  | some v =>
    rw [cmpD, if_pos (by rfl), prD, oD, eqD, eqDs, eqDs, eqD, eqDs, eqD]
    by_cases h1 : p.1 = i
    · by_cases h2 : v = p.2
      · subst h1; subst h2; simp
      · have : ¬ p.2 = v := fun e => h2 e.symm
        simp [h1, h2, this]
    · have : ¬ (p.1 : Int) = (i : Int) := by omega
      simp [h1, this]
section
variable {Γ : Gam} {ι ξ : Nat → Nat}
theorem set_split {l : List (Option Int)} {i : Nat} (h : i < l.length) (o : Option Int) : (l.map oD).take i ++ [oD o] ++ (l.map oD).drop (i + 1) = (l.set i o).map oD := by
  rw [List.set_eq_take_append_cons_drop, if_pos h]
  simp [List.map_take, List.map_drop]
theorem entered_c (h9 : ShownS Γ (ι 9)) (h10 : HoldsS Γ (ι 10)) (h11 : BrokenS Γ (ι 11)) (F : Frm) (hF : FrmOk F) (l : List (Option Int)) (hl : l.length = F.fs.length) (i : Nat) (hi : i < l.length) (o : Option Int) :
    evF Γ 4 8 (cb_entered ι ξ) [F.d, rcD l, .int i, oD o] = .ok (orD (enteredL F l i o)) := by
  have hri : idxD (rcD l) (.int i) = some (oD (gv l i)) := at_rec hi
  by_cases g1 : i ∈ shownL F l
  · by_cases g2 : gv l i = o
    · have e : enteredL F l i o = none := by simp [enteredL, g2]
      simp? only [evF, cb_entered, h9 F hF l hl, nin_nD, g1, hri, eq_oD, g2, e, orD]
    · have hz2 : 2 ≤ szN := by decide
      have hz1 : 1 ≤ szN := by decide
      rcases forD_find (t := .tup [6, 7]) (body := exs Γ false (cb_entered_1 ι ξ)) Rul.d (fun δ => ∃ s6 s7, δ = [.dat F.d, .dat (rcD l), .dat (.int i), .dat (oD o), .dat (.lst (nD (shownL F l))), .none, s6, s7]) .non (needP (shownL F l) l i o) F.rs [.dat F.d, .dat (rcD l), .dat (.int i), .dat (oD o), .dat (.lst (nD (shownL F l))), .none, .none, .none] ⟨.none, .none, rfl⟩ (fun r hr δ hJ => by
        obtain ⟨s6, s7, rfl⟩ := hJ
        refine ⟨[.dat F.d, .dat (rcD l), .dat (.int i), .dat (oD o), .dat (.lst (nD (shownL F l))), .none, .dat (.str (kdS r.kd)), .dat (.tup (r.ps.map prD))], rfl, ⟨_, _, rfl⟩, ?_⟩
        have ok := hF.rul r hr
        have hp : ∀ p ∈ r.ps, p.1 < l.length := fun p hp => by
          obtain ⟨g, hg, _⟩ := ok.2.2.2.2.2 p hp
          have := lt_of_get hg
          omega
        have hk := kd_needs ok.1
        cases hps : r.ps with
        | nil => have := ok.2.1; rw [hps] at this; simp at this
        | cons p rest =>
          rw [hps] at hp
          have h0 : atI (prD p :: rest.map prD) 0 = some (prD p) := at0 _ _
          have hcut : cutD (.tup (prD p :: rest.map prD)) (some 1) none = some (.tup (rest.map prD)) := by
            show some (D.tup (cutL _ _ _)) = _
            rw [cutL_from1]; rfl
          have hh := h10 (shownL F l) l rest fun q hq => hp q (List.mem_cons_of_mem _ hq)
          have en : needP (shownL F l) l i o r = (decide (r.kd = 1) && (decide (p.1 = i ∧ o = some p.2) && !(rest.all (holdP (shownL F l) l)))) := by
            simp [needP, hps]
          rw [en]
          have hk2 : decide (kdS r.kd = [110, 101, 101, 100, 115]) = decide (r.kd = 1) := hk
          cases z1 : decide (r.kd = 1) with
          | false => simp? only [cb_entered_1, hk2, z1, Bool.false_and]
          | true =>
            cases z2 : decide (p.1 = i ∧ o = some p.2) with
            | false => simp? only [cb_entered_1, hk2, z1, h0, hz2, eq_pair, z2, Bool.false_and, Bool.true_and]
            | true =>
              simp? only [cb_entered_1, hk2, z1, h0, hz2, eq_pair, z2, hcut, hh, Bool.true_and]
              cases rest.all (holdP (shownL F l) l) <;> simp) with ⟨a, ef⟩ | ⟨a, δ', ef, s6, s7, rfl⟩
      · have e : enteredL F l i o = none := by simp [enteredL, g1, g2, a]
        simp? only [evF, cb_entered, h9 F hF l hl, nin_nD, g1, hri, eq_oD, g2, FD_1, ef, e, orD]
      · have hc1 : cutD (rcD l) none (some (i : Int)) = some (.tup ((l.map oD).take i)) := by
          show some (D.tup (cutL _ _ _)) = _
          rw [cutL_hi _ _ (by rw [List.length_map]; omega)]
        have hc2 : cutD (rcD l) (some ((i : Int) + 1)) none = some (.tup ((l.map oD).drop (i + 1))) := by
          show some (D.tup (cutL _ _ _)) = _
          rw [show ((i : Int) + 1) = ((i + 1 : Nat) : Int) by omega, cutL_lo _ _ (by rw [List.length_map]; omega)]
        have hle := hF.le
        have ha1 : binD .add (.tup ((l.map oD).take i)) (.tup [oD o]) = some (.tup ((l.map oD).take i ++ [oD o])) := add_tup _ _ (by simp [szN]; omega)
        have ha2 : binD .add (.tup ((l.map oD).take i ++ [oD o])) (.tup ((l.map oD).drop (i + 1))) = some (rcD (l.set i o)) := by
          rw [add_tup _ _ (by simp [szN]; omega), set_split hi, rcD]
        have hb := h11 F hF (l.set i o) (by rw [List.length_set]; exact hl) [0] (by simp)
        have hks : ksD [0] = .tup [.str [101, 110, 116, 114, 121]] := rfl
        rw [hks] at hb
        simp? only [evF, cb_entered, h9 F hF l hl, nin_nD, g1, hri, eq_oD, g2, FD_1, ef, hc1, hz1, ha1, hc2, ha2, hb]
        have em : (nD (brokenL F (l.set i o) [0])).isEmpty = (brokenL F (l.set i o) [0]).isEmpty := by simp [nD]
        rw [em]
        cases z : (brokenL F (l.set i o) [0]).isEmpty <;> simp [enteredL, g1, g2, a, z, orD]
  · have e : enteredL F l i o = none := by simp [enteredL, g1]
    simp? only [evF, cb_entered, h9 F hF l hl, nin_nD, g1, e, orD]
def EnteredS (Γ : Gam) (j : Nat) : Prop := ∀ F, FrmOk F → ∀ l : List (Option Int), l.length = F.fs.length → ∀ i, i < l.length → ∀ o, Γ.fn j [F.d, rcD l, .int i, oD o] = .ok (orD (enteredL F l i o))
theorem enter_c (h6 : ∀ F, FrmOk F → Γ.fn (ι 6) [F.d] = .ok .non) (h8 : ∀ F, FrmOk F → ∀ l, RecOk F l → Γ.fn (ι 8) [F.d, rcD l] = .ok .non) (h13 : ∀ F, FrmOk F → ∀ i o, EntOk F i o → Γ.fn (ι 13) [F.d, .int i, oD o] = .ok .non) (h12 : EnteredS Γ (ι 12))
    (F : Frm) (hF : FrmOk F) (l : List (Option Int)) (hl : RecOk F l) (i : Nat) (o : Option Int) (he : EntOk F i o) : evF Γ 4 4 (cb_enter ι ξ) [F.d, rcD l, .int i, oD o] = .ok (orD (enteredL F l i o)) := by
  have hi : i < l.length := by
    obtain ⟨f, hf, _⟩ := he
    rw [hl.len]; exact lt_of_get hf
  simp? only [evF, cb_enter, h6 F hF, h8 F hF l hl, h13 F hF i o he, h12 F hF l hl.len i hi o]
end
end PD
namespace PD
open PySem L2
def dr (l : List Int) (k : Nat) : Nat := ((l[k]?).getD 0).toNat
theorem atZ {l : List Int} (h : Rw l) (z : Int) (h0 : 0 ≤ z) (h1 : z < 60) : atI (l.map D.int) z = some (.int (dr l z.toNat)) := by
  have hk : z.toNat < l.length := by rw [h.1]; omega
  have e : l[z.toNat]? = some l[z.toNat] := List.getElem?_eq_getElem hk
  have hb := h.2 _ (List.getElem_mem hk)
  have := at_map D.int e
  rw [show ((z.toNat : Nat) : Int) = z by omega] at this
  rw [this]
  simp [dr, e]
  omega
theorem at60 {l : List Int} (h : Rw l) (z : Int) : atI (l.map D.int) (z % 60) = some (.int (dr l (z % 60).toNat)) := atZ h _ (Int.emod_nonneg _ (by decide)) (Int.emod_lt_of_pos _ (by decide))
theorem insU_len (n : Int) : ∀ l : List Int, (insU n l).length ≤ l.length + 1
  | [] => by simp [insU]
  | m :: r => by
    have := insU_len n r
    unfold insU
    split
    · simp
    · split
      · simp
      · simp; omega
theorem usI_len : ∀ l : List Int, (usI l).length ≤ l.length
  | [] => by simp [usI]
  | n :: r => by
    have := usI_len r
    have := insU_len n (usI r)
    simp [usI]; omega
theorem rng1_nat (n : Nat) (h : n < 1000) : rng1 (.int n) = .ok ((List.range' 0 n).map fun k : Nat => D.int k) := by
  rw [rng1, if_pos (by simp only [szN]; omega), ← rngL_nat]
  rfl
theorem vals_us {l : List Int} (h1 : l ≠ []) (h2 : l.length ≤ 4) (h3 : ∀ v ∈ l, 0 ≤ v ∧ v ≤ 9) : ValsOk (usI l) := by
  refine ⟨fun e => ?_, Nat.le_trans (usI_len l) h2, usI_sorted l, fun v hv => h3 v ((usI_mem v l).mp hv)⟩
  cases l with
  | nil => exact h1 rfl
  | cons a l =>
    have : a ∈ usI (a :: l) := (usI_mem a _).mpr List.mem_cons_self
    rw [e] at this; cases this
theorem ne_tup0 (vs : List Int) : cmpD .ne (iD vs) (.tup []) = some (!vs.isEmpty) := by
  cases vs with
  | nil => rfl
  | cons a l =>
    rw [cmpD, if_pos (by simp [eqOk, iD, noScr, noScrs, noScrs_ints, dep, deps_ints, deps]), iD, List.map_cons, eqD, eqDs]
    · rfl
    all_goals simp
section
variable {Γ : Gam} {ι ξ : Nat → Nat}
theorem law_values_c (l : List Int) (hl : Rw l) (a : Nat) : ∃ vs, ValsOk vs ∧ evF Γ 2 4 (cb_law_values ι ξ) [.lst (l.map .int), .int a] = .ok (iD vs) := by
  let z5 : Int := ((a : Int) + 5) % 60
  let n : Nat := 1 + dr l z5.toNat % 3
  let val : Nat → Int := fun k => ((dr l (((a : Int) + (k : Int)) % 60).toNat % 10 : Nat) : Int)
  have lc := lcD_map (t := .nm 3) (tst := (evo Γ false .no).T) (elt := (ev Γ false (ce_law_values_1 ι ξ)).E) (δ := [.dat (.lst (l.map .int)), .dat (.int a), .none, .none]) (fun k : Nat => .int k) (fun _ => true) (fun k => .int (val k)) (xs := List.range' 0 n) (fun k hk =>
    ⟨[.dat (.lst (l.map .int)), .dat (.int a), .none, .dat (.int k)], by simp? only [], by simp? only [], fun _ => by
      simp? only [ce_law_values_1, mod_int _ 60 (by decide), at60 hl, mod_int _ 10 (by decide), val]
      simp⟩)
  rw [List.filter_eq_self.mpr (fun _ _ => rfl)] at lc
  have hn : (1 : Int) + (dr l z5.toNat : Int) % 3 = (n : Int) := by simp only [n]; omega
  have hn3 : n ≤ 3 ∧ 1 ≤ n := by simp only [n]; omega
  have hr := rng1_nat n (by omega)
  have hs : ssetD (.lst ((List.range' 0 n).map fun k => .int (val k))) = some ((usI ((List.range' 0 n).map val)).map D.int) := by
    have e : ((List.range' 0 n).map fun k => D.int (val k)) = ((List.range' 0 n).map val).map D.int := by rw [List.map_map]; rfl
    rw [e]
    show (match intsOf (((List.range' 0 n).map val).map D.int) with | some ns => if ns.length < 64 then some ((usI ns).map D.int) else none | none => none) = _
    rw [intsOf_ints]
    simp only
    rw [if_pos (by simp; omega)]
  refine ⟨usI ((List.range' 0 n).map val), vals_us ?_ (by simp; omega) ?_, ?_⟩
  · intro e
    have := congrArg List.length e
    simp at this
    omega
  · intro v hv
    obtain ⟨k, _, rfl⟩ := List.mem_map.mp hv
    simp only [val]; omega
  · have ht : ∀ ds, bfD .tuple [.lst ds] = some (.tup ds) := fun _ => rfl
    simp? only [evF, cb_law_values, mod_int _ 60 (by decide), at60 hl, mod_int _ 3 (by decide)]
    rw [show (1 : Int) + (dr l (((a : Int) + 5) % 60).toNat : Int) % 3 = (n : Int) from hn]
    simp? only [hr, lc, hs, ht, iD]
end
end PD
namespace PD
open PySem L2
def FldsOk (fs : List Fld) : Prop := ∀ (i : Nat) (f : Fld), fs[i]? = some f → FldOk (fs.take i) f
theorem FldsOk.snoc {fs : List Fld} (h : FldsOk fs) {f : Fld} (hf : FldOk fs f) : FldsOk (fs ++ [f]) := by
  intro i g hg
  rcases Nat.lt_or_ge i fs.length with z | z
  · rw [List.getElem?_append_left z] at hg
    rw [List.take_append_of_le_length (by omega)]
    exact h i g hg
  · have hi : i = fs.length := by
      have := lt_of_get hg
      simp at this; omega
    subst hi
    rw [List.getElem?_append_right (Nat.le_refl _)] at hg
    simp at hg
    subst hg
    rw [List.take_append_of_le_length (Nat.le_refl _), List.take_length]
    exact hf
structure CsOk (fs : List Fld) (j : Nat) (cs : List (Nat × List Int)) : Prop where
  len : cs.length ≤ 2
  asc : (cs.map (·.1)).Pairwise (· < ·)
  lt : ∀ c ∈ cs, c.1 < j
  ok : ∀ c ∈ cs, ∃ g, fs[c.1]? = some g ∧ ValsOk c.2 ∧ ∀ v ∈ c.2, v ∈ g.vs
theorem CsOk.up {fs : List Fld} {j : Nat} {cs : List (Nat × List Int)} (h : CsOk fs j cs) : CsOk fs (j + 1) cs := ⟨h.len, h.asc, fun c hc => Nat.lt_succ_of_lt (h.lt c hc), h.ok⟩
theorem CsOk.snoc {fs : List Fld} {j : Nat} {cs : List (Nat × List Int)} (h : CsOk fs j cs) (hl : cs.length < 2) {ws : List Int} {g : Fld} (hg : fs[j]? = some g) (hw : ValsOk ws) (hs : ∀ v ∈ ws, v ∈ g.vs) : CsOk fs (j + 1) (cs ++ [(j, ws)]) := by
  refine ⟨by simp; omega, ?_, ?_, ?_⟩
  · rw [List.map_append, List.pairwise_append]
    refine ⟨h.asc, by simp, fun a ha b hb => ?_⟩
    obtain ⟨c, hc, rfl⟩ := List.mem_map.mp ha
    simp at hb
    subst hb
    exact h.lt c hc
  · intro c hc
    rcases List.mem_append.mp hc with z | z
    · exact Nat.lt_succ_of_lt (h.lt c z)
    · simp at z; subst z; exact Nat.lt_succ_self _
  · intro c hc
    rcases List.mem_append.mp hc with z | z
    · exact h.ok c z
    · simp at z; subst z; exact ⟨g, hg, hw, hs⟩
theorem vals_filter {vs : List Int} (h : ValsOk vs) (p : Int → Bool) (hne : vs.filter p ≠ []) : ValsOk (vs.filter p) :=
  ⟨hne, Nat.le_trans (List.length_filter_le _ _) h.2.1, h.2.2.1.filter _, fun v hv => h.2.2.2 v (List.mem_filter.mp hv).1⟩
section
variable {Γ : Gam} {ι ξ : Nat → Nat}
def LawValuesS (Γ : Gam) (j : Nat) : Prop := ∀ l, Rw l → ∀ a : Nat, ∃ vs, ValsOk vs ∧ Γ.fn j [.lst (l.map .int), .int a] = .ok (iD vs)
/-- the state of _law_form in its first loop -/
abbrev stF (l l2 : List Int) (kd : D) (fs : List Fld) (s4 s6 s7 s12 s13 : S) : List S := [.dat (.lst (l.map .int)), .dat (.lst (l2.map .int)), .dat kd, .dat (.tup (fs.map Fld.d)), s4, .none, s6, s7, .none, .none, .none, .none, s12, s13, .none, .none]
theorem cond_step (l l2 : List Int) (kd : D) (hl : Rw l) (fs : List Fld) (hfs : FldsOk fs) (m j : Nat) (hm : m = fs.length) (hm4 : m < 4) (hj : j < m) (cs : List (Nat × List Int)) (hc : CsOk fs j cs) (s12 s13 : S) :
    ∃ cs' s12' s13', CsOk fs (j + 1) cs' ∧ exs Γ false (cb_law_form_2 ι ξ) (stF l l2 kd fs (.dat (.int m)) (.dat (.tup (cs.map cD))) (.dat (.int j)) s12 s13) = .next (stF l l2 kd fs (.dat (.int m)) (.dat (.tup (cs'.map cD))) (.dat (.int j)) s12' s13') := by
  have hjl : j < fs.length := by omega
  obtain ⟨g, hg⟩ : ∃ g, fs[j]? = some g := ⟨fs[j], List.getElem?_eq_getElem hjl⟩
  have ok := (hfs j g hg).1
  let p : Int → Bool := fun v => decide ((dr l ((3 * (m : Int) + (j : Int) + v) % 60).toNat : Int) % 2 = 0)
  have lc := lcD_map (t := .nm 14) (tst := (evo Γ false (ct_law_form_1 ι ξ)).T) (elt := (ev Γ false (.var 14)).E) (δ := [.dat (.lst (l.map .int)), .dat (.lst (l2.map .int)), .dat kd, .dat (.tup (fs.map Fld.d)), .dat (.int m), .none, .dat (.tup (cs.map cD)), .dat (.int j), .none, .none, .none, .none, .dat (iD g.vs), s13, .none, .none]) D.int p (fun v => .int v) (xs := g.vs) (fun v hv =>
    ⟨[.dat (.lst (l.map .int)), .dat (.lst (l2.map .int)), .dat kd, .dat (.tup (fs.map Fld.d)), .dat (.int m), .none, .dat (.tup (cs.map cD)), .dat (.int j), .none, .none, .none, .none, .dat (iD g.vs), s13, .dat (.int v), .none], by simp? only [], by
      simp? only [ct_law_form_1, mul_int' 3 _ (by decide), mod_int _ 60 (by decide), at60 hl, mod_int _ 2 (by decide), p], fun _ => by simp? only []⟩)
  have e1 : (g.vs.filter p).map (fun v => D.int v) = (g.vs.filter p).map .int := rfl
  rw [e1] at lc
  have ht : ∀ ds, bfD .tuple [.lst ds] = some (.tup ds) := fun _ => rfl
  have hne := ne_tup0 (g.vs.filter p)
  have hz0 : 0 ≤ szN := Nat.zero_le _
  have hz1 : 1 ≤ szN := by decide
  have hz2 : 2 ≤ szN := by decide
  have hcl : (((cs.map cD).length : Nat) : Int) = (cs.length : Int) := by rw [List.length_map]
  have ha : binD .add (.tup (cs.map cD)) (.tup [.tup [.int j, .tup ((g.vs.filter p).map .int)]]) = some (.tup ((cs ++ [(j, g.vs.filter p)]).map cD)) := by
    rw [add_tup _ _ (by have := hc.len; simp [szN]; omega), List.map_append]; rfl
  have head : ∀ k : Bool, ((dr l ((20 + 5 * (m : Int) + (j : Int)) % 60).toNat : Int) % 3 = 0 ↔ k = true) → True := fun _ _ => trivial
  by_cases c1 : (dr l ((20 + 5 * (m : Int) + (j : Int)) % 60).toNat : Int) % 3 = 0
  · by_cases c2 : g.vs.filter p = []
    · refine ⟨cs, .dat (iD g.vs), .dat (.tup ((g.vs.filter p).map .int)), hc.up, ?_⟩
      have hne' : cmpD .ne (.tup ((g.vs.filter p).map .int)) (.tup []) = some false := by rw [show (D.tup ((g.vs.filter p).map .int)) = iD (g.vs.filter p) from rfl, hne, c2]; rfl
      simp? only [cb_law_form_2, stF, at_map Fld.d hg, fD_0, it_iD, lc, ht, mul_int' 5 _ (by decide), mod_int _ 60 (by decide), at60 hl, mod_int _ 3 (by decide), c1, hz0, hne']
    · have hne' : cmpD .ne (.tup ((g.vs.filter p).map .int)) (.tup []) = some true := by
        rw [show (D.tup ((g.vs.filter p).map .int)) = iD (g.vs.filter p) from rfl, hne]
        cases h : g.vs.filter p with
        | nil => exact absurd h c2
        | cons a b => rfl
      by_cases c3 : cs.length < 2
      · have c3' : (cs.length : Int) < 2 := by omega
        refine ⟨cs ++ [(j, g.vs.filter p)], .dat (iD g.vs), .dat (.tup ((g.vs.filter p).map .int)), hc.snoc c3 hg (vals_filter ok p c2) (fun v hv => (List.mem_filter.mp hv).1), ?_⟩
        simp? only [cb_law_form_2, stF, at_map Fld.d hg, fD_0, it_iD, lc, ht, mul_int' 5 _ (by decide), mod_int _ 60 (by decide), at60 hl, mod_int _ 3 (by decide), c1, hz0, hne', hcl, c3', hz1, hz2, ha]
      · have c3' : ¬ (cs.length : Int) < 2 := by omega
        refine ⟨cs, .dat (iD g.vs), .dat (.tup ((g.vs.filter p).map .int)), hc.up, ?_⟩
        simp? only [cb_law_form_2, stF, at_map Fld.d hg, fD_0, it_iD, lc, ht, mul_int' 5 _ (by decide), mod_int _ 60 (by decide), at60 hl, mod_int _ 3 (by decide), c1, hz0, hne', hcl, c3']
  · refine ⟨cs, .dat (iD g.vs), .dat (.tup ((g.vs.filter p).map .int)), hc.up, ?_⟩
    simp? only [cb_law_form_2, stF, at_map Fld.d hg, fD_0, it_iD, lc, ht, mul_int' 5 _ (by decide), mod_int _ 60 (by decide), at60 hl, mod_int _ 3 (by decide), c1]
end
end PD
namespace PD
open PySem L2
theorem range_get {n i : Nat} {d : D} (h : ((List.range' 0 n).map fun k : Nat => D.int k)[i]? = some d) : i < n ∧ d = .int i := by
  have hi := lt_of_get h
  simp at hi
  rw [List.getElem?_map, List.getElem?_range' hi] at h
  simp at h
  exact ⟨hi, h.symm⟩
section
variable {Γ : Gam} {ι ξ : Nat → Nat}
theorem field_step (h20 : LawValuesS Γ (ι 20)) (l l2 : List Int) (kd : D) (hl : Rw l) (hl2 : Rw l2) (fs : List Fld) (hfs : FldsOk fs) (m : Nat) (hm : m = fs.length) (hm4 : m < 4) (s6 s7 s12 s13 : S) :
    ∃ f s6' s7' s12' s13', FldOk fs f ∧ exs Γ false (cb_law_form_1 ι ξ) (stF l l2 kd fs (.dat (.int m)) s6 s7 s12 s13) = .next (stF l l2 kd (fs ++ [f]) (.dat (.int m)) s6' s7' s12' s13') := by
  have hr := rng1_nat m (by omega)
  obtain ⟨δ', ef, cs, s7', s12', s13', rfl, hc⟩ := forD_inv (t := .nm 7) (b := exs Γ false (cb_law_form_2 ι ξ)) (fun j δ => ∃ cs s7 s12 s13, δ = stF l l2 kd fs (.dat (.int m)) (.dat (.tup (cs.map cD))) s7 s12 s13 ∧ CsOk fs j cs) (ds := (List.range' 0 m).map fun k : Nat => D.int k) (δ := stF l l2 kd fs (.dat (.int m)) (.dat (.tup [])) s7 s12 s13) ⟨[], s7, s12, s13, rfl, ⟨by simp, by simp, by simp, by simp⟩⟩ (fun j d δ hd hI => by
    obtain ⟨hj, rfl⟩ := range_get hd
    obtain ⟨cs, s7, s12, s13, rfl, hc⟩ := hI
    obtain ⟨cs', s12', s13', hc', e⟩ := cond_step (Γ := Γ) (ι := ι) (ξ := ξ) l l2 kd hl fs hfs m j hm hm4 hj cs hc s12 s13
    exact ⟨_, by simp? only [stF], _, .inl e, cs', _, _, _, rfl, hc'⟩)
  simp only [List.length_map, List.length_range'] at hc
  obtain ⟨vs, hv, ev⟩ := h20 l2 hl2 (8 * m)
  have ev' : Γ.fn (ι 20) [.lst (l2.map .int), .int (8 * (m : Int))] = .ok (iD vs) := by rw [← ev]; simp
  have hz0 : 0 ≤ szN := Nat.zero_le _
  have hz1 : 1 ≤ szN := by decide
  have hz2 : 2 ≤ szN := by decide
  have ha : binD .add (.tup (fs.map Fld.d)) (.tup [.tup [iD vs, .tup (cs.map cD)]]) = some (.tup ((fs ++ [(⟨vs, cs⟩ : Fld)]).map Fld.d)) := by
    rw [add_tup _ _ (by simp [szN]; omega), List.map_append]; rfl
  refine ⟨⟨vs, cs⟩, .dat (.tup (cs.map cD)), s7', s12', s13', ⟨hv, hc.len, hc.asc, hc.ok⟩, ?_⟩
  simp only [stF] at ef ⊢
  simp? only [cb_law_form_1, hz0, hr, ef, mul_int' 8 _ (by decide), ev', hz1, hz2, ha]
theorem fields_loop (h20 : LawValuesS Γ (ι 20)) (l l2 : List Int) (kd : D) (hl : Rw l) (hl2 : Rw l2) (n : Nat) (hn : n ≤ 4) :
    ∃ fs s4 s6 s7 s12 s13, FldsOk fs ∧ fs.length = n ∧ forD (.nm 4) (exs Γ false (cb_law_form_1 ι ξ)) ((List.range' 0 n).map fun k : Nat => D.int k) (stF l l2 kd [] .none .none .none .none .none) = .next (stF l l2 kd fs s4 s6 s7 s12 s13) := by
  obtain ⟨δ', ef, fs, s4, s6, s7, s12, s13, rfl, h1, h2⟩ := forD_inv (t := .nm 4) (b := exs Γ false (cb_law_form_1 ι ξ)) (fun i δ => ∃ fs s4 s6 s7 s12 s13, δ = stF l l2 kd fs s4 s6 s7 s12 s13 ∧ FldsOk fs ∧ fs.length = i) (ds := (List.range' 0 n).map fun k : Nat => D.int k) (δ := stF l l2 kd [] .none .none .none .none .none) ⟨[], _, _, _, _, _, rfl, by intro i f hf; simp at hf, rfl⟩ (fun i d δ hd hI => by
    obtain ⟨hi, rfl⟩ := range_get hd
    obtain ⟨fs, s4, s6, s7, s12, s13, rfl, h1, h2⟩ := hI
    obtain ⟨f, s6', s7', s12', s13', hf, e⟩ := field_step (Γ := Γ) (ι := ι) (ξ := ξ) h20 l l2 kd hl hl2 fs h1 i h2.symm (by omega) s6 s7 s12 s13
    exact ⟨_, by simp? only [stF], _, .inl e, fs ++ [f], _, _, _, _, _, rfl, h1.snoc hf, by simp [h2]⟩)
  exact ⟨fs, s4, s6, s7, s12, s13, h1, by simpa using h2, ef⟩
structure PsOk (fs : List Fld) (ps : List (Nat × Int)) : Prop where
  nd : (ps.map (·.1)).Nodup
  ok : ∀ p ∈ ps, ∃ g, fs[p.1]? = some g ∧ p.2 ∈ g.vs
abbrev stR (l l2 : List Int) (kd : D) (fs : List Fld) (s4 s5 s6 s7 s8 s9 s10 s11 s12 s13 : S) : List S := [.dat (.lst (l.map .int)), .dat (.lst (l2.map .int)), .dat kd, .dat (.tup (fs.map Fld.d)), s4, s5, s6, s7, s8, s9, s10, s11, s12, s13, .none, .none]
theorem pair_step (l l2 : List Int) (kd : D) (hl2 : Rw l2) (fs : List Fld) (hfs : FldsOk fs) (m a : Nat) (ha : a < fs.length) (ps : List (Nat × Int)) (hp : PsOk fs ps) (hpl : ps.length < 100) (s5 s6 s7 s8 s11 s12 s13 : S) :
    ∃ ps' s12', PsOk fs ps' ∧ 1 ≤ ps'.length ∧ ps.length ≤ ps'.length ∧ ps'.length ≤ ps.length + 1 ∧ exs Γ false (cb_law_form_4 ι ξ) (stR l l2 kd fs (.dat (.int m)) s5 s6 s7 s8 (.own (ps.map prD)) (.dat (.int a)) s11 s12 s13) = .next (stR l l2 kd fs (.dat (.int m)) s5 s6 s7 s8 (.own (ps'.map prD)) (.dat (.int a)) s11 s12' s13) := by
  have lc := lcD_map (t := .tup [15, 14]) (tst := (evo Γ false .no).T) (elt := (ev Γ false (.var 15)).E) (δ := [.dat (.lst (l.map .int)), .dat (.lst (l2.map .int)), .dat kd, .dat (.tup (fs.map Fld.d)), .dat (.int m), s5, s6, s7, s8, .own (ps.map prD), .dat (.int a), s11, s12, s13, .none, .none]) prD (fun _ => true) (fun p => .int p.1) (xs := ps) (fun p hp =>
    ⟨[.dat (.lst (l.map .int)), .dat (.lst (l2.map .int)), .dat kd, .dat (.tup (fs.map Fld.d)), .dat (.int m), s5, s6, s7, s8, .own (ps.map prD), .dat (.int a), s11, s12, s13, .dat (.int p.2), .dat (.int p.1)], by simp? only [prD], by simp? only [], fun _ => by simp? only []⟩)
  rw [List.filter_eq_self.mpr (fun _ _ => rfl)] at lc
  have e1 : (ps.map fun p => D.int (p.1 : Int)) = nD (ps.map (·.1)) := by rw [nD, List.map_map]; rfl
  rw [e1] at lc
  by_cases c : a ∈ ps.map (·.1)
  · have h1 : 1 ≤ ps.length := by
      cases ps with
      | nil => simp at c
      | cons _ _ => simp
    refine ⟨ps, s12, hp, h1, Nat.le_refl _, by omega, ?_⟩
    simp? only [cb_law_form_4, stR, lc, nin_nD, c]
  · obtain ⟨g, hg⟩ : ∃ g, fs[a]? = some g := ⟨fs[a], List.getElem?_eq_getElem ha⟩
    have ok := (hfs a g hg).1
    have hlen : 0 < g.vs.length := by
      rcases Nat.eq_zero_or_pos g.vs.length with z | z
      · exact absurd (List.eq_nil_of_length_eq_zero z) ok.1
      · exact z
    have hlv : bfD .len [iD g.vs] = some (.int g.vs.length) := by show some (D.int ((g.vs.map D.int).length : Nat)) = _; rw [List.length_map]
    let k : Nat := dr l2 ((40 + (m : Int) + (a : Int)) % 60).toNat % g.vs.length
    have hk : k < g.vs.length := Nat.mod_lt _ hlen
    obtain ⟨v, hv⟩ : ∃ v, g.vs[k]? = some v := ⟨g.vs[k], List.getElem?_eq_getElem hk⟩
    have hvi : idxD (iD g.vs) (.int ((dr l2 ((40 + (m : Int) + (a : Int)) % 60).toNat : Int) % (g.vs.length : Int))) = some (.int v) := by
      show atI (g.vs.map D.int) _ = _
      rw [← at_map D.int hv]
      congr 1
    have hz2 : 2 ≤ szN := by decide
    have hpz : (ps.map prD).length < szN := by simp [szN]; omega
    refine ⟨ps ++ [(a, v)], .dat (iD g.vs), ⟨?_, ?_⟩, by simp, by simp, by simp, ?_⟩
    · rw [List.map_append]
      refine List.nodup_append.mpr ⟨hp.nd, by simp, fun x hx y hy => ?_⟩
      simp at hy
      subst hy
      intro e
      subst e
      exact c hx
    · intro p hp'
      rcases List.mem_append.mp hp' with z | z
      · exact hp.ok p z
      · simp at z; subst z; exact ⟨g, hg, List.mem_of_getElem? hv⟩
    · simp? only [cb_law_form_4, stR, lc, nin_nD, c, at_map Fld.d hg, fD_0, mod_int _ 60 (by decide), at60 hl2, hlv, mod_int _ _ (show (0 : Int) < (g.vs.length : Int) by omega), hvi, hz2, hpz, List.map_append]
      rfl
end
end PD
namespace PD
open PySem L2
section
variable {Γ : Gam} {ι ξ : Nat → Nat}
theorem ne_needs {k : Nat} (h : k < 3) : cmpD .ne (.str (kdS k)) (.str [110, 101, 101, 100, 115]) = some (!decide (k = 1)) := by
  rcases k with _ | _ | _ | k
  · rfl
  · rfl
  · rfl
  · omega
theorem rule_step (l l2 : List Int) (ks : List Nat) (hks : ∀ a ∈ ks, a < 3) (hne : ks ≠ []) (hl : Rw l) (hl2 : Rw l2) (fs : List Fld) (hfs : FldsOk fs) (hf0 : fs ≠ []) (hf4 : fs.length ≤ 4) (m : Nat) (hm : m < 4) (rs : List Rul) (hrs : ∀ r ∈ rs, RulOk fs r) (hrl : rs.length ≤ m) (s6 s7 s8 s9 s10 s11 s12 s13 : S) :
    ∃ (rs' : List Rul) (s8' s9' s10' s11' s12' : S), (∀ r ∈ rs', RulOk fs r) ∧ rs'.length ≤ m + 1 ∧ exs Γ false (cb_law_form_3 ι ξ) (stR l l2 (ksD ks) fs (.dat (.int m)) (.dat (.tup (rs.map Rul.d))) s6 s7 s8 s9 s10 s11 s12 s13) = .next (stR l l2 (ksD ks) fs (.dat (.int m)) (.dat (.tup (rs'.map Rul.d))) s6 s7 s8' s9' s10' s11' s12' s13) := by
  have hflen : 0 < fs.length := by
    rcases Nat.eq_zero_or_pos fs.length with z | z
    · exact absurd (List.eq_nil_of_length_eq_zero z) hf0
    · exact z
  have hklen : 0 < ks.length := by
    rcases Nat.eq_zero_or_pos ks.length with z | z
    · exact absurd (List.eq_nil_of_length_eq_zero z) hne
    · exact z
  let n : Nat := 1 + dr l (45 + m) % 3
  let od : Nat → Nat := fun k => (dr l (41 + m) + k) % fs.length
  have h45 : atI (l.map D.int) (45 + (m : Int)) = some (.int (dr l (45 + m))) := by rw [atZ hl _ (by omega) (by omega)]; congr 3
  have h41 : atI (l.map D.int) (41 + (m : Int)) = some (.int (dr l (41 + m))) := by rw [atZ hl _ (by omega) (by omega)]; congr 3
  have h50 : atI (l.map D.int) (50 + (m : Int)) = some (.int (dr l (50 + m))) := by rw [atZ hl _ (by omega) (by omega)]; congr 3
  have hfl : (((fs.map Fld.d).length : Nat) : Int) = (fs.length : Int) := by rw [List.length_map]
  have lc := lcD_map (t := .nm 10) (tst := (evo Γ false .no).T) (elt := (ev Γ false (ce_law_form_1 ι ξ)).E) (δ := [.dat (.lst (l.map .int)), .dat (.lst (l2.map .int)), .dat (ksD ks), .dat (.tup (fs.map Fld.d)), .dat (.int m), .dat (.tup (rs.map Rul.d)), s6, s7, s8, s9, .none, s11, s12, s13, .none, .none]) (fun k : Nat => .int k) (fun _ => true) (fun k => .int (od k)) (xs := List.range' 0 n) (fun k hk =>
    ⟨[.dat (.lst (l.map .int)), .dat (.lst (l2.map .int)), .dat (ksD ks), .dat (.tup (fs.map Fld.d)), .dat (.int m), .dat (.tup (rs.map Rul.d)), s6, s7, s8, s9, .dat (.int k), s11, s12, s13, .none, .none], by simp? only [], by simp? only [], fun _ => by
      simp? only [ce_law_form_1, h41, hfl, mod_int _ _ (show (0 : Int) < (fs.length : Int) by omega), od]
      simp⟩)
  rw [List.filter_eq_self.mpr (fun _ _ => rfl)] at lc
  have hn : (1 : Int) + (dr l (45 + m) : Int) % 3 = (n : Int) := by simp only [n]; omega
  have hn3 : n ≤ 3 ∧ 1 ≤ n := by simp only [n]; omega
  have hr := rng1_nat n (by omega)
  have hz0 : 0 ≤ szN := Nat.zero_le _
  have hz1 : 1 ≤ szN := by decide
  have hz2 : 2 ≤ szN := by decide
  obtain ⟨δ', ef, ps, s10', s12', rfl, hp1, hp2, hp3⟩ := forD_inv (t := .nm 10) (b := exs Γ false (cb_law_form_4 ι ξ)) (fun i δ => ∃ ps s10 s12, δ = stR l l2 (ksD ks) fs (.dat (.int m)) (.dat (.tup (rs.map Rul.d))) s6 s7 (.dat (.lst ((List.range' 0 n).map fun k => .int (od k)))) (.own (ps.map prD)) s10 s11 s12 s13 ∧ PsOk fs ps ∧ ps.length ≤ i ∧ (1 ≤ i → 1 ≤ ps.length)) (ds := (List.range' 0 n).map fun k => .int (od k)) (δ := stR l l2 (ksD ks) fs (.dat (.int m)) (.dat (.tup (rs.map Rul.d))) s6 s7 (.dat (.lst ((List.range' 0 n).map fun k => .int (od k)))) (.own []) s10 s11 s12 s13) ⟨[], s10, s12, rfl, ⟨by simp, by simp⟩, by simp, by omega⟩ (fun i d δ hd hI => by
    have hi := lt_of_get hd
    simp at hi
    rw [List.getElem?_map, List.getElem?_range' hi] at hd
    simp at hd
    subst hd
    obtain ⟨ps, s10, s12, rfl, hp1, hp2, hp3⟩ := hI
    obtain ⟨ps', s12', g1, g2, g3, g4, e⟩ := pair_step (Γ := Γ) (ι := ι) (ξ := ξ) l l2 (ksD ks) hl2 fs hfs m (od i) (Nat.mod_lt _ hflen) ps hp1 (by omega) (.dat (.tup (rs.map Rul.d))) s6 s7 (.dat (.lst ((List.range' 0 n).map fun k => .int (od k)))) s11 s12 s13
    exact ⟨_, by simp? only [stR], _, .inl e, ps', _, _, rfl, g1, by omega, fun _ => g2⟩)
  simp only [List.length_map, List.length_range'] at hp2 hp3
  let q : Nat := dr l (50 + m) % ks.length
  obtain ⟨kd, hkd⟩ : ∃ kd, ks[q]? = some kd := ⟨ks[q]'(Nat.mod_lt _ hklen), List.getElem?_eq_getElem (Nat.mod_lt _ hklen)⟩
  have hk3 := hks kd (List.mem_of_getElem? hkd)
  have hkl : bfD .len [ksD ks] = some (.int ks.length) := by show some (D.int ((ks.map _).length : Nat)) = _; rw [List.length_map]
  have hki : idxD (ksD ks) (.int ((dr l (50 + m) : Int) % (ks.length : Int))) = some (.str (kdS kd)) := by
    show atI (ks.map fun k => D.str (kdS k)) _ = _
    rw [← at_map (fun k => D.str (kdS k)) hkd]
    congr 1
  have hpl : (((ps.map prD).length : Nat) : Int) = (ps.length : Int) := by rw [List.length_map]
  have ht : bfD .tuple [.lst (ps.map prD)] = some (.tup (ps.map prD)) := rfl
  have ha : binD .add (.tup (rs.map Rul.d)) (.tup [.tup [.str (kdS kd), .tup (ps.map prD)]]) = some (.tup ((rs ++ [(⟨kd, ps⟩ : Rul)]).map Rul.d)) := by
    rw [add_tup _ _ (by simp [szN]; omega), List.map_append]; rfl
  have hR : ¬ kd = 1 ∨ 1 < ps.length → RulOk fs ⟨kd, ps⟩ := fun h => ⟨hk3, hp3 hn3.2, by show ps.length ≤ 3; omega, fun e => by
    rcases h with h | h
    · exact absurd e h
    · exact h, hp1.nd, hp1.ok⟩
  simp only [stR] at ef
  by_cases c1 : kd = 1
  · have hnn : decide (kdS kd = [110, 101, 101, 100, 115]) = true := (kd_needs hk3).trans (by simp [c1])
    by_cases c2 : 1 < ps.length
    · have c2' : (1 : Int) < (ps.length : Int) := by omega
      refine ⟨rs ++ [(⟨kd, ps⟩ : Rul)], .dat (.lst ((List.range' 0 n).map fun k => .int (od k))), .own (ps.map prD), s10', .dat (.str (kdS kd)), s12', ?_, by simp; omega, ?_⟩
      · intro r hr'
        rcases List.mem_append.mp hr' with z | z
        · exact hrs r z
        · simp at z; subst z; exact hR (.inr c2)
      · simp? only [cb_law_form_3, stR, h45, mod_int _ 3 (by decide), hn, hr, lc, hz0, ef, h50, hkl, mod_int _ _ (show (0 : Int) < (ks.length : Int) by omega), hki, hnn, hpl, c2', ht, hz1, hz2, ha]
    · have c2' : ¬ (1 : Int) < (ps.length : Int) := by omega
      refine ⟨rs, .dat (.lst ((List.range' 0 n).map fun k => .int (od k))), .own (ps.map prD), s10', .dat (.str (kdS kd)), s12', hrs, by omega, ?_⟩
      simp? only [cb_law_form_3, stR, h45, mod_int _ 3 (by decide), hn, hr, lc, hz0, ef, h50, hkl, mod_int _ _ (show (0 : Int) < (ks.length : Int) by omega), hki, hnn, hpl, c2']
  · refine ⟨rs ++ [(⟨kd, ps⟩ : Rul)], .dat (.lst ((List.range' 0 n).map fun k => .int (od k))), .own (ps.map prD), s10', .dat (.str (kdS kd)), s12', ?_, by simp; omega, ?_⟩
    · intro r hr'
      rcases List.mem_append.mp hr' with z | z
      · exact hrs r z
      · simp at z; subst z; exact hR (.inl c1)
    · have hnn : decide (kdS kd = [110, 101, 101, 100, 115]) = false := (kd_needs hk3).trans (by simp [c1])
      simp? only [cb_law_form_3, stR, h45, mod_int _ 3 (by decide), hn, hr, lc, hz0, ef, h50, hkl, mod_int _ _ (show (0 : Int) < (ks.length : Int) by omega), hki, hnn, ht, hz1, hz2, ha]
end
end PD
namespace PD
open PySem L2
section
variable {Γ : Gam} {ι ξ : Nat → Nat}
theorem ne_ks0 (ks : List Nat) : cmpD .ne (ksD ks) (.tup []) = some (!ks.isEmpty) := by
  cases ks with
  | nil => rfl
  | cons a l =>
    rw [cmpD, if_pos (by simp [eqOk, ksD, noScr, noScrs, noScrs_ks, dep, deps_ks, deps]), ksD, List.map_cons, eqD, eqDs]
    · rfl
    all_goals simp
theorem rules_loop (l l2 : List Int) (ks : List Nat) (hks : ∀ a ∈ ks, a < 3) (hl : Rw l) (hl2 : Rw l2) (fs : List Fld) (hfs : FldsOk fs) (hf0 : fs ≠ []) (hf4 : fs.length ≤ 4) (n : Nat) (hn : n < 4) (hne : 0 < n → ks ≠ []) (s4 s6 s7 s12 s13 : S) :
    ∃ (rs : List Rul) (s4' s8 s9 s10 s11 s12' : S), (∀ r ∈ rs, RulOk fs r) ∧ rs.length ≤ n ∧ forD (.nm 4) (exs Γ false (cb_law_form_3 ι ξ)) ((List.range' 0 n).map fun k : Nat => D.int k) (stR l l2 (ksD ks) fs s4 (.dat (.tup [])) s6 s7 .none .none .none .none s12 s13) = .next (stR l l2 (ksD ks) fs s4' (.dat (.tup (rs.map Rul.d))) s6 s7 s8 s9 s10 s11 s12' s13) := by
  obtain ⟨δ', ef, rs, s4', s8, s9, s10, s11, s12', rfl, h1, h2⟩ := forD_inv (t := .nm 4) (b := exs Γ false (cb_law_form_3 ι ξ)) (fun i δ => ∃ (rs : List Rul) (s4 s8 s9 s10 s11 s12 : S), δ = stR l l2 (ksD ks) fs s4 (.dat (.tup (rs.map Rul.d))) s6 s7 s8 s9 s10 s11 s12 s13 ∧ (∀ r ∈ rs, RulOk fs r) ∧ rs.length ≤ i) (ds := (List.range' 0 n).map fun k : Nat => D.int k) (δ := stR l l2 (ksD ks) fs s4 (.dat (.tup [])) s6 s7 .none .none .none .none s12 s13) ⟨[], _, _, _, _, _, _, rfl, by simp, by simp⟩ (fun i d δ hd hI => by
    obtain ⟨hi, rfl⟩ := range_get hd
    obtain ⟨rs, s4, s8, s9, s10, s11, s12, rfl, h1, h2⟩ := hI
    obtain ⟨rs', s8', s9', s10', s11', s12', g1, g2, e⟩ := rule_step (Γ := Γ) (ι := ι) (ξ := ξ) l l2 ks hks (hne (by omega)) hl hl2 fs hfs hf0 hf4 i (by omega) rs h1 h2 s6 s7 s8 s9 s10 s11 s12 s13
    exact ⟨_, by simp? only [stR], _, .inl e, rs', _, _, _, _, _, _, rfl, g1, g2⟩)
  exact ⟨rs, s4', s8, s9, s10, s11, s12', h1, by simpa using h2, ef⟩
theorem law_form_c (h20 : LawValuesS Γ (ι 20)) (l l2 : List Int) (hl : Rw l) (hl2 : Rw l2) (ks : List Nat) (hks : ∀ a ∈ ks, a < 3) : ∃ F, FrmOk F ∧ (ks = [] → F.rs = []) ∧ evF Γ 3 16 (cb_law_form ι ξ) [.lst (l.map .int), .lst (l2.map .int), ksD ks] = .ok F.d := by
  let n : Nat := 1 + dr l 0 % 4
  have hn : n ≤ 4 ∧ 1 ≤ n := by simp only [n]; omega
  have e0 : atI (l.map D.int) 0 = some (.int (dr l 0)) := atZ hl 0 (by omega) (by omega)
  have e40 : atI (l.map D.int) 40 = some (.int (dr l 40)) := atZ hl 40 (by omega) (by omega)
  have e55 : atI (l.map D.int) 55 = some (.int (dr l 55)) := atZ hl 55 (by omega) (by omega)
  have hn' : (1 : Int) + (dr l 0 : Int) % 4 = (n : Int) := by simp only [n]; omega
  have hr := rng1_nat n (by omega)
  obtain ⟨fs, s4, s6, s7, s12, s13, g1, g2, ef⟩ := fields_loop (Γ := Γ) (ι := ι) (ξ := ξ) h20 l l2 (ksD ks) hl hl2 n hn.1
  have hf0 : fs ≠ [] := fun e => by rw [e] at g2; simp at g2; omega
  let n2 : Nat := if ks.isEmpty then 0 else dr l 40 % 4
  have hn2 : n2 < 4 := by simp only [n2]; split <;> omega
  obtain ⟨rs, s4', s8, s9, s10, s11, s12', g3, g4, eg⟩ := rules_loop (Γ := Γ) (ι := ι) (ξ := ξ) l l2 ks hks hl hl2 fs g1 hf0 (by omega) n2 hn2 (fun h e => by simp [n2, e] at h) s4 s6 s7 s12 s13
  have hr2 := rng1_nat n2 (by omega)
  have hz0 : 0 ≤ szN := Nat.zero_le _
  have hz2 : 2 ≤ szN := by decide
  have hz3 : 3 ≤ szN := by decide
  obtain ⟨al, hal⟩ : ∃ al, atI [D.str [115, 104, 111, 119, 110], .str [97, 108, 108]] ((dr l 55 : Int) % 2) = some (.str (sendS al)) := by
    have : (dr l 55 : Int) % 2 = 0 ∨ (dr l 55 : Int) % 2 = 1 := by omega
    rcases this with q | q
    · rw [q]; exact ⟨false, at0 _ _⟩
    · rw [q]; exact ⟨true, at1 _ _ _⟩
  refine ⟨⟨fs, rs, al⟩, ⟨hf0, by show fs.length ≤ 4; omega, g1, by show rs.length ≤ 4; omega, g3⟩, fun e => by
    have : n2 = 0 := by simp [n2, e]
    exact List.eq_nil_of_length_eq_zero (show rs.length = 0 by omega), ?_⟩
  simp only [stF, List.map_nil] at ef
  simp only [stR] at eg
  cases hk : ks.isEmpty with
  | true =>
    have hh : n2 = 0 := by simp [n2, hk]
    rw [hh, List.range'_zero, List.map_nil] at eg
    have hr0 : rng1 (.int 0) = .ok [] := rfl
    simp? only [evF, cb_law_form, hz0, e0, mod_int _ 4 (by decide), hn', hr, ef, ne_ks0, hk, hr0, eg, hz2, e55, mod_int _ 2 (by decide), hal, hz3]
    rfl
  | false =>
    have hh : (dr l 40 : Int) % 4 = (n2 : Int) := by simp [n2, hk]
    simp? only [evF, cb_law_form, hz0, e0, mod_int _ 4 (by decide), hn', hr, ef, ne_ks0, hk, e40, hh, hr2, eg, hz2, e55, mod_int _ 2 (by decide), hal, hz3]
    rfl
end
end PD
namespace PD
open PySem L2
def opts (f : Fld) : List (Option Int) := none :: f.vs.map some
def exts (f : Fld) (r : List (Option Int)) : List (List (Option Int)) := (opts f).map fun o => r ++ [o]
def recIn (f : Fld) (b : List (List (Option Int))) (r : List (Option Int)) : List (List (Option Int)) := b ++ exts f r
def recStep (b : List (List (Option Int))) (f : Fld) : List (List (Option Int)) := b.foldl (recIn f) []
def recsL (fs : List Fld) : List (List (Option Int)) := fs.foldl recStep [[]]
theorem opts_d (f : Fld) : (D.non :: f.vs.map .int) = (opts f).map oD := by
  rw [opts, List.map_cons, List.map_map]; rfl
theorem foldl_app {α β : Type} (g : α → List β) : ∀ (xs : List α) (b : List β), xs.foldl (fun b x => b ++ g x) b = b ++ xs.flatMap g
  | [], b => by simp
  | x :: xs, b => by rw [List.foldl_cons, foldl_app g xs, List.flatMap_cons, List.append_assoc]
theorem recStep_eq (b : List (List (Option Int))) (f : Fld) : recStep b f = b.flatMap (exts f) := by
  unfold recStep recIn
  rw [foldl_app, List.nil_append]
theorem flat_le {α β : Type} (g : α → List β) (k : Nat) : ∀ xs : List α, (∀ x ∈ xs, (g x).length ≤ k) → (xs.flatMap g).length ≤ k * xs.length
  | [], _ => by simp
  | x :: xs, h => by
    have h1 := h x List.mem_cons_self
    have h2 := flat_le g k xs fun y hy => h y (List.mem_cons_of_mem _ hy)
    rw [List.flatMap_cons, List.length_append, List.length_cons, Nat.mul_succ]
    omega
theorem exts_len {f : Fld} (h : f.vs.length ≤ 4) (r : List (Option Int)) : (exts f r).length ≤ 5 := by simp [exts, opts]; omega
/-- the records of some fields -/
structure RecsOk (fs : List Fld) (b : List (List (Option Int))) : Prop where
  ne : b ≠ []
  le : b.length ≤ 5 ^ fs.length
  len : ∀ r ∈ b, r.length = fs.length
  val : ∀ r ∈ b, ∀ (i : Nat) (v : Int), r[i]? = some (some v) → ∃ f, fs[i]? = some f ∧ v ∈ f.vs
theorem RecsOk.step {fs : List Fld} {b : List (List (Option Int))} (h : RecsOk fs b) {f : Fld} (hf : f.vs.length ≤ 4) : RecsOk (fs ++ [f]) (recStep b f) := by
  rw [recStep_eq]
  refine ⟨?_, ?_, ?_, ?_⟩
  · cases b with
    | nil => exact absurd rfl h.ne
    | cons r b => simp [exts, opts]
  · have := flat_le (exts f) 5 b fun r _ => exts_len hf r
    have h2 := Nat.mul_le_mul_left 5 h.le
    rw [List.length_append, List.length_cons, List.length_nil, Nat.pow_succ]
    omega
  · intro r hr
    obtain ⟨r0, h0, h1⟩ := List.mem_flatMap.mp hr
    obtain ⟨o, _, rfl⟩ := List.mem_map.mp h1
    simp [h.len r0 h0]
  · intro r hr i v hv
    obtain ⟨r0, h0, h1⟩ := List.mem_flatMap.mp hr
    obtain ⟨o, ho, rfl⟩ := List.mem_map.mp h1
    have hl := h.len r0 h0
    rcases Nat.lt_or_ge i r0.length with z | z
    · rw [List.getElem?_append_left z] at hv
      obtain ⟨g, hg, hm⟩ := h.val r0 h0 i v hv
      exact ⟨g, by rw [List.getElem?_append_left (by omega)]; exact hg, hm⟩
    · have hi : i = r0.length := by
        have := lt_of_get hv
        simp at this; omega
      subst hi
      rw [List.getElem?_append_right (Nat.le_refl _)] at hv
      simp at hv
      subst hv
      refine ⟨f, by rw [hl, List.getElem?_append_right (Nat.le_refl _)]; simp, ?_⟩
      simpa [opts] using ho
theorem recs_ok : ∀ (fs pre : List Fld) (b : List (List (Option Int))), RecsOk pre b → (∀ f ∈ fs, f.vs.length ≤ 4) → RecsOk (pre ++ fs) (fs.foldl recStep b)
  | [], pre, b, h, _ => by simpa using h
  | f :: fs, pre, b, h, hf => by
    have := recs_ok fs (pre ++ [f]) (recStep b f) (h.step (hf f List.mem_cons_self)) fun g hg => hf g (List.mem_cons_of_mem _ hg)
    simpa using this
theorem recs0 : RecsOk [] [[]] := ⟨by simp, by simp, by simp, by simp⟩
theorem recsL_ok (fs : List Fld) (h : ∀ f ∈ fs, f.vs.length ≤ 4) : RecsOk fs (recsL fs) := by
  have := recs_ok fs [] [[]] recs0 h
  rw [List.nil_append] at this
  exact this
theorem fld_le {F : Frm} (hF : FrmOk F) : ∀ f ∈ F.fs, f.vs.length ≤ 4 := fun f hf => by
  obtain ⟨i, hi⟩ := List.getElem?_of_mem hf
  exact (hF.fld i f hi).1.2.1
section
variable {Γ : Gam} {ι ξ : Nat → Nat}
theorem rec_snoc (r : List (Option Int)) (o : Option Int) (h : r.length ≤ 100) : binD .add (rcD r) (.tup [oD o]) = some (rcD (r ++ [o])) := by
  rw [rcD, add_tup _ _ (by simp [szN]; omega), rcD, List.map_append]; rfl
theorem rec_in (F : Frm) (f : Fld) (hf : f.vs.length ≤ 4) (found : D) (cs : D) (b : List (List (Option Int))) (r : List (Option Int)) (hr : r.length ≤ 100) (hb : b.length ≤ 100000) (s6 : S) :
    exs Γ false (cb_law_records_2 ι ξ) [.dat F.d, .dat found, .dat (iD f.vs), .dat cs, .dat (.lst (b.map rcD)), .dat (rcD r), s6] = .next [.dat F.d, .dat found, .dat (iD f.vs), .dat cs, .dat (.lst ((recIn f b r).map rcD)), .dat (rcD r), s6] := by
  have hz1 : 1 ≤ szN := by decide
  have ha : binD .add (.tup [.non]) (iD f.vs) = some (.tup ((opts f).map oD)) := by
    rw [iD, add_tup _ _ (by simp [szN]; omega), ← opts_d]; rfl
  have lc := lcD_map (t := .nm 6) (tst := (evo Γ false .no).T) (elt := (ev Γ false (ce_law_records_1 ι ξ)).E) (δ := [.dat F.d, .dat found, .dat (iD f.vs), .dat cs, .dat (.lst (b.map rcD)), .dat (rcD r), .none]) oD (fun _ => true) (fun o => rcD (r ++ [o])) (xs := opts f) (fun o ho =>
    ⟨[.dat F.d, .dat found, .dat (iD f.vs), .dat cs, .dat (.lst (b.map rcD)), .dat (rcD r), .dat (oD o)], by simp? only [], by simp? only [], fun _ => by simp? only [ce_law_records_1, hz1, rec_snoc r o hr]⟩)
  rw [List.filter_eq_self.mpr (fun _ _ => rfl)] at lc
  have hb2 : binD .add (.lst (b.map rcD)) (.lst ((opts f).map fun o => rcD (r ++ [o]))) = some (.lst ((recIn f b r).map rcD)) := by
    rw [add_lst _ _ (by simp [szN, opts]; omega), recIn, List.map_append, exts, List.map_map]; rfl
  simp? only [cb_law_records_2, hz1, ha, lc, hb2]
theorem foldl_recIn_len (f : Fld) (hf : f.vs.length ≤ 4) (pre : List (List (Option Int))) : (pre.foldl (recIn f) []).length ≤ 5 * pre.length := by
  have : pre.foldl (recIn f) [] = pre.flatMap (exts f) := recStep_eq pre f
  rw [this]
  exact flat_le (exts f) 5 pre fun r _ => exts_len hf r
theorem law_records_c (F : Frm) (hF : FrmOk F) : evF Γ 1 7 (cb_law_records ι ξ) [F.d] = .ok (.lst ((recsL F.fs).map rcD)) := by
  have hz0 : 0 ≤ szN := Nat.zero_le _
  have hz1 : 1 ≤ szN := by decide
  have h0 : (D.lst [.tup []]) = .lst (([[]] : List (List (Option Int))).map rcD) := rfl
  obtain ⟨δ', ef, s2, s3, s4, s5, rfl⟩ := forD_pre (t := .tup [2, 3]) (body := exs Γ false (cb_law_records_1 ι ξ)) Fld.d (fun (b : List (List (Option Int))) δ => ∃ s2 s3 s4 s5, δ = [.dat F.d, .dat (.lst (b.map rcD)), s2, s3, s4, s5, .none]) recStep F.fs [[]] [.dat F.d, .dat (.lst [.tup []]), .none, .none, .none, .none, .none] ⟨.none, .none, .none, .none, rfl⟩ (fun pre f post e δ hJ => by
    obtain ⟨s2, s3, s4, s5, rfl⟩ := hJ
    have hmem : ∀ g ∈ pre, g.vs.length ≤ 4 := fun g hg => fld_le hF g (by rw [e]; exact List.mem_append_left _ hg)
    have hf : f.vs.length ≤ 4 := fld_le hF f (by rw [e]; simp)
    have hpl : pre.length ≤ 3 := by
      have := congrArg List.length e
      have := hF.le
      simp at *
      omega
    have ok := recs_ok pre [] [[]] recs0 hmem
    rw [List.nil_append] at ok
    generalize pre.foldl recStep [[]] = b at ok
    have hb : b.length ≤ 125 := by
      have h1 := ok.le
      have h2 : 5 ^ pre.length ≤ 5 ^ 3 := Nat.pow_le_pow_right (by decide) hpl
      omega
    obtain ⟨δ2, eg, s5', rfl⟩ := forD_pre (t := .nm 5) (body := exs Γ false (cb_law_records_2 ι ξ)) rcD (fun (c : List (List (Option Int))) δ => ∃ s5, δ = [.dat F.d, .dat (.lst (b.map rcD)), .dat (iD f.vs), .dat (.tup (f.cs.map cD)), .dat (.lst (c.map rcD)), s5, .none]) (recIn f) b [] [.dat F.d, .dat (.lst (b.map rcD)), .dat (iD f.vs), .dat (.tup (f.cs.map cD)), .dat (.lst []), s5, .none] ⟨s5, rfl⟩ (fun pre2 r post2 e2 δ hJ => by
      obtain ⟨s5, rfl⟩ := hJ
      have hr := ok.len r (by rw [e2]; simp)
      have hl := foldl_recIn_len f hf pre2
      have hpl2 : pre2.length ≤ 125 := by
        have := congrArg List.length e2
        simp at this
        omega
      exact ⟨_, by simp? only [], _, .inl (rec_in (Γ := Γ) (ι := ι) (ξ := ξ) F f hf _ _ _ r (by omega) (by omega) .none), _, rfl⟩)
    refine ⟨[.dat F.d, .dat (.lst (b.map rcD)), .dat (iD f.vs), .dat (.tup (f.cs.map cD)), s4, s5, .none], rfl, _, .inl ?_, .dat (iD f.vs), .dat (.tup (f.cs.map cD)), .dat (.lst ((recStep b f).map rcD)), s5', rfl⟩
    simp? only [cb_law_records_1, hz0, eg, recStep])
  simp? only [evF, cb_law_records, hz0, hz1, FD_0, ef, recsL]
theorem recOk_of {F : Frm} (hF : FrmOk F) {r : List (Option Int)} (h : r ∈ recsL F.fs) : RecOk F r := ⟨(recsL_ok F.fs (fld_le hF)).len r h, (recsL_ok F.fs (fld_le hF)).val r h⟩
def enD (e : Nat × Option Int) : D := .tup [.int e.1, oD e.2]
def entsL (fs : List Fld) : List (Nat × Option Int) := (fs.mapIdx fun i x => (i, x)).foldl (fun b q => b ++ (opts q.2).map fun o => (q.1, o)) []
theorem entsL_eq (fs : List Fld) : entsL fs = (fs.mapIdx fun i x => (i, x)).flatMap fun q => (opts q.2).map fun o => (q.1, o) := by
  unfold entsL
  rw [foldl_app, List.nil_append]
theorem ents_ok {F : Frm} {e : Nat × Option Int} (h : e ∈ entsL F.fs) : EntOk F e.1 e.2 := by
  rw [entsL_eq] at h
  obtain ⟨q, hq, h1⟩ := List.mem_flatMap.mp h
  obtain ⟨o, ho, rfl⟩ := List.mem_map.mp h1
  refine ⟨q.2, mem_idx hq, fun v hv => ?_⟩
  simp only at hv
  subst hv
  simpa [opts] using ho
theorem ents_ne {F : Frm} (hF : FrmOk F) : entsL F.fs ≠ [] := by
  rw [entsL_eq]
  have := hF.ne
  cases h : F.fs with
  | nil => exact absurd h this
  | cons f fs => simp [opts]
end
end PD
namespace PD
open PySem L2
def entsP (fs : List Fld) (i : Nat) : List (Nat × Option Int) := ((fs.mapIdx fun i x => (i, x)).take i).foldl (fun b q => b ++ (opts q.2).map fun o => (q.1, o)) []
theorem entsP_succ {fs : List Fld} {i : Nat} {f : Fld} (h : fs[i]? = some f) : entsP fs (i + 1) = entsP fs i ++ (opts f).map fun o => (i, o) := by
  unfold entsP
  have e : (fs.mapIdx fun i x => (i, x))[i]? = some (i, f) := by rw [List.getElem?_mapIdx, h]; rfl
  rw [List.take_add_one, e, List.foldl_append]
  rfl
theorem entsP_all (fs : List Fld) : entsP fs fs.length = entsL fs := by
  unfold entsP entsL
  rw [List.take_of_length_le (by simp)]
theorem entsP_len {fs : List Fld} (hf : ∀ f ∈ fs, f.vs.length ≤ 4) (i : Nat) : (entsP fs i).length ≤ 5 * i := by
  unfold entsP
  rw [foldl_app, List.nil_append]
  refine Nat.le_trans (flat_le _ 5 _ fun q hq => ?_) (Nat.mul_le_mul_left 5 (by simp; omega))
  have := hf q.2 (List.mem_of_getElem? (mem_idx (List.mem_of_mem_take hq)))
  simp [opts]; omega
section
variable {Γ : Gam} {ι ξ : Nat → Nat}
theorem law_entries_c (F : Frm) (hF : FrmOk F) : evF Γ 1 4 (cb_law_entries ι ξ) [F.d] = .ok (.lst ((entsL F.fs).map enD)) := by
  have hz0 : 0 ≤ szN := Nat.zero_le _
  have hz1 : 1 ≤ szN := by decide
  have hz2 : 2 ≤ szN := by decide
  have hle := hF.le
  have hr := rng1_nat F.fs.length (by omega)
  have hfl : (((F.fs.map Fld.d).length : Nat) : Int) = (F.fs.length : Int) := by rw [List.length_map]
  obtain ⟨δ', ef, s2, rfl⟩ := forD_inv (t := .nm 2) (b := exs Γ false (cb_law_entries_1 ι ξ)) (fun i δ => ∃ s2, δ = [.dat F.d, .dat (.lst ((entsP F.fs i).map enD)), s2, .none]) (ds := (List.range' 0 F.fs.length).map fun k : Nat => D.int k) (δ := [.dat F.d, .dat (.lst []), .none, .none]) ⟨.none, rfl⟩ (fun i d δ hd hI => by
    obtain ⟨hi, rfl⟩ := range_get hd
    obtain ⟨s2, rfl⟩ := hI
    obtain ⟨f, hf⟩ : ∃ f, F.fs[i]? = some f := ⟨F.fs[i], List.getElem?_eq_getElem hi⟩
    have hf4 := fld_le hF f (List.mem_of_getElem? hf)
    have ha : binD .add (.tup [.non]) (iD f.vs) = some (.tup ((opts f).map oD)) := by
      rw [iD, add_tup _ _ (by simp [szN]; omega), ← opts_d]; rfl
    have lc := lcD_map (t := .nm 3) (tst := (evo Γ false .no).T) (elt := (ev Γ false (ce_law_entries_1 ι ξ)).E) (δ := [.dat F.d, .dat (.lst ((entsP F.fs i).map enD)), .dat (.int i), .none]) oD (fun _ => true) (fun o => enD (i, o)) (xs := opts f) (fun o ho =>
      ⟨[.dat F.d, .dat (.lst ((entsP F.fs i).map enD)), .dat (.int i), .dat (oD o)], by simp? only [], by simp? only [], fun _ => by simp? only [ce_law_entries_1, hz2, enD]⟩)
    rw [List.filter_eq_self.mpr (fun _ _ => rfl)] at lc
    have hel := entsP_len (fld_le hF) i
    have hb : binD .add (.lst ((entsP F.fs i).map enD)) (.lst ((opts f).map fun o => enD (i, o))) = some (.lst ((entsP F.fs (i + 1)).map enD)) := by
      rw [add_lst _ _ (by simp [szN, opts]; omega), entsP_succ hf, List.map_append, List.map_map]; rfl
    refine ⟨[.dat F.d, .dat (.lst ((entsP F.fs i).map enD)), .dat (.int i), .none], by simp? only [], _, .inl ?_, .dat (.int i), rfl⟩
    simp? only [cb_law_entries_1, hz1, FD_0, at_map Fld.d hf, fD_0, ha, lc, hb])
  simp only [List.length_map, List.length_range', entsP_all] at ef
  simp? only [evF, cb_law_entries, hz0, FD_0, hfl, hr, ef]
end
end PD
namespace PD
open PySem L2
theorem in_oD (o : Option Int) (vs : List Int) : cmpD .inn (oD o) (iD vs) = some (ovIn o vs) := by
  have h : (inD (oD o) (iD vs)).map (fun b => !b) = some (!ovIn o vs) := nin_oD o vs
  show inD (oD o) (iD vs) = _
  cases hx : inD (oD o) (iD vs) with
  | none => rw [hx] at h; cases h
  | some b => rw [hx] at h; simp at h; rw [h]
theorem len_all {α : Type} (p : α → Bool) : ∀ l : List α, decide ((l.filter p).length = l.length) = l.all p
  | [] => by simp
  | a :: l => by
    have ih := len_all p l
    have hl := List.length_filter_le p l
    cases h : p a with
    | true => rw [List.filter_cons_of_pos h, List.length_cons, List.length_cons, List.all_cons, h, Bool.true_and, ← ih]; exact decide_eq_decide.mpr (by omega)
    | false =>
      rw [List.filter_cons_of_neg (by simp [h]), List.length_cons, List.all_cons, h, Bool.false_and]
      exact decide_eq_false (by omega)
theorem len_allI {α β γ : Type} (p : α → Bool) (f : α → β) (g : α → γ) (l : List α) : decide ((((l.filter p).map f).length : Int) = ((l.map g).length : Int)) = l.all p := by
  rw [← len_all, List.length_map, List.length_map]
  exact decide_eq_decide.mpr (by omega)
def shP (F : Frm) (l : List (Option Int)) (i : Nat) : List Nat := ((F.fs.mapIdx fun i x => (i, x)).take i).foldl (shStep l) []
theorem shP_succ {F : Frm} {l : List (Option Int)} {i : Nat} {f : Fld} (h : F.fs[i]? = some f) : shP F l (i + 1) = shStep l (shP F l i) (i, f) := by
  unfold shP
  have e : (F.fs.mapIdx fun i x => (i, x))[i]? = some (i, f) := by rw [List.getElem?_mapIdx, h]; rfl
  rw [List.take_add_one, e, List.foldl_append]
  rfl
theorem shP_all (F : Frm) (l : List (Option Int)) : shP F l F.fs.length = shownL F l := by
  unfold shP shownL
  rw [List.take_of_length_le (by simp)]
theorem shP_len (F : Frm) (l : List (Option Int)) (i : Nat) : (shP F l i).length ≤ i := by
  have := shStep_len l ((F.fs.mapIdx fun i x => (i, x)).take i) []
  simp at this
  unfold shP
  omega
section
variable {Γ : Gam} {ι ξ : Nat → Nat}
theorem law_shown_c (F : Frm) (hF : FrmOk F) (l : List (Option Int)) (hl : l.length = F.fs.length) : evF Γ 2 7 (cb_law_shown ι ξ) [F.d, rcD l] = .ok (.lst (nD (shownL F l))) := by
  have hz0 : 0 ≤ szN := Nat.zero_le _
  have hle := hF.le
  have hr := rng1_nat F.fs.length (by omega)
  have hfl : (((F.fs.map Fld.d).length : Nat) : Int) = (F.fs.length : Int) := by rw [List.length_map]
  obtain ⟨δ', ef, s3, s4, rfl⟩ := forD_inv (t := .nm 3) (b := exs Γ false (cb_law_shown_1 ι ξ)) (fun i δ => ∃ s3 s4, δ = [.dat F.d, .dat (rcD l), .own (nD (shP F l i)), s3, s4, .none, .none]) (ds := (List.range' 0 F.fs.length).map fun k : Nat => D.int k) (δ := [.dat F.d, .dat (rcD l), .own [], .none, .none, .none, .none]) ⟨.none, .none, rfl⟩ (fun i d δ hd hI => by
    obtain ⟨hi, rfl⟩ := range_get hd
    obtain ⟨s3, s4, rfl⟩ := hI
    obtain ⟨f, hf⟩ : ∃ f, F.fs[i]? = some f := ⟨F.fs[i], List.getElem?_eq_getElem hi⟩
    have ok := hF.fld i f hf
    have hbl : (nD (shP F l i)).length < szN := by
      have := shP_len F l i
      simp [nD, szN] at this ⊢
      omega
    have lc := lcD_map (t := .tup [5, 6]) (tst := (evo Γ false (ct_law_shown_1 ι ξ)).T) (elt := (ev Γ false (.var 5)).E) (δ := [.dat F.d, .dat (rcD l), .own (nD (shP F l i)), .dat (.int i), s4, .none, .none]) cD (condH (shP F l i) l) (fun c => .int c.1) (xs := f.cs) (fun c hc =>
      ⟨[.dat F.d, .dat (rcD l), .own (nD (shP F l i)), .dat (.int i), s4, .dat (.int c.1), .dat (iD c.2)], by simp? only [cD], by
        obtain ⟨g, hg2, _⟩ := ok.2.2.2 c hc
        have hlt2 := lt_of_get hg2
        rw [List.length_take] at hlt2
        have hri : idxD (rcD l) (.int c.1) = some (oD (gv l c.1)) := at_rec (by omega)
        simp? only [ct_law_shown_1, in_nD, hri, in_oD, condH]
        cases decide (c.1 ∈ shP F l i) <;> simp, fun _ => by simp? only []⟩)
    refine ⟨[.dat F.d, .dat (rcD l), .own (nD (shP F l i)), .dat (.int i), s4, .none, .none], by simp? only [], _, .inl ?_, .dat (.int i), .dat (.lst ((f.cs.filter (condH (shP F l i) l)).map fun c => .int c.1)), rfl⟩
    have hla := len_allI (condH (shP F l i) l) (fun c : Nat × List Int => D.int c.1) cD f.cs
    rw [shP_succ hf]
    simp? only [cb_law_shown_1, FD_0, at_map Fld.d hf, fD_1, lc, hla, hbl, shStep]
    cases f.cs.all (condH (shP F l i) l) <;> simp [nD])
  simp only [List.length_map, List.length_range', shP_all] at ef
  simp? only [evF, cb_law_shown, hz0, FD_0, hfl, hr, ef]
theorem eq_oI (o : Option Int) (v : Int) : cmpD .eq (oD o) (.int v) = some (decide (o = some v)) := by
  cases o with
  | none => rfl
  | some w => simp [oD]
theorem law_holds_c (h29 : ShownS Γ (ι 29)) (F : Frm) (hF : FrmOk F) (l : List (Option Int)) (hl : l.length = F.fs.length) (ps : List (Nat × Int)) (hp : ∀ p ∈ ps, p.1 < l.length) :
    evF Γ 3 6 (cb_law_holds ι ξ) [F.d, rcD l, .tup (ps.map prD)] = .ok (.bl (ps.all (holdP (shownL F l) l))) := by
  have lc := lcD_map (t := .tup [4, 5]) (tst := (evo Γ false (ct_law_holds_1 ι ξ)).T) (elt := (ev Γ false (.var 4)).E) (δ := [.dat F.d, .dat (rcD l), .dat (.tup (ps.map prD)), .dat (.lst (nD (shownL F l))), .none, .none]) prD (holdP (shownL F l) l) (fun p => .int p.1) (xs := ps) (fun p hp' =>
    ⟨[.dat F.d, .dat (rcD l), .dat (.tup (ps.map prD)), .dat (.lst (nD (shownL F l))), .dat (.int p.1), .dat (.int p.2)], by simp? only [prD], by
      have hri : idxD (rcD l) (.int p.1) = some (oD (gv l p.1)) := at_rec (hp p hp')
      simp? only [ct_law_holds_1, in_nD, hri, eq_oI, holdP]
      cases decide (p.1 ∈ shownL F l) <;> simp, fun _ => by simp? only []⟩)
  have hla := len_allI (holdP (shownL F l) l) (fun p : Nat × Int => D.int p.1) prD ps
  simp? only [evF, cb_law_holds, h29 F hF l hl, lc, hla]
def LHoldsS (Γ : Gam) (j : Nat) : Prop := ∀ F, FrmOk F → ∀ l : List (Option Int), l.length = F.fs.length → ∀ ps : List (Nat × Int), (∀ p ∈ ps, p.1 < l.length) → Γ.fn j [F.d, rcD l, .tup (ps.map prD)] = .ok (.bl (ps.all (holdP (shownL F l) l)))
def sendsL (F : Frm) (l : List (Option Int)) : Bool := (shownL F l).all (fun k => (gv l k).isSome) && (brokenL F l [0, 2]).isEmpty
theorem shP_lt {F : Frm} {l : List (Option Int)} : ∀ i, i ≤ F.fs.length → ∀ k ∈ shP F l i, k < i
  | 0, _, k, h => by simp [shP] at h
  | i + 1, hi, k, h => by
    obtain ⟨f, hf⟩ : ∃ f, F.fs[i]? = some f := ⟨F.fs[i], List.getElem?_eq_getElem (by omega)⟩
    rw [shP_succ hf] at h
    have ih := shP_lt (F := F) (l := l) i (by omega)
    unfold shStep at h
    split at h
    · rcases List.mem_append.mp h with h | h
      · have := ih k h; omega
      · simp at h; omega
    · have := ih k h; omega
theorem shown_lt {F : Frm} {l : List (Option Int)} {k : Nat} (h : k ∈ shownL F l) : k < F.fs.length := by
  rw [← shP_all] at h
  exact shP_lt F.fs.length (Nat.le_refl _) k h
theorem isNon_oD (o : Option Int) : isNonD (oD o) = o.isNone := by cases o <;> rfl
theorem ne_nil (ds : List D) (h : noScrs ds = true) (h2 : deps ds ≤ 50) : cmpD .ne (.lst ds) (.lst []) = some (!ds.isEmpty) := by
  rw [cmpD, if_pos (by simp [eqOk, noScr, h, dep, noScrs, deps]), eqD]
  cases ds <;> simp [eqDs]
theorem eq_nil (ds : List D) (h : noScrs ds = true) (h2 : deps ds ≤ 50) : cmpD .eq (.lst ds) (.lst []) = some (ds.isEmpty) := by
  rw [cmpD, if_pos (by simp [eqOk, noScr, h, dep, noScrs, deps]), eqD]
  cases ds <;> simp [eqDs]
theorem noScrs_map {α : Type} (f : α → D) (h : ∀ x, noScr (f x) = true) (l : List α) : noScrs (l.map f) = true := by
  induction l with
  | nil => rfl
  | cons a l ih => rw [List.map_cons, noScrs, ih, h]; rfl
theorem deps_map {α : Type} (f : α → D) (k : Nat) (h : ∀ x, dep (f x) ≤ k) (l : List α) : deps (l.map f) ≤ k := by
  induction l with
  | nil => simp [deps]
  | cons a l ih =>
    rw [List.map_cons, deps]
    have := h a
    exact Nat.max_le.mpr ⟨this, ih⟩
theorem filter_some_all {F : Frm} {l : List (Option Int)} : ((shownL F l).filter fun k => (gv l k).isNone).isEmpty = (shownL F l).all (fun k => (gv l k).isSome) := by
  rw [← filter_none_all]
  congr 2
  funext k
  cases gv l k <;> rfl
def rulB (F : Frm) (l : List (Option Int)) (r : Rul) : Bool := !decide (r.kd = 1) && r.ps.all (holdP (shownL F l) l)
theorem broken_empty {F : Frm} (hF : FrmOk F) (l : List (Option Int)) : (brokenL F l [0, 2]).isEmpty = (F.rs.filter (rulB F l)).isEmpty := by
  have e : (F.rs.mapIdx fun i x => (i, x)).map (·.2) = F.rs := by
    apply List.ext_getElem?
    intro i
    rw [List.getElem?_map, List.getElem?_mapIdx]
    cases F.rs[i]? <;> rfl
  have e2 : F.rs.filter (rulB F l) = ((F.rs.mapIdx fun i x => (i, x)).filter (brokP F l [0, 2])).map (·.2) := by
    conv => lhs; rw [← e]
    rw [List.filter_map]
    congr 1
    apply List.filter_congr
    intro q hq
    have hk := (hF.rul q.2 (List.mem_of_getElem? (mem_idx hq))).1
    simp only [Function.comp, rulB, brokP]
    congr 1
    by_cases h : q.2.kd = 1
    · simp [h]
    · have : q.2.kd = 0 ∨ q.2.kd = 2 := by omega
      simp [h, this]
  rw [e2, brokenL, List.isEmpty_map, List.isEmpty_map]
theorem kd_ne {k : Nat} (hk : k < 3) : cmpD .ne (.str (kdS k)) (.str [110, 101, 101, 100, 115]) = some (!decide (k = 1)) := by
  rcases k with _ | _ | _ | k <;> first | rfl | omega
theorem law_sends_c (h29 : ShownS Γ (ι 29)) (h30 : LHoldsS Γ (ι 30)) (F : Frm) (hF : FrmOk F) (l : List (Option Int)) (hl : l.length = F.fs.length) : evF Γ 2 5 (cb_law_sends ι ξ) [F.d, rcD l] = .ok (.bl (sendsL F l)) := by
  have hz0 : 0 ≤ szN := Nat.zero_le _
  have lc1 := lcD_map (t := .nm 2) (tst := (evo Γ false (ct_law_sends_1 ι ξ)).T) (elt := (ev Γ false (.var 2)).E) (δ := [.dat F.d, .dat (rcD l), .none, .none, .none]) (fun n : Nat => D.int n) (fun k => (gv l k).isNone) (fun n => .int n) (xs := shownL F l) (fun k hk =>
    ⟨[.dat F.d, .dat (rcD l), .dat (.int k), .none, .none], by simp? only [], by
      have hri : idxD (rcD l) (.int k) = some (oD (gv l k)) := at_rec (by rw [hl]; exact shown_lt hk)
      simp? only [ct_law_sends_1, hri, isNon_oD], fun _ => by simp? only []⟩)
  have lc2 := lcD_map (t := .tup [3, 4]) (tst := (evo Γ false (ct_law_sends_2 ι ξ)).T) (elt := (ev Γ false (.var 4)).E) (δ := [.dat F.d, .dat (rcD l), .none, .none, .none]) Rul.d (rulB F l) (fun r => .tup (r.ps.map prD)) (xs := F.rs) (fun r hr =>
    ⟨[.dat F.d, .dat (rcD l), .none, .dat (.str (kdS r.kd)), .dat (.tup (r.ps.map prD))], rfl, by
      have ok := hF.rul r hr
      have hp : ∀ p ∈ r.ps, p.1 < l.length := fun p hp => by
        obtain ⟨g, hg, _⟩ := ok.2.2.2.2.2 p hp
        have := lt_of_get hg
        omega
      have hk2 : decide (kdS r.kd = [110, 101, 101, 100, 115]) = decide (r.kd = 1) := kd_needs ok.1
      simp? only [ct_law_sends_2, hk2, h30 F hF l hl r.ps hp, rulB]
      cases decide (r.kd = 1) <;> simp, fun _ => by simp? only []⟩)
  have e1 : cmpD .ne (.lst (((shownL F l).filter fun k => (gv l k).isNone).map fun n : Nat => D.int n)) (.lst []) = some (!(shownL F l).all (fun k => (gv l k).isSome)) := by
    rw [ne_nil _ (noScrs_map _ (fun _ => rfl) _) (Nat.le_trans (deps_map _ 0 (fun _ => Nat.le_refl _) _) (by decide)), List.isEmpty_map, filter_some_all]
  have e2 : cmpD .eq (.lst ((F.rs.filter (rulB F l)).map fun r => .tup (r.ps.map prD))) (.lst []) = some ((brokenL F l [0, 2]).isEmpty) := by
    rw [eq_nil _ (noScrs_map _ (fun r => by rw [noScr]; exact noScrs_map _ (fun _ => rfl) _) _) (Nat.le_trans (deps_map _ 2 (fun r => by
      rw [dep]
      have := deps_map prD 1 (fun _ => Nat.le_refl _) r.ps
      omega) _) (by decide)), List.isEmpty_map, broken_empty hF]
  have hit : itemsD (.lst (nD (shownL F l))) = .ok ((shownL F l).map fun n : Nat => D.int n) := rfl
  cases hA : (shownL F l).all (fun k => (gv l k).isSome) with
  | true =>
    rw [hA] at e1
    simp? only [evF, cb_law_sends, h29 F hF l hl, hit, lc1, hz0, e1, FD_1, lc2, e2, sendsL, hA, Bool.true_and]
  | false =>
    rw [hA] at e1
    simp? only [evF, cb_law_sends, h29 F hF l hl, hit, lc1, hz0, e1, sendsL, hA, Bool.false_and]
end
end PD
namespace PD
open PySem L2
theorem hks02 : ksD [0, 2] = .tup [.str [101, 110, 116, 114, 121], .str [115, 101, 110, 100]] := rfl
section
variable {Γ : Gam} {ι ξ : Nat → Nat}
def CheckFormS (Γ : Gam) (j : Nat) : Prop := ∀ F, FrmOk F → Γ.fn j [F.d] = .ok .non
def CheckRecS (Γ : Gam) (j : Nat) : Prop := ∀ F, FrmOk F → ∀ l, RecOk F l → Γ.fn j [F.d, rcD l] = .ok .non
theorem can_send_of_c (h9 : ShownS Γ (ι 9)) (h11 : BrokenS Γ (ι 11)) (F : Frm) (hF : FrmOk F) (l : List (Option Int)) (hl : l.length = F.fs.length) : evF Γ 2 3 (cb_can_send_of ι ξ) [F.d, rcD l] = .ok (.bl (sendsL F l)) := by
  have hz2 : 2 ≤ szN := by decide
  have lc1 := lcD_map (t := .nm 2) (tst := (evo Γ false (ct_can_send_of_1 ι ξ)).T) (elt := (ev Γ false (.var 2)).E) (δ := [.dat F.d, .dat (rcD l), .none]) (fun n : Nat => D.int n) (fun k => (gv l k).isNone) (fun n => .int n) (xs := shownL F l) (fun k hk =>
    ⟨[.dat F.d, .dat (rcD l), .dat (.int k)], by simp? only [], by
      have hri : idxD (rcD l) (.int k) = some (oD (gv l k)) := at_rec (by rw [hl]; exact shown_lt hk)
      simp? only [ct_can_send_of_1, hri, isNon_oD], fun _ => by simp? only []⟩)
  have hit : itemsD (.lst (nD (shownL F l))) = .ok ((shownL F l).map fun n : Nat => D.int n) := rfl
  have em : ((((shownL F l).filter fun k => (gv l k).isNone).map fun n : Nat => D.int n).isEmpty) = (shownL F l).all (fun k => (gv l k).isSome) := by
    rw [List.isEmpty_map, filter_some_all]
  have hb := h11 F hF l hl [0, 2] (by simp)
  rw [hks02] at hb
  have em2 : (nD (brokenL F l [0, 2])).isEmpty = (brokenL F l [0, 2]).isEmpty := by simp [nD]
  cases hA : (shownL F l).all (fun k => (gv l k).isSome) with
  | true =>
    rw [hA] at em
    simp? only [evF, cb_can_send_of, h9 F hF l hl, hit, lc1, em, hz2, hb, em2, sendsL, hA, Bool.true_and, Bool.not_not]
  | false =>
    rw [hA] at em
    simp? only [evF, cb_can_send_of, h9 F hF l hl, hit, lc1, em, sendsL, hA, Bool.false_and]
def SendsS (Γ : Gam) (j : Nat) : Prop := ∀ F, FrmOk F → ∀ l : List (Option Int), l.length = F.fs.length → Γ.fn j [F.d, rcD l] = .ok (.bl (sendsL F l))
theorem shown_c (h6 : CheckFormS Γ (ι 6)) (h8 : CheckRecS Γ (ι 8)) (h9 : ShownS Γ (ι 9)) (F : Frm) (hF : FrmOk F) (l : List (Option Int)) (hl : RecOk F l) : evF Γ 2 2 (cb_shown ι ξ) [F.d, rcD l] = .ok (.lst (nD (shownL F l))) := by
  simp? only [evF, cb_shown, h6 F hF, h8 F hF l hl, h9 F hF l hl.len]
theorem broken_rules_c (h6 : CheckFormS Γ (ι 6)) (h8 : CheckRecS Γ (ι 8)) (h11 : BrokenS Γ (ι 11)) (F : Frm) (hF : FrmOk F) (l : List (Option Int)) (hl : RecOk F l) : evF Γ 2 2 (cb_broken_rules ι ξ) [F.d, rcD l] = .ok (.lst (nD (brokenL F l [0, 2]))) := by
  have hz2 : 2 ≤ szN := by decide
  have hb := h11 F hF l hl.len [0, 2] (by simp)
  rw [hks02] at hb
  simp? only [evF, cb_broken_rules, h6 F hF, h8 F hF l hl, hz2, hb]
theorem can_send_c (h6 : CheckFormS Γ (ι 6)) (h8 : CheckRecS Γ (ι 8)) (h15 : SendsS Γ (ι 15)) (F : Frm) (hF : FrmOk F) (l : List (Option Int)) (hl : RecOk F l) : evF Γ 2 2 (cb_can_send ι ξ) [F.d, rcD l] = .ok (.bl (sendsL F l)) := by
  simp? only [evF, cb_can_send, h6 F hF, h8 F hF l hl, h15 F hF l hl.len]
def sendL (F : Frm) (l : List (Option Int)) : List (Option Int) := (l.mapIdx fun i x => (i, x)).map fun q => if decide (q.1 ∈ shownL F l) || F.al then q.2 else none
def sentL (F : Frm) (l : List (Option Int)) : Option (List (Option Int)) := if sendsL F l then some (sendL F l) else none
theorem send_all (b : Bool) : cmpD .eq (.str (sendS b)) (.str [97, 108, 108]) = some b := by cases b <;> rfl
theorem sendL_len (F : Frm) (l : List (Option Int)) : (sendL F l).length = l.length := by simp [sendL]
theorem sent_c (h6 : CheckFormS Γ (ι 6)) (h8 : CheckRecS Γ (ι 8)) (h9 : ShownS Γ (ι 9)) (h15 : SendsS Γ (ι 15)) (F : Frm) (hF : FrmOk F) (l : List (Option Int)) (hl : RecOk F l) : evF Γ 2 5 (cb_sent ι ξ) [F.d, rcD l] = .ok (orD (sentL F l)) := by
  have hle := hF.le
  have hll := hl.len
  cases hS : sendsL F l with
  | false =>
    have e : sentL F l = none := by simp [sentL, hS]
    simp? only [evF, cb_sent, h6 F hF, h8 F hF l hl, h15 F hF l hl.len, hS, e, orD]
  | true =>
    have e : sentL F l = some (sendL F l) := by simp [sentL, hS]
    have hit : enumD (rcD l) = .ok ((l.mapIdx fun i x => (i, x)).map fun q : Nat × Option Int => .tup [.int q.1, oD q.2]) := by
      show R.ok (enumL _) = _
      rw [enumL_map]
    have lc := lcD_map (t := .tup [3, 4]) (tst := (evo Γ false .no).T) (elt := (ev Γ false (ce_sent_1 ι ξ)).E) (δ := [.dat F.d, .dat (rcD l), .dat (.lst (nD (shownL F l))), .none, .none]) (fun q : Nat × Option Int => .tup [.int q.1, oD q.2]) (fun _ => true) (fun q => oD (if decide (q.1 ∈ shownL F l) || F.al then q.2 else none)) (xs := l.mapIdx fun i x => (i, x)) (fun q hq =>
      ⟨[.dat F.d, .dat (rcD l), .dat (.lst (nD (shownL F l))), .dat (.int q.1), .dat (oD q.2)], by simp? only [], by simp? only [], fun _ => by
        have hs : decide (sendS F.al = [97, 108, 108]) = F.al := by cases F.al <;> rfl
        simp? only [ce_sent_1, in_nD, FD_2, hs]
        cases decide (q.1 ∈ shownL F l) <;> cases F.al <;> simp [oD]⟩)
    rw [List.filter_eq_self.mpr (fun _ _ => rfl)] at lc
    have e3 : ((l.mapIdx fun i x => (i, x)).map fun q : Nat × Option Int => oD (if decide (q.1 ∈ shownL F l) || F.al then q.2 else none)) = (sendL F l).map oD := by
      rw [sendL, List.map_map]; rfl
    rw [e3] at lc
    have ht : bfD .tuple [.lst ((sendL F l).map oD)] = some (rcD (sendL F l)) := rfl
    simp? only [evF, cb_sent, h6 F hF, h8 F hF l hl, h15 F hF l hl.len, hS, h9 F hF l hl.len, hit, lc, ht, e, orD]
theorem every_in (F : Frm) (f : Fld) (hf : f.vs.length ≤ 4) (found : D) (cs : D) (b : List (List (Option Int))) (r : List (Option Int)) (hr : r.length ≤ 100) (hb : b.length ≤ 100000) :
    exs Γ false (cb_every_record_2 ι ξ) [.dat F.d, .dat found, .dat (iD f.vs), .dat cs, .own (b.map rcD), .dat (rcD r), .none] = .next [.dat F.d, .dat found, .dat (iD f.vs), .dat cs, .own ((recIn f b r).map rcD), .dat (rcD r), .none] := by
  have hz1 : 1 ≤ szN := by decide
  have ha : binD .add (.tup [.non]) (iD f.vs) = some (.tup ((opts f).map oD)) := by
    rw [iD, add_tup _ _ (by simp [szN]; omega), ← opts_d]; rfl
  have lc := lcD_map (t := .nm 6) (tst := (evo Γ false .no).T) (elt := (ev Γ false (ce_every_record_1 ι ξ)).E) (δ := [.dat F.d, .dat found, .dat (iD f.vs), .dat cs, .own (b.map rcD), .dat (rcD r), .none]) oD (fun _ => true) (fun o => rcD (r ++ [o])) (xs := opts f) (fun o ho =>
    ⟨[.dat F.d, .dat found, .dat (iD f.vs), .dat cs, .own (b.map rcD), .dat (rcD r), .dat (oD o)], by simp? only [], by simp? only [], fun _ => by simp? only [ce_every_record_1, hz1, rec_snoc r o hr]⟩)
  rw [List.filter_eq_self.mpr (fun _ _ => rfl)] at lc
  have e2 : b.map rcD ++ ((opts f).map fun o => rcD (r ++ [o])) = (recIn f b r).map rcD := by
    rw [recIn, List.map_append, exts, List.map_map]; rfl
  have hl2 : (b.map rcD).length + ((opts f).map fun o => rcD (r ++ [o])).length ≤ szN := by simp [szN, opts]; omega
  simp? only [cb_every_record_2, hz1, ha, lc, hl2, e2]
theorem every_record_c (F : Frm) (hF : FrmOk F) : evF Γ 1 7 (cb_every_record ι ξ) [F.d] = .ok (.lst ((recsL F.fs).map rcD)) := by
  have hz0 : 0 ≤ szN := Nat.zero_le _
  have hz1 : 1 ≤ szN := by decide
  have h0 : (D.lst [.tup []]) = .lst (([[]] : List (List (Option Int))).map rcD) := rfl
  obtain ⟨δ', ef, s2, s3, s4, s5, rfl⟩ := forD_pre (t := .tup [2, 3]) (body := exs Γ false (cb_every_record_1 ι ξ)) Fld.d (fun (b : List (List (Option Int))) δ => ∃ s2 s3 s4 s5, δ = [.dat F.d, .dat (.lst (b.map rcD)), s2, s3, s4, s5, .none]) recStep F.fs [[]] [.dat F.d, .dat (.lst [.tup []]), .none, .none, .none, .none, .none] ⟨.none, .none, .none, .none, rfl⟩ (fun pre f post e δ hJ => by
    obtain ⟨s2, s3, s4, s5, rfl⟩ := hJ
    have hmem : ∀ g ∈ pre, g.vs.length ≤ 4 := fun g hg => fld_le hF g (by rw [e]; exact List.mem_append_left _ hg)
    have hf : f.vs.length ≤ 4 := fld_le hF f (by rw [e]; simp)
    have hpl : pre.length ≤ 3 := by
      have := congrArg List.length e
      have := hF.le
      simp at *
      omega
    have ok := recs_ok pre [] [[]] recs0 hmem
    rw [List.nil_append] at ok
    generalize pre.foldl recStep [[]] = b at ok
    have hb : b.length ≤ 125 := by
      have h1 := ok.le
      have h2 : 5 ^ pre.length ≤ 5 ^ 3 := Nat.pow_le_pow_right (by decide) hpl
      omega
    obtain ⟨δ2, eg, s5', rfl⟩ := forD_pre (t := .nm 5) (body := exs Γ false (cb_every_record_2 ι ξ)) rcD (fun (c : List (List (Option Int))) δ => ∃ s5, δ = [.dat F.d, .dat (.lst (b.map rcD)), .dat (iD f.vs), .dat (.tup (f.cs.map cD)), .own (c.map rcD), s5, .none]) (recIn f) b [] [.dat F.d, .dat (.lst (b.map rcD)), .dat (iD f.vs), .dat (.tup (f.cs.map cD)), .own [], s5, .none] ⟨s5, rfl⟩ (fun pre2 r post2 e2 δ hJ => by
      obtain ⟨s5, rfl⟩ := hJ
      have hr := ok.len r (by rw [e2]; simp)
      have hl := foldl_recIn_len f hf pre2
      have hpl2 : pre2.length ≤ 125 := by
        have := congrArg List.length e2
        simp at this
        omega
      exact ⟨_, by simp? only [], _, .inl (every_in (Γ := Γ) (ι := ι) (ξ := ξ) F f hf _ _ _ r (by omega) (by omega)), _, rfl⟩)
    refine ⟨[.dat F.d, .dat (.lst (b.map rcD)), .dat (iD f.vs), .dat (.tup (f.cs.map cD)), s4, s5, .none], rfl, _, .inl ?_, .dat (iD f.vs), .dat (.tup (f.cs.map cD)), .dat (.lst ((recStep b f).map rcD)), s5', rfl⟩
    simp? only [cb_every_record_1, hz0, eg, recStep])
  simp? only [evF, cb_every_record, hz0, hz1, FD_0, ef, recsL]
def cleanL (F : Frm) (l : List (Option Int)) : Bool := (List.range' 0 l.length).all fun k => (gv l k).isNone || decide (k ∈ shownL F l)
theorem idx_gv (l : List (Option Int)) : (l.mapIdx fun i x => (i, x)) = (List.range' 0 l.length).map fun k => (k, gv l k) := by
  apply List.ext_getElem?
  intro i
  rw [List.getElem?_mapIdx, List.getElem?_map]
  rcases Nat.lt_or_ge i l.length with h | h
  · rw [List.getElem?_range' h, List.getElem?_eq_getElem h]
    simp [gv, h]
  · rw [List.getElem?_eq_none h, List.getElem?_eq_none (by simpa using h)]; rfl
theorem clean_idx (F : Frm) (l : List (Option Int)) : ((l.mapIdx fun i x => (i, x)).filter fun q => q.2.isSome && !decide (q.1 ∈ shownL F l)).isEmpty = cleanL F l := by
  rw [idx_gv, List.filter_map, List.isEmpty_map, cleanL, ← filter_none_all]
  congr 2
  funext k
  simp only [Function.comp]
  cases gv l k <;> simp
theorem clean_rng (F : Frm) (l : List (Option Int)) : ((List.range' 0 l.length).filter fun k => (gv l k).isSome && !decide (k ∈ shownL F l)).isEmpty = cleanL F l := by
  rw [cleanL, ← filter_none_all]
  congr 2
  funext k
  cases gv l k <;> simp
theorem isNon_oD' (o : Option Int) : (!isNonD (oD o)) = o.isSome := by cases o <;> rfl
theorem is_clean_c (h9 : ShownS Γ (ι 9)) (F : Frm) (hF : FrmOk F) (l : List (Option Int)) (hl : l.length = F.fs.length) : evF Γ 2 5 (cb_is_clean ι ξ) [F.d, rcD l] = .ok (.bl (cleanL F l)) := by
  have hit : enumD (rcD l) = .ok ((l.mapIdx fun i x => (i, x)).map fun q : Nat × Option Int => .tup [.int q.1, oD q.2]) := by
    show R.ok (enumL _) = _
    rw [enumL_map]
  have lc := lcD_map (t := .tup [3, 4]) (tst := (evo Γ false (ct_is_clean_1 ι ξ)).T) (elt := (ev Γ false (.var 3)).E) (δ := [.dat F.d, .dat (rcD l), .dat (.lst (nD (shownL F l))), .none, .none]) (fun q : Nat × Option Int => .tup [.int q.1, oD q.2]) (fun q => q.2.isSome && !decide (q.1 ∈ shownL F l)) (fun q => .int q.1) (xs := l.mapIdx fun i x => (i, x)) (fun q hq =>
    ⟨[.dat F.d, .dat (rcD l), .dat (.lst (nD (shownL F l))), .dat (.int q.1), .dat (oD q.2)], by simp? only [], by
      simp? only [ct_is_clean_1, isNon_oD', nin_nD]
      cases q.2.isSome <;> simp, fun _ => by simp? only []⟩)
  have em : (((l.mapIdx fun i x => (i, x)).filter fun q => q.2.isSome && !decide (q.1 ∈ shownL F l)).map fun q => D.int (q.1 : Int)).isEmpty = cleanL F l := by rw [List.isEmpty_map, clean_idx]
  simp? only [evF, cb_is_clean, h9 F hF l hl, hit, lc, em, Bool.not_not]
def CleanS (Γ : Gam) (j : Nat) : Prop := ∀ F, FrmOk F → ∀ l : List (Option Int), l.length = F.fs.length → Γ.fn j [F.d, rcD l] = .ok (.bl (cleanL F l))
theorem law_clean_c (h29 : ShownS Γ (ι 29)) (F : Frm) (hF : FrmOk F) (l : List (Option Int)) (hl : l.length = F.fs.length) : evF Γ 2 4 (cb_law_clean ι ξ) [F.d, rcD l] = .ok (.bl (cleanL F l)) := by
  have hz0 : 0 ≤ szN := Nat.zero_le _
  have hle := hF.le
  have hlen : bfD .len [rcD l] = some (.int l.length) := by show some (D.int ((l.map oD).length : Nat)) = _; rw [List.length_map]
  have hrg := rng1_nat l.length (by omega)
  have lc := lcD_map (t := .nm 3) (tst := (evo Γ false (ct_law_clean_1 ι ξ)).T) (elt := (ev Γ false (.var 3)).E) (δ := [.dat F.d, .dat (rcD l), .dat (.lst (nD (shownL F l))), .none]) (fun k : Nat => D.int k) (fun k => (gv l k).isSome && !decide (k ∈ shownL F l)) (fun k => .int k) (xs := List.range' 0 l.length) (fun k hk =>
    ⟨[.dat F.d, .dat (rcD l), .dat (.lst (nD (shownL F l))), .dat (.int k)], by simp? only [], by
      rw [List.mem_range'_1] at hk
      have hri : idxD (rcD l) (.int k) = some (oD (gv l k)) := at_rec (by omega)
      simp? only [ct_law_clean_1, hri, isNon_oD', nin_nD]
      cases (gv l k).isSome <;> simp, fun _ => by simp? only []⟩)
  have e2 : cmpD .eq (.lst (((List.range' 0 l.length).filter fun k => (gv l k).isSome && !decide (k ∈ shownL F l)).map fun k : Nat => D.int k)) (.lst []) = some (cleanL F l) := by
    rw [eq_nil _ (noScrs_map _ (fun _ => rfl) _) (Nat.le_trans (deps_map _ 0 (fun _ => Nat.le_refl _) _) (by decide)), List.isEmpty_map, clean_rng]
  simp? only [evF, cb_law_clean, h29 F hF l hl, hlen, hrg, lc, hz0, e2]
def cleansL (F : Frm) : List (List (Option Int)) := (recsL F.fs).filter fun l => sendsL F l && cleanL F l
theorem clean_records_c (h6 : CheckFormS Γ (ι 6)) (h15 : SendsS Γ (ι 15)) (h16 : CleanS Γ (ι 16)) (h17 : ∀ F, FrmOk F → Γ.fn (ι 17) [F.d] = .ok (.lst ((recsL F.fs).map rcD))) (F : Frm) (hF : FrmOk F) : evF Γ 1 2 (cb_clean_records ι ξ) [F.d] = .ok (.lst ((cleansL F).map rcD)) := by
  have lc := lcD_map (t := .nm 1) (tst := (evo Γ false (ct_clean_records_1 ι ξ)).T) (elt := (ev Γ false (.var 1)).E) (δ := [.dat F.d, .none]) rcD (fun l => sendsL F l && cleanL F l) rcD (xs := recsL F.fs) (fun l hl =>
    ⟨[.dat F.d, .dat (rcD l)], by simp? only [], by
      have hlen := (recOk_of hF hl).len
      simp? only [ct_clean_records_1, h15 F hF l hlen, h16 F hF l hlen]
      cases sendsL F l <;> simp, fun _ => by simp? only []⟩)
  simp? only [evF, cb_clean_records, h6 F hF, h17 F hF, lc, cleansL]
end
end PD
namespace PD
open PySem L2
mutual
theorem eqD_refl : ∀ d : D, noScr d = true → eqD d d = true
  | .non, _ => rfl
  | .bl b, _ => by simp [eqD]
  | .int b, _ => by simp [eqD]
  | .str b, _ => by simp [eqD]
  | .lst xs, h => by rw [noScr] at h; rw [eqD]; exact eqDs_refl xs h
  | .tup xs, h => by rw [noScr] at h; rw [eqD]; exact eqDs_refl xs h
  | .scr _, h => by cases h
theorem eqDs_refl : ∀ ds : List D, noScrs ds = true → eqDs ds ds = true
  | [], _ => by simp [eqDs]
  | d :: ds, h => by
    rw [noScrs, Bool.and_eq_true] at h
    rw [eqDs, eqD_refl d h.1, eqDs_refl ds h.2]; rfl
end
theorem ne_self (d : D) (h : noScr d = true) (h2 : dep d ≤ 60) : cmpD .ne d d = some false := by
  rw [cmpD, if_pos (by simp [eqOk, h, h2]), eqD_refl d h]; rfl
theorem eq_self (d : D) (h : noScr d = true) (h2 : dep d ≤ 60) : cmpD .eq d d = some true := by
  rw [cmpD, if_pos (by simp [eqOk, h, h2]), eqD_refl d h]
theorem noScr_oD (o : Option Int) : noScr (oD o) = true := by cases o <;> rfl
theorem dep_oD (o : Option Int) : dep (oD o) = 0 := by cases o <;> rfl
theorem noScr_rc (l : List (Option Int)) : noScr (rcD l) = true := by rw [rcD, noScr]; exact noScrs_map _ noScr_oD _
theorem dep_rc (l : List (Option Int)) : dep (rcD l) ≤ 1 := by
  rw [rcD, dep]
  have := deps_map oD 0 (fun o => by rw [dep_oD]; exact Nat.le_refl _) l
  omega
theorem noScr_or (o : Option (List (Option Int))) : noScr (orD o) = true := by
  cases o with
  | none => rfl
  | some l => exact noScr_rc l
theorem dep_or (o : Option (List (Option Int))) : dep (orD o) ≤ 1 := by
  cases o with
  | none => simp [orD, dep]
  | some l => exact dep_rc l
theorem noScr_nD (l : List Nat) : noScr (.lst (nD l)) = true := by rw [noScr]; exact noScrs_map _ (fun _ => rfl) _
theorem dep_nD (l : List Nat) : dep (.lst (nD l)) ≤ 1 := by
  rw [dep]
  unfold nD
  have := deps_map (fun n : Nat => D.int n) 0 (fun o => Nat.le_refl _) l
  omega
theorem noScr_recs (l : List (List (Option Int))) : noScr (.lst (l.map rcD)) = true := by rw [noScr]; exact noScrs_map _ noScr_rc _
theorem dep_recs (l : List (List (Option Int))) : dep (.lst (l.map rcD)) ≤ 2 := by
  rw [dep]
  have := deps_map rcD 1 dep_rc l
  omega
theorem eqDs_rc : ∀ a b : List (Option Int), eqDs (a.map oD) (b.map oD) = decide (a = b)
  | [], [] => by simp [eqDs]
  | [], b :: m => by simp [eqDs]
  | a :: l, [] => by simp [eqDs]
  | a :: l, b :: m => by
    rw [List.map_cons, List.map_cons, eqDs, eqDs_rc l m]
    have : eqD (oD a) (oD b) = decide (a = b) := by cases a <;> cases b <;> first | rfl | (simp only [oD, eqD, Option.some.injEq]; rw [Bool.eq_iff_iff]; simp)
    rw [this]
    by_cases h : a = b <;> simp [h]
theorem eqD_rc (a b : List (Option Int)) : eqD (rcD a) (rcD b) = decide (a = b) := by rw [rcD, rcD, eqD, eqDs_rc]
theorem ne_rc (a b : List (Option Int)) : cmpD .ne (rcD a) (rcD b) = some (!decide (a = b)) := by
  have := dep_rc a
  rw [cmpD, if_pos (by simp [eqOk, noScr_rc]; omega), eqD_rc]
theorem anyD_rc (r : List (Option Int)) : ∀ l : List (List (Option Int)), anyD (rcD r) (l.map rcD) = decide (r ∈ l)
  | [] => by simp [anyD]
  | a :: l => by
    rw [List.map_cons, anyD, anyD_rc r l, eqD_rc]
    by_cases h : r = a
    · subst h; simp
    · have h' : ¬ a = r := fun e => h e.symm
      simp [h, h']
theorem nin_recs (r : List (Option Int)) (l : List (List (Option Int))) : cmpD .nin (rcD r) (.lst (l.map rcD)) = some (!decide (r ∈ l)) := by
  show (inD _ _).map _ = _
  have := dep_rc r
  rw [inD, if_pos (by simp [inOk, noScr_rc, noScrs_map _ noScr_rc]; omega), anyD_rc]
  · rfl
  all_goals (intros; simp_all [rcD])
theorem shP_mono {F : Frm} {l : List (Option Int)} {i : Nat} (hi : i < F.fs.length) {k : Nat} (h : k ∈ shP F l i) : k ∈ shP F l (i + 1) := by
  obtain ⟨f, hf⟩ : ∃ f, F.fs[i]? = some f := ⟨F.fs[i], List.getElem?_eq_getElem hi⟩
  rw [shP_succ hf]
  unfold shStep
  split
  · exact List.mem_append_left _ h
  · exact h
theorem shP_at {F : Frm} {l : List (Option Int)} : ∀ i, i ≤ F.fs.length → ∀ k, k ∈ shP F l i ↔ k < i ∧ k ∈ shP F l (k + 1)
  | 0, _, k => by simp [shP]
  | i + 1, hi, k => by
    have ih := shP_at (F := F) (l := l) i (by omega) k
    rcases Nat.lt_trichotomy k i with h | h | h
    · constructor
      · intro hk
        refine ⟨by omega, ?_⟩
        obtain ⟨f, hf⟩ : ∃ f, F.fs[i]? = some f := ⟨F.fs[i], List.getElem?_eq_getElem (by omega)⟩
        rw [shP_succ hf] at hk
        unfold shStep at hk
        split at hk
        · rcases List.mem_append.mp hk with hk | hk
          · exact (ih.mp hk).2
          · simp at hk; omega
        · exact (ih.mp hk).2
      · rintro ⟨_, hk⟩
        exact shP_mono (by omega) (ih.mpr ⟨h, hk⟩)
    · subst h
      exact ⟨fun hk => ⟨by omega, hk⟩, fun hk => hk.2⟩
    · constructor
      · intro hk
        have := shP_lt (i + 1) hi k hk
        omega
      · rintro ⟨hk, _⟩
        omega
theorem shown_iff {F : Frm} (hF : FrmOk F) {l : List (Option Int)} {k : Nat} {f : Fld} (hf : F.fs[k]? = some f) : k ∈ shownL F l ↔ ∀ c ∈ f.cs, c.1 ∈ shownL F l ∧ ovIn (gv l c.1) c.2 = true := by
  have hk := lt_of_get hf
  have hpre : ∀ c ∈ f.cs, c.1 < k := fun c hc => by
    obtain ⟨g, hg, _⟩ := (hF.fld k f hf).2.2.2 c hc
    have := lt_of_get hg
    rw [List.length_take] at this
    omega
  have hmem : ∀ c ∈ f.cs, (c.1 ∈ shP F l k ↔ c.1 ∈ shownL F l) := fun c hc => by
    have h1 := hpre c hc
    rw [← shP_all, shP_at k (by omega), shP_at F.fs.length (Nat.le_refl _)]
    constructor
    · exact fun h => ⟨by omega, h.2⟩
    · exact fun h => ⟨h1, h.2⟩
  rw [← shP_all, shP_at F.fs.length (Nat.le_refl _), shP_all, shP_succ hf]
  unfold shStep
  have hno : k ∉ shP F l k := fun h => by
    have := shP_lt k (by omega) k h
    omega
  split
  · rename_i hc
    rw [List.all_eq_true] at hc
    constructor
    · intro _ c hc'
      have := hc c hc'
      simp only [condH, Bool.and_eq_true, decide_eq_true_eq] at this
      exact ⟨(hmem c hc').mp this.1, this.2⟩
    · intro _
      exact ⟨hk, by simp⟩
  · rename_i hc
    constructor
    · intro h; exact absurd h.2 hno
    · intro h
      exfalso
      apply hc
      rw [List.all_eq_true]
      intro c hc'
      simp only [condH, Bool.and_eq_true, decide_eq_true_eq]
      exact ⟨(hmem c hc').mpr (h c hc').1, (h c hc').2⟩
/-- two records that agree where it matters -/
theorem shown_congr {F : Frm} (hF : FrmOk F) {l l' : List (Option Int)} (n : Nat) (h : ∀ k, k < n → k ∈ shownL F l → gv l k = gv l' k) (h' : ∀ k, k < n → k ∈ shownL F l' → gv l k = gv l' k) : ∀ k, k ≤ n → k < F.fs.length → (k ∈ shownL F l ↔ k ∈ shownL F l') := by
  intro k
  induction k using Nat.strongRecOn with
  | _ k ih =>
    intro hn hk
    obtain ⟨f, hf⟩ : ∃ f, F.fs[k]? = some f := ⟨F.fs[k], List.getElem?_eq_getElem hk⟩
    have hpre : ∀ c ∈ f.cs, c.1 < k := fun c hc => by
      obtain ⟨g, hg, _⟩ := (hF.fld k f hf).2.2.2 c hc
      have := lt_of_get hg
      rw [List.length_take] at this
      omega
    rw [shown_iff hF hf, shown_iff hF hf]
    constructor
    · intro a c hc
      have h1 := hpre c hc
      have e := ih c.1 h1 (by omega) (by omega)
      obtain ⟨b1, b2⟩ := a c hc
      exact ⟨e.mp b1, by rw [← h c.1 (by omega) b1]; exact b2⟩
    · intro a c hc
      have h1 := hpre c hc
      have e := ih c.1 h1 (by omega) (by omega)
      obtain ⟨b1, b2⟩ := a c hc
      exact ⟨e.mpr b1, by rw [h' c.1 (by omega) b1]; exact b2⟩
theorem shP_ext {F : Frm} {l l' : List (Option Int)} (h : ∀ k, k < F.fs.length → (k ∈ shownL F l ↔ k ∈ shownL F l')) : ∀ i, i ≤ F.fs.length → shP F l i = shP F l' i
  | 0, _ => rfl
  | i + 1, hi => by
    have ih := shP_ext h i (by omega)
    obtain ⟨f, hf⟩ : ∃ f, F.fs[i]? = some f := ⟨F.fs[i], List.getElem?_eq_getElem (by omega)⟩
    have key : ∀ m : List (Option Int), (f.cs.all (condH (shP F m i) m) = true ↔ i ∈ shownL F m) := fun m => by
      rw [← shP_all, shP_at F.fs.length (Nat.le_refl _), shP_succ hf]
      unfold shStep
      have hno : i ∉ shP F m i := fun h => by
        have := shP_lt i (by omega) i h
        omega
      split
      · rename_i hc; exact ⟨fun _ => ⟨by omega, by simp⟩, fun _ => hc⟩
      · rename_i hc; exact ⟨fun z => absurd z hc, fun z => absurd z.2 hno⟩
    have e : f.cs.all (condH (shP F l i) l) = f.cs.all (condH (shP F l' i) l') := by
      rw [Bool.eq_iff_iff, key l, key l']
      exact h i (by omega)
    rw [shP_succ hf, shP_succ hf]
    unfold shStep
    rw [e, ih]
theorem shown_ext {F : Frm} {l l' : List (Option Int)} (h : ∀ k, k < F.fs.length → (k ∈ shownL F l ↔ k ∈ shownL F l')) : shownL F l = shownL F l' := by
  rw [← shP_all, ← shP_all]
  exact shP_ext h _ (Nat.le_refl _)
section
variable {Γ : Gam} {ι ξ : Nat → Nat}
def entP (F : Frm) (l : List (Option Int)) (i : Nat) (o : Option Int) (r : Rul) : Bool := needP (shownL F l) l i o r || (decide (r.kd = 0) && r.ps.all (holdP (shownL F (l.set i o)) (l.set i o)))
theorem broken_any {F : Frm} (hF : FrmOk F) (l : List (Option Int)) : (brokenL F l [0]).isEmpty = !F.rs.any fun r => decide (r.kd = 0) && r.ps.all (holdP (shownL F l) l) := by
  have e : (F.rs.mapIdx fun i x => (i, x)).map (·.2) = F.rs := by
    apply List.ext_getElem?
    intro i
    rw [List.getElem?_map, List.getElem?_mapIdx]
    cases F.rs[i]? <;> rfl
  conv => rhs; rw [← e]
  rw [brokenL, List.isEmpty_map, List.any_map]
  generalize (F.rs.mapIdx fun i x => (i, x)) = qs
  induction qs with
  | nil => rfl
  | cons q qs ih =>
    have hb : brokP F l [0] q = (decide (q.2.kd = 0) && q.2.ps.all (holdP (shownL F l) l)) := by simp [brokP]
    rw [List.any_cons]
    cases h : brokP F l [0] q with
    | true =>
      rw [List.filter_cons_of_pos h]
      rw [hb] at h
      simp [h]
    | false =>
      rw [List.filter_cons_of_neg (by simp [h]), ih]
      rw [hb] at h
      simp [h]
theorem any_or {α : Type} (p q : α → Bool) : ∀ l : List α, (l.any fun x => p x || q x) = (l.any p || l.any q)
  | [] => rfl
  | a :: l => by rw [List.any_cons, List.any_cons, List.any_cons, any_or p q l]; cases p a <;> cases q a <;> cases l.any p <;> simp
theorem entered_alt {F : Frm} (hF : FrmOk F) (l : List (Option Int)) (i : Nat) (o : Option Int) : enteredL F l i o = if i ∉ shownL F l ∨ gv l i = o then none else if F.rs.any (entP F l i o) then none else some (l.set i o) := by
  unfold enteredL entP
  rw [any_or, broken_any hF]
  split
  · rfl
  · cases F.rs.any (needP (shownL F l) l i o) <;> cases (F.rs.any fun r => decide (r.kd = 0) && r.ps.all (holdP (shownL F (l.set i o)) (l.set i o))) <;> simp
theorem law_entry_c (h29 : ShownS Γ (ι 29)) (h30 : LHoldsS Γ (ι 30)) (F : Frm) (hF : FrmOk F) (l : List (Option Int)) (hl : l.length = F.fs.length) (i : Nat) (hi : i < l.length) (o : Option Int) :
    evF Γ 4 7 (cb_law_entry ι ξ) [F.d, rcD l, .int i, oD o] = .ok (orD (enteredL F l i o)) := by
  rw [entered_alt hF]
  have hri : idxD (rcD l) (.int i) = some (oD (gv l i)) := at_rec hi
  by_cases g1 : i ∈ shownL F l
  · by_cases g2 : gv l i = o
    · simp? only [evF, cb_law_entry, h29 F hF l hl, nin_nD, g1, hri, eq_oD, g2, orD, not_true_eq_false, false_or]
    · have hz2 : 2 ≤ szN := by decide
      have hz1 : 1 ≤ szN := by decide
      have hle := hF.le
      have hc1 : cutD (rcD l) none (some (i : Int)) = some (.tup ((l.map oD).take i)) := by
        show some (D.tup (cutL _ _ _)) = _
        rw [cutL_hi _ _ (by rw [List.length_map]; omega)]
      have hc2 : cutD (rcD l) (some ((i : Int) + 1)) none = some (.tup ((l.map oD).drop (i + 1))) := by
        show some (D.tup (cutL _ _ _)) = _
        rw [show ((i : Int) + 1) = ((i + 1 : Nat) : Int) by omega, cutL_lo _ _ (by rw [List.length_map]; omega)]
      have ha1 : binD .add (.tup ((l.map oD).take i)) (.tup [oD o]) = some (.tup ((l.map oD).take i ++ [oD o])) := add_tup _ _ (by simp [szN]; omega)
      have ha2 : binD .add (.tup ((l.map oD).take i ++ [oD o])) (.tup ((l.map oD).drop (i + 1))) = some (rcD (l.set i o)) := by
        rw [add_tup _ _ (by simp [szN]; omega), set_split hi, rcD]
      have hl2 : (l.set i o).length = F.fs.length := by rw [List.length_set]; exact hl
      have loop := forD_find (t := .tup [5, 6]) (body := exs Γ false (cb_law_entry_1 ι ξ)) Rul.d (fun δ => ∃ s5 s6, δ = [.dat F.d, .dat (rcD l), .dat (.int i), .dat (oD o), .dat (rcD (l.set i o)), s5, s6]) .non (entP F l i o) F.rs [.dat F.d, .dat (rcD l), .dat (.int i), .dat (oD o), .dat (rcD (l.set i o)), .none, .none] ⟨.none, .none, rfl⟩ (fun r hr δ hJ => by
        obtain ⟨s5, s6, rfl⟩ := hJ
        refine ⟨[.dat F.d, .dat (rcD l), .dat (.int i), .dat (oD o), .dat (rcD (l.set i o)), .dat (.str (kdS r.kd)), .dat (.tup (r.ps.map prD))], rfl, ⟨_, _, rfl⟩, ?_⟩
        have ok := hF.rul r hr
        have hp : ∀ p ∈ r.ps, p.1 < l.length := fun p hp => by
          obtain ⟨g, hg, _⟩ := ok.2.2.2.2.2 p hp
          have := lt_of_get hg
          omega
        have hp2 : ∀ p ∈ r.ps, p.1 < (l.set i o).length := fun p h => by rw [List.length_set]; exact hp p h
        have hB := h30 F hF _ hl2 r.ps hp2
        have hk2 : decide (kdS r.kd = [110, 101, 101, 100, 115]) = decide (r.kd = 1) := kd_needs ok.1
        have hk0 : decide (kdS r.kd = [101, 110, 116, 114, 121]) = decide (r.kd = 0) := by
          rcases hkd : r.kd with _ | _ | _ | k <;> first | rfl | (have := ok.1; omega)
        cases hps : r.ps with
        | nil => have := ok.2.1; rw [hps] at this; simp at this
        | cons p rest =>
          rw [hps] at hp hB
          have h0 : atI (prD p :: rest.map prD) 0 = some (prD p) := at0 _ _
          have hcut : cutD (.tup (prD p :: rest.map prD)) (some 1) none = some (.tup (rest.map prD)) := by
            show some (D.tup (cutL _ _ _)) = _
            rw [cutL_from1]; rfl
          have hh := h30 F hF l hl rest fun q hq => hp q (List.mem_cons_of_mem _ hq)
          have en : entP F l i o r = ((decide (r.kd = 1) && (decide (p.1 = i ∧ o = some p.2) && !(rest.all (holdP (shownL F l) l)))) || (decide (r.kd = 0) && (p :: rest).all (holdP (shownL F (l.set i o)) (l.set i o)))) := by
            simp only [entP, needP, hps]
          rw [en]
          generalize hW : (p :: rest).all (holdP (shownL F (l.set i o)) (l.set i o)) = W at hB ⊢
          rw [List.map_cons] at hB
          cases z1 : decide (r.kd = 1) with
          | true =>
            have z0 : decide (r.kd = 0) = false := by simp only [decide_eq_true_eq] at z1; simp [z1]
            cases z2 : decide (p.1 = i ∧ o = some p.2) with
            | false => simp? only [cb_law_entry_1, hk2, z1, h0, hz2, eq_pair, z2, hk0, z0, Bool.false_and, Bool.true_and, Bool.or_false]
            | true =>
              cases hR : rest.all (holdP (shownL F l) l) with
              | true => rw [hR] at hh; simp? only [cb_law_entry_1, hk2, z1, h0, hz2, eq_pair, z2, hcut, hh, hk0, z0, Bool.true_and, Bool.false_and, Bool.or_false]
              | false => rw [hR] at hh; simp? only [cb_law_entry_1, hk2, z1, h0, hz2, eq_pair, z2, hcut, hh, hk0, z0, Bool.true_and, Bool.false_and, Bool.or_false]
          | false =>
            cases z0 : decide (r.kd = 0) with
            | false => simp? only [cb_law_entry_1, hk2, z1, hk0, z0, Bool.false_and, Bool.or_false]
            | true =>
              simp? only [cb_law_entry_1, hk2, z1, hk0, z0, hB, Bool.false_and, Bool.true_and, Bool.false_or]
              cases W <;> simp)
      rcases loop with ⟨a, ef⟩ | ⟨a, δ', ef, s5, s6, rfl⟩
      · simp? only [evF, cb_law_entry, h29 F hF l hl, nin_nD, g1, hri, eq_oD, g2, hc1, hz1, ha1, hc2, ha2, FD_1, ef, a, orD, not_true_eq_false, or_self]
      · simp? only [evF, cb_law_entry, h29 F hF l hl, nin_nD, g1, hri, eq_oD, g2, hc1, hz1, ha1, hc2, ha2, FD_1, ef, a, orD, not_true_eq_false, or_self]
  · simp? only [evF, cb_law_entry, h29 F hF l hl, nin_nD, g1, orD, not_false_eq_true, true_or]
end
end PD
namespace PD
open PySem L2
theorem pickL_map {α β : Type} (g : α → β) (is : List Nat) (xs : List α) : pickL is (xs.map g) = (pickL is xs).map g := by
  unfold pickL
  rw [List.map_filterMap]
  congr 1
  funext i
  rw [List.getElem?_map]
theorem stpL_map {α β : Type} (g : α → β) (xs : List α) (lo hi st : Option Int) : stpL (xs.map g) lo hi st = (stpL xs lo hi st).map g := by
  unfold stpL
  rw [List.length_map, pickL_map]
theorem stpN_map {α : Type} (g : α → D) (xs : List α) (lo hi : Option Int) (k : Int) (hk : k ≠ 0) : stpN (.lst (xs.map g)) lo hi (some k) = .ok ((stpL xs lo hi (some k)).map g) := by
  show (if some (k : Int) = some 0 then R.bad else .ok (stpL _ _ _ _)) = _
  rw [if_neg (by simpa using hk), stpL_map]
theorem pigeon : ∀ (n : Nat) (vs : List Int), vs.length < n → ∃ k : Nat, k < n ∧ (k : Int) ∉ vs
  | 0, _, h => absurd h (Nat.not_lt_zero _)
  | n + 1, vs, h => by
    by_cases hn : (n : Int) ∈ vs
    · have hl : (vs.filter fun v => !decide (v = (n : Int))).length < vs.length := by
        apply List.length_filter_lt_length_iff_exists.mpr
        exact ⟨n, hn, by simp⟩
      obtain ⟨k, h1, h2⟩ := pigeon n (vs.filter fun v => !decide (v = (n : Int))) (by omega)
      refine ⟨k, by omega, fun hk => h2 (List.mem_filter.mpr ⟨hk, ?_⟩)⟩
      simp
      omega
    · exact ⟨n, by omega, hn⟩
/-- a number below ten that is none of these -/
theorem odd_of {vs : List Int} (h : vs.length ≤ 4) : ∃ v : Nat, v < 10 ∧ (v : Int) ∉ vs ∧ ((List.range' 0 10).filter fun k : Nat => !decide ((k : Int) ∈ vs)).head? = some v := by
  obtain ⟨k, h1, h2⟩ := pigeon 10 vs (by omega)
  have hk : k ∈ (List.range' 0 10).filter fun k : Nat => !decide ((k : Int) ∈ vs) := by
    rw [List.mem_filter]
    exact ⟨by rw [List.mem_range'_1]; omega, by simp [h2]⟩
  cases hl : (List.range' 0 10).filter fun k : Nat => !decide ((k : Int) ∈ vs) with
  | nil => rw [hl] at hk; cases hk
  | cons v r =>
    have hv : v ∈ (List.range' 0 10).filter fun k : Nat => !decide ((k : Int) ∈ vs) := by rw [hl]; exact List.mem_cons_self
    rw [List.mem_filter, List.mem_range'_1] at hv
    refine ⟨v, by omega, by simpa using hv.2, rfl⟩
theorem pick_of {α : Type} (g : α → D) (xs : List α) (n : Nat) (h : 0 < xs.length) : ∃ x ∈ xs, atI (xs.map g) ((n : Int) % (xs.length : Int)) = some (g x) := by
  have hk : n % xs.length < xs.length := Nat.mod_lt _ h
  refine ⟨xs[n % xs.length], List.getElem_mem hk, ?_⟩
  rw [← at_map g (List.getElem?_eq_getElem hk)]
  congr 1
theorem recs_pos {F : Frm} (hF : FrmOk F) : 0 < (recsL F.fs).length := by
  have rok := recsL_ok F.fs (fld_le hF)
  rcases Nat.eq_zero_or_pos (recsL F.fs).length with z | z
  · exact absurd (List.eq_nil_of_length_eq_zero z) rok.ne
  · exact z
theorem fld0 {F : Frm} (hF : FrmOk F) : ∃ f, F.fs[0]? = some f := by
  have := hF.ne
  cases h : F.fs with
  | nil => exact absurd h this
  | cons f fs => exact ⟨f, rfl⟩
section
variable {Γ : Gam} {ι ξ : Nat → Nat}
theorem entry_bad1 (h0 : InRangeS Γ (ι 0)) (ho : Γ.own (ξ 2) = true) (F : Frm) (a b : D) (h : inRg a 0 ((F.fs.length : Int) - 1) = false) : evF Γ 3 3 (cb_check_entry ι ξ) [F.d, a, b] = .exc (ξ 2) := by
  have hl : (((F.fs.map Fld.d).length : Nat) : Int) = (F.fs.length : Int) := by rw [List.length_map]
  simp? only [evF, cb_check_entry, FD_0, h0 _ _ _, hl, h, ho]
theorem entry_bad2 (h0 : InRangeS Γ (ι 0)) (ho : Γ.own (ξ 2) = true) (F : Frm) (i : Nat) (f : Fld) (hf : F.fs[i]? = some f) (b : D) (hn : isNonD b = false) (h : inRg b 0 9 = false) : evF Γ 3 3 (cb_check_entry ι ξ) [F.d, .int i, b] = .exc (ξ 2) := by
  have hl : (((F.fs.map Fld.d).length : Nat) : Int) = (F.fs.length : Int) := by rw [List.length_map]
  have hr1 : inRg (.int i) 0 ((F.fs.length : Int) - 1) = true := by
    have := lt_of_get hf
    simp [inRg]; omega
  simp? only [evF, cb_check_entry, FD_0, h0 _ _ _, hl, hr1, hn, h, ho]
theorem entry_bad3 (h0 : InRangeS Γ (ι 0)) (ho : Γ.own (ξ 2) = true) (F : Frm) (i : Nat) (f : Fld) (hf : F.fs[i]? = some f) (v : Int) (hv : v ∉ f.vs) : evF Γ 3 3 (cb_check_entry ι ξ) [F.d, .int i, .int v] = .exc (ξ 2) := by
  have hl : (((F.fs.map Fld.d).length : Nat) : Int) = (F.fs.length : Int) := by rw [List.length_map]
  have hr1 : inRg (.int i) 0 ((F.fs.length : Int) - 1) = true := by
    have := lt_of_get hf
    simp [inRg]; omega
  have hn : isNonD (.int v) = false := rfl
  cases hr : inRg (.int v) 0 9 with
  | false => exact entry_bad2 h0 ho F i f hf _ rfl hr
  | true => simp? only [evF, cb_check_entry, FD_0, h0 _ _ _, hl, hr1, hn, hr, at_map Fld.d hf, fD_0, nin_iD, hv, ho]
end
end PD
namespace PD
open PySem L2
theorem gv_setne {l : List (Option Int)} {i k : Nat} (h : k ≠ i) (o : Option Int) : gv (l.set i o) k = gv l k := by simp [gv, List.getElem?_set_ne (fun e => h e.symm)]
theorem rec_none {F : Frm} {l : List (Option Int)} (h : RecOk F l) (i : Nat) : RecOk F (l.set i none) := by
  refine ⟨by rw [List.length_set]; exact h.len, fun k v hv => ?_⟩
  by_cases c : k = i
  · subst c
    have hk := lt_of_get hv
    rw [List.length_set] at hk
    rw [List.getElem?_set_self hk] at hv
    cases hv
  · rw [List.getElem?_set_ne (fun e => c e.symm)] at hv
    exact h.val k v hv
theorem shown_hidden {F : Frm} (hF : FrmOk F) {l : List (Option Int)} (hl : l.length = F.fs.length) {i : Nat} (hi : i < l.length) (h : i ∉ shownL F l) : shownL F (l.set i none) = shownL F l := by
  have h1 : i ∉ shownL F (l.set i none) := by
    have := shown_congr hF (l := l) (l' := l.set i none) i (fun k hk _ => (gv_setne (by omega) none).symm) (fun k hk _ => (gv_setne (by omega) none).symm) i (Nat.le_refl _) (by omega)
    exact fun z => h (this.mpr z)
  apply shown_ext
  intro k hk
  refine (shown_congr hF (l := l) (l' := l.set i none) F.fs.length (fun k _ hk => ?_) (fun k _ hk => ?_) k (by omega) hk).symm
  · exact (gv_setne (k := k) (fun e => h (by rw [← e]; exact hk)) none).symm
  · exact (gv_setne (k := k) (fun e => h1 (by subst e; exact hk)) none).symm
theorem atI_neg1 {α : Type} (l : List α) (x : α) : atI (l ++ [x]) (-1) = some x := by
  have e : ixN (l ++ [x]).length (-1) = some l.length := by
    unfold ixN
    simp
    omega
  unfold atI
  rw [e]
  simp
theorem cutL_last {α : Type} (l : List α) (x : α) : cutL (l ++ [x]) none (some (-1)) = l := by
  unfold cutL
  have e1 : HT.sIx (l ++ [x]).length 0 none = 0 := rfl
  have e2 : HT.sIx (l ++ [x]).length (l ++ [x]).length (some (-1)) = l.length := by
    simp only [HT.sIx]
    rw [if_pos (by omega)]
    simp
    omega
  rw [e1, e2]
  simp
theorem snoc_of {α : Type} {l : List α} (h : l ≠ []) : ∃ m x, l = m ++ [x] := ⟨l.dropLast, l.getLast h, (List.dropLast_concat_getLast h).symm⟩
/-- an item that no field takes -/
def itemBad (d : D) (f : Fld) : Bool := match d with
  | .non => false
  | .int v => !inRg (.int v) 0 9 || !decide (v ∈ f.vs)
  | _ => true
def itemD : D → Bool
  | .non => true
  | .int _ => true
  | .bl _ => true
  | _ => false
section
variable {Γ : Gam} {ι ξ : Nat → Nat}
theorem record_bad1 (F : Frm) (w : D) (h : isiD .tuple w = false) : evF Γ 2 4 (cb_is_record ι ξ) [F.d, w] = .ok (.bl false) := by
  simp? only [evF, cb_is_record, h]
theorem record_bad2 (F : Frm) (ds : List D) (h : ds.length ≠ F.fs.length) : evF Γ 2 4 (cb_is_record ι ξ) [F.d, .tup ds] = .ok (.bl false) := by
  have hty : isiD .tuple (.tup ds) = true := rfl
  have hl : ¬ ((ds.length : Int) = ((F.fs.map Fld.d).length : Int)) := by rw [List.length_map]; omega
  simp? only [evF, cb_is_record, hty, FD_0, hl]
theorem record_bad3 (h0 : InRangeS Γ (ι 0)) (F : Frm) (ds : List D) (hi : ∀ d ∈ ds, itemD d = true) (hl : ds.length = F.fs.length) (hb : (List.zip ds F.fs).any (fun p => itemBad p.1 p.2) = true) : evF Γ 2 4 (cb_is_record ι ξ) [F.d, .tup ds] = .ok (.bl false) := by
  have hty : isiD .tuple (.tup ds) = true := rfl
  have hlen2 : (ds.length : Int) = ((F.fs.map Fld.d).length : Int) := by rw [List.length_map, hl]
  have hz : zipD (.tup ds) (.tup (F.fs.map Fld.d)) = .ok ((List.zip ds F.fs).map fun p : D × Fld => .tup [p.1, p.2.d]) := by
    show R.ok (zipL ds (F.fs.map Fld.d)) = _
    have := zipL_map (fun d : D => d) Fld.d ds F.fs
    rw [List.map_id'] at this
    rw [this]
  rcases forD_find (t := .tup [2, 3]) (body := exs Γ false (cb_is_record_1 ι ξ)) (fun p : D × Fld => .tup [p.1, p.2.d]) (fun δ => ∃ s t, δ = [.dat F.d, .dat (.tup ds), s, t]) (.bl false) (fun p => itemBad p.1 p.2) (List.zip ds F.fs) [.dat F.d, .dat (.tup ds), .none, .none] ⟨.none, .none, rfl⟩ (fun p hp δ hJ => by
    obtain ⟨s, t, rfl⟩ := hJ
    refine ⟨[.dat F.d, .dat (.tup ds), .dat p.1, .dat p.2.d], by simp? only [], ⟨_, _, rfl⟩, ?_⟩
    obtain ⟨d, f⟩ := p
    have hd := hi d (List.of_mem_zip hp).1
    cases d <;> first | (cases hd; done) | skip
    · have e : isNonD .non = true := rfl
      simp? only [cb_is_record_1, e, itemBad]
    · rename_i b
      have e : isNonD (.bl b) = false := rfl
      have e2 : inRg (.bl b) 0 9 = false := rfl
      simp? only [cb_is_record_1, e, h0 _ _ _, e2, itemBad]
    · rename_i v
      have e : isNonD (.int v) = false := rfl
      cases hr : inRg (.int v) 0 9 with
      | false => simp? only [cb_is_record_1, e, h0 _ _ _, hr, itemBad, Bool.true_or]
      | true =>
        cases hv : decide (v ∈ f.vs) <;> simp? only [cb_is_record_1, e, h0 _ _ _, hr, fD_0, nin_iD, hv, itemBad, Bool.false_or]) with ⟨a, ef⟩ | ⟨a, _⟩
  · simp? only [evF, cb_is_record, hty, FD_0, hlen2, hz, ef]
  · rw [a] at hb; cases hb
theorem check_record_bad (ho : Γ.own (ξ 1) = true) (F : Frm) (w : D) (h : Γ.fn (ι 7) [F.d, w] = .ok (.bl false)) : evF Γ 2 2 (cb_check_record ι ξ) [F.d, w] = .exc (ξ 1) := by
  simp? only [evF, cb_check_record, h, ho]
end
end PD
namespace PD
open PySem L2
abbrev Rc := List (Option Int)
def blankL (F : Frm) : Rc := List.replicate F.fs.length none
inductive Reach (F : Frm) : Rc → Prop
  | blank : Reach F (blankL F)
  | step {r r' : Rc} {e : Nat × Option Int} : Reach F r → e ∈ entsL F.fs → enteredL F r e.1 e.2 = some r' → Reach F r'
theorem entered_set {F : Frm} {l l' : Rc} {i : Nat} {o : Option Int} (h : enteredL F l i o = some l') : l' = l.set i o ∧ i ∈ shownL F l ∧ ¬ gv l i = o := by
  unfold enteredL at h
  split at h
  · cases h
  · rename_i cnd
    split at h
    · cases h
    · split at h
      · cases h
        refine ⟨rfl, ?_, fun e => cnd (.inr e)⟩
        by_cases z : i ∈ shownL F l
        · exact z
        · exact absurd (.inl z) cnd
      · cases h
theorem rec_setE {F : Frm} {l : Rc} (h : RecOk F l) {i : Nat} {o : Option Int} (he : EntOk F i o) : RecOk F (l.set i o) := by
  refine ⟨by rw [List.length_set]; exact h.len, fun k v hv => ?_⟩
  by_cases c : k = i
  · subst c
    obtain ⟨f, hf, hm⟩ := he
    have hk := lt_of_get hv
    rw [List.length_set] at hk
    rw [List.getElem?_set_self hk] at hv
    cases hv
    exact ⟨f, hf, hm v rfl⟩
  · rw [List.getElem?_set_ne (fun e => c e.symm)] at hv
    exact h.val k v hv
theorem blank_ok (F : Frm) : RecOk F (blankL F) := by
  refine ⟨by simp [blankL], fun i v hv => ?_⟩
  unfold blankL at hv
  rw [List.getElem?_replicate] at hv
  split at hv <;> cases hv
theorem Reach.ok {F : Frm} {r : Rc} (h : Reach F r) : RecOk F r := by
  induction h with
  | blank => exact blank_ok F
  | step _ he hs ih =>
    rw [(entered_set hs).1]
    exact rec_setE ih (ents_ok he)
def recPF (F : Frm) (i : Nat) : List Rc := (F.fs.take i).foldl recStep [[]]
theorem recPF_succ {F : Frm} {i : Nat} {f : Fld} (h : F.fs[i]? = some f) : recPF F (i + 1) = (recPF F i).flatMap (exts f) := by
  unfold recPF
  rw [List.take_add_one, h, List.foldl_append]
  exact recStep_eq _ _
theorem recPF_all (F : Frm) : recPF F F.fs.length = recsL F.fs := by
  unfold recPF recsL
  rw [List.take_of_length_le (Nat.le_refl _)]
theorem mem_recPF {F : Frm} : ∀ i, i ≤ F.fs.length → ∀ r : Rc, r.length = i → (∀ (k : Nat) (f : Fld), k < i → F.fs[k]? = some f → gv r k ∈ opts f) → r ∈ recPF F i
  | 0, _, r, hl, _ => by
    have : r = [] := List.eq_nil_of_length_eq_zero hl
    subst this
    simp [recPF]
  | i + 1, hi, r, hl, h => by
    obtain ⟨f, hf⟩ : ∃ f, F.fs[i]? = some f := ⟨F.fs[i], List.getElem?_eq_getElem (by omega)⟩
    obtain ⟨r0, o, rfl⟩ := snoc_of (show r ≠ [] from fun e => by rw [e] at hl; simp at hl)
    have hl0 : r0.length = i := by simpa using hl
    rw [recPF_succ hf]
    refine List.mem_flatMap.mpr ⟨r0, mem_recPF i (by omega) r0 hl0 (fun k g hk hg => ?_), ?_⟩
    · have := h k g (by omega) hg
      have e : gv (r0 ++ [o]) k = gv r0 k := by
        unfold gv
        rw [List.getElem?_append_left (by omega)]
      rwa [e] at this
    · have := h i f (by omega) hf
      have e : gv (r0 ++ [o]) i = o := by
        unfold gv
        rw [List.getElem?_append_right (by omega), hl0]
        simp
      rw [e] at this
      exact List.mem_map.mpr ⟨o, this, rfl⟩
theorem rec_mem {F : Frm} {r : Rc} (h : RecOk F r) : r ∈ recsL F.fs := by
  rw [← recPF_all]
  refine mem_recPF _ (Nat.le_refl _) r h.len fun k f hk hf => ?_
  have hk' : k < r.length := by rw [h.len]; exact hk
  have e1 : r[k]? = some r[k] := List.getElem?_eq_getElem hk'
  cases hg : gv r k with
  | none => simp [opts]
  | some v =>
    have e0 : r[k]? = some (some v) := by
      simp only [gv, e1, Option.getD_some] at hg
      rw [e1, hg]
    obtain ⟨g, hg2, hm⟩ := h.val k v e0
    rw [hf] at hg2
    cases hg2
    simp [opts, hm]
theorem nodup_le {α : Type} [DecidableEq α] : ∀ {a l : List α}, a.Nodup → (∀ x ∈ a, x ∈ l) → a.length ≤ l.length
  | [], _, _, _ => Nat.zero_le _
  | x :: a, l, nd, h => by
    obtain ⟨n1, n2⟩ := List.nodup_cons.mp nd
    have hx := h x List.mem_cons_self
    have := nodup_le (l := l.erase x) n2 fun y hy => by
      have hy2 := h y (List.mem_cons_of_mem _ hy)
      have hne : y ≠ x := fun e => n1 (e ▸ hy)
      exact (List.mem_erase_of_ne hne).mpr hy2
    rw [List.length_erase_of_mem hx] at this
    have hp : 0 < l.length := List.length_pos_of_mem hx
    rw [List.length_cons]
    omega
theorem recs_le {F : Frm} (hF : FrmOk F) : (recsL F.fs).length ≤ 625 := by
  have h2 := (recsL_ok F.fs (fld_le hF)).le
  have h3 : 5 ^ F.fs.length ≤ 5 ^ 4 := Nat.pow_le_pow_right (by decide) hF.le
  omega
theorem keys_le {F : Frm} (hF : FrmOk F) {ks : List Rc} (nd : ks.Nodup) (h : ∀ r ∈ ks, RecOk F r) : ks.length ≤ 625 := Nat.le_trans (nodup_le nd fun r hr => rec_mem (h r hr)) (recs_le hF)
theorem whileD_run {t : List S → R Bool} {b : List S → O} (I : Nat → List S → Prop) (P : List S → Prop)
    (step : ∀ m δ, I m δ → (t δ = .ok false ∧ P δ) ∨ (t δ = .ok true ∧ ∃ δ' m', b δ = .next δ' ∧ m' < m ∧ I m' δ')) : ∀ (n m : Nat) (δ : List S), m < n → I m δ → ∃ δ', whileD t b n δ = .next δ' ∧ P δ'
  | 0, m, δ, h, _ => absurd h (Nat.not_lt_zero _)
  | n + 1, m, δ, h, hI => by
    rcases step m δ hI with ⟨e, hp⟩ | ⟨e, δ', m', eb, hm, hI'⟩
    · exact ⟨δ, by simp [whileD, e, thenS], hp⟩
    · obtain ⟨δ3, e3, p3⟩ := whileD_run I P step n m' δ' (by omega) hI'
      exact ⟨δ3, by simp [whileD, e, thenS, eb, e3], p3⟩
theorem keysOf_rc : ∀ l : Rc, keysOf (l.map oD) = some l
  | [] => rfl
  | none :: l => by rw [List.map_cons]; show (keysOf (l.map oD)).map _ = _; rw [keysOf_rc l]; rfl
  | some v :: l => by rw [List.map_cons]; show (keysOf (l.map oD)).map _ = _; rw [keysOf_rc l]; rfl
theorem keyOf_rc (l : Rc) : keyOf (rcD l) = some l := keysOf_rc l
theorem find_some {k : Rc} : ∀ {ks : List Rc} {vs : List D}, ks.length = vs.length → (findK k ks vs).isSome = decide (k ∈ ks)
  | [], [], _ => by simp [findK]
  | [], _ :: _, h => by simp at h
  | _ :: _, [], h => by simp at h
  | k' :: ks, v :: vs, h => by
    unfold findK
    by_cases e : k' = k
    · subst e; simp
    · have e' : ¬ k = k' := fun z => e z.symm
      rw [if_neg e, find_some (by simpa using h)]
      simp [e']
structure Nd where
  key : Rc
  par : Option (Rc × (Nat × Option Int))
  dep : Nat
def pvD (x : Nd) : D := match x.par with
  | none => .non
  | some q => .tup [rcD q.1, enD q.2]
def dvD (x : Nd) : D := .int (x.dep : Int)
def rootN (F : Frm) : Nd := ⟨blankL F, none, 0⟩
def addN (F : Frm) (x : Nd) (b : List Nd) (e : Nat × Option Int) : List Nd := match enteredL F x.key e.1 e.2 with
  | some r' => if r' ∈ b.map Nd.key then b else b ++ [⟨r', some (x.key, e), x.dep + 1⟩]
  | none => b
def bfsN (F : Frm) : Nat → List Nd
  | 0 => [rootN F]
  | p + 1 => match (bfsN F p)[p]? with
    | some x => (entsL F.fs).foldl (addN F x) (bfsN F p)
    | none => bfsN F p
def treeN (F : Frm) : List Nd := bfsN F 625
theorem find_nd {k : Rc} (f : Nd → D) : ∀ b : List Nd, findK k (b.map Nd.key) (b.map f) = (b.find? fun x => decide (x.key = k)).map f
  | [] => by simp [findK]
  | x :: b => by
    rw [List.map_cons, List.map_cons]
    unfold findK
    by_cases e : x.key = k
    · simp [e]
    · rw [if_neg e, find_nd f b]
      simp [e]
/-- all that r leads to is there -/
def Done (F : Frm) (r : Rc) (ks : List Rc) : Prop := ∀ e ∈ entsL F.fs, ∀ r', enteredL F r e.1 e.2 = some r' → r' ∈ ks
theorem Done.mono {F : Frm} {r : Rc} {ks ks' : List Rc} (h : Done F r ks) (s : ∀ x ∈ ks, x ∈ ks') : Done F r ks' := fun e he r' hr => s _ (h e he r' hr)
theorem closed_all {F : Frm} {ks : List Rc} (h0 : blankL F ∈ ks) (hd : ∀ r ∈ ks, Done F r ks) {r : Rc} (h : Reach F r) : r ∈ ks := by
  induction h with
  | blank => exact h0
  | step _ he hs ih => exact hd _ ih _ he _ hs
/-- what holds of a list of nodes while x, at p, is tried -/
def ParOk (F : Frm) (b : List Nd) (i : Nat) (z : Nd) : Prop := ∃ (j : Nat) (y : Nd) (e : Nat × Option Int), j < i ∧ b[j]? = some y ∧ z.par = some (y.key, e) ∧ z.dep = y.dep + 1 ∧ e ∈ entsL F.fs ∧ enteredL F y.key e.1 e.2 = some z.key
structure TI (F : Frm) (b : List Nd) (d : Nat) : Prop where
  nd : (b.map Nd.key).Nodup
  rch : ∀ x ∈ b, Reach F x.key
  hd : b[0]? = some (rootN F)
  par : ∀ (i : Nat) (z : Nd), b[i]? = some z → 0 < i → ParOk F b i z
  mono : ∀ (i j : Nat) (y z : Nd), i ≤ j → b[i]? = some y → b[j]? = some z → y.dep ≤ z.dep
  top : ∀ z ∈ b, z.dep ≤ d + 1
theorem get_app {α : Type} {b : List α} {x : α} {i : Nat} {z : α} (h : (b ++ [x])[i]? = some z) : b[i]? = some z ∨ (i = b.length ∧ z = x) := by
  by_cases c : i < b.length
  · rw [List.getElem?_append_left c] at h; exact .inl h
  · have h2 := lt_of_get h
    simp at h2
    have : i = b.length := by omega
    subst this
    rw [List.getElem?_append_right (Nat.le_refl _)] at h
    simp at h
    exact .inr ⟨rfl, h.symm⟩
theorem app_get {α : Type} {b t : List α} {i : Nat} {z : α} (h : b[i]? = some z) : (b ++ t)[i]? = some z := by
  rw [List.getElem?_append_left (lt_of_get h)]; exact h
theorem ParOk.app {F : Frm} {b t : List Nd} {i : Nat} {z : Nd} (h : ParOk F b i z) : ParOk F (b ++ t) i z := by
  obtain ⟨j, y, e, h1, h2, h3⟩ := h
  exact ⟨j, y, e, h1, app_get h2, h3⟩
theorem TI.step {F : Frm} {b : List Nd} {p : Nat} {x : Nd} (h : TI F b x.dep) (hp : b[p]? = some x) {e : Nat × Option Int} (he : e ∈ entsL F.fs) : TI F (addN F x b e) x.dep := by
  unfold addN
  cases hx : enteredL F x.key e.1 e.2 with
  | none => exact h
  | some r' =>
    simp only
    split
    · exact h
    · rename_i hn
      have hpl := lt_of_get hp
      refine ⟨?_, fun z hz => ?_, app_get h.hd, fun i z hz h0 => ?_, fun i j y z hij hy hz => ?_, fun z hz => ?_⟩
      · rw [List.map_append, List.nodup_append]
        refine ⟨h.nd, by simp, fun a ha c hc z => ?_⟩
        simp at hc
        subst hc
        subst z
        exact hn ha
      · rcases List.mem_append.mp hz with q | q
        · exact h.rch z q
        · simp at q
          subst q
          exact .step (h.rch x (List.mem_of_getElem? hp)) he hx
      · rcases get_app hz with q | ⟨rfl, rfl⟩
        · exact (h.par i z q h0).app
        · exact ⟨p, x, e, hpl, app_get hp, rfl, rfl, he, hx⟩
      · rcases get_app hz with q | ⟨rfl, rfl⟩
        · rcases get_app hy with q2 | ⟨rfl, rfl⟩
          · exact h.mono i j y z hij q2 q
          · have := lt_of_get q; omega
        · rcases get_app hy with q2 | ⟨rfl, rfl⟩
          · exact h.top y (List.mem_of_getElem? q2)
          · exact Nat.le_refl _
      · rcases List.mem_append.mp hz with q | q
        · exact h.top z q
        · simp at q
          subst q
          exact Nat.le_refl _
theorem addN_pre (F : Frm) (x : Nd) (b : List Nd) (e : Nat × Option Int) : ∃ t, addN F x b e = b ++ t := by
  unfold addN
  cases enteredL F x.key e.1 e.2 with
  | none => exact ⟨[], by simp⟩
  | some r' =>
    simp only
    split
    · exact ⟨[], by simp⟩
    · exact ⟨_, rfl⟩
theorem foldN_pre (F : Frm) (x : Nd) : ∀ (es : List (Nat × Option Int)) (b : List Nd), ∃ t, es.foldl (addN F x) b = b ++ t
  | [], b => ⟨[], by simp⟩
  | e :: es, b => by
    obtain ⟨t, h⟩ := addN_pre F x b e
    obtain ⟨t2, h2⟩ := foldN_pre F x es (addN F x b e)
    exact ⟨t ++ t2, by rw [List.foldl_cons, h2, h, List.append_assoc]⟩
theorem TI.fold {F : Frm} {p : Nat} {x : Nd} : ∀ {es : List (Nat × Option Int)} {b : List Nd}, TI F b x.dep → b[p]? = some x → (∀ e ∈ es, e ∈ entsL F.fs) → TI F (es.foldl (addN F x) b) x.dep
  | [], _, h, _, _ => h
  | e :: es, b, h, hp, he => by
    rw [List.foldl_cons]
    refine TI.fold (p := p) (h.step hp (he e List.mem_cons_self)) ?_ fun y hy => he y (List.mem_cons_of_mem _ hy)
    obtain ⟨t, ht⟩ := addN_pre F x b e
    rw [ht]; exact app_get hp
theorem foldN_done (F : Frm) (x : Nd) : ∀ (es : List (Nat × Option Int)) (b : List Nd), ∀ e ∈ es, ∀ r', enteredL F x.key e.1 e.2 = some r' → r' ∈ (es.foldl (addN F x) b).map Nd.key
  | [], _, e, he, _, _ => by cases he
  | e0 :: es, b, e, he, r', hr' => by
    rw [List.foldl_cons]
    rcases List.mem_cons.mp he with rfl | he
    · obtain ⟨t, ht⟩ := foldN_pre F x es (addN F x b e)
      rw [ht, List.map_append]
      refine List.mem_append_left _ ?_
      unfold addN
      rw [hr']
      simp only
      split
      · assumption
      · simp
    · exact foldN_done F x es _ e he r' hr'
theorem TI.mono_d {F : Frm} {b : List Nd} {d d' : Nat} (h : TI F b d) (hd : d ≤ d') : TI F b d' := ⟨h.nd, h.rch, h.hd, h.par, h.mono, fun z hz => Nat.le_trans (h.top z hz) (by omega)⟩
theorem bfsN_some {F : Frm} {p : Nat} {x : Nd} (h : (bfsN F p)[p]? = some x) : bfsN F (p + 1) = (entsL F.fs).foldl (addN F x) (bfsN F p) := by
  show (match (bfsN F p)[p]? with
    | some x => (entsL F.fs).foldl (addN F x) (bfsN F p)
    | none => bfsN F p) = _
  rw [h]
theorem bfsN_none {F : Frm} {p : Nat} (h : (bfsN F p)[p]? = none) : bfsN F (p + 1) = bfsN F p := by
  show (match (bfsN F p)[p]? with
    | some x => (entsL F.fs).foldl (addN F x) (bfsN F p)
    | none => bfsN F p) = _
  rw [h]
theorem bfsN_pre (F : Frm) (p : Nat) : ∃ t, bfsN F (p + 1) = bfsN F p ++ t := by
  cases h : (bfsN F p)[p]? with
  | none => exact ⟨[], by rw [bfsN_none h]; simp⟩
  | some x => rw [bfsN_some h]; exact foldN_pre F x _ _
/-- the depth of the place that is tried next -/
def depN (F : Frm) (p : Nat) : Nat := match (bfsN F p)[p]? with
  | some x => x.dep
  | none => (bfsN F p).length
theorem bfsN_ti (F : Frm) : ∀ p, (∀ x, (bfsN F p)[p]? = some x → TI F (bfsN F p) x.dep) ∧ (∃ d, TI F (bfsN F p) d) ∧ (∀ i, i < p → ∀ x, (bfsN F p)[i]? = some x → Done F x.key ((bfsN F p).map Nd.key))
  | 0 => by
    have h0 : TI F [rootN F] 0 := by
      refine ⟨by simp, fun x hx => ?_, rfl, fun i z hz h0 => ?_, fun i j y z hij hy hz => ?_, fun z hz => ?_⟩
      · simp at hx; subst hx; exact .blank
      · have := lt_of_get hz; simp at this; omega
      · have := lt_of_get hy; have := lt_of_get hz
        simp at *
        subst_vars
        simp at hy hz
        rw [← hy, ← hz]; exact Nat.le_refl _
      · simp at hz; subst hz; exact Nat.zero_le _
    exact ⟨fun x hx => h0.mono_d (Nat.zero_le _), ⟨0, h0⟩, fun i hi => by omega⟩
  | p + 1 => by
    obtain ⟨ih1, ⟨d, ih2⟩, ih3⟩ := bfsN_ti F p
    cases h : (bfsN F p)[p]? with
    | none =>
      rw [bfsN_none h]
      have hl : (bfsN F p).length ≤ p := List.getElem?_eq_none_iff.mp h
      refine ⟨fun x hx => ?_, ⟨d, ih2⟩, fun i hi x hx => ?_⟩
      · have := lt_of_get hx; omega
      · have := lt_of_get hx
        exact ih3 i (by omega) x hx
    | some x =>
      rw [bfsN_some h]
      have t1 := TI.fold (p := p) (es := entsL F.fs) (ih1 x h) h fun e he => he
      obtain ⟨t, ht⟩ := foldN_pre F x (entsL F.fs) (bfsN F p)
      refine ⟨fun y hy => ?_, ⟨_, t1⟩, fun i hi y hy => ?_⟩
      · refine t1.mono_d (t1.mono p (p + 1) x y (by omega) ?_ hy)
        rw [ht]; exact app_get h
      · by_cases c : i = p
        · subst c
          rw [ht, app_get h] at hy
          cases hy
          exact fun e he r' hr => foldN_done F x _ _ e he r' hr
        · have hil : i < (bfsN F p).length := by
            have := lt_of_get h; omega
          have hy' : (bfsN F p)[i]? = some y := by
            rw [ht, List.getElem?_append_left hil] at hy
            exact hy
          refine (ih3 i (by omega) y hy').mono fun k hk => ?_
          rw [ht, List.map_append]
          exact List.mem_append_left _ hk
theorem bfsN_le {F : Frm} (hF : FrmOk F) (p : Nat) : (bfsN F p).length ≤ 625 := by
  obtain ⟨d, h⟩ := (bfsN_ti F p).2.1
  have := keys_le hF h.nd fun r hr => by
    obtain ⟨x, hx, rfl⟩ := List.mem_map.mp hr
    exact (h.rch x hx).ok
  simpa using this
theorem bfsN_stay {F : Frm} {p : Nat} (h : (bfsN F p).length ≤ p) : ∀ k, bfsN F (p + k) = bfsN F p
  | 0 => rfl
  | k + 1 => by
    have ih := bfsN_stay h k
    rw [← Nat.add_assoc, bfsN_none, ih]
    rw [ih]
    exact List.getElem?_eq_none_iff.mpr (by omega)
theorem bfsN_end {F : Frm} (hF : FrmOk F) {p : Nat} (h : (bfsN F p).length ≤ p) (hp : p ≤ 625) : bfsN F p = treeN F := by
  unfold treeN
  rw [show (625 : Nat) = p + (625 - p) by omega, bfsN_stay h]
theorem tree_le {F : Frm} (hF : FrmOk F) : (treeN F).length ≤ 625 := bfsN_le hF _
theorem tree_ti (F : Frm) : ∃ d, TI F (treeN F) d := (bfsN_ti F 625).2.1
theorem tree_reach {F : Frm} (hF : FrmOk F) (r : Rc) : r ∈ (treeN F).map Nd.key ↔ Reach F r := by
  obtain ⟨d, h⟩ := tree_ti F
  constructor
  · intro hr
    obtain ⟨x, hx, rfl⟩ := List.mem_map.mp hr
    exact h.rch x hx
  · refine closed_all ?_ fun r hr => ?_
    · exact List.mem_map.mpr ⟨_, List.mem_of_getElem? h.hd, rfl⟩
    · obtain ⟨x, hx, rfl⟩ := List.mem_map.mp hr
      obtain ⟨i, hi⟩ := List.getElem?_of_mem hx
      have := lt_of_get hi
      have := tree_le hF
      exact (bfsN_ti F 625).2.2 i (by omega) x hi
end PD
namespace PD
open PySem L2
section
variable {Γ : Gam} {ι ξ : Nat → Nat}
theorem mul_none (n : Nat) (h1 : 1 ≤ n) (h2 : n ≤ 4) : binD .mul (.tup [.non]) (.int (n : Int)) = some (rcD (List.replicate n none)) := by
  simp only [binD]
  rw [if_pos ⟨by simp, by omega, by omega, by simp⟩, Int.toNat_natCast]
  congr 1
  rw [rcD, List.map_replicate]
  congr 1
  clear h1 h2
  induction n with
  | zero => rfl
  | succ k ih => rw [List.replicate_succ, List.flatten_cons, ih, List.replicate_succ]; rfl
theorem fs_pos {F : Frm} (hF : FrmOk F) : 1 ≤ F.fs.length := by
  have : F.fs.length ≠ 0 := fun e => hF.ne (List.eq_nil_of_length_eq_zero e)
  omega
theorem blank_c (F : Frm) (hF : FrmOk F) : evF Γ 1 1 (cb_blank ι ξ) [F.d] = .ok (rcD (blankL F)) := by
  have hz1 : 1 ≤ szN := by decide
  have hfl : (((F.fs.map Fld.d).length : Nat) : Int) = (F.fs.length : Int) := by rw [List.length_map]
  have hm := mul_none F.fs.length (fs_pos hF) hF.le
  simp? only [evF, cb_blank, hz1, FD_0, hfl, hm, blankL]
theorem entries_of_c (F : Frm) (hF : FrmOk F) : evF Γ 1 5 (cb_entries_of ι ξ) [F.d] = .ok (.lst ((entsL F.fs).map enD)) := by
  have hz0 : 0 ≤ szN := Nat.zero_le _
  have hz1 : 1 ≤ szN := by decide
  have hz2 : 2 ≤ szN := by decide
  have hit : enumD (.tup (F.fs.map Fld.d)) = .ok ((F.fs.mapIdx fun i x => (i, x)).map fun q : Nat × Fld => .tup [.int q.1, q.2.d]) := by
    show R.ok (enumL _) = _
    rw [enumL_map]
  obtain ⟨δ', ef, s2, s3, rfl⟩ := forD_pre (t := .tup [2, 3]) (body := exs Γ false (cb_entries_of_1 ι ξ)) (fun q : Nat × Fld => .tup [.int q.1, q.2.d]) (fun (b : List (Nat × Option Int)) δ => ∃ s2 s3, δ = [.dat F.d, .own (b.map enD), s2, s3, .none]) (fun b q => b ++ (opts q.2).map fun o => (q.1, o)) (F.fs.mapIdx fun i x => (i, x)) [] [.dat F.d, .own [], .none, .none, .none] ⟨_, _, rfl⟩ (fun pre q post e δ hJ => by
    obtain ⟨s2, s3, rfl⟩ := hJ
    have hq : q ∈ F.fs.mapIdx fun i x => (i, x) := by rw [e]; simp
    have hf4 := fld_le hF q.2 (List.mem_of_getElem? (mem_idx hq))
    have hbl : (pre.foldl (fun b q => b ++ (opts q.2).map fun o => (q.1, o)) []).length ≤ 20 := by
      rw [foldl_app, List.nil_append]
      have hpl : pre.length ≤ 4 := by
        have := congrArg List.length e
        have := hF.le
        simp at *
        omega
      refine Nat.le_trans (flat_le _ 5 _ fun x hx => ?_) (by omega)
      have hx' : x ∈ F.fs.mapIdx fun i x => (i, x) := by rw [e]; exact List.mem_append_left _ hx
      have := fld_le hF x.2 (List.mem_of_getElem? (mem_idx hx'))
      simp [opts]; omega
    generalize pre.foldl (fun b q => b ++ (opts q.2).map fun o => (q.1, o)) [] = b at hbl
    have ha : binD .add (.tup [.non]) (iD q.2.vs) = some (.tup ((opts q.2).map oD)) := by
      rw [iD, add_tup _ _ (by simp [szN]; omega), ← opts_d]; rfl
    have lc := lcD_map (t := .nm 4) (tst := (evo Γ false .no).T) (elt := (ev Γ false (ce_entries_of_1 ι ξ)).E) (δ := [.dat F.d, .own (b.map enD), .dat (.int q.1), .dat q.2.d, .none]) oD (fun _ => true) (fun o => enD (q.1, o)) (xs := opts q.2) (fun o ho =>
      ⟨[.dat F.d, .own (b.map enD), .dat (.int q.1), .dat q.2.d, .dat (oD o)], by simp? only [], by simp? only [], fun _ => by simp? only [ce_entries_of_1, hz2, enD]⟩)
    rw [List.filter_eq_self.mpr (fun _ _ => rfl)] at lc
    have e2 : b.map enD ++ ((opts q.2).map fun o => enD (q.1, o)) = (b ++ (opts q.2).map fun o => (q.1, o)).map enD := by rw [List.map_append, List.map_map]; rfl
    have hl2 : (b.map enD).length + ((opts q.2).map fun o => enD (q.1, o)).length ≤ szN := by simp [szN, opts]; omega
    refine ⟨[.dat F.d, .own (b.map enD), .dat (.int q.1), .dat q.2.d, .none], by simp? only [], _, .inl ?_, .dat (.int q.1), .dat q.2.d, rfl⟩
    simp? only [cb_entries_of_1, fD_0, hz1, ha, lc, hl2, e2])
  simp? only [evF, cb_entries_of, hz0, FD_0, hit, ef, entsL]
abbrev fst7 (F : Frm) (b : List Nd) (p : Nat) (s4 s5 s6 : S) : List S := [.dat F.d, .dow (b.map Nd.key) (b.map pvD), .own (b.map fun x => rcD x.key), .dat (.int p), s4, s5, s6]
theorem find_none {k : Rc} (f : Nd → D) {b : List Nd} (h : ¬ k ∈ b.map Nd.key) : findK k (b.map Nd.key) (b.map f) = none := by
  have := find_some (k := k) (ks := b.map Nd.key) (vs := b.map f) (by simp)
  cases z : findK k (b.map Nd.key) (b.map f) with
  | none => rfl
  | some d => rw [z] at this; simp at this; exact absurd (List.mem_map.mpr this) h
theorem find_got {k : Rc} (f : Nd → D) {b : List Nd} (h : k ∈ b.map Nd.key) : ∃ d, findK k (b.map Nd.key) (b.map f) = some d := by
  have := find_some (k := k) (ks := b.map Nd.key) (vs := b.map f) (by simp)
  cases z : findK k (b.map Nd.key) (b.map f) with
  | none => rw [z] at this; simp at this; exact absurd (List.mem_map.mp h) (by simpa using this)
  | some d => exact ⟨d, rfl⟩
theorem ti_le {F : Frm} (hF : FrmOk F) {b : List Nd} {d : Nat} (h : TI F b d) : b.length ≤ 625 := by
  have := keys_le hF h.nd fun r hr => by
    obtain ⟨x, hx, rfl⟩ := List.mem_map.mp hr
    exact (h.rch x hx).ok
  simpa using this
theorem filled_try (h12 : EnteredS Γ (ι 12)) (F : Frm) (hF : FrmOk F) (b : List Nd) (p : Nat) (x : Nd) (hb : TI F b x.dep) (hp : b[p]? = some x) (e : Nat × Option Int) (he : e ∈ entsL F.fs) (s6 : S) :
    ∃ s6', exs Γ false (cb_filled_2 ι ξ) (fst7 F b p (.dat (.int e.1)) (.dat (oD e.2)) s6) = .next (fst7 F (addN F x b e) p (.dat (.int e.1)) (.dat (oD e.2)) s6') := by
  have hz2 : 2 ≤ szN := by decide
  have rk := (hb.rch x (List.mem_of_getElem? hp)).ok
  have ek := ents_ok he
  have hi : e.1 < x.key.length := by
    obtain ⟨f, hf, _⟩ := ek
    rw [rk.len]; exact lt_of_get hf
  have hat := at_map (fun x : Nd => rcD x.key) hp
  have hx := h12 F hF x.key rk.len e.1 hi e.2
  have hle := ti_le hF hb
  have hlt : (b.map Nd.key).length < szN := by rw [List.length_map]; simp [szN]; omega
  have hlt2 : (b.map fun x : Nd => rcD x.key).length < szN := by rw [List.length_map]; simp [szN]; omega
  cases hE : enteredL F x.key e.1 e.2 with
  | none =>
    rw [hE] at hx
    have o0 : orD none = .non := rfl
    rw [o0] at hx
    have n0 : isNonD .non = true := rfl
    have ea : addN F x b e = b := by unfold addN; rw [hE]
    rw [ea]
    exact ⟨.dat .non, by simp? only [fst7, cb_filled_2, hat, hx, n0]⟩
  | some r' =>
    rw [hE] at hx
    have o1 : orD (some r') = rcD r' := rfl
    rw [o1] at hx
    have n0 : isNonD (rcD r') = false := rfl
    by_cases hm : r' ∈ b.map Nd.key
    · have ea : addN F x b e = b := by unfold addN; rw [hE]; simp only; rw [if_pos hm]
      rw [ea]
      obtain ⟨d, hfs⟩ := find_got pvD hm
      exact ⟨.dat (rcD r'), by simp? only [fst7, cb_filled_2, hat, hx, n0, keyOf_rc, hfs, Option.isSome_some]⟩
    · have ea : addN F x b e = b ++ [⟨r', some (x.key, e), x.dep + 1⟩] := by unfold addN; rw [hE]; simp only; rw [if_neg hm]
      rw [ea]
      have hfn := find_none pvD hm
      refine ⟨.dat (rcD r'), ?_⟩
      simp only [fst7, List.map_append, List.map_cons, List.map_nil]
      simp? only [cb_filled_2, hat, hx, n0, keyOf_rc, hfn, hz2, hlt, hlt2, enD, pvD, Option.isSome_none]
theorem filled_in (h12 : EnteredS Γ (ι 12)) (h35 : ∀ F, FrmOk F → Γ.fn (ι 35) [F.d] = .ok (.lst ((entsL F.fs).map enD))) (F : Frm) (hF : FrmOk F) (p : Nat) (x : Nd) (hp : (bfsN F p)[p]? = some x) (s4 s5 s6 : S) :
    ∃ s4' s5' s6', exs Γ false (cb_filled_1 ι ξ) (fst7 F (bfsN F p) p s4 s5 s6) = .next (fst7 F (bfsN F (p + 1)) (p + 1) s4' s5' s6') := by
  have t0 := (bfsN_ti F p).1 x hp
  obtain ⟨δ', ef, s4', s5', s6', rfl⟩ := forD_pre (t := .tup [4, 5]) (body := exs Γ false (cb_filled_2 ι ξ)) enD (fun (b : List Nd) δ => ∃ s4 s5 s6, δ = fst7 F b p s4 s5 s6) (addN F x) (entsL F.fs) (bfsN F p) (fst7 F (bfsN F p) p s4 s5 s6) ⟨_, _, _, rfl⟩ (fun pre e post he δ hJ => by
    obtain ⟨s4, s5, s6, rfl⟩ := hJ
    have he' : e ∈ entsL F.fs := by rw [he]; simp
    have t1 := TI.fold (p := p) (es := pre) t0 hp fun y hy => by rw [he]; exact List.mem_append_left _ hy
    obtain ⟨t, ht⟩ := foldN_pre F x pre (bfsN F p)
    have hp1 : (pre.foldl (addN F x) (bfsN F p))[p]? = some x := by rw [ht]; exact app_get hp
    obtain ⟨s6', e2⟩ := filled_try (ξ := ξ) h12 F hF _ p x t1 hp1 e he' s6
    exact ⟨fst7 F (pre.foldl (addN F x) (bfsN F p)) p (.dat (.int e.1)) (.dat (oD e.2)) s6, by simp? only [enD], _, .inl e2, _, _, _, rfl⟩)
  refine ⟨s4', s5', s6', ?_⟩
  rw [← bfsN_some hp] at ef
  simp only [fst7] at ef
  simp? only [fst7, cb_filled_1, h35 F hF, ef]
  rfl
theorem filled_c (h12 : EnteredS Γ (ι 12)) (h34 : ∀ F, FrmOk F → Γ.fn (ι 34) [F.d] = .ok (rcD (blankL F))) (h35 : ∀ F, FrmOk F → Γ.fn (ι 35) [F.d] = .ok (.lst ((entsL F.fs).map enD))) (F : Frm) (hF : FrmOk F) :
    evF Γ 1 7 (cb_filled ι ξ) [F.d] = .ok (.tup [.lst ((treeN F).map fun x => rcD x.key), .dct ((treeN F).map Nd.key) ((treeN F).map pvD)]) := by
  have hz1 : 1 ≤ szN := by decide
  have hz2 : 2 ≤ szN := by decide
  obtain ⟨δ', ef, s4, s5, s6, p, rfl⟩ := whileD_run (t := (ev Γ false (.cmp .lt (.var 3) (.bf .len (.cons (.var 2) .nil)))).T) (b := exs Γ false (cb_filled_1 ι ξ))
    (fun m δ => ∃ s4 s5 s6 p, p ≤ (bfsN F p).length ∧ m + p = 625 ∧ δ = fst7 F (bfsN F p) p s4 s5 s6) (fun δ => ∃ s4 s5 s6 p, δ = fst7 F (treeN F) p s4 s5 s6) (fun m δ hI => by
      obtain ⟨s4, s5, s6, p, h1, h2, rfl⟩ := hI
      have hl : ((((bfsN F p).map fun x => rcD x.key).length : Nat) : Int) = ((bfsN F p).length : Int) := by rw [List.length_map]
      by_cases c : p < (bfsN F p).length
      · right
        have hp : (bfsN F p)[p]? = some (bfsN F p)[p] := List.getElem?_eq_getElem c
        have hlt : cmpD .lt (.int (p : Int)) (.int ((bfsN F p).length : Int)) = some true := by
          simp only [cmpD]; simp; exact c
        obtain ⟨s4', s5', s6', e2⟩ := filled_in (ξ := ξ) h12 h35 F hF p _ hp s4 s5 s6
        obtain ⟨t, ht⟩ := bfsN_pre F p
        have hle := bfsN_le hF p
        refine ⟨by simp? only [fst7, hl, hlt], _, m - 1, e2, by omega, s4', s5', s6', p + 1, ?_, by omega, rfl⟩
        rw [ht, List.length_append]; omega
      · left
        have hlt : cmpD .lt (.int (p : Int)) (.int ((bfsN F p).length : Int)) = some false := by
          simp only [cmpD]; simp; omega
        refine ⟨by simp? only [fst7, hl, hlt], s4, s5, s6, p, ?_⟩
        rw [bfsN_end hF (by omega) (by omega)]) 1000000 625 (fst7 F (bfsN F 0) 0 .none .none .none) (by omega) ⟨_, _, _, 0, Nat.zero_le _, rfl, rfl⟩
  have e0 : fst7 F (bfsN F 0) 0 .none .none .none = [.dat F.d, .dow [blankL F] [.non], .own [rcD (blankL F)], .dat (.int 0), .none, .none, .none] := rfl
  rw [e0] at ef
  simp only [fst7] at ef
  simp? only [evF, cb_filled, hz1, hz2, h34 F hF, keyOf_rc, ef]
end
end PD
namespace PD
open PySem L2
section
variable {Γ : Gam} {ι ξ : Nat → Nat}
theorem find_at (f : Nd → D) : ∀ {b : List Nd} {p : Nat} {x : Nd}, (b.map Nd.key).Nodup → b[p]? = some x → findK x.key (b.map Nd.key) (b.map f) = some (f x)
  | [], p, x, _, h => by simp at h
  | y :: b, 0, x, _, h => by
    simp at h
    subst h
    rw [List.map_cons, List.map_cons]
    unfold findK
    rw [if_pos rfl]
  | y :: b, p + 1, x, nd, h => by
    rw [List.map_cons] at nd
    obtain ⟨n1, n2⟩ := List.nodup_cons.mp nd
    have h' : b[p]? = some x := by simpa using h
    rw [List.map_cons, List.map_cons]
    unfold findK
    rw [if_neg, find_at f n2 h']
    intro e
    exact n1 (List.mem_map.mpr ⟨x, List.mem_of_getElem? h', e.symm⟩)
abbrev keyD (x : Nd) : D := rcD x.key
abbrev lst10 (F : Frm) (b : List Nd) (lev : List Nd) (s5 s6 s7 s8 s9 : S) : List S := [.dat F.d, .dat (rcD (blankL F)), .dow (b.map Nd.key) (b.map dvD), .dat (.lst (lev.map keyD)), .dat (.lst ((entsL F.fs).map enD)), s5, s6, s7, s8, s9]
theorem drop_app {α : Type} {b t : List α} {n : Nat} (h : n ≤ b.length) : (b ++ t).drop n = b.drop n ++ t := by
  rw [List.drop_append, show n - b.length = 0 by omega, List.drop_zero]
theorem lfilled_try (h33 : EnteredS Γ (ι 33)) (F : Frm) (hF : FrmOk F) (b lev : List Nd) (n p : Nat) (hn : n ≤ b.length) (x : Nd) (hb : TI F b x.dep) (hp : b[p]? = some x) (e : Nat × Option Int) (he : e ∈ entsL F.fs) (s9 : S) :
    ∃ s9', exs Γ false (cb_law_filled_up_3 ι ξ) (lst10 F b lev (.own ((b.drop n).map keyD)) (.dat (rcD x.key)) (.dat (.int e.1)) (.dat (oD e.2)) s9) = .next (lst10 F (addN F x b e) lev (.own (((addN F x b e).drop n).map keyD)) (.dat (rcD x.key)) (.dat (.int e.1)) (.dat (oD e.2)) s9') := by
  have rk := (hb.rch x (List.mem_of_getElem? hp)).ok
  have ek := ents_ok he
  have hi : e.1 < x.key.length := by
    obtain ⟨f, hf, _⟩ := ek
    rw [rk.len]; exact lt_of_get hf
  have hx := h33 F hF x.key rk.len e.1 hi e.2
  have hle := ti_le hF hb
  have hlt : (b.map Nd.key).length < szN := by rw [List.length_map]; simp [szN]; omega
  have hlt2 : ((b.drop n).map keyD).length < szN := by rw [List.length_map, List.length_drop]; simp [szN]; omega
  have hgx := find_at dvD hb.nd hp
  cases hE : enteredL F x.key e.1 e.2 with
  | none =>
    rw [hE] at hx
    have o0 : orD none = .non := rfl
    rw [o0] at hx
    have n0 : isNonD .non = true := rfl
    have ea : addN F x b e = b := by unfold addN; rw [hE]
    rw [ea]
    exact ⟨.dat .non, by simp? only [lst10, cb_law_filled_up_3, hx, n0]⟩
  | some r' =>
    rw [hE] at hx
    have o1 : orD (some r') = rcD r' := rfl
    rw [o1] at hx
    have n0 : isNonD (rcD r') = false := rfl
    by_cases hm : r' ∈ b.map Nd.key
    · have ea : addN F x b e = b := by unfold addN; rw [hE]; simp only; rw [if_pos hm]
      rw [ea]
      obtain ⟨d, hfs⟩ := find_got dvD hm
      exact ⟨.dat (rcD r'), by simp? only [lst10, cb_law_filled_up_3, hx, n0, keyOf_rc, hfs, Option.isSome_some]⟩
    · have ea : addN F x b e = b ++ [⟨r', some (x.key, e), x.dep + 1⟩] := by unfold addN; rw [hE]; simp only; rw [if_neg hm]
      rw [ea, drop_app hn]
      have hfn := find_none dvD hm
      have hd1 : dvD x = .int (x.dep : Int) := rfl
      have hd2 : dvD ⟨r', some (x.key, e), x.dep + 1⟩ = .int ((x.dep : Int) + 1) := by simp [dvD]
      refine ⟨.dat (rcD r'), ?_⟩
      simp only [lst10, List.map_append, List.map_cons, List.map_nil, hd2]
      simp? only [cb_law_filled_up_3, hx, n0, keyOf_rc, hfn, hlt, hlt2, Option.isSome_none, hgx, hd1]
theorem lfilled_in (h33 : EnteredS Γ (ι 33)) (F : Frm) (hF : FrmOk F) (lev : List Nd) (n p : Nat) (x : Nd) (hp : (bfsN F p)[p]? = some x) (hn : n ≤ (bfsN F p).length) (s7 s8 s9 : S) :
    ∃ s7' s8' s9', exs Γ false (cb_law_filled_up_2 ι ξ) (lst10 F (bfsN F p) lev (.own (((bfsN F p).drop n).map keyD)) (.dat (rcD x.key)) s7 s8 s9) = .next (lst10 F (bfsN F (p + 1)) lev (.own (((bfsN F (p + 1)).drop n).map keyD)) (.dat (rcD x.key)) s7' s8' s9') := by
  have t0 := (bfsN_ti F p).1 x hp
  obtain ⟨δ', ef, s4', s5', s6', rfl⟩ := forD_pre (t := .tup [7, 8]) (body := exs Γ false (cb_law_filled_up_3 ι ξ)) enD (fun (b : List Nd) δ => ∃ s7 s8 s9, δ = lst10 F b lev (.own ((b.drop n).map keyD)) (.dat (rcD x.key)) s7 s8 s9) (addN F x) (entsL F.fs) (bfsN F p) (lst10 F (bfsN F p) lev (.own (((bfsN F p).drop n).map keyD)) (.dat (rcD x.key)) s7 s8 s9) ⟨_, _, _, rfl⟩ (fun pre e post he δ hJ => by
    obtain ⟨s4, s5, s6, rfl⟩ := hJ
    have he' : e ∈ entsL F.fs := by rw [he]; simp
    have t1 := TI.fold (p := p) (es := pre) t0 hp fun y hy => by rw [he]; exact List.mem_append_left _ hy
    obtain ⟨t, ht⟩ := foldN_pre F x pre (bfsN F p)
    have hp1 : (pre.foldl (addN F x) (bfsN F p))[p]? = some x := by rw [ht]; exact app_get hp
    have hn1 : n ≤ (pre.foldl (addN F x) (bfsN F p)).length := by rw [ht, List.length_append]; omega
    obtain ⟨s6', e2⟩ := lfilled_try (ξ := ξ) h33 F hF _ lev n p hn1 x t1 hp1 e he' s6
    exact ⟨lst10 F (pre.foldl (addN F x) (bfsN F p)) lev (.own (((pre.foldl (addN F x) (bfsN F p)).drop n).map keyD)) (.dat (rcD x.key)) (.dat (.int e.1)) (.dat (oD e.2)) s6, by simp? only [enD], _, .inl e2, _, _, _, rfl⟩)
  refine ⟨s4', s5', s6', ?_⟩
  rw [← bfsN_some hp] at ef
  simp only [lst10] at ef
  simp? only [lst10, cb_law_filled_up_2, ef]
theorem bfsN_get {F : Frm} {p i : Nat} {x : Nd} (h : (bfsN F p)[i]? = some x) : ∀ k, (bfsN F (p + k))[i]? = some x
  | 0 => h
  | k + 1 => by
    obtain ⟨t, ht⟩ := bfsN_pre F (p + k)
    rw [← Nat.add_assoc, ht]
    exact app_get (bfsN_get h k)
theorem bfsN_len (F : Frm) (p : Nat) : ∀ k, (bfsN F p).length ≤ (bfsN F (p + k)).length
  | 0 => Nat.le_refl _
  | k + 1 => by
    obtain ⟨t, ht⟩ := bfsN_pre F (p + k)
    rw [← Nat.add_assoc, ht, List.length_append]
    have := bfsN_len F p k
    omega
theorem foldl_succ {α : Type} : ∀ (xs : List α) (n : Nat), xs.foldl (fun k _ => k + 1) n = n + xs.length
  | [], n => rfl
  | x :: xs, n => by rw [List.foldl_cons, foldl_succ xs, List.length_cons]; omega
theorem lfilled_level (h33 : EnteredS Γ (ι 33)) (F : Frm) (hF : FrmOk F) (p : Nat) (hp : p ≤ (bfsN F p).length) (s5 s6 s7 s8 s9 : S) :
    ∃ s5' s6' s7' s8' s9', exs Γ false (cb_law_filled_up_1 ι ξ) (lst10 F (bfsN F p) ((bfsN F p).drop p) s5 s6 s7 s8 s9) = .next (lst10 F (bfsN F (bfsN F p).length) ((bfsN F (bfsN F p).length).drop (bfsN F p).length) s5' s6' s7' s8' s9') := by
  have hz0 : 0 ≤ szN := Nat.zero_le _
  generalize hN : (bfsN F p).length = n at hp
  obtain ⟨δ', ef, s6', s7', s8', s9', rfl⟩ := forD_pre (t := .nm 6) (body := exs Γ false (cb_law_filled_up_2 ι ξ)) keyD (fun (k : Nat) δ => ∃ s6 s7 s8 s9, δ = lst10 F (bfsN F (p + k)) ((bfsN F p).drop p) (.own (((bfsN F (p + k)).drop n).map keyD)) s6 s7 s8 s9) (fun k _ => k + 1) ((bfsN F p).drop p) 0 (lst10 F (bfsN F p) ((bfsN F p).drop p) (.own []) s6 s7 s8 s9) ⟨s6, s7, s8, s9, by
      have : (bfsN F (p + 0)).drop n = [] := List.drop_eq_nil_of_le (by rw [Nat.add_zero]; omega)
      rw [this]; rfl⟩ (fun pre x post he δ hJ => by
    obtain ⟨s6, s7, s8, s9, rfl⟩ := hJ
    rw [foldl_succ, Nat.zero_add]
    have hx0 : (bfsN F p)[p + pre.length]? = some x := by
      rw [← List.getElem?_drop, he]; simp
    have hx := bfsN_get hx0 pre.length
    have hn1 : n ≤ (bfsN F (p + pre.length)).length := by rw [← hN]; exact bfsN_len F p _
    obtain ⟨s7', s8', s9', e2⟩ := lfilled_in (ξ := ξ) h33 F hF ((bfsN F p).drop p) n (p + pre.length) x hx hn1 s7 s8 s9
    exact ⟨lst10 F (bfsN F (p + pre.length)) ((bfsN F p).drop p) (.own (((bfsN F (p + pre.length)).drop n).map keyD)) (.dat (rcD x.key)) s7 s8 s9, by simp? only [], _, .inl e2, _, _, _, _, rfl⟩)
  rw [foldl_succ, Nat.zero_add, List.length_drop, show p + ((bfsN F p).length - p) = n by omega] at ef
  refine ⟨.dat (.lst (((bfsN F n).drop n).map keyD)), s6', s7', s8', s9', ?_⟩
  simp only [lst10] at ef
  simp? only [lst10, cb_law_filled_up_1, hz0, ef]
theorem noScr_keys (b : List Nd) : noScrs (b.map keyD) = true := noScrs_map keyD (fun x : Nd => noScr_rc x.key) b
theorem dep_keys (b : List Nd) : deps (b.map keyD) ≤ 50 := Nat.le_trans (deps_map keyD 1 (fun x : Nd => dep_rc x.key) b) (by decide)
theorem law_filled_c (h33 : EnteredS Γ (ι 33)) (h23 : ∀ F, FrmOk F → Γ.fn (ι 23) [F.d] = .ok (.lst ((entsL F.fs).map enD))) (F : Frm) (hF : FrmOk F) :
    evF Γ 1 10 (cb_law_filled_up ι ξ) [F.d] = .ok (.dct ((treeN F).map Nd.key) ((treeN F).map dvD)) := by
  have hz0 : 0 ≤ szN := Nat.zero_le _
  have hz1 : 1 ≤ szN := by decide
  have hfl : (((F.fs.map Fld.d).length : Nat) : Int) = (F.fs.length : Int) := by rw [List.length_map]
  have hm := mul_none F.fs.length (fs_pos hF) hF.le
  obtain ⟨δ', ef, lev, s5, s6, s7, s8, s9, rfl⟩ := whileD_run (t := (ev Γ false (.cmp .ne (.var 3) (.lst .nil))).T) (b := exs Γ false (cb_law_filled_up_1 ι ξ))
    (fun m δ => ∃ s5 s6 s7 s8 s9 p, p ≤ (bfsN F p).length ∧ m + p = 625 ∧ δ = lst10 F (bfsN F p) ((bfsN F p).drop p) s5 s6 s7 s8 s9) (fun δ => ∃ lev s5 s6 s7 s8 s9, δ = lst10 F (treeN F) lev s5 s6 s7 s8 s9) (fun m δ hI => by
      obtain ⟨s5, s6, s7, s8, s9, p, h1, h2, rfl⟩ := hI
      have hne := ne_nil (((bfsN F p).drop p).map keyD) (noScr_keys _) (dep_keys _)
      have hle := bfsN_le hF p
      by_cases c : p < (bfsN F p).length
      · right
        have hc : (((bfsN F p).drop p).map keyD).isEmpty = false := by
          rw [List.isEmpty_eq_false_iff]
          intro z
          have := congrArg List.length z
          simp at this
          omega
        rw [hc] at hne
        obtain ⟨s5', s6', s7', s8', s9', e2⟩ := lfilled_level (ξ := ξ) h33 F hF p h1 s5 s6 s7 s8 s9
        refine ⟨by simp? only [lst10, hz0, hne], _, 625 - (bfsN F p).length, e2, by omega, s5', s6', s7', s8', s9', (bfsN F p).length, ?_, by omega, rfl⟩
        have := bfsN_len F p ((bfsN F p).length - p)
        rw [show p + ((bfsN F p).length - p) = (bfsN F p).length by omega] at this
        exact this
      · left
        have hc : (((bfsN F p).drop p).map keyD).isEmpty = true := by
          rw [List.isEmpty_iff, List.drop_eq_nil_of_le (by omega)]; rfl
        rw [hc] at hne
        refine ⟨by simp? only [lst10, hz0, hne], (bfsN F p).drop p, s5, s6, s7, s8, s9, ?_⟩
        rw [← bfsN_end hF (show (bfsN F p).length ≤ p by omega) (by omega)]) 1000000 625 (lst10 F (bfsN F 0) ((bfsN F 0).drop 0) .none .none .none .none .none) (by omega) ⟨_, _, _, _, _, 0, Nat.zero_le _, rfl, rfl⟩
  have e0 : lst10 F (bfsN F 0) ((bfsN F 0).drop 0) .none .none .none .none .none = [.dat F.d, .dat (rcD (blankL F)), .dow [blankL F] [.int 0], .dat (.lst [rcD (blankL F)]), .dat (.lst ((entsL F.fs).map enD)), .none, .none, .none, .none, .none] := rfl
  rw [e0] at ef
  simp only [lst10] at ef
  have hb : rcD (List.replicate F.fs.length none) = rcD (blankL F) := rfl
  rw [hb] at hm
  simp? only [evF, cb_law_filled_up, hz0, hz1, FD_0, hfl, hm, h23 F hF, keyOf_rc, ef, and_self]
end
end PD
namespace PD
open PySem L2
theorem broken_gen {F : Frm} (l : List (Option Int)) (ks : List Nat) : (brokenL F l ks).isEmpty = !F.rs.any fun r => decide (r.kd ∈ ks) && r.ps.all (holdP (shownL F l) l) := by
  have e : (F.rs.mapIdx fun i x => (i, x)).map (·.2) = F.rs := by
    apply List.ext_getElem?
    intro i
    rw [List.getElem?_map, List.getElem?_mapIdx]
    cases F.rs[i]? <;> rfl
  conv => rhs; rw [← e]
  rw [brokenL, List.isEmpty_map, List.any_map]
  generalize (F.rs.mapIdx fun i x => (i, x)) = qs
  induction qs with
  | nil => rfl
  | cons q qs ih =>
    rw [List.filter_cons, List.any_cons]
    simp only [Function.comp]
    cases hb : brokP F l ks q with
    | true =>
      have : (decide (q.2.kd ∈ ks) && q.2.ps.all (holdP (shownL F l) l)) = true := hb
      rw [this]; rfl
    | false =>
      have : (decide (q.2.kd ∈ ks) && q.2.ps.all (holdP (shownL F l) l)) = false := hb
      rw [this, if_neg (by decide), ih, Bool.false_or]
def upTo (r : Rc) (k : Nat) : Rc := r.take k ++ List.replicate (r.length - k) none
theorem upTo_len (r : Rc) (k : Nat) : (upTo r k).length = r.length := by
  unfold upTo
  rw [List.length_append, List.length_take, List.length_replicate]; omega
theorem gv_upTo (r : Rc) (k i : Nat) : gv (upTo r k) i = if i < k then gv r i else none := by
  unfold gv upTo
  split
  · rename_i h
    by_cases c : i < r.length
    · rw [List.getElem?_append_left (by rw [List.length_take]; omega), List.getElem?_take, if_pos h]
    · rw [List.getElem?_eq_none (by rw [List.length_append, List.length_take, List.length_replicate]; omega), List.getElem?_eq_none (by omega)]
  · rename_i h
    by_cases c : i < r.length
    · rw [List.getElem?_append_right (by rw [List.length_take]; omega), List.getElem?_replicate]
      split <;> rfl
    · rw [List.getElem?_eq_none (by rw [List.length_append, List.length_take, List.length_replicate]; omega)]; rfl
theorem gv_ext {a b : Rc} (hl : a.length = b.length) (h : ∀ i, gv a i = gv b i) : a = b := by
  apply List.ext_getElem?
  intro i
  have := h i
  unfold gv at this
  by_cases c : i < a.length
  · rw [List.getElem?_eq_getElem c, List.getElem?_eq_getElem (by omega)] at this ⊢
    simpa using this
  · rw [List.getElem?_eq_none (by omega), List.getElem?_eq_none (by omega)]
theorem gv_setE {l : Rc} {i : Nat} {o : Option Int} (hi : i < l.length) (k : Nat) : gv (l.set i o) k = if k = i then o else gv l k := by
  unfold gv
  split
  · rename_i h
    subst h
    rw [List.getElem?_set_self hi]; rfl
  · rename_i h
    rw [List.getElem?_set_ne (fun e => h e.symm)]
theorem upTo_succ {r : Rc} {k : Nat} (hk : k < r.length) : (upTo r k).set k (gv r k) = upTo r (k + 1) := by
  apply gv_ext
  · rw [List.length_set, upTo_len, upTo_len]
  · intro i
    rw [gv_setE (by rw [upTo_len]; exact hk), gv_upTo, gv_upTo]
    by_cases c : i = k
    · subst c; simp
    · rw [if_neg c]
      by_cases c2 : i < k
      · rw [if_pos c2, if_pos (by omega)]
      · rw [if_neg c2, if_neg (by omega)]
theorem upTo_stay {r : Rc} {k : Nat} (hk : gv r k = none) : upTo r (k + 1) = upTo r k := by
  apply gv_ext
  · rw [upTo_len, upTo_len]
  · intro i
    rw [gv_upTo, gv_upTo]
    by_cases c : i = k
    · subst c; simp [hk]
    · by_cases c2 : i < k
      · rw [if_pos c2, if_pos (by omega)]
      · rw [if_neg c2, if_neg (by omega)]
theorem upTo_zero {F : Frm} {r : Rc} (h : r.length = F.fs.length) : upTo r 0 = blankL F := by
  unfold upTo blankL
  simp [h]
theorem upTo_all (r : Rc) : upTo r r.length = r := by unfold upTo; simp
structure Cln (F : Frm) (r : Rc) : Prop where
  ok : RecOk F r
  full : ∀ k ∈ shownL F r, ∃ v, gv r k = some v
  hid : ∀ k, k ∉ shownL F r → gv r k = none
  unb : ∀ q ∈ F.rs, q.kd = 0 ∨ q.kd = 2 → ∃ p ∈ q.ps, holdP (shownL F r) r p = false
theorem cln_of {F : Frm} (hF : FrmOk F) {r : Rc} (h : r ∈ cleansL F) : Cln F r := by
  obtain ⟨h1, h2⟩ := List.mem_filter.mp h
  rw [Bool.and_eq_true] at h2
  obtain ⟨h2, h3⟩ := h2
  have rk := recOk_of hF h1
  unfold sendsL at h2
  rw [Bool.and_eq_true] at h2
  obtain ⟨h4, h5⟩ := h2
  refine ⟨rk, fun k hk => ?_, fun k hk => ?_, fun q hq hk => ?_⟩
  · exact Option.isSome_iff_exists.mp (List.all_eq_true.mp h4 k hk)
  · by_cases c : k < r.length
    · have := List.all_eq_true.mp h3 k (by rw [List.mem_range'_1]; omega)
      simp [hk] at this
      exact this
    · unfold gv
      rw [List.getElem?_eq_none (by omega)]; rfl
  · rw [broken_gen] at h5
    rw [Bool.not_eq_true', List.any_eq_false] at h5
    have h6 := h5 q hq
    have h7 : decide (q.kd ∈ [0, 2]) = true := by simp; exact hk
    rw [h7, Bool.true_and] at h6
    simp only [Bool.not_eq_true] at h6
    obtain ⟨p, hp, hp2⟩ := List.all_eq_false.mp h6
    exact ⟨p, hp, by simpa using hp2⟩
theorem cln_in {F : Frm} {r : Rc} (h : Cln F r) : r ∈ cleansL F := by
  refine List.mem_filter.mpr ⟨rec_mem h.ok, ?_⟩
  rw [Bool.and_eq_true]
  constructor
  · unfold sendsL
    rw [Bool.and_eq_true]
    constructor
    · rw [List.all_eq_true]
      intro k hk
      exact Option.isSome_iff_exists.mpr (h.full k hk)
    · rw [broken_gen, Bool.not_eq_true', List.any_eq_false]
      intro q hq hc
      rw [Bool.and_eq_true] at hc
      obtain ⟨p, hp, hp2⟩ := h.unb q hq (by simpa using hc.1)
      have := List.all_eq_true.mp hc.2 p hp
      rw [hp2] at this
      cases this
  · unfold cleanL
    rw [List.all_eq_true]
    intro k hk
    by_cases c : k ∈ shownL F r
    · simp [c]
    · simp [h.hid k c]
theorem shown_upTo {F : Frm} (hF : FrmOk F) (r : Rc) (n k : Nat) (hk : k ≤ n) (hf : k < F.fs.length) : k ∈ shownL F (upTo r n) ↔ k ∈ shownL F r := by
  refine shown_congr hF n (fun j hj _ => ?_) (fun j hj _ => ?_) k hk hf
  · rw [gv_upTo, if_pos hj]
  · rw [gv_upTo, if_pos hj]
theorem enter_up {F : Frm} (hF : FrmOk F) (hn : ∀ q ∈ F.rs, q.kd ≠ 1) {r : Rc} (h : Cln F r) {k : Nat} (hk : k ∈ shownL F r) : enteredL F (upTo r k) k (gv r k) = some (upTo r (k + 1)) := by
  have hkf := shown_lt hk
  have hkl : k < r.length := by rw [h.ok.len]; exact hkf
  obtain ⟨v, hv⟩ := h.full k hk
  unfold enteredL
  rw [if_neg, if_neg, upTo_succ hkl, if_pos]
  · rw [broken_gen, Bool.not_eq_true', List.any_eq_false]
    intro q hq hc
    rw [Bool.and_eq_true] at hc
    have hq0 : q.kd = 0 := by simpa using hc.1
    obtain ⟨p, hp, hp2⟩ := h.unb q hq (.inl hq0)
    have h3 := List.all_eq_true.mp hc.2 p hp
    simp only [holdP, Bool.and_eq_true, decide_eq_true_eq] at h3
    obtain ⟨h4, h5⟩ := h3
    rw [gv_upTo] at h5
    split at h5
    · rename_i hlt
      have h6 := (shown_upTo hF r (k + 1) p.1 (by omega) (shown_lt h4)).mp h4
      simp [holdP, h6, h5] at hp2
    · cases h5
  · intro hc
    obtain ⟨q, hq, hq2⟩ := List.any_eq_true.mp hc
    unfold needP at hq2
    rw [Bool.and_eq_true] at hq2
    exact hn q hq (by simpa using hq2.1)
  · intro hc
    rcases hc with hc | hc
    · exact hc ((shown_upTo hF r k k (Nat.le_refl _) hkf).mpr hk)
    · rw [gv_upTo, if_neg (Nat.lt_irrefl _), hv] at hc
      cases hc
theorem mem_ents {F : Frm} {r : Rc} (h : RecOk F r) {k : Nat} (hk : k < F.fs.length) : (k, gv r k) ∈ entsL F.fs := by
  rw [entsL_eq]
  obtain ⟨f, hf⟩ : ∃ f, F.fs[k]? = some f := ⟨F.fs[k], List.getElem?_eq_getElem hk⟩
  refine List.mem_flatMap.mpr ⟨(k, f), ?_, List.mem_map.mpr ⟨gv r k, ?_, rfl⟩⟩
  · refine List.mem_of_getElem? (i := k) ?_
    rw [List.getElem?_mapIdx, hf]; rfl
  · cases hg : gv r k with
    | none => simp [opts]
    | some v =>
      have hkr : k < r.length := by rw [h.len]; exact hk
      have e0 : r[k]? = some (some v) := by
        unfold gv at hg
        rw [List.getElem?_eq_getElem hkr] at hg ⊢
        simpa using hg
      obtain ⟨g, hg2, hm⟩ := h.val k v e0
      rw [hf] at hg2
      cases hg2
      simp [opts, hm]
theorem reach_up {F : Frm} (hF : FrmOk F) (hn : ∀ q ∈ F.rs, q.kd ≠ 1) {r : Rc} (h : Cln F r) : ∀ k, k ≤ F.fs.length → Reach F (upTo r k)
  | 0, _ => by rw [upTo_zero h.ok.len]; exact .blank
  | k + 1, hk => by
    have ih := reach_up hF hn h k (by omega)
    by_cases c : k ∈ shownL F r
    · exact .step ih (mem_ents h.ok (by omega)) (enter_up hF hn h c)
    · rw [upTo_stay (h.hid k c)]; exact ih
theorem clean_reach {F : Frm} (hF : FrmOk F) (hn : ∀ q ∈ F.rs, q.kd ≠ 1) {r : Rc} (h : r ∈ cleansL F) : Reach F r := by
  have h' := cln_of hF h
  have := reach_up hF hn h' F.fs.length (Nat.le_refl _)
  rw [← h'.ok.len, upTo_all] at this
  exact this
instance (F : Frm) (r : Rc) : Decidable (r ∈ (treeN F).map Nd.key) := inferInstance
def unentL (F : Frm) : List Rc := (cleansL F).filter fun r => !decide (r ∈ (treeN F).map Nd.key)
theorem unent_nil {F : Frm} (hF : FrmOk F) (hn : ∀ q ∈ F.rs, q.kd ≠ 1) : unentL F = [] := by
  unfold unentL
  rw [List.filter_eq_nil_iff]
  intro r hr
  simp only [Bool.not_eq_true', decide_eq_false_iff_not, Classical.not_not]
  exact (tree_reach hF r).mpr (clean_reach hF hn hr)
section
variable {Γ : Gam} {ι ξ : Nat → Nat}
abbrev FilledS (Γ : Gam) (j : Nat) : Prop := ∀ F, FrmOk F → Γ.fn j [F.d] = .ok (.tup [.lst ((treeN F).map fun x => rcD x.key), .dct ((treeN F).map Nd.key) ((treeN F).map pvD)])
theorem unenterable_c (h6 : CheckFormS Γ (ι 6)) (h36 : FilledS Γ (ι 36)) (h28 : ∀ F, FrmOk F → Γ.fn (ι 28) [F.d] = .ok (.lst ((cleansL F).map rcD))) (F : Frm) (hF : FrmOk F) : evF Γ 1 3 (cb_unenterable ι ξ) [F.d] = .ok (.lst ((unentL F).map rcD)) := by
  have lc := lcD_map (t := .nm 2) (tst := (evo Γ false (ct_unenterable_1 ι ξ)).T) (elt := (ev Γ false (.var 2)).E) (δ := [.dat F.d, .dat (.dct ((treeN F).map Nd.key) ((treeN F).map pvD)), .none]) rcD (fun r => !decide (r ∈ (treeN F).map Nd.key)) rcD (xs := cleansL F) (fun r hr =>
    ⟨[.dat F.d, .dat (.dct ((treeN F).map Nd.key) ((treeN F).map pvD)), .dat (rcD r)], by simp? only [], by
      have hfs := find_some (k := r) (ks := (treeN F).map Nd.key) (vs := (treeN F).map pvD) (by simp)
      simp? only [ct_unenterable_1, keyOf_rc, hfs], fun _ => by simp? only []⟩)
  have ha : ∀ a b : D, atI [a, b] 1 = some b := fun _ _ => rfl
  simp? only [evF, cb_unenterable, h6 F hF, h36 F hF, h28 F hF, ha, lc, unentL]
end
end PD
namespace PD
open PySem L2
def snf0 (x : Int) (a : Bool) : Fld := ⟨if a then [x] else [x, 9], []⟩
def snf1 (x y : Int) (b : Bool) : Fld := ⟨if b then [y] else [y, 8], [(0, [x])]⟩
def snf2 (z : Int) : Fld := ⟨[z], []⟩
def snr2 (z : Int) (a : Bool) : Rul := ⟨2, if a then [(2, z)] else [(0, 9), (2, z)]⟩
def snF (x y z : Int) (a b c d e : Bool) : Frm := ⟨[snf0 x a, snf1 x y b, snf2 z], (if d then [] else [⟨1, [(0, x), (2, z)]⟩]) ++ ⟨0, [(0, x), (2, z), (1, y)]⟩ :: (if c then [snr2 z a] else []), e⟩
theorem vals1 {x : Int} (h : 0 ≤ x) (h2 : x ≤ 9) : ValsOk [x] := ⟨by simp, by simp, by simp, by simp; omega⟩
theorem vals2 {x y : Int} (h : 0 ≤ x) (h2 : x < y) (h3 : y ≤ 9) : ValsOk [x, y] := ⟨by simp, by simp, by simp; omega, by simp; omega⟩
theorem sn_ok {x y z : Int} (hx : 0 ≤ x ∧ x < 4) (hy : 4 ≤ y ∧ y < 7) (hz : 7 ≤ z ∧ z < 10) (a b c d e : Bool) : FrmOk (snF x y z a b c d e) := by
  have v0 : ValsOk (snf0 x a).vs := by
    cases a
    · exact vals2 (by omega) (by omega) (by omega)
    · exact vals1 (by omega) (by omega)
  have v1 : ValsOk (snf1 x y b).vs := by
    cases b
    · exact vals2 (by omega) (by omega) (by omega)
    · exact vals1 (by omega) (by omega)
  have m0 : x ∈ (snf0 x a).vs := by cases a <;> simp [snf0]
  have m1 : y ∈ (snf1 x y b).vs := by cases b <;> simp [snf1]
  have m2 : z ∈ (snf2 z).vs := by simp [snf2]
  refine ⟨by simp [snF], by simp [snF], fun i f hf => ?_, ?_, fun r hr => ?_⟩
  · match i, hf with
    | 0, hf =>
      simp [snF] at hf
      subst hf
      exact ⟨v0, by simp [snf0], by simp [snf0], by simp [snf0]⟩
    | 1, hf =>
      simp [snF] at hf
      subst hf
      refine ⟨v1, by simp [snf1], by simp [snf1], fun q hq => ?_⟩
      simp [snf1] at hq
      subst hq
      refine ⟨snf0 x a, rfl, vals1 (by omega) (by omega), fun v hv => ?_⟩
      simp at hv
      subst hv
      exact m0
    | 2, hf =>
      simp [snF] at hf
      subst hf
      exact ⟨vals1 (by omega) (by omega), by simp [snf2], by simp [snf2], by simp [snf2]⟩
    | n + 3, hf => simp [snF] at hf
  · cases d <;> cases c <;> simp [snF]
  · have hr' : r = ⟨1, [(0, x), (2, z)]⟩ ∨ r = ⟨0, [(0, x), (2, z), (1, y)]⟩ ∨ r = snr2 z a := by
      cases d <;> cases c <;> simp [snF] at hr
      · rcases hr with rfl | rfl <;> simp
      · rcases hr with rfl | rfl | rfl <;> simp
      · rcases hr with rfl; simp
      · rcases hr with rfl | rfl <;> simp
    rcases hr' with rfl | rfl | rfl
    · refine ⟨by simp, by simp, by simp, by simp, by simp, fun p hp => ?_⟩
      simp at hp
      rcases hp with rfl | rfl
      · exact ⟨snf0 x a, rfl, m0⟩
      · exact ⟨snf2 z, rfl, m2⟩
    · refine ⟨by simp, by simp, by simp, by simp, by simp, fun p hp => ?_⟩
      simp at hp
      rcases hp with rfl | rfl | rfl
      · exact ⟨snf0 x a, rfl, m0⟩
      · exact ⟨snf2 z, rfl, m2⟩
      · exact ⟨snf1 x y b, rfl, m1⟩
    · cases a with
      | true =>
        refine ⟨by simp [snr2], by simp [snr2], by simp [snr2], by simp [snr2], by simp [snr2], fun p hp => ?_⟩
        simp [snr2] at hp
        subst hp
        exact ⟨snf2 z, rfl, m2⟩
      | false =>
        refine ⟨by simp [snr2], by simp [snr2], by simp [snr2], by simp [snr2], by simp [snr2], fun p hp => ?_⟩
        simp [snr2] at hp
        rcases hp with rfl | rfl
        · exact ⟨snf0 x false, rfl, by simp [snf0]⟩
        · exact ⟨snf2 z, rfl, m2⟩
section
variable {Γ : Gam} {ι ξ : Nat → Nat}
theorem eq_int0 (z : Int) : cmpD .eq (.int z) (.int 0) = some (decide (z = 0)) := by simp
theorem law_snare_c (l l2 : List Int) (hl : Rw l) (hl2 : Rw l2) : ∃ F, FrmOk F ∧ 2 ≤ F.fs.length ∧ evF Γ 2 9 (cb_law_snare ι ξ) [.lst (l.map .int), .lst (l2.map .int)] = .ok F.d := by
  have hz0 : 0 ≤ szN := Nat.zero_le _
  have hz1 : 1 ≤ szN := by decide
  have hz2 : 2 ≤ szN := by decide
  have hz3 : 3 ≤ szN := by decide
  have d0 := atZ hl 0 (by decide) (by decide)
  have d1 := atZ hl 1 (by decide) (by decide)
  have d2 := atZ hl 2 (by decide) (by decide)
  have d3 := atZ hl 3 (by decide) (by decide)
  have d4 := atZ hl 4 (by decide) (by decide)
  have m0 := atZ hl2 0 (by decide) (by decide)
  have m1 := atZ hl2 1 (by decide) (by decide)
  have m2 := atZ hl2 2 (by decide) (by decide)
  generalize (dr l (0 : Int).toNat) = D0 at d0
  generalize (dr l (1 : Int).toNat) = D1 at d1
  generalize (dr l (2 : Int).toNat) = D2 at d2
  generalize (dr l (3 : Int).toNat) = D3 at d3
  generalize (dr l (4 : Int).toNat) = D4 at d4
  generalize (dr l2 (0 : Int).toNat) = M0 at m0
  generalize (dr l2 (1 : Int).toNat) = M1 at m1
  generalize (dr l2 (2 : Int).toNat) = M2 at m2
  have g4 : ∀ a b : D, atI [a, b] ((D4 : Int) % 2) = some (if (D4 : Int) % 2 = 0 then a else b) := fun a b => by
    have : (D4 : Int) % 2 = 0 ∨ (D4 : Int) % 2 = 1 := by omega
    rcases this with e | e <;> rw [e] <;> rfl
  have hgt : decide ((D0 : Int) % 3 > 0) = !decide ((D0 : Int) % 3 = 0) := by
    by_cases c : (D0 : Int) % 3 = 0
    · simp [c]
    · simp [c]; omega
  refine ⟨snF ((M0 : Int) % 4) (4 + (M1 : Int) % 3) (7 + (M2 : Int) % 3) (decide ((D0 : Int) % 3 = 0)) (decide ((D1 : Int) % 3 = 0)) (decide ((D2 : Int) % 3 = 0)) (decide ((D3 : Int) % 4 = 0)) (decide (¬ (D4 : Int) % 2 = 0)), sn_ok ⟨by omega, by omega⟩ ⟨by omega, by omega⟩ ⟨by omega, by omega⟩ _ _ _ _ _, by simp [snF], ?_⟩
  have ad : ∀ a b c : D, binD .add (.tup [a, b]) (.tup [c]) = some (.tup [a, b, c]) := fun a b c => add_tup _ _ (by simp [szN])
  have ct2 : ∀ a b : D, cutD (.tup [a, b]) (some 1) none = some (.tup [b]) := fun a b => by show some (D.tup (cutL _ _ _)) = _; rw [cutL_from1]; rfl
  have ct3 : ∀ a b c : D, cutD (.tup [a, b, c]) (some 1) none = some (.tup [b, c]) := fun a b c => by show some (D.tup (cutL _ _ _)) = _; rw [cutL_from1]; rfl
  by_cases c0 : (D0 : Int) % 3 = 0
  · have c0' : ¬ (0 : Int) < 0 := by decide
    by_cases c1 : (D1 : Int) % 3 = 0 <;> by_cases c2 : (D2 : Int) % 3 = 0 <;> by_cases c3 : (D3 : Int) % 4 = 0 <;> by_cases c4 : (D4 : Int) % 2 = 0 <;>
    simp? only [evF, cb_law_snare, and_self, hz0, hz1, hz2, hz3, d0, d1, d2, d3, d4, m0, m1, m2, mod_int _ 4 (by decide), mod_int _ 3 (by decide), mod_int _ 2 (by decide), g4, c0, c1, c2, c3, c4, c0', ad, ct2, ct3] <;> rfl
  · have c0' : (0 : Int) < (D0 : Int) % 3 := by omega
    by_cases c1 : (D1 : Int) % 3 = 0 <;> by_cases c2 : (D2 : Int) % 3 = 0 <;> by_cases c3 : (D3 : Int) % 4 = 0 <;> by_cases c4 : (D4 : Int) % 2 = 0 <;>
    simp? only [evF, cb_law_snare, and_self, hz0, hz1, hz2, hz3, d0, d1, d2, d3, d4, m0, m1, m2, mod_int _ 4 (by decide), mod_int _ 3 (by decide), mod_int _ 2 (by decide), g4, c0, c1, c2, c3, c4, c0', ad, ct2, ct3] <;> rfl
end
end PD
namespace PD
open PySem L2
theorem cutL_take {α : Type} (l : List α) (k : Nat) : cutL l none (some (k : Int)) = l.take k := by
  by_cases h : k ≤ l.length
  · exact cutL_hi l k h
  · unfold cutL
    have e1 : HT.sIx l.length 0 none = 0 := rfl
    have e2 : HT.sIx l.length l.length (some (k : Int)) = min k l.length := HT.sIx_nat l.length l.length k
    rw [e1, e2, Nat.min_eq_right (by omega), Nat.sub_zero, List.drop_zero, List.take_of_length_le (Nat.le_refl _), List.take_of_length_le (by omega)]
theorem range_all {α : Type} : ∀ m : List α, (List.range m.length).filterMap (fun i => m[i]?) = m
  | [] => rfl
  | x :: m => by
    rw [List.length_cons, List.range_succ_eq_map, List.filterMap_cons]
    simp only [List.getElem?_cons_zero, List.filterMap_map]
    congr 1
    exact range_all m
theorem fm_congr {α β : Type} {f g : α → Option β} : ∀ {l : List α}, (∀ x ∈ l, f x = g x) → l.filterMap f = l.filterMap g
  | [], _ => rfl
  | x :: l, h => by rw [List.filterMap_cons, List.filterMap_cons, h x List.mem_cons_self, fm_congr fun y hy => h y (List.mem_cons_of_mem _ hy)]
theorem stp_rev {α : Type} (l : List α) : stpL l none none (some (-1)) = l.reverse := by
  unfold stpL pickL stpIx
  have e : sliceRange (sliceBounds none none (some (-1)) l.length).1 (sliceBounds none none (some (-1)) l.length).2.1 (sliceBounds none none (some (-1)) l.length).2.2 = (List.range l.length).map fun k => l.length - 1 - k := by
    show sliceRange ((l.length : Int) - 1) (-1) (-1) = _
    unfold sliceRange
    have hc : (if (-1 : Int) > 0 then (if (l.length : Int) - 1 < -1 then (-1 - ((l.length : Int) - 1) + -1 - 1) / -1 else 0) else (if (l.length : Int) - 1 > -1 then ((l.length : Int) - 1 - -1 - -1 - 1) / (- -1) else 0)) = (l.length : Int) := by
      rw [if_neg (by decide)]
      by_cases h : (l.length : Int) - 1 > -1
      · rw [if_pos h, show (- -1 : Int) = 1 from rfl, Int.ediv_one]; omega
      · rw [if_neg h]; omega
    simp only [hc, Int.toNat_natCast]
    apply List.map_congr_left
    intro k hk
    rw [List.mem_range] at hk
    omega
  rw [e, List.filterMap_map]
  have e2 : (List.range l.length).filterMap ((fun x => l[x]?) ∘ fun k => l.length - 1 - k) = (List.range l.reverse.length).filterMap (fun i => l.reverse[i]?) := by
    rw [List.length_reverse]
    apply fm_congr
    intro k hk
    rw [List.mem_range] at hk
    rw [List.getElem?_reverse hk]
    rfl
  rw [e2, range_all]
theorem eqT_str (ds : List D) (l : List Nat) (h : noScrs ds = true) (h2 : deps ds ≤ 50) : cmpD .eq (.tup ds) (.str l) = some false := by
  rw [cmpD, if_pos (by simp [eqOk, noScr, h, dep, noScrs, deps])]
  rfl
theorem noScr_en (e : Nat × Option Int) : noScr (enD e) = true := by
  show noScr (.tup [.int e.1, oD e.2]) = true
  simp only [noScr, noScrs, noScr_oD, Bool.and_self]
theorem dep_en (e : Nat × Option Int) : dep (enD e) ≤ 1 := by
  show dep (.tup [.int e.1, oD e.2]) ≤ 1
  simp only [dep, deps, dep_oD]
  omega
def stepO (F : Frm) (o : Option Rc) (e : Nat × Option Int) : Option Rc := o.bind fun r => enteredL F r e.1 e.2
def runL (F : Frm) (es : List (Nat × Option Int)) : Option Rc := es.foldl (stepO F) (some (blankL F))
abbrev dctP (b : List Nd) : D := .dct (b.map Nd.key) (b.map pvD)
section
variable {Γ : Gam} {ι ξ : Nat → Nat}
theorem way_loop {F : Frm} {b : List Nd} {d : Nat} (h : TI F b d) : ∀ (i : Nat) (z : Nd), b[i]? = some z → ∃ es : List (Nat × Option Int), es.length = z.dep ∧ es.length ≤ i ∧ runL F es = some z.key ∧ (∀ e ∈ es, e ∈ entsL F.fs) ∧
    ∀ (acc : List (Nat × Option Int)) (n : Nat) (s3 : S), i < n → acc.length + i < szN → ∃ k s3', whileD (ev Γ false (.isn true (.dget 0 (.var 1)))).T (exs Γ false (cb_way_of_1 ι ξ)) n [.dat (dctP b), .dat (rcD z.key), .own (acc.map enD), s3] = .next [.dat (dctP b), .dat k, .own ((acc ++ es.reverse).map enD), s3'] := by
  intro i
  induction i using Nat.strongRecOn with
  | ind i ih =>
    intro z hz
    have hf := find_at pvD h.nd hz
    by_cases c : i = 0
    · subst c
      have hr := h.hd
      rw [hz] at hr
      cases hr
      refine ⟨[], rfl, Nat.le_refl _, rfl, by simp, fun acc n s3 hn hs => ⟨rcD (rootN F).key, s3, ?_⟩⟩
      obtain ⟨m, rfl⟩ : ∃ m, n = m + 1 := ⟨n - 1, by omega⟩
      have hp : pvD (rootN F) = .non := rfl
      rw [while_end (by simp? only [keyOf_rc, hf, hp])]
      simp
    · obtain ⟨j, y, e, hj, hy, hpar, hdep, he, hent⟩ := h.par i z hz (by omega)
      obtain ⟨es, h1, h2, h3, h4, h5⟩ := ih j hj y hy
      refine ⟨es ++ [e], by rw [List.length_append, h1, hdep]; rfl, by rw [List.length_append]; simp; omega, ?_, ?_, fun acc n s3 hn hs => ?_⟩
      · unfold runL at h3 ⊢
        rw [List.foldl_append, h3]
        exact hent
      · intro x hx
        rcases List.mem_append.mp hx with q | q
        · exact h4 x q
        · simp at q; subst q; exact he
      · obtain ⟨m, rfl⟩ : ∃ m, n = m + 1 := ⟨n - 1, by omega⟩
        have hp : pvD z = .tup [rcD y.key, enD e] := by unfold pvD; rw [hpar]
        obtain ⟨k, s3', h6⟩ := h5 (acc ++ [e]) m (.dat (enD e)) (by omega) (by rw [List.length_append]; simp; omega)
        refine ⟨k, s3', ?_⟩
        have hlt : (acc.map enD).length < szN := by rw [List.length_map]; omega
        have ea : (acc ++ [e]).map enD = acc.map enD ++ [enD e] := by simp
        rw [while_go (δ' := [.dat (dctP b), .dat (rcD y.key), .own ((acc ++ [e]).map enD), .dat (enD e)]) (by simp? only [keyOf_rc, hf, hp]) (by simp? only [cb_way_of_1, keyOf_rc, hf, hp, hlt, ea]), h6, List.reverse_append]
        simp
theorem way_of_c {F : Frm} (hF : FrmOk F) (z : Nd) (hz : z ∈ treeN F) : ∃ es : List (Nat × Option Int), es.length = z.dep ∧ runL F es = some z.key ∧ (∀ e ∈ es, e ∈ entsL F.fs) ∧ evF Γ 2 4 (cb_way_of ι ξ) [dctP (treeN F), rcD z.key] = .ok (.tup (es.map enD)) := by
  obtain ⟨d, h⟩ := tree_ti F
  obtain ⟨i, hi⟩ := List.getElem?_of_mem hz
  have hil := lt_of_get hi
  have hle := tree_le hF
  obtain ⟨es, h1, h2, h3, h4, h5⟩ := way_loop (Γ := Γ) (ι := ι) (ξ := ξ) h i z hi
  refine ⟨es, h1, h3, h4, ?_⟩
  obtain ⟨k, s3, h6⟩ := h5 [] 1000000 .none (by omega) (by simp [szN]; omega)
  have hz0 : 0 ≤ szN := Nat.zero_le _
  have hs : stpN (.lst (es.reverse.map enD)) none none (some (-1)) = .ok (es.map enD) := by
    show (if (some (-1 : Int)) = some 0 then R.bad else R.ok (stpL (es.reverse.map enD) none none (some (-1)))) = _
    rw [if_neg (by decide), stp_rev, ← List.map_reverse, List.reverse_reverse]
  have ht : bfD .tuple [.lst (es.map enD)] = some (.tup (es.map enD)) := rfl
  simp only [List.nil_append, List.map_nil] at h6
  simp? only [evF, cb_way_of, hz0, h6, hs, ht]
theorem count_reached_c (h6 : CheckFormS Γ (ι 6)) (h36 : FilledS Γ (ι 36)) (F : Frm) (hF : FrmOk F) : evF Γ 1 1 (cb_count_reached ι ξ) [F.d] = .ok (.int ((treeN F).length : Nat)) := by
  have hl : ((((treeN F).map fun x => rcD x.key).length : Nat) : Int) = ((treeN F).length : Int) := by rw [List.length_map]
  have ha : ∀ a b : D, atI [a, b] 0 = some a := fun _ _ => rfl
  simp? only [evF, cb_count_reached, h6 F hF, h36 F hF, ha, hl]
theorem find_key (f : Nd → D) {b : List Nd} {r : Rc} (nd : (b.map Nd.key).Nodup) (hr : r ∈ b.map Nd.key) : ∃ z ∈ b, z.key = r ∧ findK r (b.map Nd.key) (b.map f) = some (f z) := by
  obtain ⟨z, hz, rfl⟩ := List.mem_map.mp hr
  obtain ⟨i, hi⟩ := List.getElem?_of_mem hz
  exact ⟨z, hz, rfl, find_at f nd hi⟩
theorem entries_for_no (ho : Γ.own (ξ 3) = true) (h6 : CheckFormS Γ (ι 6)) (h8 : CheckRecS Γ (ι 8)) (h36 : FilledS Γ (ι 36)) (F : Frm) (hF : FrmOk F) (r : Rc) (hr : RecOk F r) (hn : r ∉ (treeN F).map Nd.key) : evF Γ 2 4 (cb_entries_for ι ξ) [F.d, rcD r] = .exc (ξ 3) := by
  have hfn := find_none pvD hn
  simp? only [evF, cb_entries_for, h6 F hF, h8 F hF r hr, h36 F hF, keyOf_rc, hfn, Option.isSome_none, ho]
theorem entries_for_yes (h6 : CheckFormS Γ (ι 6)) (h8 : CheckRecS Γ (ι 8)) (h36 : FilledS Γ (ι 36)) (F : Frm) (hF : FrmOk F) (z : Nd) (hz : z ∈ treeN F) (o : R D) (h40 : Γ.fn (ι 40) [dctP (treeN F), rcD z.key] = o) : evF Γ 2 4 (cb_entries_for ι ξ) [F.d, rcD z.key] = o := by
  obtain ⟨d, h⟩ := tree_ti F
  have hr := (h.rch z hz).ok
  obtain ⟨w, _, _, hf⟩ := find_key pvD h.nd (List.mem_map.mpr ⟨z, hz, rfl⟩)
  subst h40
  simp? only [evF, cb_entries_for, h6 F hF, h8 F hF _ hr, h36 F hF, keyOf_rc, hf, Option.isSome_some]
  cases Γ.fn (ι 40) [dctP (treeN F), rcD z.key] <;> rfl
end
end PD
namespace PD
open PySem L2
def ordL (F : Frm) (r : Rc) : Nat → Rc → List Nat → Int
  | 0, _, _ => 1
  | n + 1, now, fs => fs.foldl (fun (a : Int) k => match enteredL F now k (gv r k) with
    | some w => a + ordL F r n w (fs.filter fun j => !decide (j = k))
    | none => a) 0
def restL (F : Frm) (r now : Rc) : List Nat := (shownL F r).filter fun k => (gv now k).isNone
theorem eqT_nil (ds : List D) (h : noScrs ds = true) (h2 : deps ds ≤ 50) : cmpD .eq (.tup ds) (.tup []) = some (ds.isEmpty) := by
  rw [cmpD, if_pos (by simp [eqOk, noScr, h, dep, noScrs, deps]), eqD]
  cases ds <;> simp [eqDs]
theorem shP_asc {F : Frm} {l : Rc} : ∀ i, i ≤ F.fs.length → (shP F l i).Pairwise (· < ·)
  | 0, _ => by simp [shP]
  | i + 1, hi => by
    obtain ⟨f, hf⟩ : ∃ f, F.fs[i]? = some f := ⟨F.fs[i], List.getElem?_eq_getElem (by omega)⟩
    rw [shP_succ hf]
    unfold shStep
    split
    · rw [List.pairwise_append]
      refine ⟨shP_asc i (by omega), by simp, fun a ha b hb => ?_⟩
      simp at hb
      subst hb
      exact shP_lt _ (by omega) a ha
    · exact shP_asc _ (by omega)
theorem shown_nodup (F : Frm) (l : Rc) : (shownL F l).Nodup := by
  rw [← shP_all]
  exact (shP_asc F.fs.length (Nat.le_refl _)).imp fun h => Nat.ne_of_lt h
theorem filter_out {α : Type} [DecidableEq α] {k : α} : ∀ {fs : List α}, fs.Nodup → k ∈ fs → (fs.filter fun j => !decide (j = k)).length + 1 = fs.length
  | x :: fs, nd, h => by
    obtain ⟨n1, n2⟩ := List.nodup_cons.mp nd
    by_cases e : x = k
    · subst e
      have : fs.filter (fun j => !decide (j = x)) = fs := List.filter_eq_self.mpr fun a ha => by
        simp; intro z; subst z; exact n1 ha
      rw [List.filter_cons]
      simp [this]
    · rw [List.filter_cons]
      have h2 : k ∈ fs := by
        rcases List.mem_cons.mp h with z | z
        · exact absurd z.symm e
        · exact z
      have := filter_out n2 h2
      simp [e]
      simpa using this
theorem rest_step {F : Frm} {r now w : Rc} {k : Nat} {v : Int} (hl : now.length = F.fs.length) (hk : k ∈ shownL F r) (hv : gv r k = some v) (hw : w = now.set k (gv r k)) : restL F r w = (restL F r now).filter fun j => !decide (j = k) := by
  unfold restL
  rw [List.filter_filter]
  apply List.filter_congr
  intro j hj
  subst hw
  rw [gv_setE (by rw [hl]; exact shown_lt hk)]
  by_cases c : j = k
  · subst c; simp [hv]
  · simp [c]
theorem rest_blank (F : Frm) (r : Rc) : restL F r (blankL F) = shownL F r := by
  unfold restL
  refine List.filter_eq_self.mpr fun k hk => ?_
  unfold gv blankL
  rw [List.getElem?_replicate]
  split <;> rfl
section
variable {Γ : Gam} {ι ξ : Nat → Nat}
abbrev ost (F : Frm) (r now : Rc) (a : Int) (s5 s6 : S) : List S := [.dat F.d, .dat (rcD r), .dat (rcD now), .dat (.lst (nD (restL F r now))), .dat (.int a), s5, s6]
theorem at_recD {l : Rc} {i : Nat} (h : i < l.length) : idxD (rcD l) (.int i) = some (oD (gv l i)) := at_rec h
theorem orders_of_c (h9 : ShownS Γ (ι 9)) (h12 : EnteredS Γ (ι 12)) (F : Frm) (hF : FrmOk F) (r : Rc) (hr : Cln F r) (n : Nat) (now : Rc) (hl : now.length = F.fs.length) (hn : (restL F r now).length = n)
    (h45 : ∀ m w, m + 1 = n → w.length = F.fs.length → (restL F r w).length = m → Γ.fn (ι 45) [F.d, rcD r, rcD w] = .ok (.int (ordL F r m w (restL F r w)))) :
    evF Γ 3 7 (cb_orders_of ι ξ) [F.d, rcD r, rcD now] = .ok (.int (ordL F r n now (restL F r now))) := by
  have hrl := hr.ok.len
  have lc := lcD_map (t := .nm 5) (tst := (evo Γ false (ct_orders_of_1 ι ξ)).T) (elt := (ev Γ false (.var 5)).E) (δ := [.dat F.d, .dat (rcD r), .dat (rcD now), .none, .none, .none, .none]) (fun n : Nat => D.int n) (fun k => (gv now k).isNone) (fun n : Nat => D.int n) (xs := shownL F r) (fun k hk =>
    ⟨[.dat F.d, .dat (rcD r), .dat (rcD now), .none, .none, .dat (.int k), .none], by simp? only [], by
      have hri := at_recD (l := now) (i := k) (by rw [hl]; exact shown_lt hk)
      simp? only [ct_orders_of_1, hri, isNon_oD], fun _ => by simp? only []⟩)
  have lc' : (shownL F r).filter (fun k => (gv now k).isNone) = restL F r now := rfl
  rw [lc'] at lc
  have hit : itemsD (.lst (nD (shownL F r))) = .ok ((shownL F r).map fun n : Nat => D.int n) := rfl
  have hit2 : itemsD (.lst (nD (restL F r now))) = .ok ((restL F r now).map fun n : Nat => D.int n) := rfl
  have hlr : D.lst ((restL F r now).map fun n : Nat => D.int n) = .lst (nD (restL F r now)) := rfl
  cases n with
  | zero =>
    have hnil : restL F r now = [] := List.eq_nil_of_length_eq_zero hn
    rw [hnil] at lc
    rw [List.map_nil] at lc
    simp? only [evF, cb_orders_of, h9 F hF r hrl, hit, lc, List.isEmpty_nil, ordL]
  | succ n =>
    have hne : ((restL F r now).map fun n : Nat => D.int n).isEmpty = false := by
      rw [List.isEmpty_eq_false_iff]
      intro z
      have := congrArg List.length z
      simp at this
      rw [this] at hn
      simp at hn
    obtain ⟨δ', ef, s5, s6, rfl⟩ := forD_pre (t := .nm 5) (body := exs Γ false (cb_orders_of_1 ι ξ)) (fun n : Nat => D.int n) (fun (a : Int) δ => ∃ s5 s6, δ = ost F r now a s5 s6) (fun (a : Int) k => match enteredL F now k (gv r k) with
      | some w => a + ordL F r n w ((restL F r now).filter fun j => !decide (j = k))
      | none => a) (restL F r now) 0 (ost F r now 0 .none .none) ⟨_, _, rfl⟩ (fun pre k post he δ hJ => by
      obtain ⟨s5, s6, rfl⟩ := hJ
      have hk : k ∈ restL F r now := by rw [he]; simp
      obtain ⟨hks, _⟩ := List.mem_filter.mp hk
      have hkf := shown_lt hks
      have hri := at_recD (l := r) (i := k) (by rw [hrl]; exact hkf)
      have hx := h12 F hF now hl k (by rw [hl]; exact hkf) (gv r k)
      obtain ⟨v, hv⟩ := hr.full k hks
      generalize pre.foldl _ (0 : Int) = a
      cases hE : enteredL F now k (gv r k) with
      | none =>
        rw [hE] at hx
        have o0 : orD none = .non := rfl
        rw [o0] at hx
        refine ⟨ost F r now a (.dat (.int k)) s6, by simp? only [], _, .inl ?_, .dat (.int k), .dat .non, rfl⟩
        simp? only [ost, cb_orders_of_1, hri, hx]
      | some w =>
        rw [hE] at hx
        have o1 : orD (some w) = rcD w := rfl
        have n1 : isNonD (rcD w) = false := rfl
        rw [o1] at hx
        have hw := (entered_set hE).1
        have hwl : w.length = F.fs.length := by rw [hw, List.length_set]; exact hl
        have hrs := rest_step hl hks hv hw
        have hlen : (restL F r w).length = n := by
          rw [hrs]
          have := filter_out (fs := restL F r now) ((shown_nodup F r).sublist List.filter_sublist) hk
          omega
        have hc := h45 n w rfl hwl hlen
        rw [hrs] at hc
        refine ⟨ost F r now a (.dat (.int k)) s6, by simp? only [], _, .inl ?_, .dat (.int k), .dat (rcD w), rfl⟩
        simp? only [ost, cb_orders_of_1, hri, hx, n1, hc])
    simp only [ost] at ef
    simp? only [evF, cb_orders_of, h9 F hF r hrl, hit, lc, hlr, hne, hit2, ef, ordL]
abbrev lost8 (F : Frm) (r now : Rc) (fs : List Nat) (a : Int) (s5 s6 : S) : List S := [.dat F.d, .dat (rcD r), .dat (rcD now), .dat (.tup (nD fs)), .dat (.int a), s5, s6, .none]
theorem law_orders_c (h33 : EnteredS Γ (ι 33)) (F : Frm) (hF : FrmOk F) (r : Rc) (hrl : r.length = F.fs.length) (n : Nat) (now : Rc) (hl : now.length = F.fs.length) (fs : List Nat) (hfs : ∀ k ∈ fs, k < F.fs.length) (nd : fs.Nodup) (hn : fs.length = n)
    (h48 : ∀ m w fs', m + 1 = n → w.length = F.fs.length → (∀ k ∈ fs', k < F.fs.length) → fs'.Nodup → fs'.length = m → Γ.fn (ι 48) [F.d, rcD r, rcD w, .tup (nD fs')] = .ok (.int (ordL F r m w fs'))) :
    evF Γ 4 8 (cb_law_orders ι ξ) [F.d, rcD r, rcD now, .tup (nD fs)] = .ok (.int (ordL F r n now fs)) := by
  have hz0 : 0 ≤ szN := Nat.zero_le _
  cases n with
  | zero =>
    have hnil : fs = [] := List.eq_nil_of_length_eq_zero hn
    subst hnil
    have he : cmpD .eq (.tup []) (.tup []) = some true := rfl
    simp? only [evF, cb_law_orders, hz0, he, ordL]
  | succ n =>
    have he : cmpD .eq (.tup (nD fs)) (.tup []) = some false := by
      rw [eqT_nil (nD fs) (noScrs_map _ (fun _ => rfl) _) (Nat.le_trans (deps_map _ 0 (fun _ => Nat.le_refl _) _) (by decide)), List.isEmpty_map]
      cases hfc : fs with
      | nil => rw [hfc] at hn; simp at hn
      | cons k t => rfl
    have hit : itemsD (.tup (nD fs)) = .ok (fs.map fun n : Nat => D.int n) := rfl
    obtain ⟨δ', ef, s5, s6, rfl⟩ := forD_pre (t := .nm 5) (body := exs Γ false (cb_law_orders_1 ι ξ)) (fun n : Nat => D.int n) (fun (a : Int) δ => ∃ s5 s6, δ = lost8 F r now fs a s5 s6) (fun (a : Int) k => match enteredL F now k (gv r k) with
      | some w => a + ordL F r n w (fs.filter fun j => !decide (j = k))
      | none => a) fs 0 (lost8 F r now fs 0 .none .none) ⟨_, _, rfl⟩ (fun pre k post he δ hJ => by
      obtain ⟨s5, s6, rfl⟩ := hJ
      have hk : k ∈ fs := by rw [he]; simp
      have hkf := hfs k hk
      have hri := at_recD (l := r) (i := k) (by rw [hrl]; exact hkf)
      have hx := h33 F hF now hl k (by rw [hl]; exact hkf) (gv r k)
      generalize pre.foldl _ (0 : Int) = a
      cases hE : enteredL F now k (gv r k) with
      | none =>
        rw [hE] at hx
        have o0 : orD none = .non := rfl
        rw [o0] at hx
        refine ⟨lost8 F r now fs a (.dat (.int k)) s6, by simp? only [], _, .inl ?_, .dat (.int k), .dat .non, rfl⟩
        simp? only [lost8, cb_law_orders_1, hri, hx]
      | some w =>
        rw [hE] at hx
        have o1 : orD (some w) = rcD w := rfl
        have n1 : isNonD (rcD w) = false := rfl
        rw [o1] at hx
        have hw := (entered_set hE).1
        have hwl : w.length = F.fs.length := by rw [hw, List.length_set]; exact hl
        have hlen : (fs.filter fun j => !decide (j = k)).length = n := by
          have := filter_out nd hk
          omega
        have hc := h48 n w (fs.filter fun j => !decide (j = k)) rfl hwl (fun j hj => hfs j (List.mem_filter.mp hj).1) (nd.sublist List.filter_sublist) hlen
        have lc := lcD_map (t := .nm 7) (tst := (evo Γ false (ct_law_orders_1 ι ξ)).T) (elt := (ev Γ false (.var 7)).E) (δ := [.dat F.d, .dat (rcD r), .dat (rcD now), .dat (.tup (nD fs)), .dat (.int a), .dat (.int k), .dat (rcD w), .none]) (fun n : Nat => D.int n) (fun j => !decide (j = k)) (fun n : Nat => D.int n) (xs := fs) (fun j hj =>
          ⟨[.dat F.d, .dat (rcD r), .dat (rcD now), .dat (.tup (nD fs)), .dat (.int a), .dat (.int k), .dat (rcD w), .dat (.int j)], by simp? only [], by
            have hd : decide ((j : Int) = (k : Int)) = decide (j = k) := by
              by_cases c : j = k
              · subst c; simp
              · simp [c]; omega
            simp? only [ct_law_orders_1, hd], fun _ => by simp? only []⟩)
        have ht : bfD .tuple [.lst ((fs.filter fun j => !decide (j = k)).map fun n : Nat => D.int n)] = some (.tup (nD (fs.filter fun j => !decide (j = k)))) := rfl
        refine ⟨lost8 F r now fs a (.dat (.int k)) s6, by simp? only [], _, .inl ?_, .dat (.int k), .dat (rcD w), rfl⟩
        simp? only [lost8, cb_law_orders_1, hri, hx, n1, hit, lc, ht, hc])
    simp only [lost8] at ef
    simp? only [evF, cb_law_orders, hz0, he, hit, ef, ordL]
def inoS (F : Frm) (r : Rc) (o : Option Rc) (k : Nat) : Option Rc := o.bind fun now => enteredL F now k (gv r k)
def inoL (F : Frm) (r : Rc) : Option Rc := (shownL F r).foldl (inoS F r) (some (blankL F))
theorem ino_none (F : Frm) (r : Rc) : ∀ ks : List Nat, ks.foldl (inoS F r) none = none
  | [] => rfl
  | k :: ks => ino_none F r ks
theorem ino_val {F : Frm} {r : Rc} : ∀ (ks : List Nat) (now x : Rc), now.length = F.fs.length → ks.foldl (inoS F r) (some now) = some x → x.length = F.fs.length ∧ ∀ j, gv x j = if j ∈ ks then gv r j else gv now j
  | [], now, x, hl, h => by cases h; exact ⟨hl, fun j => by simp⟩
  | k :: ks, now, x, hl, h => by
    rw [List.foldl_cons] at h
    have h' : ks.foldl (inoS F r) (enteredL F now k (gv r k)) = some x := h
    cases hE : enteredL F now k (gv r k) with
    | none => rw [hE, ino_none] at h'; cases h'
    | some w =>
      rw [hE] at h'
      obtain ⟨hw, hs, _⟩ := entered_set hE
      have hkl : k < now.length := by rw [hl]; exact shown_lt hs
      obtain ⟨h1, h2⟩ := ino_val ks w x (by rw [hw, List.length_set]; exact hl) h'
      refine ⟨h1, fun j => ?_⟩
      rw [h2 j]
      by_cases c : j ∈ ks
      · rw [if_pos c, if_pos (List.mem_cons_of_mem _ c)]
      · rw [if_neg c, hw, gv_setE hkl]
        by_cases c2 : j = k
        · subst c2; rw [if_pos rfl, if_pos List.mem_cons_self]
        · rw [if_neg c2, if_neg]
          intro z
          rcases List.mem_cons.mp z with z | z
          · exact c2 z
          · exact c z
theorem gv_blank (F : Frm) (j : Nat) : gv (blankL F) j = none := by
  unfold gv blankL
  rw [List.getElem?_replicate]
  split <;> rfl
theorem blank_len (F : Frm) : (blankL F).length = F.fs.length := by simp [blankL]
theorem ino_eq {F : Frm} {r x : Rc} (hr : Cln F r) (h : inoL F r = some x) : x = r := by
  obtain ⟨h1, h2⟩ := ino_val _ _ _ (blank_len F) h
  apply gv_ext
  · rw [h1, hr.ok.len]
  · intro j
    rw [h2 j, gv_blank]
    split
    · rfl
    · rename_i c; exact (hr.hid j c).symm
theorem ino_up {F : Frm} (hF : FrmOk F) (hn : ∀ q ∈ F.rs, q.kd ≠ 1) {r : Rc} (hr : Cln F r) : ∀ i, i ≤ F.fs.length → (shP F r i).foldl (inoS F r) (some (blankL F)) = some (upTo r i)
  | 0, _ => by rw [upTo_zero hr.ok.len]; simp [shP]
  | i + 1, hi => by
    obtain ⟨f, hf⟩ : ∃ f, F.fs[i]? = some f := ⟨F.fs[i], List.getElem?_eq_getElem (by omega)⟩
    have ih := ino_up hF hn hr i (by omega)
    have hsi : i ∈ shownL F r ↔ i ∈ shP F r (i + 1) := by
      rw [← shP_all]
      exact (shP_at _ (Nat.le_refl _) i).trans ⟨fun h => h.2, fun h => ⟨by omega, h⟩⟩
    rw [shP_succ hf] at hsi ⊢
    unfold shStep at hsi ⊢
    split
    · rename_i c
      rw [if_pos c] at hsi
      have hs : i ∈ shownL F r := hsi.mpr (by simp)
      rw [List.foldl_append, ih]
      exact enter_up hF hn hr hs
    · rename_i c
      rw [if_neg c] at hsi
      have hs : i ∉ shownL F r := fun z => by
        have := shP_lt i (by omega) i (hsi.mp z)
        omega
      rw [ih, upTo_stay (hr.hid i hs)]
theorem ino_all {F : Frm} (hF : FrmOk F) (hn : ∀ q ∈ F.rs, q.kd ≠ 1) {r : Rc} (hr : Cln F r) : inoL F r = some r := by
  have := ino_up hF hn hr F.fs.length (Nat.le_refl _)
  rw [shP_all, ← hr.ok.len, upTo_all] at this
  exact this
theorem in_loop (h12 : EnteredS Γ (ι 12)) (F : Frm) (hF : FrmOk F) (r : Rc) (hrl : r.length = F.fs.length) : ∀ (ks : List Nat), (∀ k ∈ ks, k < F.fs.length) → ∀ (now : Rc), now.length = F.fs.length → ∀ s3 : S,
    (∃ w s3', ks.foldl (inoS F r) (some now) = some w ∧ forD (.nm 3) (exs Γ false (cb_in_order_1 ι ξ)) (ks.map fun n : Nat => D.int n) [.dat F.d, .dat (rcD r), .dat (rcD now), s3] = .next [.dat F.d, .dat (rcD r), .dat (rcD w), s3']) ∨ (ks.foldl (inoS F r) (some now) = none ∧ forD (.nm 3) (exs Γ false (cb_in_order_1 ι ξ)) (ks.map fun n : Nat => D.int n) [.dat F.d, .dat (rcD r), .dat (rcD now), s3] = .ret (.bl false))
  | [], _, now, _, s3 => .inl ⟨now, s3, rfl, rfl⟩
  | k :: ks, hk, now, hl, s3 => by
    have hkf := hk k List.mem_cons_self
    have hri := at_recD (l := r) (i := k) (by rw [hrl]; exact hkf)
    have hx := h12 F hF now hl k (by rw [hl]; exact hkf) (gv r k)
    have hst : setT (.nm 3) (.int k) [.dat F.d, .dat (rcD r), .dat (rcD now), s3] = some [.dat F.d, .dat (rcD r), .dat (rcD now), .dat (.int k)] := rfl
    rw [List.foldl_cons, List.map_cons]
    have e0 : inoS F r (some now) k = enteredL F now k (gv r k) := rfl
    rw [e0]
    cases hE : enteredL F now k (gv r k) with
    | none =>
      rw [hE] at hx
      have o0 : orD none = .non := rfl
      rw [o0] at hx
      right
      refine ⟨ino_none F r ks, ?_⟩
      have hb : exs Γ false (cb_in_order_1 ι ξ) [.dat F.d, .dat (rcD r), .dat (rcD now), .dat (.int k)] = .ret (.bl false) := by simp? only [cb_in_order_1, hri, hx]
      simp only [forD, hst, hb]
    | some w =>
      rw [hE] at hx
      have o1 : orD (some w) = rcD w := rfl
      have n1 : isNonD (rcD w) = false := rfl
      rw [o1] at hx
      have hwl : w.length = F.fs.length := by rw [(entered_set hE).1, List.length_set]; exact hl
      have hb : exs Γ false (cb_in_order_1 ι ξ) [.dat F.d, .dat (rcD r), .dat (rcD now), .dat (.int k)] = .next [.dat F.d, .dat (rcD r), .dat (rcD w), .dat (.int k)] := by simp? only [cb_in_order_1, hri, hx, n1]
      have ih := in_loop h12 F hF r hrl ks (fun j hj => hk j (List.mem_cons_of_mem _ hj)) w hwl (.dat (.int k))
      simp only [forD, hst, hb]
      exact ih
abbrev CheckCleanS (Γ : Gam) (j : Nat) : Prop := ∀ F, FrmOk F → ∀ r, r ∈ cleansL F → Γ.fn j [F.d, rcD r] = .ok .non
theorem check_clean_c (h8 : CheckRecS Γ (ι 8)) (h15 : SendsS Γ (ι 15)) (h16 : CleanS Γ (ι 16)) (F : Frm) (hF : FrmOk F) (r : Rc) (hr : r ∈ cleansL F) : evF Γ 2 2 (cb_check_clean ι ξ) [F.d, rcD r] = .ok .non := by
  obtain ⟨h1, h2⟩ := List.mem_filter.mp hr
  rw [Bool.and_eq_true] at h2
  have rk := recOk_of hF h1
  simp? only [evF, cb_check_clean, h8 F hF r rk, h15 F hF r rk.len, h16 F hF r rk.len, h2.1, h2.2]
theorem check_clean_no (ho : Γ.own (ξ 3) = true) (h8 : CheckRecS Γ (ι 8)) (h15 : SendsS Γ (ι 15)) (h16 : CleanS Γ (ι 16)) (F : Frm) (hF : FrmOk F) (r : Rc) (rk : RecOk F r) (hr : r ∉ cleansL F) : evF Γ 2 2 (cb_check_clean ι ξ) [F.d, rcD r] = .exc (ξ 3) := by
  have hn : (sendsL F r && cleanL F r) = false := by
    cases h : (sendsL F r && cleanL F r) with
    | false => rfl
    | true => exact absurd (List.mem_filter.mpr ⟨rec_mem rk, h⟩) hr
  cases h1 : sendsL F r with
  | false => simp? only [evF, cb_check_clean, h8 F hF r rk, h15 F hF r rk.len, h16 F hF r rk.len, h1, ho]
  | true =>
    rw [h1, Bool.true_and] at hn
    simp? only [evF, cb_check_clean, h8 F hF r rk, h15 F hF r rk.len, h16 F hF r rk.len, h1, hn, ho]
theorem in_order_c (h6 : CheckFormS Γ (ι 6)) (h44 : CheckCleanS Γ (ι 44)) (h9 : ShownS Γ (ι 9)) (h12 : EnteredS Γ (ι 12)) (h34 : ∀ F, FrmOk F → Γ.fn (ι 34) [F.d] = .ok (rcD (blankL F))) (F : Frm) (hF : FrmOk F) (r : Rc) (hr : r ∈ cleansL F) : evF Γ 2 4 (cb_in_order ι ξ) [F.d, rcD r] = .ok (.bl (inoL F r).isSome) := by
  have rk := (cln_of hF hr).ok
  have hit : itemsD (.lst (nD (shownL F r))) = .ok ((shownL F r).map fun n : Nat => D.int n) := rfl
  rcases in_loop (ξ := ξ) h12 F hF r rk.len (shownL F r) (fun k hk => shown_lt hk) (blankL F) (blank_len F) .none with ⟨w, s3, e1, e2⟩ | ⟨e1, e2⟩
  · have : inoL F r = some w := e1
    rw [this]
    simp? only [evF, cb_in_order, h6 F hF, h44 F hF r hr, h34 F hF, h9 F hF r rk.len, hit, e2, Option.isSome_some]
  · have : inoL F r = none := e1
    rw [this]
    simp? only [evF, cb_in_order, h6 F hF, h44 F hF r hr, h34 F hF, h9 F hF r rk.len, hit, e2, Option.isSome_none]
theorem count_orders_c (h6 : CheckFormS Γ (ι 6)) (h44 : CheckCleanS Γ (ι 44)) (h34 : ∀ F, FrmOk F → Γ.fn (ι 34) [F.d] = .ok (rcD (blankL F))) (h45 : ∀ F, FrmOk F → ∀ r, Cln F r → Γ.fn (ι 45) [F.d, rcD r, rcD (blankL F)] = .ok (.int (ordL F r (shownL F r).length (blankL F) (shownL F r)))) (F : Frm) (hF : FrmOk F) (r : Rc) (hr : r ∈ cleansL F) : evF Γ 2 2 (cb_count_orders ι ξ) [F.d, rcD r] = .ok (.int (ordL F r (shownL F r).length (blankL F) (shownL F r))) := by
  simp? only [evF, cb_count_orders, h6 F hF, h44 F hF r hr, h34 F hF, h45 F hF r (cln_of hF hr)]
end
end PD
namespace PD
open PySem L2
theorem okD_eq (o : Option Int) : okD o = oD o := by cases o <;> rfl
theorem kD_rc (k : Rc) : kD k = rcD k := by
  show D.tup _ = D.tup _
  rw [show k.map okD = k.map oD from List.map_congr_left fun o _ => okD_eq o]
theorem dkeys_gen (b : List Nd) (f : Nd → D) (h1 : ∀ x ∈ b, x.key.length ≤ 4) (h2 : b.length ≤ 625) : dkeysD (b.map Nd.key, b.map f) = .ok (b.map keyD) := by
  unfold dkeysD
  rw [if_pos]
  · show R.ok ((b.map Nd.key).map kD) = _
    rw [List.map_map, show b.map (kD ∘ Nd.key) = b.map keyD from List.map_congr_left fun x _ => kD_rc x.key]
  · rw [Bool.and_eq_true]
    constructor
    · rw [List.all_eq_true]
      intro k hk
      obtain ⟨x, hx, rfl⟩ := List.mem_map.mp hk
      have := h1 x hx
      rw [decide_eq_true_eq]
      exact Nat.le_trans this (by decide)
    · rw [decide_eq_true_eq, List.length_map]
      exact Nat.le_trans h2 (by decide)
theorem dkeys_tree {F : Frm} (hF : FrmOk F) (f : Nd → D) : dkeysD ((treeN F).map Nd.key, (treeN F).map f) = .ok ((treeN F).map keyD) := by
  obtain ⟨d, h⟩ := tree_ti F
  exact dkeys_gen _ f (fun x hx => by rw [(h.rch x hx).ok.len]; exact hF.le) (tree_le hF)
def staleP (F : Frm) (x : Nd) : Bool := sendsL F x.key && !cleanL F x.key
def staleZ (F : Frm) : Option Nd := (treeN F).find? (staleP F)
theorem stale_mem {F : Frm} {z : Nd} (h : staleZ F = some z) : z ∈ treeN F := by
  unfold staleZ at h
  exact List.mem_of_find?_eq_some h
theorem find_cons {α : Type} (p : α → Bool) (x : α) (l : List α) : (x :: l).find? p = if p x then some x else l.find? p := by
  rw [List.find?_cons]
  cases p x <;> rfl
section
variable {Γ : Gam} {ι ξ : Nat → Nat}
theorem stale_loop (h15 : SendsS Γ (ι 15)) (h16 : CleanS Γ (ι 16)) (F : Frm) (hF : FrmOk F) (rs : D) : ∀ (xs : List Nd), (∀ x ∈ xs, x.key.length = F.fs.length) → ∀ s1 : S,
    (∃ s1', xs.find? (staleP F) = none ∧ forD (.nm 1) (exs Γ false (cb_stale_entries_1 ι ξ)) (xs.map keyD) [.dat F.d, s1, .dat rs, .dat (dctP (treeN F))] = .next [.dat F.d, s1', .dat rs, .dat (dctP (treeN F))]) ∨
    (∃ z, xs.find? (staleP F) = some z ∧ ∀ v, Γ.fn (ι 40) [dctP (treeN F), rcD z.key] = .ok v → forD (.nm 1) (exs Γ false (cb_stale_entries_1 ι ξ)) (xs.map keyD) [.dat F.d, s1, .dat rs, .dat (dctP (treeN F))] = .ret v)
  | [], _, s1 => .inl ⟨s1, rfl, rfl⟩
  | x :: xs, hk, s1 => by
    have hl := hk x List.mem_cons_self
    have hst : setT (.nm 1) (keyD x) [.dat F.d, s1, .dat rs, .dat (dctP (treeN F))] = some [.dat F.d, .dat (rcD x.key), .dat rs, .dat (dctP (treeN F))] := rfl
    rw [List.map_cons, find_cons]
    have ih := stale_loop h15 h16 F hF rs xs (fun y hy => hk y (List.mem_cons_of_mem _ hy)) (.dat (rcD x.key))
    cases hp : staleP F x with
    | true =>
      right
      refine ⟨x, rfl, fun v hv => ?_⟩
      have hp' : sendsL F x.key = true ∧ cleanL F x.key = false := by
        unfold staleP at hp
        rw [Bool.and_eq_true] at hp
        exact ⟨hp.1, by simpa using hp.2⟩
      have hb : exs Γ false (cb_stale_entries_1 ι ξ) [.dat F.d, .dat (rcD x.key), .dat rs, .dat (dctP (treeN F))] = .ret v := by
        simp? only [cb_stale_entries_1, h15 F hF x.key hl, h16 F hF x.key hl, hp'.1, hp'.2, hv]
      simp only [forD, hst, hb]
    | false =>
      have hb : exs Γ false (cb_stale_entries_1 ι ξ) [.dat F.d, .dat (rcD x.key), .dat rs, .dat (dctP (treeN F))] = .next [.dat F.d, .dat (rcD x.key), .dat rs, .dat (dctP (treeN F))] := by
        unfold staleP at hp
        cases h1 : sendsL F x.key with
        | false => simp? only [cb_stale_entries_1, h15 F hF x.key hl, h1]
        | true =>
          rw [h1, Bool.true_and] at hp
          have h2 : cleanL F x.key = true := by simpa using hp
          simp? only [cb_stale_entries_1, h15 F hF x.key hl, h16 F hF x.key hl, h1, h2]
      simp only [forD, hst, hb]
      rw [if_neg (by simp)]
      exact ih
theorem tree_len {F : Frm} {x : Nd} (h : x ∈ treeN F) : x.key.length = F.fs.length := by
  obtain ⟨d, ti⟩ := tree_ti F
  exact (ti.rch x h).ok.len
theorem stale_no (ho : Γ.own (ξ 4) = true) (h6 : CheckFormS Γ (ι 6)) (h15 : SendsS Γ (ι 15)) (h16 : CleanS Γ (ι 16)) (h36 : FilledS Γ (ι 36)) (F : Frm) (hF : FrmOk F) (hn : staleZ F = none) : evF Γ 1 4 (cb_stale_entries ι ξ) [F.d] = .exc (ξ 4) := by
  rcases stale_loop (ξ := ξ) h15 h16 F hF (.lst ((treeN F).map fun x => rcD x.key)) (treeN F) (fun x hx => tree_len hx) .none with ⟨s1, _, e⟩ | ⟨z, e1, _⟩
  · have hit : itemsD (.lst ((treeN F).map fun x => rcD x.key)) = .ok ((treeN F).map keyD) := rfl
    simp? only [evF, cb_stale_entries, h6 F hF, h36 F hF, hit, e, ho]
  · unfold staleZ at hn
    rw [hn] at e1
    cases e1
theorem stale_yes (h6 : CheckFormS Γ (ι 6)) (h15 : SendsS Γ (ι 15)) (h16 : CleanS Γ (ι 16)) (h36 : FilledS Γ (ι 36)) (F : Frm) (hF : FrmOk F) (z : Nd) (hz : staleZ F = some z) (v : D) (h40 : Γ.fn (ι 40) [dctP (treeN F), rcD z.key] = .ok v) : evF Γ 1 4 (cb_stale_entries ι ξ) [F.d] = .ok v := by
  rcases stale_loop (ξ := ξ) h15 h16 F hF (.lst ((treeN F).map fun x => rcD x.key)) (treeN F) (fun x hx => tree_len hx) .none with ⟨s1, e1, e⟩ | ⟨z', e1, e⟩
  · unfold staleZ at hz
    rw [hz] at e1
    cases e1
  · unfold staleZ at hz
    rw [hz] at e1
    cases e1
    have hit : itemsD (.lst ((treeN F).map fun x => rcD x.key)) = .ok ((treeN F).map keyD) := rfl
    simp? only [evF, cb_stale_entries, h6 F hF, h36 F hF, hit, e v h40]
end
theorem find_first {α : Type} {p : α → Bool} : ∀ {l : List α} {z : α}, l.find? p = some z → ∃ pre post, l = pre ++ z :: post ∧ l.filter p = z :: post.filter p
  | [], _, h => by simp at h
  | x :: l, z, h => by
    rw [find_cons] at h
    cases hp : p x with
    | true =>
      rw [hp] at h
      cases h
      exact ⟨[], l, rfl, by rw [List.filter_cons, if_pos hp]⟩
    | false =>
      rw [hp] at h
      obtain ⟨pre, post, h1, h2⟩ := find_first (l := l) (z := z) h
      exact ⟨x :: pre, post, by rw [h1]; rfl, by rw [List.filter_cons, if_neg (by rw [hp]; decide), h2]⟩
theorem min_fold : ∀ (l : List Int) (a : Int), (∀ x ∈ l, a ≤ x) → l.foldl (fun a b => if b < a then b else a) a = a
  | [], _, _ => rfl
  | x :: l, a, h => by
    have hx := h x List.mem_cons_self
    rw [List.foldl_cons, if_neg (by omega)]
    exact min_fold l a fun y hy => h y (List.mem_cons_of_mem _ hy)
theorem minI_head (l : List Int) (a : Int) (h : ∀ x ∈ l, a ≤ x) : minI (a :: l) = some a := by
  show some (l.foldl _ a) = _
  rw [min_fold l a h]
theorem stale_min {F : Frm} {p : Nd → Bool} {z : Nd} (h : (treeN F).find? p = some z) : bfD .min [.lst (((treeN F).filter p).map dvD)] = some (.int (z.dep : Int)) := by
  obtain ⟨pre, post, h1, h2⟩ := find_first h
  obtain ⟨d, ti⟩ := tree_ti F
  rw [h2]
  have hi : (((z :: post.filter p).map dvD)) = ((z :: post.filter p).map fun x => (x.dep : Int)).map D.int := by rw [List.map_map]; rfl
  rw [hi]
  show ((intsOf _).bind minI).map D.int = _
  rw [intsOf_ints]
  rw [Option.bind_some, List.map_cons, minI_head]
  · rfl
  · intro x hx
    obtain ⟨y, hy, rfl⟩ := List.mem_map.mp hx
    have hyp := (List.mem_filter.mp hy).1
    obtain ⟨i, hi'⟩ := List.getElem?_of_mem hyp
    have := ti.mono pre.length (pre.length + 1 + i) z y (by omega) (by rw [h1]; simp) (by
      rw [h1, List.getElem?_append_right (by omega), show pre.length + 1 + i - pre.length = i + 1 by omega, List.getElem?_cons_succ]
      exact hi')
    omega
theorem no_cond_clean {F : Frm} (hF : FrmOk F) (h : ∀ f ∈ F.fs, f.cs = []) (r : Rc) (hl : r.length = F.fs.length) : cleanL F r = true := by
  unfold cleanL
  rw [List.all_eq_true]
  intro k hk
  rw [List.mem_range'_1] at hk
  have hkl : k < F.fs.length := by omega
  have hf : F.fs[k]? = some F.fs[k] := List.getElem?_eq_getElem hkl
  have : k ∈ shownL F r := (shown_iff hF hf).mpr (by rw [h _ (List.mem_of_getElem? hf)]; simp)
  simp [this]
end PD
namespace PD
open PySem L2
def cb_lost_records_2 (ι ξ : Nat → Nat) : ISs := (.cons (.set 9 (.call (ι 12) (.cons (.var 0) (.cons (.var 2) (.cons (.var 7) (.cons (.var 8) .nil)))))) (.cons (.ite (.isn true (.var 9)) (.cons (.dput 1 (.var 9) (.bin .add (.dgd 1 (.var 9) (.tup .nil)) (.tup (.cons (.var 2) .nil)))) .nil) .nil) .nil))
def cb_lost_records_1 (ι ξ : Nat → Nat) : ISs := (.cons (.for (.tup [7, 8]) (.any (.call (ι 35) (.cons (.var 0) .nil))) (cb_lost_records_2 ι ξ)) .nil)
def ct_lost_records_1 (ι ξ : Nat → Nat) : IO := (.yes (.call (ι 15) (.cons (.var 0) (.cons (.var 2) .nil))))
def cb_lost_records_3 (ι ξ : Nat → Nat) : ISs := (.cons (.fpg (.nm 2) 1 3 (.tup .nil) (.cons (.ite (.din true (.var 2) 4) (.cons (.dput 4 (.var 2) (.con (.bl true))) (.cons (.app 3 (.var 2)) .nil)) .nil) .nil)) .nil)
def ct_lost_records_2 (ι ξ : Nat → Nat) : IO := (.yes (.din true (.var 2) 4))
def cb_lost_records (ι ξ : Nat → Nat) : ISs := (.cons (.tset [5, 6] (.call (ι 36) (.cons (.var 0) .nil))) (.cons (.dnew0 1) (.cons (.for (.nm 2) (.any (.var 5)) (cb_lost_records_1 ι ξ)) (.cons (.new 3 (.lc [("record", 2)] (.nm 2) (.any (.var 5)) (ct_lost_records_1 ι ξ) (.var 2))) (.cons (.dnew0 4) (.cons (.fro (.nm 2) 3 (.cons (.dput 4 (.var 2) (.con (.bl true))) .nil)) (.cons (.whl 1000000 (.var 3) (cb_lost_records_3 ι ξ)) (.cons (.ret (.tup (.cons (.lc [("record", 2)] (.nm 2) (.any (.var 5)) (ct_lost_records_2 ι ξ) (.var 2)) (.cons (.var 6) .nil)))) .nil))))))))
def cb_has_trap (ι ξ : Nat → Nat) : ISs := (.cons (.expr (.call (ι 6) (.cons (.var 0) .nil))) (.cons (.ret (.cmp .ne (.idx (.call (ι 49) (.cons (.var 0) .nil)) (.con (.int 0))) (.lst .nil))) .nil))
def cb_trap_entries (ι ξ : Nat → Nat) : ISs := (.cons (.expr (.call (ι 6) (.cons (.var 0) .nil))) (.cons (.tset [1, 2] (.call (ι 49) (.cons (.var 0) .nil))) (.cons (.ite (.not (.var 1)) (.cons (.raise (ξ 4)) .nil) .nil) (.cons (.ret (.call (ι 40) (.cons (.var 2) (.cons (.idx (.var 1) (.con (.int 0))) .nil)))) .nil))))
def ct_law_lost_records_1 (ι ξ : Nat → Nat) : IO := (.yes (.call (ι 31) (.cons (.var 0) (.cons (.var 5) .nil))))
def ct_law_lost_records_2 (ι ξ : Nat → Nat) : IO := (.yes (.cmp .inn (.call (ι 33) (.cons (.var 0) (.cons (.var 5) (.cons (.var 6) (.cons (.var 7) .nil))))) (.var 3)))
def ce_law_lost_records_1 (ι ξ : Nat → Nat) : IE := (.con (.int 1))
def cb_law_lost_records_2 (ι ξ : Nat → Nat) : ISs := (.cons (.ite (.cmp .nin (.var 5) (.var 3)) (.cons (.ite (.cmp .ne (.lc [("field", 6), ("value", 7)] (.tup [6, 7]) (.any (.var 2)) (ct_law_lost_records_2 ι ξ) (ce_law_lost_records_1 ι ξ)) (.lst .nil)) (.cons (.app 3 (.var 5)) .nil) .nil) .nil) .nil) .nil)
def cb_law_lost_records_1 (ι ξ : Nat → Nat) : ISs := (.cons (.set 4 (.bf .len (.cons (.var 3) .nil))) (.cons (.for (.nm 5) (.dit 1) (cb_law_lost_records_2 ι ξ)) .nil))
def ct_law_lost_records_3 (ι ξ : Nat → Nat) : IO := (.yes (.cmp .nin (.var 5) (.var 3)))
def cb_law_lost_records (ι ξ : Nat → Nat) : ISs := (.cons (.tuM 3 4 (.lc [("record", 5)] (.nm 5) (.dit 1) (ct_law_lost_records_1 ι ξ) (.var 5)) (.neg (.con (.int 1)))) (.cons (.set 2 (.call (ι 23) (.cons (.var 0) .nil))) (.cons (.whl 1000000 (.cmp .lt (.var 4) (.bf .len (.cons (.var 3) .nil))) (cb_law_lost_records_1 ι ξ)) (.cons (.ret (.lc [("record", 5)] (.nm 5) (.dit 1) (ct_law_lost_records_3 ι ξ) (.var 5))) .nil))))
end PD
namespace PD
open PySem L2
inductive Leads (F : Frm) : Rc → Prop
  | sends {r : Rc} : sendsL F r = true → Leads F r
  | step {r r' : Rc} {e : Nat × Option Int} : e ∈ entsL F.fs → enteredL F r e.1 e.2 = some r' → Leads F r' → Leads F r
abbrev Sr := List (Rc × List Rc)
def srK (S : Sr) : List Rc := S.map (·.1)
def srV (S : Sr) : List D := S.map fun p => .tup (p.2.map rcD)
def getS : Sr → Rc → List Rc
  | [], _ => []
  | p :: S, k => if p.1 = k then p.2 else getS S k
def putR (k x : Rc) : Sr → Sr
  | [] => [(k, [x])]
  | p :: S => if p.1 = k then (p.1, p.2 ++ [x]) :: S else p :: putR k x S
theorem find_sr (k : Rc) : ∀ S : Sr, findK k (srK S) (srV S) = if k ∈ srK S then some (.tup ((getS S k).map rcD)) else none
  | [] => by simp [srK, findK]
  | p :: S => by
    show (if p.1 = k then some (D.tup (p.2.map rcD)) else findK k (srK S) (srV S)) = _
    rw [find_sr k S]
    by_cases c : p.1 = k
    · rw [if_pos c, if_pos (by rw [← c]; exact List.mem_cons_self)]
      show _ = some (D.tup (((if p.1 = k then p.2 else getS S k)).map rcD))
      rw [if_pos c]
    · rw [if_neg c]
      have e : (k ∈ srK (p :: S)) ↔ k ∈ srK S := by
        show k ∈ p.1 :: srK S ↔ _
        rw [List.mem_cons]
        exact ⟨fun h => h.elim (fun z => absurd z.symm c) id, .inr⟩
      show _ = if k ∈ srK (p :: S) then some (D.tup (((if p.1 = k then p.2 else getS S k)).map rcD)) else none
      rw [if_neg c]
      by_cases h : k ∈ srK S
      · rw [if_pos h, if_pos (e.mpr h)]
      · rw [if_neg h, if_neg (fun z => h (e.mp z))]
theorem get_none {k : Rc} : ∀ {S : Sr}, k ∉ srK S → getS S k = []
  | [], _ => rfl
  | p :: S, h => by
    have h' : ¬ (k = p.1 ∨ k ∈ srK S) := fun z => h (List.mem_cons.mpr z)
    unfold getS
    rw [if_neg (fun z => h' (.inl z.symm))]
    exact get_none fun z => h' (.inr z)
theorem put_new {k x : Rc} : ∀ {S : Sr}, k ∉ srK S → putR k x S = S ++ [(k, [x])]
  | [], _ => rfl
  | p :: S, h => by
    have h' : ¬ (k = p.1 ∨ k ∈ srK S) := fun z => h (List.mem_cons.mpr z)
    unfold putR
    rw [if_neg (fun z => h' (.inl z.symm)), put_new fun z => h' (.inr z)]
    rfl
theorem put_keys {k x : Rc} : ∀ {S : Sr}, k ∈ srK S → srK (putR k x S) = srK S
  | [], h => by cases h
  | p :: S, h => by
    unfold putR
    by_cases c : p.1 = k
    · rw [if_pos c]; rfl
    · rw [if_neg c]
      have h' : k ∈ srK S := by
        rcases List.mem_cons.mp h with z | z
        · exact absurd z.symm c
        · exact z
      show p.1 :: srK (putR k x S) = p.1 :: srK S
      rw [put_keys h']
theorem put_vals {k x : Rc} : ∀ {S : Sr}, (srK S).Nodup → k ∈ srK S → setK k (.tup (((getS S k) ++ [x]).map rcD)) (srK S) (srV S) = srV (putR k x S)
  | [], _, h => by cases h
  | p :: S, nd, h => by
    obtain ⟨n1, n2⟩ := List.nodup_cons.mp nd
    show (if p.1 = k then D.tup ((getS (p :: S) k ++ [x]).map rcD) else D.tup (p.2.map rcD)) :: setK k (.tup ((getS (p :: S) k ++ [x]).map rcD)) (srK S) (srV S) = _
    unfold putR
    by_cases c : p.1 = k
    · rw [if_pos c, if_pos c]
      have e1 : getS (p :: S) k = p.2 := by unfold getS; rw [if_pos c]
      rw [e1]
      have hk : k ∉ srK S := by rw [← c]; exact n1
      have hs : ∀ (T : Sr) (d : D), k ∉ srK T → setK k d (srK T) (srV T) = srV T := by
        intro T d
        induction T with
        | nil => intro _; rfl
        | cons q T ih =>
          intro hT
          have h' : ¬ (k = q.1 ∨ k ∈ srK T) := fun z => hT (List.mem_cons.mpr z)
          show (if q.1 = k then d else D.tup (q.2.map rcD)) :: setK k d (srK T) (srV T) = _
          rw [if_neg (fun z => h' (.inl z.symm)), ih fun z => h' (.inr z)]
          rfl
      rw [hs S _ hk]
      rfl
    · rw [if_neg c, if_neg c]
      have h' : k ∈ srK S := by
        rcases List.mem_cons.mp h with z | z
        · exact absurd z.symm c
        · exact z
      have e1 : getS (p :: S) k = getS S k := by unfold getS; rw [if_neg c]; cases S <;> rfl
      rw [e1, put_vals n2 h']
      rfl
theorem get_put {k x k' y : Rc} : ∀ {S : Sr}, y ∈ getS (putR k x S) k' ↔ y ∈ getS S k' ∨ (k' = k ∧ y = x)
  | [] => by
    show y ∈ (if k = k' then [x] else getS [] k') ↔ _
    by_cases c : k = k'
    · subst c; simp [getS]
    · rw [if_neg c]
      have c' : ¬ k' = k := fun z => c z.symm
      simp [getS, c']
  | p :: S => by
    have ih := get_put (k := k) (x := x) (k' := k') (y := y) (S := S)
    unfold putR
    by_cases c : p.1 = k
    · rw [if_pos c]
      show y ∈ (if p.1 = k' then p.2 ++ [x] else getS S k') ↔ y ∈ (if p.1 = k' then p.2 else getS S k') ∨ _
      by_cases c2 : p.1 = k'
      · rw [if_pos c2, if_pos c2, List.mem_append]
        have : k' = k := c2.symm.trans c
        simp [this]
      · rw [if_neg c2, if_neg c2]
        have : ¬ k' = k := fun z => c2 (c.trans z.symm)
        simp [this]
    · rw [if_neg c]
      show y ∈ (if p.1 = k' then p.2 else getS (putR k x S) k') ↔ y ∈ (if p.1 = k' then p.2 else getS S k') ∨ _
      by_cases c2 : p.1 = k'
      · rw [if_pos c2, if_pos c2]
        have : ¬ k' = k := fun z => c (c2.trans z)
        simp [this]
      · rw [if_neg c2, if_neg c2]
        exact ih
theorem get_put_len {k x k' : Rc} : ∀ {S : Sr}, (getS (putR k x S) k').length ≤ (getS S k').length + 1
  | [] => by
    show ((if k = k' then [x] else getS [] k')).length ≤ _
    split <;> simp [getS]
  | p :: S => by
    have ih := get_put_len (k := k) (x := x) (k' := k') (S := S)
    unfold putR
    by_cases c : p.1 = k
    · rw [if_pos c]
      show ((if p.1 = k' then p.2 ++ [x] else getS S k')).length ≤ ((if p.1 = k' then p.2 else getS S k')).length + 1
      split <;> simp
    · rw [if_neg c]
      show ((if p.1 = k' then p.2 else getS (putR k x S) k')).length ≤ ((if p.1 = k' then p.2 else getS S k')).length + 1
      split
      · omega
      · exact ih
theorem put_key_mem {k x k' : Rc} {S : Sr} (h : k' ∈ srK (putR k x S)) : k' ∈ srK S ∨ k' = k := by
  by_cases c : k ∈ srK S
  · rw [put_keys c] at h; exact .inl h
  · rw [put_new c] at h
    have h2 : k' ∈ srK S ++ [k] := by simpa [srK] using h
    rcases List.mem_append.mp h2 with z | z
    · exact .inl z
    · exact .inr (by simpa using z)
theorem put_nodup {k x : Rc} {S : Sr} (nd : (srK S).Nodup) : (srK (putR k x S)).Nodup := by
  by_cases c : k ∈ srK S
  · rw [put_keys c]; exact nd
  · rw [put_new c]
    have e : srK (S ++ [(k, [x])]) = srK S ++ [k] := by simp [srK]
    rw [e, List.nodup_append]
    refine ⟨nd, by simp, fun a ha b hb z => ?_⟩
    simp at hb
    subst hb
    subst z
    exact c ha
def addE (F : Frm) (x : Nd) (S : Sr) (e : Nat × Option Int) : Sr := match enteredL F x.key e.1 e.2 with
  | some k => putR k x.key S
  | none => S
def addX (F : Frm) (S : Sr) (x : Nd) : Sr := (entsL F.fs).foldl (addE F x) S
def srcL (F : Frm) : Sr := (treeN F).foldl (addX F) []
structure SI (F : Frm) (S : Sr) (n : Nat) : Prop where
  nd : (srK S).Nodup
  rch : ∀ k ∈ srK S, Reach F k
  len : ∀ k, (getS S k).length ≤ n
  snd : ∀ k, ∀ y ∈ getS S k, y ∈ (treeN F).map Nd.key ∧ ∃ e ∈ entsL F.fs, enteredL F y e.1 e.2 = some k
theorem SI.nil (F : Frm) : SI F [] 0 := ⟨by simp [srK], by simp [srK], fun k => by simp [getS], fun k y h => by simp [getS] at h⟩
theorem SI.mono {F : Frm} {S : Sr} {n m : Nat} (h : SI F S n) (hm : n ≤ m) : SI F S m := ⟨h.nd, h.rch, fun k => Nat.le_trans (h.len k) hm, h.snd⟩
theorem SI.add {F : Frm} {S : Sr} {n : Nat} (h : SI F S n) {x : Nd} (hx : x ∈ treeN F) {e : Nat × Option Int} (he : e ∈ entsL F.fs) : SI F (addE F x S e) (n + 1) := by
  unfold addE
  cases hE : enteredL F x.key e.1 e.2 with
  | none => exact h.mono (Nat.le_succ _)
  | some k =>
    obtain ⟨d, ti⟩ := tree_ti F
    refine ⟨put_nodup h.nd, fun k' hk => ?_, fun k' => Nat.le_trans get_put_len (Nat.succ_le_succ (h.len k')), fun k' y hy => ?_⟩
    · rcases put_key_mem hk with z | z
      · exact h.rch k' z
      · subst z; exact .step (ti.rch x hx) he hE
    · rcases get_put.mp hy with z | ⟨rfl, rfl⟩
      · exact h.snd k' y z
      · exact ⟨List.mem_map.mpr ⟨x, hx, rfl⟩, e, he, hE⟩
theorem addE_keep {F : Frm} {x : Nd} {S : Sr} {e : Nat × Option Int} {k y : Rc} (h : y ∈ getS S k) : y ∈ getS (addE F x S e) k := by
  unfold addE
  cases enteredL F x.key e.1 e.2 with
  | none => exact h
  | some k' => exact get_put.mpr (.inl h)
theorem foldE_keep {F : Frm} {x : Nd} {k y : Rc} : ∀ (es : List (Nat × Option Int)) {S : Sr}, y ∈ getS S k → y ∈ getS (es.foldl (addE F x) S) k
  | [], _, h => h
  | e :: es, _, h => foldE_keep es (addE_keep h)
theorem foldX_keep {F : Frm} {k y : Rc} : ∀ (xs : List Nd) {S : Sr}, y ∈ getS S k → y ∈ getS (xs.foldl (addX F) S) k
  | [], _, h => h
  | x :: xs, _, h => foldX_keep xs (foldE_keep _ h)
theorem foldE_all {F : Frm} {x : Nd} : ∀ (es : List (Nat × Option Int)) (S : Sr), ∀ e ∈ es, ∀ k, enteredL F x.key e.1 e.2 = some k → x.key ∈ getS (es.foldl (addE F x) S) k
  | [], _, e, he, _, _ => by cases he
  | e0 :: es, S, e, he, k, hk => by
    rw [List.foldl_cons]
    rcases List.mem_cons.mp he with rfl | he
    · refine foldE_keep es ?_
      unfold addE
      rw [hk]
      exact get_put.mpr (.inr ⟨rfl, rfl⟩)
    · exact foldE_all es _ e he k hk
theorem foldX_all {F : Frm} : ∀ (xs : List Nd) (S : Sr), ∀ x ∈ xs, ∀ e ∈ entsL F.fs, ∀ k, enteredL F x.key e.1 e.2 = some k → x.key ∈ getS (xs.foldl (addX F) S) k
  | [], _, x, hx, _, _, _, _ => by cases hx
  | x0 :: xs, S, x, hx, e, he, k, hk => by
    rw [List.foldl_cons]
    rcases List.mem_cons.mp hx with rfl | hx
    · exact foldX_keep xs (foldE_all _ S e he k hk)
    · exact foldX_all xs _ x hx e he k hk
theorem SI.foldE {F : Frm} {x : Nd} (hx : x ∈ treeN F) : ∀ (es : List (Nat × Option Int)) {S : Sr} {n : Nat}, (∀ e ∈ es, e ∈ entsL F.fs) → SI F S n → SI F (es.foldl (addE F x) S) (n + es.length)
  | [], S, n, _, h => h
  | e :: es, S, n, he, h => by
    have := SI.foldE hx es (fun y hy => he y (List.mem_cons_of_mem _ hy)) (h.add hx (he e List.mem_cons_self))
    rw [List.foldl_cons, List.length_cons, show n + (es.length + 1) = n + 1 + es.length by omega]
    exact this
theorem ents_le {F : Frm} (hF : FrmOk F) : (entsL F.fs).length ≤ 20 := by
  rw [entsL_eq]
  have h1 : (F.fs.mapIdx fun i x => (i, x)).length ≤ 4 := by simp; exact hF.le
  refine Nat.le_trans (flat_le _ 5 _ fun x hx => ?_) (by omega)
  have := fld_le hF x.2 (List.mem_of_getElem? (mem_idx hx))
  simp [opts]; omega
theorem SI.foldX {F : Frm} (hF : FrmOk F) : ∀ (xs : List Nd) {S : Sr} {n : Nat}, (∀ x ∈ xs, x ∈ treeN F) → SI F S n → SI F (xs.foldl (addX F) S) (n + 20 * xs.length)
  | [], S, n, _, h => h
  | x :: xs, S, n, hx, h => by
    have h1 := SI.foldE (hx x List.mem_cons_self) (entsL F.fs) (fun e he => he) h
    have h2 := SI.foldX hF xs (fun y hy => hx y (List.mem_cons_of_mem _ hy)) (h1.mono (m := n + 20) (by have := ents_le hF; omega))
    rw [List.foldl_cons, List.length_cons, show n + 20 * (xs.length + 1) = n + 20 + 20 * xs.length by omega]
    exact h2
def pushR (w : List Rc × List Rc) (r : Rc) : List Rc × List Rc := if r ∈ w.2 then w else (w.1 ++ [r], w.2 ++ [r])
structure QI (F : Frm) (Q G : List Rc) (X : Rc → Prop) : Prop where
  nq : Q.Nodup
  ng : G.Nodup
  sub : ∀ r ∈ Q, r ∈ G
  ok : ∀ r ∈ G, r ∈ (treeN F).map Nd.key ∧ Leads F r
  ini : ∀ x ∈ treeN F, sendsL F x.key = true → x.key ∈ G
  cls : ∀ g ∈ G, g ∉ Q → ¬ X g → ∀ y ∈ getS (srcL F) g, y ∈ G
theorem QI.push {F : Frm} {Q G : List Rc} {X : Rc → Prop} (h : QI F Q G X) {r : Rc} (hr : r ∈ (treeN F).map Nd.key ∧ Leads F r) : QI F (pushR (Q, G) r).1 (pushR (Q, G) r).2 X := by
  unfold pushR
  simp only
  split
  · exact h
  · rename_i hn
    refine ⟨?_, ?_, fun a ha => ?_, fun a ha => ?_, fun x hx hs => List.mem_append_left _ (h.ini x hx hs), fun g hg hq hX y hy => ?_⟩
    · rw [List.nodup_append]
      refine ⟨h.nq, by simp, fun a ha b hb z => ?_⟩
      simp at hb
      subst hb
      subst z
      exact hn (h.sub a ha)
    · rw [List.nodup_append]
      refine ⟨h.ng, by simp, fun a ha b hb z => ?_⟩
      simp at hb
      subst hb
      subst z
      exact hn ha
    · rcases List.mem_append.mp ha with z | z
      · exact List.mem_append_left _ (h.sub a z)
      · exact List.mem_append_right _ z
    · rcases List.mem_append.mp ha with z | z
      · exact h.ok a z
      · simp at z; subst z; exact hr
    · rcases List.mem_append.mp hg with z | z
      · exact List.mem_append_left _ (h.cls g z (fun q => hq (List.mem_append_left _ q)) hX y hy)
      · exact absurd (List.mem_append_right _ z) hq
theorem pushR_mem (w : List Rc × List Rc) (r : Rc) : r ∈ (pushR w r).2 := by
  unfold pushR
  split
  · assumption
  · simp
theorem pushR_keep {w : List Rc × List Rc} {r a : Rc} (h : a ∈ w.2) : a ∈ (pushR w r).2 := by
  unfold pushR
  split
  · exact h
  · exact List.mem_append_left _ h
theorem foldR_keep {a : Rc} : ∀ (rs : List Rc) {w : List Rc × List Rc}, a ∈ w.2 → a ∈ (rs.foldl pushR w).2
  | [], _, h => h
  | r :: rs, _, h => foldR_keep rs (pushR_keep h)
theorem foldR_mem : ∀ (rs : List Rc) (w : List Rc × List Rc), ∀ r ∈ rs, r ∈ (rs.foldl pushR w).2
  | [], _, r, h => by cases h
  | r0 :: rs, w, r, h => by
    rw [List.foldl_cons]
    rcases List.mem_cons.mp h with rfl | h
    · exact foldR_keep rs (pushR_mem w r)
    · exact foldR_mem rs _ r h
theorem pushR_len (w : List Rc × List Rc) (r : Rc) : w.2.length ≤ (pushR w r).2.length ∧ (pushR w r).1.length + w.2.length = w.1.length + (pushR w r).2.length := by
  unfold pushR
  split
  · exact ⟨Nat.le_refl _, by omega⟩
  · simp; omega
theorem foldR_len : ∀ (rs : List Rc) (w : List Rc × List Rc), w.2.length ≤ (rs.foldl pushR w).2.length ∧ (rs.foldl pushR w).1.length + w.2.length = w.1.length + (rs.foldl pushR w).2.length
  | [], w => ⟨Nat.le_refl _, by simp⟩
  | r :: rs, w => by
    obtain ⟨h1, h2⟩ := pushR_len w r
    obtain ⟨h3, h4⟩ := foldR_len rs (pushR w r)
    rw [List.foldl_cons]
    exact ⟨by omega, by omega⟩
theorem QI.fold {F : Frm} {X : Rc → Prop} : ∀ (rs : List Rc) {Q G : List Rc}, (∀ r ∈ rs, r ∈ (treeN F).map Nd.key ∧ Leads F r) → QI F Q G X → QI F (rs.foldl pushR (Q, G)).1 (rs.foldl pushR (Q, G)).2 X
  | [], _, _, _, h => h
  | r :: rs, Q, G, hr, h => by
    rw [List.foldl_cons]
    exact QI.fold rs (Q := (pushR (Q, G) r).1) (G := (pushR (Q, G) r).2) (fun y hy => hr y (List.mem_cons_of_mem _ hy)) (h.push (hr r List.mem_cons_self))
theorem QI.le {F : Frm} (hF : FrmOk F) {Q G : List Rc} {X : Rc → Prop} (h : QI F Q G X) : G.length ≤ 625 ∧ Q.length ≤ G.length := by
  refine ⟨?_, nodup_le h.nq h.sub⟩
  have := nodup_le h.ng fun r hr => (h.ok r hr).1
  rw [List.length_map] at this
  exact Nat.le_trans this (tree_le hF)
theorem si_src {F : Frm} (hF : FrmOk F) : SI F (srcL F) 12500 := by
  have h := SI.foldX hF (treeN F) (fun x hx => hx) (SI.nil F)
  have := tree_le hF
  exact h.mono (by omega)
theorem QI.pop {F : Frm} (hF : FrmOk F) {Q G : List Rc} {q : Rc} (h : QI F (Q ++ [q]) G (fun _ => False)) : QI F ((getS (srcL F) q).foldl pushR (Q, G)).1 ((getS (srcL F) q).foldl pushR (Q, G)).2 (fun _ => False) := by
  have hq : q ∈ G := h.sub q (by simp)
  have nq := List.nodup_append.mp h.nq
  have h1 : QI F Q G (fun g => g = q) := ⟨nq.1, h.ng, fun r hr => h.sub r (List.mem_append_left _ hr), h.ok, h.ini, fun g hg hn hX y hy => h.cls g hg (fun z => by
    rcases List.mem_append.mp z with z | z
    · exact hn z
    · simp at z; exact hX z) (fun z => z) y hy⟩
  have hs : ∀ r ∈ getS (srcL F) q, r ∈ (treeN F).map Nd.key ∧ Leads F r := fun r hr => by
    obtain ⟨a, e, he, hE⟩ := (si_src hF).snd q r hr
    exact ⟨a, .step he hE (h.ok q hq).2⟩
  have h2 := QI.fold (getS (srcL F) q) hs h1
  refine ⟨h2.nq, h2.ng, h2.sub, h2.ok, h2.ini, fun g hg hn _ y hy => ?_⟩
  by_cases c : g = q
  · subst c
    exact foldR_mem _ (Q, G) y hy
  · exact h2.cls g hg hn c y hy
theorem QI.done {F : Frm} (hF : FrmOk F) {G : List Rc} (h : QI F [] G (fun _ => False)) : ∀ x ∈ treeN F, (x.key ∈ G ↔ Leads F x.key) := by
  have key : ∀ r, Leads F r → r ∈ (treeN F).map Nd.key → r ∈ G := by
    intro r hr
    induction hr with
    | sends hs =>
      intro hm
      obtain ⟨x, hx, rfl⟩ := List.mem_map.mp hm
      exact h.ini x hx hs
    | @step a a' e he hE _ ih =>
      intro hm
      have hm' : a' ∈ (treeN F).map Nd.key := (tree_reach hF a').mpr (.step ((tree_reach hF a).mp hm) he hE)
      obtain ⟨x, hx, rfl⟩ := List.mem_map.mp hm
      exact h.cls a' (ih hm') (by simp) (fun z => z) x.key (foldX_all (treeN F) [] x hx e he a' hE)
  intro x hx
  exact ⟨fun hg => (h.ok x.key hg).2, fun hl => key x.key hl (List.mem_map.mpr ⟨x, hx, rfl⟩)⟩
open Classical in
noncomputable def lostL (F : Frm) : List Nd := (treeN F).filter fun x => !decide (Leads F x.key)
end PD
namespace PD
open PySem L2
section
variable {Γ : Gam} {ι ξ : Nat → Nat}
abbrev lkD (F : Frm) : D := .lst ((treeN F).map fun x => rcD x.key)
abbrev ls10 (F : Frm) (s1 s2 s3 s4 s7 s8 s9 : PD.S) : List PD.S := [.dat F.d, s1, s2, s3, s4, .dat (lkD F), .dat (dctP (treeN F)), s7, s8, s9]
abbrev srS (S : Sr) : PD.S := .dow (srK S) (srV S)
theorem get_D (S : Sr) (k : Rc) : (findK k (srK S) (srV S)).getD (.tup []) = .tup ((getS S k).map rcD) := by
  rw [find_sr]
  by_cases h : k ∈ srK S
  · rw [if_pos h]; rfl
  · rw [if_neg h, get_none h]; rfl
theorem src_try (h12 : EnteredS Γ (ι 12)) (F : Frm) (hF : FrmOk F) (S : Sr) (n : Nat) (hS : SI F S n) (hn : n ≤ 12500) (x : Nd) (hx : x ∈ treeN F) (e : Nat × Option Int) (he : e ∈ entsL F.fs) (s9 : PD.S) :
    ∃ s9', exs Γ false (cb_lost_records_2 ι ξ) (ls10 F (srS S) (.dat (rcD x.key)) .none .none (.dat (.int e.1)) (.dat (oD e.2)) s9) = .next (ls10 F (srS (addE F x S e)) (.dat (rcD x.key)) .none .none (.dat (.int e.1)) (.dat (oD e.2)) s9') := by
  have hz0 : 0 ≤ szN := Nat.zero_le _
  have hz1 : 1 ≤ szN := by decide
  have hl := tree_len hx
  have ek := ents_ok he
  have hi : e.1 < x.key.length := by
    obtain ⟨f, hf, _⟩ := ek
    rw [hl]; exact lt_of_get hf
  have hE := h12 F hF x.key hl e.1 hi e.2
  cases hq : enteredL F x.key e.1 e.2 with
  | none =>
    rw [hq] at hE
    have o0 : orD none = .non := rfl
    rw [o0] at hE
    have ea : addE F x S e = S := by unfold addE; rw [hq]
    rw [ea]
    exact ⟨.dat .non, by simp? only [ls10, cb_lost_records_2, hE]⟩
  | some k =>
    rw [hq] at hE
    have o1 : orD (some k) = rcD k := rfl
    rw [o1] at hE
    have n0 : isNonD (rcD k) = false := rfl
    have ea : addE F x S e = putR k x.key S := by unfold addE; rw [hq]
    rw [ea]
    have hgl := hS.len k
    have had : binD .add (.tup ((getS S k).map rcD)) (.tup [rcD x.key]) = some (.tup ((getS S k ++ [x.key]).map rcD)) := by
      rw [add_tup _ _ (by simp [szN]; omega), List.map_append]; rfl
    have hkl : (srK S).length < szN := by
      have := keys_le hF hS.nd fun r hr => (hS.rch r hr).ok
      simp [szN]; omega
    have hg := get_D S k
    refine ⟨.dat (rcD k), ?_⟩
    by_cases hm : k ∈ srK S
    · have hf : findK k (srK S) (srV S) = some (.tup ((getS S k).map rcD)) := by rw [find_sr, if_pos hm]
      have e1 := put_keys (k := k) (x := x.key) hm
      have e2 := put_vals (x := x.key) hS.nd hm
      simp only [ls10, srS, e1, ← e2]
      simp? only [cb_lost_records_2, hE, n0, keyOf_rc, hf, hz0, hz1, Option.getD_some, had, hkl]
    · have hf : findK k (srK S) (srV S) = none := by rw [find_sr, if_neg hm]
      have e0 := put_new (k := k) (x := x.key) hm
      have e1 : srK (putR k x.key S) = srK S ++ [k] := by rw [e0]; simp [srK]
      have e2 : srV (putR k x.key S) = srV S ++ [.tup ((getS S k ++ [x.key]).map rcD)] := by rw [e0, get_none hm]; simp [srV]
      have hgn := get_none hm
      rw [hgn] at had
      rw [hgn] at e2
      simp only [ls10, srS, e1, e2]
      simp only [List.map_nil, List.nil_append] at had ⊢
      simp? only [cb_lost_records_2, hE, n0, keyOf_rc, hf, hz0, hz1, Option.getD_none, had, hkl]
theorem src_in (h12 : EnteredS Γ (ι 12)) (h35 : ∀ F, FrmOk F → Γ.fn (ι 35) [F.d] = .ok (.lst ((entsL F.fs).map enD))) (F : Frm) (hF : FrmOk F) (S : Sr) (n : Nat) (hS : SI F S n) (hn : n + 20 ≤ 12500) (x : Nd) (hx : x ∈ treeN F) (s7 s8 s9 : PD.S) :
    ∃ s7' s8' s9', exs Γ false (cb_lost_records_1 ι ξ) (ls10 F (srS S) (.dat (rcD x.key)) .none .none s7 s8 s9) = .next (ls10 F (srS (addX F S x)) (.dat (rcD x.key)) .none .none s7' s8' s9') := by
  obtain ⟨δ', ef, s7', s8', s9', rfl⟩ := forD_pre (t := .tup [7, 8]) (body := exs Γ false (cb_lost_records_2 ι ξ)) enD (fun (S : Sr) δ => ∃ s7 s8 s9, δ = ls10 F (srS S) (.dat (rcD x.key)) .none .none s7 s8 s9) (addE F x) (entsL F.fs) S (ls10 F (srS S) (.dat (rcD x.key)) .none .none s7 s8 s9) ⟨_, _, _, rfl⟩ (fun pre e post he δ hJ => by
    obtain ⟨s7, s8, s9, rfl⟩ := hJ
    have he' : e ∈ entsL F.fs := by rw [he]; simp
    have t1 := SI.foldE hx pre (fun y hy => by rw [he]; exact List.mem_append_left _ hy) hS
    have hpl : pre.length ≤ 20 := by
      have h1 := ents_le hF
      have h2 := congrArg List.length he
      simp at h2
      omega
    obtain ⟨s9', e2⟩ := src_try (ξ := ξ) h12 F hF _ _ t1 (by omega) x hx e he' s9
    exact ⟨ls10 F (srS (pre.foldl (addE F x) S)) (.dat (rcD x.key)) .none .none (.dat (.int e.1)) (.dat (oD e.2)) s9, by simp? only [enD], _, .inl e2, _, _, _, rfl⟩)
  refine ⟨s7', s8', s9', ?_⟩
  simp only [ls10] at ef
  simp? only [ls10, cb_lost_records_1, h35 F hF, ef, addX]
abbrev gdS (G : List Rc) : PD.S := .dow G (G.map fun _ => D.bl true)
theorem gd_none {G : List Rc} {r : Rc} (h : r ∉ G) : findK r G (G.map fun _ => D.bl true) = none := by
  have := find_some (k := r) (ks := G) (vs := G.map fun _ => D.bl true) (by simp)
  cases z : findK r G (G.map fun _ => D.bl true) with
  | none => rfl
  | some d => rw [z] at this; simp at this; exact absurd this h
theorem gd_some {G : List Rc} {r : Rc} (h : r ∈ G) : ∃ d, findK r G (G.map fun _ => D.bl true) = some d := by
  have := find_some (k := r) (ks := G) (vs := G.map fun _ => D.bl true) (by simp)
  cases z : findK r G (G.map fun _ => D.bl true) with
  | none => rw [z] at this; simp at this; exact absurd h this
  | some d => exact ⟨d, rfl⟩
theorem gd_put (G : List Rc) (r : Rc) : gdS (G ++ [r]) = .dow (G ++ [r]) ((G.map fun _ => D.bl true) ++ [.bl true]) := by
  unfold gdS
  rw [List.map_append]; rfl
theorem forO_at {t : Tg} {g : List PD.S → O} {j : Nat} {δ : List PD.S} {ds : List D} (h : δ[j]? = some (.own ds)) : forO t g j δ = shwO j ds (forD t g ds (δ.set j .hid)) := by
  unfold forO
  rw [h]
def sndL (F : Frm) : List Rc := ((treeN F).filter fun x => sendsL F x.key).map Nd.key
theorem snd_nodup (F : Frm) : (sndL F).Nodup := by
  obtain ⟨d, ti⟩ := tree_ti F
  exact ti.nd.sublist ((List.filter_sublist).map _)
theorem snd_ok {F : Frm} {r : Rc} (h : r ∈ sndL F) : r ∈ (treeN F).map Nd.key ∧ sendsL F r = true := by
  obtain ⟨x, hx, rfl⟩ := List.mem_map.mp h
  obtain ⟨h1, h2⟩ := List.mem_filter.mp hx
  exact ⟨List.mem_map.mpr ⟨x, h1, rfl⟩, h2⟩
theorem qi_start (F : Frm) : QI F (sndL F) (sndL F) (fun _ => False) := by
  refine ⟨snd_nodup F, snd_nodup F, fun r h => h, fun r hr => ⟨(snd_ok hr).1, .sends (snd_ok hr).2⟩, fun x hx hs => List.mem_map.mpr ⟨x, List.mem_filter.mpr ⟨hx, hs⟩, rfl⟩, fun g hg hn => absurd hg hn⟩
theorem snd_le {F : Frm} (hF : FrmOk F) : (sndL F).length ≤ 625 := ((qi_start F).le hF).1
theorem good_loop (F : Frm) (hF : FrmOk F) (S : Sr) (s2 s7 s8 s9 : PD.S) : ∃ s2', forD (.nm 2) (exs Γ false (.cons (.dput 4 (.var 2) (.con (.bl true))) .nil)) ((sndL F).map rcD) (ls10 F (srS S) s2 .hid (gdS []) s7 s8 s9) = .next (ls10 F (srS S) s2' .hid (gdS (sndL F)) s7 s8 s9) := by
  obtain ⟨δ', ef, s2', rfl⟩ := forD_pre (t := .nm 2) (body := exs Γ false (.cons (.dput 4 (.var 2) (.con (.bl true))) .nil)) rcD (fun (G : List Rc) δ => ∃ s2, δ = ls10 F (srS S) s2 .hid (gdS G) s7 s8 s9) (fun G r => G ++ [r]) (sndL F) [] (ls10 F (srS S) s2 .hid (gdS []) s7 s8 s9) ⟨_, rfl⟩ (fun pre r post he δ hJ => by
    obtain ⟨s2, rfl⟩ := hJ
    have ep : pre.foldl (fun (G : List Rc) r => G ++ [r]) [] = pre := by
      have : ∀ (xs b : List Rc), xs.foldl (fun (G : List Rc) r => G ++ [r]) b = b ++ xs := by
        intro xs
        induction xs with
        | nil => intro b; simp
        | cons x xs ih => intro b; rw [List.foldl_cons, ih]; simp
      rw [this, List.nil_append]
    rw [ep]
    have hnd := snd_nodup F
    rw [he] at hnd
    have hn : r ∉ pre := fun z => (List.nodup_append.mp hnd).2.2 r z r List.mem_cons_self rfl
    have hf := gd_none hn
    have hpl : pre.length < szN := by
      have h1 := snd_le hF
      rw [he] at h1
      simp at h1
      simp [szN]; omega
    refine ⟨ls10 F (srS S) (.dat (rcD r)) .hid (gdS pre) s7 s8 s9, by simp? only [ls10], _, .inl ?_, .dat (rcD r), rfl⟩
    rw [gd_put]
    simp? only [ls10, keyOf_rc, hf, hpl])
  refine ⟨s2', ?_⟩
  have ep : (sndL F).foldl (fun (G : List Rc) r => G ++ [r]) [] = sndL F := by
    have : ∀ (xs b : List Rc), xs.foldl (fun (G : List Rc) r => G ++ [r]) b = b ++ xs := by
      intro xs
      induction xs with
      | nil => intro b; simp
      | cons x xs ih => intro b; rw [List.foldl_cons, ih]; simp
    rw [this, List.nil_append]
  rw [ep] at ef
  exact ef
theorem back_loop (F : Frm) (hF : FrmOk F) (Q G : List Rc) (q : Rc) (h : QI F (Q ++ [q]) G (fun _ => False)) (s2 s7 s8 s9 : PD.S) : ∃ s2', exs Γ false (cb_lost_records_3 ι ξ) (ls10 F (srS (srcL F)) s2 (.own ((Q ++ [q]).map rcD)) (gdS G) s7 s8 s9) = .next (ls10 F (srS (srcL F)) s2' (.own (((getS (srcL F) q).foldl pushR (Q, G)).1.map rcD)) (gdS ((getS (srcL F) q).foldl pushR (Q, G)).2) s7 s8 s9) := by
  have hz0 : 0 ≤ szN := Nat.zero_le _
  have hq : q ∈ G := h.sub q (by simp)
  have nq := List.nodup_append.mp h.nq
  have h1 : QI F Q G (fun g => g = q) := ⟨nq.1, h.ng, fun r hr => h.sub r (List.mem_append_left _ hr), h.ok, h.ini, fun g hg hn hX y hy => h.cls g hg (fun z => by
    rcases List.mem_append.mp z with z | z
    · exact hn z
    · simp at z; exact hX z) (fun z => z) y hy⟩
  have hs : ∀ r ∈ getS (srcL F) q, r ∈ (treeN F).map Nd.key ∧ Leads F r := fun r hr => by
    obtain ⟨a, e, he, hE⟩ := (si_src hF).snd q r hr
    exact ⟨a, .step he hE (h.ok q hq).2⟩
  obtain ⟨δ', ef, s2', rfl⟩ := forD_pre (t := .nm 2) (body := exs Γ false (.cons (.ite (.din true (.var 2) 4) (.cons (.dput 4 (.var 2) (.con (.bl true))) (.cons (.app 3 (.var 2)) .nil)) .nil) .nil)) rcD (fun (w : List Rc × List Rc) δ => ∃ s2, δ = ls10 F (srS (srcL F)) s2 (.own (w.1.map rcD)) (gdS w.2) s7 s8 s9) pushR (getS (srcL F) q) (Q, G) (ls10 F (srS (srcL F)) s2 (.own (Q.map rcD)) (gdS G) s7 s8 s9) ⟨_, rfl⟩ (fun pre r post he δ hJ => by
    obtain ⟨s2, rfl⟩ := hJ
    have hw := QI.fold pre (fun y hy => hs y (by rw [he]; exact List.mem_append_left _ hy)) h1
    obtain ⟨l1, l2⟩ := hw.le hF
    generalize pre.foldl pushR (Q, G) = w at hw l1 l2
    have hz1 : w.2.length < szN := by simp [szN]; omega
    have hz2 : (w.1.map rcD).length < szN := by rw [List.length_map]; simp [szN]; omega
    by_cases hm : r ∈ w.2
    · obtain ⟨d, hf⟩ := gd_some hm
      have ep : pushR w r = w := by unfold pushR; rw [if_pos hm]
      rw [ep]
      exact ⟨ls10 F (srS (srcL F)) (.dat (rcD r)) (.own (w.1.map rcD)) (gdS w.2) s7 s8 s9, by simp? only [ls10], _, .inl (by simp? only [ls10, keyOf_rc, hf, Option.isSome_some]), .dat (rcD r), rfl⟩
    · have hf := gd_none hm
      have ep : pushR w r = (w.1 ++ [r], w.2 ++ [r]) := by unfold pushR; rw [if_neg hm]
      rw [ep]
      refine ⟨ls10 F (srS (srcL F)) (.dat (rcD r)) (.own (w.1.map rcD)) (gdS w.2) s7 s8 s9, by simp? only [ls10], _, .inl ?_, .dat (rcD r), rfl⟩
      simp only [gd_put, List.map_append, List.map_cons, List.map_nil]
      simp? only [ls10, keyOf_rc, hf, Option.isSome_none, hz1, hz2])
  refine ⟨s2', ?_⟩
  have hfp : fPG 1 3 (ev Γ false (.tup .nil)).E (ls10 F (srS (srcL F)) s2 (.own ((Q ++ [q]).map rcD)) (gdS G) s7 s8 s9) = .ok (ls10 F (srS (srcL F)) s2 (.own (Q.map rcD)) (gdS G) s7 s8 s9, .tup ((getS (srcL F) q).map rcD)) := by
    have hp : popS 3 (ls10 F (srS (srcL F)) s2 (.own ((Q ++ [q]).map rcD)) (gdS G) s7 s8 s9) = some (ls10 F (srS (srcL F)) s2 (.own (Q.map rcD)) (gdS G) s7 s8 s9, rcD q) := by
      have hl : ((Q ++ [q]).map rcD).getLast? = some (rcD q) := by simp
      have hd : ((Q ++ [q]).map rcD).dropLast = Q.map rcD := by simp
      show (match ((Q ++ [q]).map rcD).getLast? with
        | some d => some ((ls10 F (srS (srcL F)) s2 (.own ((Q ++ [q]).map rcD)) (gdS G) s7 s8 s9).set 3 (.own ((Q ++ [q]).map rcD).dropLast), d)
        | none => none) = _
      rw [hl, hd]; rfl
    unfold fPG
    rw [hp]
    have hc : slC (ls10 F (srS (srcL F)) s2 (.own ((Q ++ [q]).map rcD)) (gdS G) s7 s8 s9) 1 = .ok (srK (srcL F), srV (srcL F)) := rfl
    rw [hc]
    simp? only [R.bind_ok, keyOf_rc, R.of, hz0, noX, get_D]
  have hit : itemsD (.tup ((getS (srcL F) q).map rcD)) = .ok ((getS (srcL F) q).map rcD) := rfl
  have hx : exs Γ false (cb_lost_records_3 ι ξ) (ls10 F (srS (srcL F)) s2 (.own ((Q ++ [q]).map rcD)) (gdS G) s7 s8 s9) = andThen (fForPG (.nm 2) 1 3 (ev Γ false (.tup .nil)).E (exs Γ false (.cons (.ite (.din true (.var 2) 4) (.cons (.dput 4 (.var 2) (.con (.bl true))) (.cons (.app 3 (.var 2)) .nil)) .nil) .nil)) (ls10 F (srS (srcL F)) s2 (.own ((Q ++ [q]).map rcD)) (gdS G) s7 s8 s9)) (exs Γ false .nil) := by
    rw [cb_lost_records_3, exs_cons, ex_fpg]
  rw [hx]
  unfold fForPG
  rw [hfp]
  simp only [hit, thenS_ok, ef, at_next, exs_nil]
theorem lost_records_c (h12 : EnteredS Γ (ι 12)) (h15 : SendsS Γ (ι 15)) (h35 : ∀ F, FrmOk F → Γ.fn (ι 35) [F.d] = .ok (.lst ((entsL F.fs).map enD))) (h36 : FilledS Γ (ι 36)) (F : Frm) (hF : FrmOk F) :
    evF Γ 1 10 (cb_lost_records ι ξ) [F.d] = .ok (.tup [.lst ((lostL F).map keyD), dctP (treeN F)]) := by
  have hz2 : 2 ≤ szN := by decide
  have hit : itemsD (lkD F) = .ok ((treeN F).map keyD) := rfl
  -- the sources
  obtain ⟨δ', e1, s2, s7, s8, s9, rfl⟩ := forD_pre (t := .nm 2) (body := exs Γ false (cb_lost_records_1 ι ξ)) keyD (fun (S : Sr) δ => ∃ s2 s7 s8 s9, δ = ls10 F (srS S) s2 .none .none s7 s8 s9) (addX F) (treeN F) [] (ls10 F (srS []) .none .none .none .none .none .none) ⟨_, _, _, _, rfl⟩ (fun pre x post he δ hJ => by
    obtain ⟨s2, s7, s8, s9, rfl⟩ := hJ
    have hx : x ∈ treeN F := by rw [he]; simp
    have t1 := SI.foldX hF pre (fun y hy => by rw [he]; exact List.mem_append_left _ hy) (SI.nil F)
    have hpl : pre.length + 1 ≤ 625 := by
      have h1 := tree_le hF
      have h2 := congrArg List.length he
      simp at h2
      omega
    obtain ⟨s7', s8', s9', e2⟩ := src_in (ξ := ξ) h12 h35 F hF _ _ t1 (by omega) x hx s7 s8 s9
    exact ⟨ls10 F (srS (pre.foldl (addX F) [])) (.dat (rcD x.key)) .none .none s7 s8 s9, by simp? only [ls10], _, .inl e2, _, _, _, _, rfl⟩)
  have hsl : (treeN F).foldl (addX F) [] = srcL F := rfl
  rw [hsl] at e1
  -- the queue
  have lc1 := lcD_map (t := .nm 2) (tst := (evo Γ false (ct_lost_records_1 ι ξ)).T) (elt := (ev Γ false (.var 2)).E) (δ := ls10 F (srS (srcL F)) .none .none .none s7 s8 s9) keyD (fun x => sendsL F x.key) keyD (xs := treeN F) (fun x hx =>
    ⟨ls10 F (srS (srcL F)) (.dat (rcD x.key)) .none .none s7 s8 s9, by simp? only [ls10], by
      simp? only [ls10, ct_lost_records_1, h15 F hF x.key (tree_len hx)], fun _ => by simp? only [ls10]⟩)
  have hsn : ((treeN F).filter fun x => sendsL F x.key).map keyD = (sndL F).map rcD := by rw [sndL, List.map_map]; rfl
  rw [hsn] at lc1
  obtain ⟨s2b, e2⟩ := good_loop (Γ := Γ) F hF (srcL F) s2 s7 s8 s9
  have hO : forO (.nm 2) (exs Γ false (.cons (.dput 4 (.var 2) (.con (.bl true))) .nil)) 3 (ls10 F (srS (srcL F)) s2 (.own ((sndL F).map rcD)) (.dow [] []) s7 s8 s9) = .next (ls10 F (srS (srcL F)) s2b (.own ((sndL F).map rcD)) (gdS (sndL F)) s7 s8 s9) := by
    have hset : (ls10 F (srS (srcL F)) s2 (.own ((sndL F).map rcD)) (.dow [] []) s7 s8 s9).set 3 .hid = ls10 F (srS (srcL F)) s2 .hid (gdS []) s7 s8 s9 := by simp only [ls10, gdS, List.set_cons_succ, List.set_cons_zero, List.map_nil]
    rw [forO_at (ds := (sndL F).map rcD) (by simp only [ls10, List.getElem?_cons_succ, List.getElem?_cons_zero]), hset, e2]
    have hh : isHid 3 (ls10 F (srS (srcL F)) s2b .hid (gdS (sndL F)) s7 s8 s9) = true := by simp only [isHid, ls10, List.getElem?_cons_succ, List.getElem?_cons_zero]
    simp only [shwO, hh, if_true]
    simp only [ls10, List.set_cons_succ, List.set_cons_zero]
  -- backwards
  obtain ⟨δ', e3, G, s2c, hQI, rfl⟩ := whileD_run (t := (ev Γ false (.var 3)).T) (b := exs Γ false (cb_lost_records_3 ι ξ))
    (fun m δ => ∃ Q G s2, QI F Q G (fun _ => False) ∧ m = 2 * (625 - G.length) + Q.length ∧ δ = ls10 F (srS (srcL F)) s2 (.own (Q.map rcD)) (gdS G) s7 s8 s9)
    (fun δ => ∃ G s2, QI F [] G (fun _ => False) ∧ δ = ls10 F (srS (srcL F)) s2 (.own []) (gdS G) s7 s8 s9) (fun m δ hI => by
      obtain ⟨Q, G, s2, hq, rfl, rfl⟩ := hI
      by_cases c : Q = []
      · subst c
        left
        exact ⟨rfl, G, s2, hq, rfl⟩
      · right
        obtain ⟨Q0, q, rfl⟩ := snoc_of c
        obtain ⟨s2', eb⟩ := back_loop (Γ := Γ) (ι := ι) (ξ := ξ) F hF Q0 G q hq s2 s7 s8 s9
        have hp := hq.pop hF
        obtain ⟨l1, l2⟩ := foldR_len (getS (srcL F) q) (Q0, G)
        obtain ⟨l3, l4⟩ := hp.le hF
        have ht : (ev Γ false (.var 3)).T (ls10 F (srS (srcL F)) s2 (.own ((Q0 ++ [q]).map rcD)) (gdS G) s7 s8 s9) = .ok true := by
          have hne : ((Q0 ++ [q]).map rcD).isEmpty = false := by simp
          simp only [ls10, evT_var, slB_succ, slB_own, slB_dat, bnd_ok, truD_lst, hne, of_some', Bool.not_false]
        refine ⟨ht, _, 2 * (625 - ((getS (srcL F) q).foldl pushR (Q0, G)).2.length) + ((getS (srcL F) q).foldl pushR (Q0, G)).1.length, eb, ?_, _, _, s2', hp, rfl, rfl⟩
        simp only [List.length_append, List.length_cons, List.length_nil]
        simp only at l1 l2
        omega) 1000000 (2 * (625 - (sndL F).length) + (sndL F).length) (ls10 F (srS (srcL F)) s2b (.own ((sndL F).map rcD)) (gdS (sndL F)) s7 s8 s9) (by have := snd_le hF; omega) ⟨_, _, _, qi_start F, rfl, rfl⟩
  -- the rest
  have hdone := hQI.done hF
  have lc2 := lcD_map (t := .nm 2) (tst := (evo Γ false (ct_lost_records_2 ι ξ)).T) (elt := (ev Γ false (.var 2)).E) (δ := ls10 F (srS (srcL F)) .none (.own []) (gdS G) s7 s8 s9) keyD (fun x => !decide (x.key ∈ G)) keyD (xs := treeN F) (fun x hx =>
    ⟨ls10 F (srS (srcL F)) (.dat (rcD x.key)) (.own []) (gdS G) s7 s8 s9, by simp? only [ls10], by
      have hfs := find_some (k := x.key) (ks := G) (vs := G.map fun _ => D.bl true) (by simp)
      simp? only [ls10, ct_lost_records_2, keyOf_rc, hfs], fun _ => by simp? only [ls10]⟩)
  have hlost : ((treeN F).filter fun x => !decide (x.key ∈ G)) = lostL F := by
    unfold lostL
    apply List.filter_congr
    intro x hx
    have := hdone x hx
    by_cases c : x.key ∈ G
    · simp [c, this.mp c]
    · have c' : ¬ Leads F x.key := fun z => c (this.mpr z)
      simp [c, c']
  rw [hlost] at lc2
  have hdk : (lostL F).map keyD = (lostL F).map fun x => rcD x.key := rfl
  have hs0 : srS [] = (.dow [] [] : PD.S) := rfl
  rw [hs0] at e1
  simp only [ls10, srS, gdS] at e1 lc1 hO e3 lc2
  simp? only [evF, cb_lost_records, h36 F hF, hit, e1, lc1, hO, e3, lc2, hz2]
abbrev LostS (Γ : Gam) (j : Nat) : Prop := ∀ F, FrmOk F → Γ.fn j [F.d] = .ok (.tup [.lst ((lostL F).map keyD), dctP (treeN F)])
theorem has_trap_c (h6 : CheckFormS Γ (ι 6)) (h49 : LostS Γ (ι 49)) (F : Frm) (hF : FrmOk F) : evF Γ 1 1 (cb_has_trap ι ξ) [F.d] = .ok (.bl (!(lostL F).isEmpty)) := by
  have hz0 : 0 ≤ szN := Nat.zero_le _
  have ha : ∀ a b : D, atI [a, b] 0 = some a := fun _ _ => rfl
  have hne := ne_nil ((lostL F).map keyD) (noScr_keys _) (dep_keys _)
  rw [List.isEmpty_map] at hne
  simp? only [evF, cb_has_trap, h6 F hF, h49 F hF, ha, hz0, hne]
theorem trap_no_c (ho : Γ.own (ξ 4) = true) (h6 : CheckFormS Γ (ι 6)) (h49 : LostS Γ (ι 49)) (F : Frm) (hF : FrmOk F) (hn : lostL F = []) : evF Γ 1 3 (cb_trap_entries ι ξ) [F.d] = .exc (ξ 4) := by
  have h := h49 F hF
  rw [hn, List.map_nil] at h
  simp? only [evF, cb_trap_entries, h6 F hF, h, List.isEmpty_nil, ho]
theorem trap_yes_c (h6 : CheckFormS Γ (ι 6)) (h49 : LostS Γ (ι 49)) (F : Frm) (hF : FrmOk F) (z : Nd) (t : List Nd) (hz : lostL F = z :: t) (v : D) (h40 : Γ.fn (ι 40) [dctP (treeN F), rcD z.key] = .ok v) : evF Γ 1 3 (cb_trap_entries ι ξ) [F.d] = .ok v := by
  have h := h49 F hF
  rw [hz, List.map_cons] at h
  have ha : atI (keyD z :: t.map keyD) 0 = some (rcD z.key) := at0 _ _
  simp? only [evF, cb_trap_entries, h6 F hF, h, List.isEmpty_cons, ha, h40]
end
end PD
namespace PD
open PySem L2
def wr (F : Frm) (rs : List Rul) : Frm := ⟨F.fs, rs, F.al⟩
theorem wr_ok {F : Frm} (hF : FrmOk F) {rs : List Rul} (hl : rs.length ≤ 4) (h : ∀ q ∈ rs, q ∈ F.rs) : FrmOk (wr F rs) := ⟨hF.ne, hF.le, hF.fld, hl, fun q hq => hF.rul q (h q hq)⟩
theorem entered_wr {F : Frm} (hF : FrmOk F) {rs : List Rul} (hW : FrmOk (wr F rs)) (h : ∀ q ∈ rs, q ∈ F.rs) {l l' : Rc} {i : Nat} {o : Option Int} (e : enteredL F l i o = some l') : enteredL (wr F rs) l i o = some l' := by
  rw [entered_alt hF] at e
  rw [entered_alt hW]
  have hs : shownL (wr F rs) l = shownL F l := rfl
  rw [hs]
  split at e
  · cases e
  · rename_i c1
    rw [if_neg c1]
    split at e
    · cases e
    · rename_i c2
      rw [if_neg]
      · exact e
      · intro z
        obtain ⟨q, hq, hp⟩ := List.any_eq_true.mp z
        exact c2 (List.any_eq_true.mpr ⟨q, h q hq, hp⟩)
theorem reach_wr {F : Frm} (hF : FrmOk F) {rs : List Rul} (hW : FrmOk (wr F rs)) (h : ∀ q ∈ rs, q ∈ F.rs) {r : Rc} (hr : Reach F r) : Reach (wr F rs) r := by
  induction hr with
  | blank => exact .blank (F := wr F rs)
  | step _ he hs ih => exact .step ih he (entered_wr hF hW h hs)
theorem tree_wr {F : Frm} (hF : FrmOk F) {rs : List Rul} (hW : FrmOk (wr F rs)) (h : ∀ q ∈ rs, q ∈ F.rs) : (treeN F).length ≤ (treeN (wr F rs)).length := by
  obtain ⟨d, ti⟩ := tree_ti F
  have := nodup_le ti.nd (l := (treeN (wr F rs)).map Nd.key) fun r hr => (tree_reach hW r).mpr (reach_wr hF hW h ((tree_reach hF r).mp hr))
  rw [List.length_map, List.length_map] at this
  exact this
theorem sends_wr {F : Frm} {rs : List Rul} (h : ∀ q ∈ rs, q ∈ F.rs) {r : Rc} (hs : sendsL F r = true) : sendsL (wr F rs) r = true := by
  unfold sendsL at hs ⊢
  rw [Bool.and_eq_true] at hs ⊢
  refine ⟨hs.1, ?_⟩
  have h2 := hs.2
  rw [broken_gen, Bool.not_eq_true', List.any_eq_false] at h2 ⊢
  exact fun q hq => h2 q (h q hq)
theorem cleans_wr {F : Frm} {rs : List Rul} (h : ∀ q ∈ rs, q ∈ F.rs) {r : Rc} (hr : r ∈ cleansL F) : r ∈ cleansL (wr F rs) := by
  obtain ⟨h1, h2⟩ := List.mem_filter.mp hr
  rw [Bool.and_eq_true] at h2
  refine List.mem_filter.mpr ⟨h1, ?_⟩
  rw [Bool.and_eq_true]
  exact ⟨sends_wr h h2.1, h2.2⟩
theorem cleans_eq {F : Frm} {rs : List Rul} (h : ∀ q ∈ rs, q ∈ F.rs) (h' : ∀ q ∈ F.rs, q ∈ rs) : cleansL (wr F rs) = cleansL F := by
  unfold cleansL
  apply List.filter_congr
  intro r _
  have e : sendsL (wr F rs) r = sendsL F r := by
    cases c : sendsL F r with
    | true => exact sends_wr h c
    | false =>
      cases c2 : sendsL (wr F rs) r with
      | false => rfl
      | true =>
        have := sends_wr (F := wr F rs) (rs := F.rs) h' c2
        have e2 : wr (wr F rs) F.rs = F := rfl
        rw [e2, c] at this
        cases this
  rw [e]
  rfl
theorem tree_eq {F : Frm} (hF : FrmOk F) {rs : List Rul} (hW : FrmOk (wr F rs)) (h : ∀ q ∈ rs, q ∈ F.rs) (h' : ∀ q ∈ F.rs, q ∈ rs) : (treeN (wr F rs)).length = (treeN F).length := by
  have h1 := tree_wr hF hW h
  have h2 := tree_wr (F := wr F rs) (rs := F.rs) hW hF h'
  have e2 : wr (wr F rs) F.rs = F := rfl
  rw [e2] at h2
  omega
theorem sends_bare {F : Frm} (hn : F.rs = []) {r : Rc} (h : ∀ k ∈ shownL F r, (gv r k).isSome = true) : sendsL F r = true := by
  unfold sendsL
  rw [Bool.and_eq_true]
  refine ⟨List.all_eq_true.mpr h, ?_⟩
  rw [broken_gen, hn]
  rfl
theorem entered_bare {F : Frm} (hF : FrmOk F) (hn : F.rs = []) {r : Rc} {k : Nat} {o : Option Int} (h1 : k ∈ shownL F r) (h2 : gv r k ≠ o) : enteredL F r k o = some (r.set k o) := by
  rw [entered_alt hF, if_neg (fun z => z.elim (fun q => q h1) h2), hn]
  rfl
theorem val0 {F : Frm} (hF : FrmOk F) {k : Nat} (hk : k < F.fs.length) : ∃ v, (k, some v) ∈ entsL F.fs ∧ EntOk F k (some v) := by
  have hf : F.fs[k]? = some F.fs[k] := List.getElem?_eq_getElem hk
  have fk := hF.fld k _ hf
  cases hv : F.fs[k].vs with
  | nil => exact absurd hv fk.1.1
  | cons v vt =>
    refine ⟨v, ?_, F.fs[k], hf, fun u hu => by cases hu; rw [hv]; exact List.mem_cons_self⟩
    rw [entsL_eq]
    refine List.mem_flatMap.mpr ⟨(k, F.fs[k]), ?_, List.mem_map.mpr ⟨some v, by simp [opts, hv], rfl⟩⟩
    refine List.mem_of_getElem? (i := k) ?_
    rw [List.getElem?_mapIdx, hf]; rfl
theorem shown_set {F : Frm} (hF : FrmOk F) {r : Rc} {i : Nat} {o : Option Int} (hl : i < r.length) {k : Nat} (hk : k ≤ i) (hkf : k < F.fs.length) : k ∈ shownL F (r.set i o) ↔ k ∈ shownL F r := by
  refine shown_congr hF i (fun j hj _ => ?_) (fun j hj _ => ?_) k hk hkf
  · exact gv_setne (by omega) o
  · exact gv_setne (by omega) o
theorem leads_bare {F : Frm} (hF : FrmOk F) (hn : F.rs = []) : ∀ (m i : Nat), m + i = F.fs.length → ∀ r : Rc, RecOk F r → (∀ k, k < i → k ∈ shownL F r → (gv r k).isSome = true) → Leads F r
  | 0, i, hi, r, hr, h => .sends (sends_bare hn fun k hk => h k (by have := shown_lt hk; omega) hk)
  | m + 1, i, hi, r, hr, h => by
    by_cases c : i ∈ shownL F r ∧ (gv r i).isSome = false
    · obtain ⟨c1, c2⟩ := c
      have hif := shown_lt c1
      have hil : i < r.length := by rw [hr.len]; exact hif
      obtain ⟨v, hv, hvo⟩ := val0 hF hif
      have hne : gv r i ≠ some v := fun z => by rw [z] at c2; cases c2
      refine .step hv (entered_bare hF hn c1 hne) (leads_bare hF hn m (i + 1) (by omega) _ (rec_setE hr hvo) fun k hk hs => ?_)
      rw [gv_setE hil]
      by_cases ck : k = i
      · rw [if_pos ck]; rfl
      · rw [if_neg ck]
        exact h k (by omega) ((shown_set hF hil (by omega) (shown_lt hs)).mp hs)
    · refine leads_bare hF hn m (i + 1) (by omega) r hr fun k hk hs => ?_
      by_cases ck : k = i
      · subst ck
        cases hg : (gv r k).isSome with
        | true => rfl
        | false => exact absurd ⟨hs, hg⟩ c
      · exact h k (by omega) hs
theorem lost_bare {F : Frm} (hF : FrmOk F) (hn : F.rs = []) : lostL F = [] := by
  unfold lostL
  rw [List.filter_eq_nil_iff]
  intro x hx
  obtain ⟨d, ti⟩ := tree_ti F
  have := leads_bare hF hn F.fs.length 0 (by omega) x.key (ti.rch x hx).ok (fun k hk => by omega)
  simp [this]
theorem fill_bare {F : Frm} (hF : FrmOk F) : ∀ i, i ≤ F.fs.length → ∃ r : Rc, RecOk F r ∧ (∀ k, k < i → k ∈ shownL F r → (gv r k).isSome = true) ∧ (∀ k, k < i → k ∉ shownL F r → gv r k = none) ∧ (∀ k, i ≤ k → gv r k = none)
  | 0, _ => ⟨blankL F, blank_ok F, fun k hk => by omega, fun k hk => by omega, fun k _ => gv_blank F k⟩
  | i + 1, hi => by
    obtain ⟨r, hr, h1, h2, h3⟩ := fill_bare hF i (by omega)
    have hil : i < r.length := by rw [hr.len]; omega
    by_cases c : i ∈ shownL F r
    · obtain ⟨v, hv, hvo⟩ := val0 hF (show i < F.fs.length by omega)
      refine ⟨r.set i (some v), rec_setE hr hvo, fun k hk hs => ?_, fun k hk hs => ?_, fun k hk => ?_⟩
      · rw [gv_setE hil]
        by_cases ck : k = i
        · rw [if_pos ck]; rfl
        · rw [if_neg ck]
          exact h1 k (by omega) ((shown_set hF hil (by omega) (shown_lt hs)).mp hs)
      · rw [gv_setE hil]
        by_cases ck : k = i
        · subst ck
          exact absurd ((shown_set hF hil (Nat.le_refl _) (by omega)).mpr c) hs
        · rw [if_neg ck]
          exact h2 k (by omega) fun z => hs ((shown_set hF hil (by omega) (by omega)).mpr z)
      · rw [gv_setE hil, if_neg (by omega)]
        exact h3 k (by omega)
    · refine ⟨r, hr, fun k hk hs => ?_, fun k hk hs => ?_, fun k hk => h3 k (by omega)⟩
      · by_cases ck : k = i
        · subst ck; exact absurd hs c
        · exact h1 k (by omega) hs
      · by_cases ck : k = i
        · subst ck; exact h3 k (Nat.le_refl _)
        · exact h2 k (by omega) hs
theorem cleans_bare {F : Frm} (hF : FrmOk F) (hn : F.rs = []) : cleansL F ≠ [] := by
  obtain ⟨r, hr, h1, h2, h3⟩ := fill_bare hF F.fs.length (Nat.le_refl _)
  have hc : Cln F r := ⟨hr, fun k hk => Option.isSome_iff_exists.mp (h1 k (shown_lt hk) hk), fun k hk => by
    by_cases c : k < F.fs.length
    · exact h2 k c hk
    · exact h3 k (by omega), fun q hq => by rw [hn] at hq; cases hq⟩
  intro z
  have := cln_in hc
  rw [z] at this
  cases this
theorem cutL_one {α : Type} (l : List α) (k : Nat) (h : k < l.length) : cutL l (some (k : Int)) (some ((k : Int) + 1)) = [l[k]] := by
  unfold cutL
  have e1 : HT.sIx l.length 0 (some (k : Int)) = min k l.length := HT.sIx_nat l.length 0 k
  have e2 : HT.sIx l.length l.length (some (((k + 1 : Nat) : Nat) : Int)) = min (k + 1) l.length := HT.sIx_nat l.length l.length (k + 1)
  have e3 : ((k : Int) + 1) = (((k + 1 : Nat) : Nat) : Int) := by omega
  rw [e3, e1, e2, Nat.min_eq_left (by omega), Nat.min_eq_left (by omega), show k + 1 - k = 1 by omega, List.drop_eq_getElem_cons h]
  rfl
end PD
namespace PD
open PySem L2
def inO (G : List Rc) : Option Rc → Bool
  | some r => decide (r ∈ G)
  | none => false
theorem anyD_non_rc : ∀ l : List Rc, anyD .non (l.map rcD) = false
  | [] => rfl
  | r :: l => by
    rw [List.map_cons]
    unfold anyD
    rw [anyD_non_rc l]
    rfl
theorem in_recs (o : Option Rc) (G : List Rc) : cmpD .inn (orD o) (.lst (G.map rcD)) = some (inO G o) := by
  cases o with
  | none =>
    have e0 : cmpD .inn (orD none) (.lst (G.map rcD)) = inD .non (.lst (G.map rcD)) := by rw [cmpD] <;> (intros; simp_all [orD])
    rw [e0]
    rw [inD, if_pos (by simp [inOk, noScr, dep, noScrs_map _ noScr_rc]), anyD_non_rc]
    · rfl
    all_goals (intros; simp_all)
  | some r =>
    have e0 : cmpD .inn (orD (some r)) (.lst (G.map rcD)) = inD (rcD r) (.lst (G.map rcD)) := by rw [cmpD] <;> (intros; simp_all [orD])
    rw [e0]
    have := dep_rc r
    rw [inD, if_pos (by simp [inOk, noScr_rc, noScrs_map _ noScr_rc]; omega), anyD_rc]
    · rfl
    all_goals (intros; simp_all [rcD])
def hitB (F : Frm) (G : List Rc) (x : Nd) (e : Nat × Option Int) : Bool := inO G (enteredL F x.key e.1 e.2)
def addG (F : Frm) (G : List Rc) (x : Nd) : List Rc := if x.key ∈ G then G else if (entsL F.fs).any (hitB F G x) then G ++ [x.key] else G
@[irreducible] def passG (F : Frm) (G : List Rc) : List Rc := (treeN F).foldl (addG F) G
theorem passG_eq (F : Frm) (G : List Rc) : passG F G = (treeN F).foldl (addG F) G := by unfold passG; rfl
structure GI (F : Frm) (G : List Rc) : Prop where
  ng : G.Nodup
  ok : ∀ r ∈ G, r ∈ (treeN F).map Nd.key ∧ Leads F r
  ini : ∀ x ∈ treeN F, sendsL F x.key = true → x.key ∈ G
theorem GI.start (F : Frm) : GI F (sndL F) := ⟨(qi_start F).ng, (qi_start F).ok, (qi_start F).ini⟩
theorem GI.add {F : Frm} {G : List Rc} (h : GI F G) {x : Nd} (hx : x ∈ treeN F) : GI F (addG F G x) := by
  unfold addG
  split
  · exact h
  · rename_i hn
    split
    · rename_i ha
      obtain ⟨e, he, hh⟩ := List.any_eq_true.mp ha
      unfold hitB at hh
      cases hE : enteredL F x.key e.1 e.2 with
      | none => rw [hE] at hh; cases hh
      | some r' =>
        rw [hE] at hh
        have hr' : r' ∈ G := by simpa [inO] using hh
        refine ⟨?_, fun a ha => ?_, fun y hy hs => List.mem_append_left _ (h.ini y hy hs)⟩
        · rw [List.nodup_append]
          refine ⟨h.ng, by simp, fun a ha b hb z => ?_⟩
          simp at hb
          subst hb
          subst z
          exact hn ha
        · rcases List.mem_append.mp ha with z | z
          · exact h.ok a z
          · simp at z
            subst z
            exact ⟨List.mem_map.mpr ⟨x, hx, rfl⟩, .step he hE (h.ok r' hr').2⟩
    · exact h
theorem GI.fold {F : Frm} : ∀ (xs : List Nd) {G : List Rc}, (∀ x ∈ xs, x ∈ treeN F) → GI F G → GI F (xs.foldl (addG F) G)
  | [], _, _, h => h
  | x :: xs, _, hx, h => GI.fold xs (fun y hy => hx y (List.mem_cons_of_mem _ hy)) (h.add (hx x List.mem_cons_self))
theorem addG_len (F : Frm) (G : List Rc) (x : Nd) : G.length ≤ (addG F G x).length := by
  unfold addG
  split
  · exact Nat.le_refl _
  · split
    · simp
    · exact Nat.le_refl _
theorem foldG_len (F : Frm) : ∀ (xs : List Nd) (G : List Rc), G.length ≤ (xs.foldl (addG F) G).length
  | [], _ => Nat.le_refl _
  | x :: xs, G => Nat.le_trans (addG_len F G x) (foldG_len F xs _)
theorem foldG_same {F : Frm} : ∀ (xs : List Nd) {G : List Rc}, (xs.foldl (addG F) G).length = G.length → ∀ x ∈ xs, addG F G x = G
  | [], _, _, x, hx => by cases hx
  | y :: xs, G, h, x, hx => by
    rw [List.foldl_cons] at h
    have h1 := foldG_len F xs (addG F G y)
    have h2 := addG_len F G y
    have e : addG F G y = G := by
      unfold addG at h1 h2 ⊢
      split
      · rfl
      · rename_i hn
        rw [if_neg hn] at h1 h2
        split
        · rename_i ha
          exfalso
          unfold addG at h
          rw [if_neg hn, if_pos ha] at h
          rw [if_pos ha] at h1
          simp at h1
          omega
        · rfl
    rcases List.mem_cons.mp hx with rfl | hx
    · exact e
    · rw [e] at h
      exact foldG_same xs h x hx
theorem GI.done {F : Frm} (hF : FrmOk F) {G : List Rc} (h : GI F G) (hs : (passG F G).length = G.length) : ∀ x ∈ treeN F, (x.key ∈ G ↔ Leads F x.key) := by
  rw [passG_eq] at hs
  have hst := foldG_same (treeN F) hs
  have key : ∀ r, Leads F r → r ∈ (treeN F).map Nd.key → r ∈ G := by
    intro r hr
    induction hr with
    | sends hs =>
      intro hm
      obtain ⟨x, hx, rfl⟩ := List.mem_map.mp hm
      exact h.ini x hx hs
    | @step a a' e he hE _ ih =>
      intro hm
      have hm' : a' ∈ (treeN F).map Nd.key := (tree_reach hF a').mpr (.step ((tree_reach hF a).mp hm) he hE)
      obtain ⟨x, hx, rfl⟩ := List.mem_map.mp hm
      by_cases c : x.key ∈ G
      · exact c
      · exfalso
        have hx2 := hst x hx
        unfold addG at hx2
        have ha : (entsL F.fs).any (hitB F G x) = true := List.any_eq_true.mpr ⟨e, he, by
          unfold hitB
          rw [hE]
          simp [inO, ih hm']⟩
        rw [if_neg c, if_pos ha] at hx2
        have := congrArg List.length hx2
        simp at this
  intro x hx
  exact ⟨fun hg => (h.ok x.key hg).2, fun hl => key x.key hl (List.mem_map.mpr ⟨x, hx, rfl⟩)⟩
theorem GI.le {F : Frm} (hF : FrmOk F) {G : List Rc} (h : GI F G) : G.length ≤ 625 := by
  have := nodup_le h.ng fun r hr => (h.ok r hr).1
  rw [List.length_map] at this
  exact Nat.le_trans this (tree_le hF)
section
variable {Γ : Gam} {ι ξ : Nat → Nat}
abbrev szT (F : Frm) : D := .dct ((treeN F).map Nd.key) ((treeN F).map dvD)
abbrev lq8 (F : Frm) (G : List Rc) (z : Int) (s5 : S) : List S := [.dat F.d, .dat (szT F), .dat (.lst ((entsL F.fs).map enD)), .own (G.map rcD), .dat (.int z), s5, .none, .none]
theorem gp_try (h33 : EnteredS Γ (ι 33)) (F : Frm) (hF : FrmOk F) (G : List Rc) (hG : GI F G) (z : Int) (x : Nd) (hx : x ∈ treeN F) : exs Γ false (cb_law_lost_records_2 ι ξ) (lq8 F G z (.dat (rcD x.key))) = .next (lq8 F (addG F G x) z (.dat (rcD x.key))) := by
  have hz0 : 0 ≤ szN := Nat.zero_le _
  have hl := tree_len hx
  have hle := hG.le hF
  have hlt : (G.map rcD).length < szN := by rw [List.length_map]; simp [szN]; omega
  by_cases c : x.key ∈ G
  · have ea : addG F G x = G := by unfold addG; rw [if_pos c]
    have hd : decide (x.key ∈ G) = true := by simp [c]
    rw [ea]
    simp? only [lq8, cb_law_lost_records_2, nin_recs, hd]
  · have hd : decide (x.key ∈ G) = false := by simp [c]
    have lc := lcD_map (t := .tup [6, 7]) (tst := (evo Γ false (ct_law_lost_records_2 ι ξ)).T) (elt := (ev Γ false (ce_law_lost_records_1 ι ξ)).E) (δ := lq8 F G z (.dat (rcD x.key))) enD (hitB F G x) (fun _ => D.int 1) (xs := entsL F.fs) (fun e he =>
      ⟨[.dat F.d, .dat (szT F), .dat (.lst ((entsL F.fs).map enD)), .own (G.map rcD), .dat (.int z), .dat (rcD x.key), .dat (.int e.1), .dat (oD e.2)], by simp? only [lq8, enD], by
        have ek := ents_ok he
        have hi : e.1 < x.key.length := by
          obtain ⟨f, hf, _⟩ := ek
          rw [hl]; exact lt_of_get hf
        have hE := h33 F hF x.key hl e.1 hi e.2
        simp? only [ct_law_lost_records_2, hE, in_recs, hitB], fun _ => by simp? only [ce_law_lost_records_1]⟩)
    have hne := ne_nil (((entsL F.fs).filter (hitB F G x)).map fun _ => D.int 1) (noScrs_map _ (fun _ => rfl) _) (Nat.le_trans (deps_map _ 0 (fun _ => Nat.le_refl _) _) (by decide))
    have hem : (((entsL F.fs).filter (hitB F G x)).map fun _ => D.int 1).isEmpty = !(entsL F.fs).any (hitB F G x) := by
      rw [List.isEmpty_map]
      generalize entsL F.fs = es
      induction es with
      | nil => rfl
      | cons e es ih =>
        rw [List.filter_cons, List.any_cons]
        cases hitB F G x e with
        | true => simp
        | false => simpa using ih
    rw [hem, Bool.not_not] at hne
    simp only [lq8] at lc
    cases ha : (entsL F.fs).any (hitB F G x) with
    | true =>
      rw [ha] at hne
      have ea : addG F G x = G ++ [x.key] := by unfold addG; rw [if_neg c, if_pos ha]
      rw [ea]
      simp only [lq8, List.map_append, List.map_cons, List.map_nil]
      simp? only [cb_law_lost_records_2, nin_recs, hd, lc, hz0, hne, hlt]
    | false =>
      rw [ha] at hne
      have ea : addG F G x = G := by unfold addG; rw [if_neg c, if_neg (by rw [ha]; decide)]
      rw [ea]
      simp? only [lq8, cb_law_lost_records_2, nin_recs, hd, lc, hz0, hne]
theorem gp_pass (h33 : EnteredS Γ (ι 33)) (F : Frm) (hF : FrmOk F) (G : List Rc) (hG : GI F G) (z : Int) (s5 : S) : ∃ s5', exs Γ false (cb_law_lost_records_1 ι ξ) (lq8 F G z s5) = .next (lq8 F (passG F G) (G.length : Nat) s5') := by
  have hdk := dkeys_tree hF dvD
  have hlen : (((G.map rcD).length : Nat) : Int) = (G.length : Int) := by rw [List.length_map]
  obtain ⟨δ', ef, s5', rfl⟩ := forD_pre (t := .nm 5) (body := exs Γ false (cb_law_lost_records_2 ι ξ)) keyD (fun (G' : List Rc) δ => ∃ s5, δ = lq8 F G' (G.length : Nat) s5) (addG F) (treeN F) G (lq8 F G (G.length : Nat) s5) ⟨_, rfl⟩ (fun pre x post he δ hJ => by
    obtain ⟨s5, rfl⟩ := hJ
    have hx : x ∈ treeN F := by rw [he]; simp
    have t1 := GI.fold pre (fun y hy => by rw [he]; exact List.mem_append_left _ hy) hG
    exact ⟨lq8 F (pre.foldl (addG F) G) (G.length : Nat) (.dat (rcD x.key)), by simp? only [lq8], _, .inl (gp_try (ξ := ξ) h33 F hF _ t1 _ x hx), .dat (rcD x.key), rfl⟩)
  refine ⟨s5', ?_⟩
  simp only [lq8, szT] at ef
  simp? only [lq8, szT, cb_law_lost_records_1, hlen, hdk, ef, passG_eq]
theorem law_lost_c (h23 : ∀ F, FrmOk F → Γ.fn (ι 23) [F.d] = .ok (.lst ((entsL F.fs).map enD))) (h31 : SendsS Γ (ι 31)) (h33 : EnteredS Γ (ι 33)) (F : Frm) (hF : FrmOk F) : evF Γ 2 8 (cb_law_lost_records ι ξ) [F.d, szT F] = .ok (.lst ((lostL F).map keyD)) := by
  have hdk := dkeys_tree hF dvD
  have lc1 := lcD_map (t := .nm 5) (tst := (evo Γ false (ct_law_lost_records_1 ι ξ)).T) (elt := (ev Γ false (.var 5)).E) (δ := [.dat F.d, .dat (szT F), .none, .none, .none, .none, .none, .none]) keyD (fun x => sendsL F x.key) keyD (xs := treeN F) (fun x hx =>
    ⟨[.dat F.d, .dat (szT F), .none, .none, .none, .dat (rcD x.key), .none, .none], by simp? only [], by
      simp? only [ct_law_lost_records_1, h31 F hF x.key (tree_len hx)], fun _ => by simp? only []⟩)
  have hsn : ((treeN F).filter fun x => sendsL F x.key).map keyD = (sndL F).map rcD := by rw [sndL, List.map_map]; rfl
  rw [hsn] at lc1
  obtain ⟨δ', e3, G, z, s5, hGI, hpass, rfl⟩ := whileD_run (t := (ev Γ false (.cmp .lt (.var 4) (.bf .len (.cons (.var 3) .nil)))).T) (b := exs Γ false (cb_law_lost_records_1 ι ξ))
    (fun m δ => ∃ G z s5, GI F G ∧ ((z < (G.length : Int) ∧ m = 2 * (625 - G.length) + 1) ∨ (z = (G.length : Int) ∧ (passG F G).length = G.length ∧ m = 2 * (625 - G.length))) ∧ δ = lq8 F G z s5)
    (fun δ => ∃ G z s5, GI F G ∧ (passG F G).length = G.length ∧ δ = lq8 F G z s5) (fun m δ hI => by
      obtain ⟨G, z, s5, hG, hz, rfl⟩ := hI
      have hlen : (((G.map rcD).length : Nat) : Int) = (G.length : Int) := by rw [List.length_map]
      rcases hz with ⟨hz, rfl⟩ | ⟨hz, hp, rfl⟩
      · right
        have hlt : decide (z < (G.length : Int)) = true := by simp [hz]
        obtain ⟨s5', eb⟩ := gp_pass (Γ := Γ) (ι := ι) (ξ := ξ) h33 F hF G hG z s5
        have hG' : GI F (passG F G) := by rw [passG_eq]; exact GI.fold (treeN F) (fun x hx => hx) hG
        have hge' : G.length ≤ (passG F G).length := by rw [passG_eq]; exact foldG_len F (treeN F) G
        have hle' := hG'.le hF
        by_cases c : (passG F G).length = G.length
        · have epp : passG F G = G := by
            rw [passG_eq] at c ⊢
            have hs := foldG_same (treeN F) c
            have : ∀ xs : List Nd, (∀ x ∈ xs, addG F G x = G) → xs.foldl (addG F) G = G := by
              intro xs
              induction xs with
              | nil => intro _; rfl
              | cons x xs ih =>
                intro hh
                rw [List.foldl_cons, hh x List.mem_cons_self]
                exact ih fun y hy => hh y (List.mem_cons_of_mem _ hy)
            exact this (treeN F) hs
          refine ⟨by simp? only [lq8, hlen, hlt], _, 2 * (625 - G.length), eb, by omega, passG F G, (G.length : Nat), s5', hG', .inr ⟨?_, ?_, ?_⟩, rfl⟩
          · rw [epp]
          · rw [epp, epp]
          · rw [epp]
        · exact ⟨by simp? only [lq8, hlen, hlt], _, 2 * (625 - (passG F G).length) + 1, eb, by omega, passG F G, (G.length : Nat), s5', hG', .inl ⟨by omega, rfl⟩, rfl⟩
      · left
        have hlt : decide (z < (G.length : Int)) = false := by simp [hz]
        exact ⟨by simp? only [lq8, hlen, hlt], G, z, s5, hG, hp, rfl⟩) 1000000 (2 * (625 - (sndL F).length) + 1) (lq8 F (sndL F) (-1) .none) (by omega) ⟨_, _, _, GI.start F, .inl ⟨by omega, rfl⟩, rfl⟩
  have hdone := hGI.done hF hpass
  have lc2 := lcD_map (t := .nm 5) (tst := (evo Γ false (ct_law_lost_records_3 ι ξ)).T) (elt := (ev Γ false (.var 5)).E) (δ := lq8 F G z .none) keyD (fun x => !decide (x.key ∈ G)) keyD (xs := treeN F) (fun x hx =>
    ⟨lq8 F G z (.dat (rcD x.key)), by simp? only [lq8], by
      simp? only [lq8, ct_law_lost_records_3, nin_recs], fun _ => by simp? only [lq8]⟩)
  have hlost : ((treeN F).filter fun x => !decide (x.key ∈ G)) = lostL F := by
    unfold lostL
    apply List.filter_congr
    intro x hx
    have := hdone x hx
    by_cases c : x.key ∈ G
    · simp [c, this.mp c]
    · have c' : ¬ Leads F x.key := fun z => c (this.mpr z)
      simp [c, c']
  rw [hlost] at lc2
  simp only [lq8, szT] at e3 lc1 lc2
  simp? only [evF, cb_law_lost_records, hdk, lc1, h23 F hF, e3, lc2, and_self]
end
end PD
namespace LK
open PySem PySem.Spec PyProof.Rows L2 PD
def e_law_values_1 : IE := (.bin .mod (.idx (.var 0) (.bin .mod (.bin .add (.var 1) (.var 3)) (.con (.int 60)))) (.con (.int 10)))
def b_law_values : ISs := (.cons (.set 2 (.sset (.lc [("spot", 3)] (.nm 3) (.rng1 (.bin .add (.con (.int 1)) (.bin .mod (.idx (.var 0) (.bin .mod (.bin .add (.var 1) (.con (.int 5))) (.con (.int 60)))) (.con (.int 3))))) .no e_law_values_1))) (.cons (.ret (.bf .tuple (.cons (.var 2) .nil))) .nil))
def t_law_form_1 : IO := (.yes (.cmp .eq (.bin .mod (.idx (.var 0) (.bin .mod (.bin .add (.bin .add (.bin .mul (.con (.int 3)) (.var 4)) (.var 7)) (.var 14)) (.con (.int 60)))) (.con (.int 2))) (.con (.int 0))))
def b_law_form_2 : ISs := (.cons (.set 12 (.idx (.idx (.var 3) (.var 7)) (.con (.int 0)))) (.cons (.set 13 (.bf .tuple (.cons (.lc [("value", 14)] (.nm 14) (.any (.var 12)) t_law_form_1 (.var 14)) .nil))) (.cons (.ite (.bop true (.cons (.cmp .eq (.bin .mod (.idx (.var 0) (.bin .mod (.bin .add (.bin .add (.con (.int 20)) (.bin .mul (.con (.int 5)) (.var 4))) (.var 7)) (.con (.int 60)))) (.con (.int 3))) (.con (.int 0))) (.cons (.cmp .ne (.var 13) (.tup .nil)) (.cons (.cmp .lt (.bf .len (.cons (.var 6) .nil)) (.con (.int 2))) .nil)))) (.cons (.set 6 (.bin .add (.var 6) (.tup (.cons (.tup (.cons (.var 7) (.cons (.var 13) .nil))) .nil)))) .nil) .nil) .nil)))
def b_law_form_1 : ISs := (.cons (.set 6 (.tup .nil)) (.cons (.for (.nm 7) (.rng1 (.var 4)) b_law_form_2) (.cons (.set 3 (.bin .add (.var 3) (.tup (.cons (.tup (.cons (.call 0 (.cons (.var 1) (.cons (.bin .mul (.con (.int 8)) (.var 4)) .nil))) (.cons (.var 6) .nil))) .nil)))) .nil)))
def e_law_form_1 : IE := (.bin .mod (.bin .add (.idx (.var 0) (.bin .add (.con (.int 41)) (.var 4))) (.var 10)) (.bf .len (.cons (.var 3) .nil)))
def b_law_form_4 : ISs := (.cons (.ite (.cmp .nin (.var 10) (.lc [("field", 15), ("value", 14)] (.tup [15, 14]) (.any (.var 9)) .no (.var 15))) (.cons (.set 12 (.idx (.idx (.var 3) (.var 10)) (.con (.int 0)))) (.cons (.app 9 (.tup (.cons (.var 10) (.cons (.idx (.var 12) (.bin .mod (.idx (.var 1) (.bin .mod (.bin .add (.bin .add (.con (.int 40)) (.var 4)) (.var 10)) (.con (.int 60)))) (.bf .len (.cons (.var 12) .nil)))) .nil)))) .nil)) .nil) .nil)
def b_law_form_3 : ISs := (.cons (.new 8 (.lc [("at", 10)] (.nm 10) (.rng1 (.bin .add (.con (.int 1)) (.bin .mod (.idx (.var 0) (.bin .add (.con (.int 45)) (.var 4))) (.con (.int 3))))) .no e_law_form_1)) (.frz 8 (.cons (.new 9 (.lst .nil)) (.cons (.for (.nm 10) (.any (.var 8)) b_law_form_4) (.cons (.set 11 (.idx (.var 2) (.bin .mod (.idx (.var 0) (.bin .add (.con (.int 50)) (.var 4))) (.bf .len (.cons (.var 2) .nil))))) (.cons (.ite (.bop false (.cons (.cmp .ne (.var 11) (.con (.str [110, 101, 101, 100, 115]))) (.cons (.cmp .gt (.bf .len (.cons (.var 9) .nil)) (.con (.int 1))) .nil))) (.cons (.set 5 (.bin .add (.var 5) (.tup (.cons (.tup (.cons (.var 11) (.cons (.bf .tuple (.cons (.var 9) .nil)) .nil))) .nil)))) .nil) .nil) .nil))))))
def b_law_form : ISs := (.cons (.set 3 (.tup .nil)) (.cons (.for (.nm 4) (.rng1 (.bin .add (.con (.int 1)) (.bin .mod (.idx (.var 0) (.con (.int 0))) (.con (.int 4))))) b_law_form_1) (.cons (.set 5 (.tup .nil)) (.cons (.for (.nm 4) (.rng1 (.ife (.cmp .ne (.var 2) (.tup .nil)) (.bin .mod (.idx (.var 0) (.con (.int 40))) (.con (.int 4))) (.con (.int 0)))) b_law_form_3) (.cons (.ret (.tup (.cons (.var 3) (.cons (.var 5) (.cons (.idx (.lst (.cons (.con (.str [115, 104, 111, 119, 110])) (.cons (.con (.str [97, 108, 108])) .nil))) (.bin .mod (.idx (.var 0) (.con (.int 55))) (.con (.int 2)))) .nil))))) .nil)))))
def e_law_entries_1 : IE := (.tup (.cons (.var 2) (.cons (.var 3) .nil)))
def b_law_entries_1 : ISs := (.cons (.set 1 (.bin .add (.var 1) (.lc [("value", 3)] (.nm 3) (.any (.bin .add (.tup (.cons (.con .non) .nil)) (.idx (.idx (.idx (.var 0) (.con (.int 0))) (.var 2)) (.con (.int 0))))) .no e_law_entries_1))) .nil)
def b_law_entries : ISs := (.cons (.set 1 (.lst .nil)) (.cons (.for (.nm 2) (.rng1 (.bf .len (.cons (.idx (.var 0) (.con (.int 0))) .nil))) b_law_entries_1) (.cons (.ret (.var 1)) .nil)))
def t_law_shown_1 : IO := (.yes (.bop true (.cons (.cmp .inn (.var 5) (.var 2)) (.cons (.cmp .inn (.idx (.var 1) (.var 5)) (.var 6)) .nil))))
def b_law_shown_1 : ISs := (.cons (.new 4 (.lc [("other", 5), ("some", 6)] (.tup [5, 6]) (.any (.idx (.idx (.idx (.var 0) (.con (.int 0))) (.var 3)) (.con (.int 1)))) t_law_shown_1 (.var 5))) (.frz 4 (.cons (.ite (.cmp .eq (.bf .len (.cons (.var 4) .nil)) (.bf .len (.cons (.idx (.idx (.idx (.var 0) (.con (.int 0))) (.var 3)) (.con (.int 1))) .nil))) (.cons (.app 2 (.var 3)) .nil) .nil) .nil)))
def b_law_shown : ISs := (.cons (.new 2 (.lst .nil)) (.cons (.for (.nm 3) (.rng1 (.bf .len (.cons (.idx (.var 0) (.con (.int 0))) .nil))) b_law_shown_1) (.frz 2 (.cons (.ret (.var 2)) .nil))))
def t_law_holds_1 : IO := (.yes (.bop true (.cons (.cmp .inn (.var 4) (.var 3)) (.cons (.cmp .eq (.idx (.var 1) (.var 4)) (.var 5)) .nil))))
def b_law_holds : ISs := (.cons (.set 3 (.call 3 (.cons (.var 0) (.cons (.var 1) .nil)))) (.cons (.ret (.cmp .eq (.bf .len (.cons (.lc [("field", 4), ("value", 5)] (.tup [4, 5]) (.any (.var 2)) t_law_holds_1 (.var 4)) .nil)) (.bf .len (.cons (.var 2) .nil)))) .nil))
def b_law_entry_1 : ISs := (.cons (.ite (.bop true (.cons (.cmp .eq (.var 5) (.con (.str [110, 101, 101, 100, 115]))) (.cons (.cmp .eq (.idx (.var 6) (.con (.int 0))) (.tup (.cons (.var 2) (.cons (.var 3) .nil)))) (.cons (.not (.call 4 (.cons (.var 0) (.cons (.var 1) (.cons (.cut (.var 6) (.yes (.con (.int 1))) .no) .nil))))) .nil)))) (.cons (.ret (.con .non)) .nil) .nil) (.cons (.ite (.bop true (.cons (.cmp .eq (.var 5) (.con (.str [101, 110, 116, 114, 121]))) (.cons (.call 4 (.cons (.var 0) (.cons (.var 4) (.cons (.var 6) .nil)))) .nil))) (.cons (.ret (.con .non)) .nil) .nil) .nil))
def b_law_entry : ISs := (.cons (.ite (.bop false (.cons (.cmp .nin (.var 2) (.call 3 (.cons (.var 0) (.cons (.var 1) .nil)))) (.cons (.cmp .eq (.idx (.var 1) (.var 2)) (.var 3)) .nil))) (.cons (.ret (.con .non)) .nil) .nil) (.cons (.set 4 (.bin .add (.bin .add (.cut (.var 1) .no (.yes (.var 2))) (.tup (.cons (.var 3) .nil))) (.cut (.var 1) (.yes (.bin .add (.var 2) (.con (.int 1)))) .no))) (.cons (.for (.tup [5, 6]) (.any (.idx (.var 0) (.con (.int 1)))) b_law_entry_1) (.cons (.ret (.var 4)) .nil))))
def b_law_filled_up_3 : ISs := (.cons (.set 9 (.call 5 (.cons (.var 0) (.cons (.var 6) (.cons (.var 7) (.cons (.var 8) .nil)))))) (.cons (.ite (.bop true (.cons (.isn true (.var 9)) (.cons (.din true (.var 9) 2) .nil))) (.cons (.dput 2 (.var 9) (.bin .add (.dget 2 (.var 6)) (.con (.int 1)))) (.cons (.app 5 (.var 9)) .nil)) .nil) .nil))
def b_law_filled_up_2 : ISs := (.cons (.for (.tup [7, 8]) (.any (.var 4)) b_law_filled_up_3) .nil)
def b_law_filled_up_1 : ISs := (.cons (.new 5 (.lst .nil)) (.cons (.for (.nm 6) (.any (.var 3)) b_law_filled_up_2) (.frz 5 (.cons (.set 3 (.var 5)) .nil))))
def b_law_filled_up : ISs := (.cons (.set 1 (.bin .mul (.tup (.cons (.con .non) .nil)) (.bf .len (.cons (.idx (.var 0) (.con (.int 0))) .nil)))) (.cons (.par3 2 3 4 (.var 1) (.con (.int 0)) (.lst (.cons (.var 1) .nil)) (.call 2 (.cons (.var 0) .nil))) (.cons (.whl 1000000 (.cmp .ne (.var 3) (.lst .nil)) b_law_filled_up_1) (.frz 2 (.cons (.ret (.var 2)) .nil)))))
def t_law_sends_1 : IO := (.yes (.isn false (.idx (.var 1) (.var 2))))
def t_law_sends_2 : IO := (.yes (.bop true (.cons (.cmp .ne (.var 3) (.con (.str [110, 101, 101, 100, 115]))) (.cons (.call 4 (.cons (.var 0) (.cons (.var 1) (.cons (.var 4) .nil)))) .nil))))
def b_law_sends : ISs := (.cons (.ite (.cmp .ne (.lc [("at", 2)] (.nm 2) (.any (.call 3 (.cons (.var 0) (.cons (.var 1) .nil)))) t_law_sends_1 (.var 2)) (.lst .nil)) (.cons (.ret (.con (.bl false))) .nil) .nil) (.cons (.ret (.cmp .eq (.lc [("kind", 3), ("pairs", 4)] (.tup [3, 4]) (.any (.idx (.var 0) (.con (.int 1)))) t_law_sends_2 (.var 4)) (.lst .nil))) .nil))
def t_law_lost_records_1 : IO := (.yes (.call 7 (.cons (.var 0) (.cons (.var 5) .nil))))
def t_law_lost_records_2 : IO := (.yes (.cmp .inn (.call 5 (.cons (.var 0) (.cons (.var 5) (.cons (.var 6) (.cons (.var 7) .nil))))) (.var 3)))
def e_law_lost_records_1 : IE := (.con (.int 1))
def b_law_lost_records_2 : ISs := (.cons (.ite (.cmp .nin (.var 5) (.var 3)) (.cons (.ite (.cmp .ne (.lc [("field", 6), ("value", 7)] (.tup [6, 7]) (.any (.var 2)) t_law_lost_records_2 e_law_lost_records_1) (.lst .nil)) (.cons (.app 3 (.var 5)) .nil) .nil) .nil) .nil) .nil)
def b_law_lost_records_1 : ISs := (.cons (.set 4 (.bf .len (.cons (.var 3) .nil))) (.cons (.for (.nm 5) (.dit 1) b_law_lost_records_2) .nil))
def t_law_lost_records_3 : IO := (.yes (.cmp .nin (.var 5) (.var 3)))
def b_law_lost_records : ISs := (.cons (.tuM 3 4 (.lc [("record", 5)] (.nm 5) (.dit 1) t_law_lost_records_1 (.var 5)) (.neg (.con (.int 1)))) (.cons (.set 2 (.call 2 (.cons (.var 0) .nil))) (.cons (.whl 1000000 (.cmp .lt (.var 4) (.bf .len (.cons (.var 3) .nil))) b_law_lost_records_1) (.cons (.ret (.lc [("record", 5)] (.nm 5) (.dit 1) t_law_lost_records_3 (.var 5))) .nil))))
def bin_range : ISs := (.cons (.ret (.bop true (.cons (.isi .int (.var 0)) (.cons (.not (.isi .bool (.var 0))) (.cons (.chain .le .le (.var 1) (.var 0) (.var 2)) .nil))))) .nil)
def tare_values_1 : IO := (.yes (.not (.call 9 (.cons (.var 2) (.cons (.con (.int 0)) (.cons (.con (.int 9)) .nil))))))
def tare_values_2 : IO := (.yes (.cmp .ge (.var 2) (.var 3)))
def eare_values_1 : IE := (.con (.int 1))
def bare_values : ISs := (.cons (.ite (.bop false (.cons (.not (.isi .tuple (.var 0))) (.cons (.not (.chain .le .le (.con (.int 1)) (.bf .len (.cons (.var 0) .nil)) (.var 1))) (.cons (.lc [("one", 2)] (.nm 2) (.any (.var 0)) tare_values_1 (.var 2)) .nil)))) (.cons (.ret (.con (.bl false))) .nil) .nil) (.cons (.ret (.not (.lc [("one", 2), ("other", 3)] (.tup [2, 3]) (.zip (.var 0) (.cut (.var 0) (.yes (.con (.int 1))) .no)) tare_values_2 eare_values_1))) .nil))
def tare_conditions_1 : IO := (.yes (.cmp .nin (.var 0) (.idx (.idx (.var 1) (.idx (.var 2) (.con (.int 0)))) (.con (.int 0)))))
def bare_conditions_1 : ISs := (.cons (.ite (.bop false (.cons (.not (.isi .tuple (.var 2))) (.cons (.cmp .ne (.bf .len (.cons (.var 2) .nil)) (.con (.int 2))) (.cons (.not (.call 9 (.cons (.idx (.var 2) (.con (.int 0))) (.cons (.con (.int 0)) (.cons (.bin .sub (.bf .len (.cons (.var 1) .nil)) (.con (.int 1))) .nil))))) .nil)))) (.cons (.ret (.con (.bl false))) .nil) .nil) (.cons (.ite (.bop false (.cons (.not (.call 10 (.cons (.idx (.var 2) (.con (.int 1))) (.cons (.con (.int 4)) .nil)))) (.cons (.lc [("value", 0)] (.nm 0) (.any (.idx (.var 2) (.con (.int 1)))) tare_conditions_1 (.var 0)) .nil))) (.cons (.ret (.con (.bl false))) .nil) .nil) .nil))
def tare_conditions_2 : IO := (.yes (.cmp .ge (.idx (.var 2) (.con (.int 0))) (.idx (.var 3) (.con (.int 0)))))
def eare_conditions_1 : IE := (.con (.int 1))
def bare_conditions : ISs := (.cons (.ite (.bop false (.cons (.not (.isi .tuple (.var 0))) (.cons (.cmp .gt (.bf .len (.cons (.var 0) .nil)) (.con (.int 2))) .nil))) (.cons (.ret (.con (.bl false))) .nil) .nil) (.cons (.for (.nm 2) (.any (.var 0)) bare_conditions_1) (.cons (.ret (.not (.lc [("one", 2), ("other", 3)] (.tup [2, 3]) (.zip (.var 0) (.cut (.var 0) (.yes (.con (.int 1))) .no)) tare_conditions_2 eare_conditions_1))) .nil)))
def bare_fields_1 : ISs := (.cons (.ite (.bop false (.cons (.not (.isi .tuple (.var 2))) (.cons (.cmp .ne (.bf .len (.cons (.var 2) .nil)) (.con (.int 2))) (.cons (.not (.call 10 (.cons (.idx (.var 2) (.con (.int 0))) (.cons (.con (.int 4)) .nil)))) .nil)))) (.cons (.ret (.con (.bl false))) .nil) .nil) (.cons (.ite (.not (.call 11 (.cons (.idx (.var 2) (.con (.int 1))) (.cons (.cut (.var 0) .no (.yes (.var 1))) .nil)))) (.cons (.ret (.con (.bl false))) .nil) .nil) .nil))
def bare_fields : ISs := (.cons (.ite (.bop false (.cons (.not (.isi .tuple (.var 0))) (.cons (.not (.chain .le .le (.con (.int 1)) (.bf .len (.cons (.var 0) .nil)) (.con (.int 4)))) .nil))) (.cons (.ret (.con (.bl false))) .nil) .nil) (.cons (.for (.tup [1, 2]) (.enm (.var 0)) bare_fields_1) (.cons (.ret (.con (.bl true))) .nil)))
def bis_rule_1 : ISs := (.cons (.ite (.bop false (.cons (.not (.isi .tuple (.var 2))) (.cons (.cmp .ne (.bf .len (.cons (.var 2) .nil)) (.con (.int 2))) (.cons (.not (.call 9 (.cons (.idx (.var 2) (.con (.int 0))) (.cons (.con (.int 0)) (.cons (.bin .sub (.bf .len (.cons (.var 0) .nil)) (.con (.int 1))) .nil))))) .nil)))) (.cons (.ret (.con (.bl false))) .nil) .nil) (.cons (.ite (.bop false (.cons (.not (.call 9 (.cons (.idx (.var 2) (.con (.int 1))) (.cons (.con (.int 0)) (.cons (.con (.int 9)) .nil))))) (.cons (.cmp .nin (.idx (.var 2) (.con (.int 1))) (.idx (.idx (.var 0) (.idx (.var 2) (.con (.int 0)))) (.con (.int 0)))) .nil))) (.cons (.ret (.con (.bl false))) .nil) .nil) .nil))
def bis_rule : ISs := (.cons (.ite (.bop false (.cons (.not (.isi .tuple (.var 1))) (.cons (.cmp .ne (.bf .len (.cons (.var 1) .nil)) (.con (.int 2))) (.cons (.not (.isi .str (.idx (.var 1) (.con (.int 0))))) .nil)))) (.cons (.ret (.con (.bl false))) .nil) .nil) (.cons (.tset [3, 4] (.var 1)) (.cons (.ite (.bop false (.cons (.cmp .nin (.var 3) (.tup (.cons (.con (.str [101, 110, 116, 114, 121])) (.cons (.con (.str [110, 101, 101, 100, 115])) (.cons (.con (.str [115, 101, 110, 100])) .nil))))) (.cons (.not (.isi .tuple (.var 4))) .nil))) (.cons (.ret (.con (.bl false))) .nil) .nil) (.cons (.ite (.not (.chain .le .le (.bin .add (.con (.int 1)) (.bf .int (.cons (.cmp .eq (.var 3) (.con (.str [110, 101, 101, 100, 115]))) .nil))) (.bf .len (.cons (.var 4) .nil)) (.con (.int 3)))) (.cons (.ret (.con (.bl false))) .nil) .nil) (.cons (.for (.nm 2) (.any (.var 4)) bis_rule_1) (.cons (.ret (.cmp .eq (.lset (.lc [("field", 5), ("value", 1)] (.tup [5, 1]) (.any (.var 4)) .no (.var 5))) (.bf .len (.cons (.var 4) .nil)))) .nil))))))
def tis_form_1 : IO := (.yes (.not (.call 13 (.cons (.idx (.var 0) (.con (.int 0))) (.cons (.var 1) .nil)))))
def bis_form : ISs := (.cons (.ite (.bop false (.cons (.not (.isi .tuple (.var 0))) (.cons (.cmp .ne (.bf .len (.cons (.var 0) .nil)) (.con (.int 3))) (.cons (.not (.call 12 (.cons (.idx (.var 0) (.con (.int 0))) .nil))) (.cons (.not (.isi .tuple (.idx (.var 0) (.con (.int 1))))) .nil))))) (.cons (.ret (.con (.bl false))) .nil) .nil) (.cons (.ite (.bop false (.cons (.cmp .gt (.bf .len (.cons (.idx (.var 0) (.con (.int 1))) .nil)) (.con (.int 4))) (.cons (.lc [("one", 1)] (.nm 1) (.any (.idx (.var 0) (.con (.int 1)))) tis_form_1 (.var 1)) .nil))) (.cons (.ret (.con (.bl false))) .nil) .nil) (.cons (.ret (.bop true (.cons (.isi .str (.idx (.var 0) (.con (.int 2)))) (.cons (.cmp .inn (.idx (.var 0) (.con (.int 2))) (.tup (.cons (.con (.str [115, 104, 111, 119, 110])) (.cons (.con (.str [97, 108, 108])) .nil)))) .nil)))) .nil)))
def bcheck_form : ISs := (.cons (.ite (.not (.call 14 (.cons (.var 0) .nil))) (.cons (.raise 1) .nil) .nil) .nil)
def bblank : ISs := (.cons (.ret (.bin .mul (.tup (.cons (.con .non) .nil)) (.bf .len (.cons (.idx (.var 0) (.con (.int 0))) .nil)))) .nil)
def eentries_of_1 : IE := (.tup (.cons (.var 2) (.cons (.var 4) .nil)))
def bentries_of_1 : ISs := (.cons (.ext 1 (.lc [("value", 4)] (.nm 4) (.any (.bin .add (.tup (.cons (.con .non) .nil)) (.idx (.var 3) (.con (.int 0))))) .no eentries_of_1)) .nil)
def bentries_of : ISs := (.cons (.new 1 (.lst .nil)) (.cons (.for (.tup [2, 3]) (.enm (.idx (.var 0) (.con (.int 0)))) bentries_of_1) (.frz 1 (.cons (.ret (.var 1)) .nil))))
def tshown_of_1 : IO := (.yes (.bop false (.cons (.cmp .nin (.var 5) (.var 2)) (.cons (.cmp .nin (.idx (.var 1) (.var 5)) (.var 6)) .nil))))
def eshown_of_1 : IE := (.con (.int 1))
def bshown_of_1 : ISs := (.cons (.ite (.not (.lc [("other", 5), ("values", 6)] (.tup [5, 6]) (.any (.idx (.var 4) (.con (.int 1)))) tshown_of_1 eshown_of_1)) (.cons (.app 2 (.var 3)) .nil) .nil) .nil)
def bshown_of : ISs := (.cons (.new 2 (.lst .nil)) (.cons (.for (.tup [3, 4]) (.enm (.idx (.var 0) (.con (.int 0)))) bshown_of_1) (.frz 2 (.cons (.ret (.var 2)) .nil))))
def tholds_1 : IO := (.yes (.bop false (.cons (.cmp .nin (.var 3) (.var 0)) (.cons (.cmp .ne (.idx (.var 1) (.var 3)) (.var 4)) .nil))))
def eholds_1 : IE := (.con (.int 1))
def bholds : ISs := (.cons (.ret (.not (.lc [("field", 3), ("value", 4)] (.tup [3, 4]) (.any (.var 2)) tholds_1 eholds_1))) .nil)
def tbroken_of_1 : IO := (.yes (.bop true (.cons (.cmp .inn (.idx (.var 5) (.con (.int 0))) (.var 2)) (.cons (.call 19 (.cons (.var 3) (.cons (.var 1) (.cons (.idx (.var 5) (.con (.int 1))) .nil)))) .nil))))
def bbroken_of : ISs := (.cons (.set 3 (.call 18 (.cons (.var 0) (.cons (.var 1) .nil)))) (.cons (.ret (.lc [("number", 4), ("rule", 5)] (.tup [4, 5]) (.enm (.idx (.var 0) (.con (.int 1)))) tbroken_of_1 (.var 4))) .nil))
def bentered_1 : ISs := (.cons (.ite (.bop true (.cons (.cmp .eq (.var 6) (.con (.str [110, 101, 101, 100, 115]))) (.cons (.cmp .eq (.idx (.var 7) (.con (.int 0))) (.tup (.cons (.var 2) (.cons (.var 3) .nil)))) (.cons (.not (.call 19 (.cons (.var 4) (.cons (.var 1) (.cons (.cut (.var 7) (.yes (.con (.int 1))) .no) .nil))))) .nil)))) (.cons (.ret (.con .non)) .nil) .nil) .nil)
def bentered : ISs := (.cons (.set 4 (.call 18 (.cons (.var 0) (.cons (.var 1) .nil)))) (.cons (.ite (.bop false (.cons (.cmp .nin (.var 2) (.var 4)) (.cons (.cmp .eq (.idx (.var 1) (.var 2)) (.var 3)) .nil))) (.cons (.ret (.con .non)) .nil) .nil) (.cons (.for (.tup [6, 7]) (.any (.idx (.var 0) (.con (.int 1)))) bentered_1) (.cons (.set 5 (.bin .add (.bin .add (.cut (.var 1) .no (.yes (.var 2))) (.tup (.cons (.var 3) .nil))) (.cut (.var 1) (.yes (.bin .add (.var 2) (.con (.int 1)))) .no))) (.cons (.ret (.ife (.call 20 (.cons (.var 0) (.cons (.var 5) (.cons (.tup (.cons (.con (.str [101, 110, 116, 114, 121])) .nil)) .nil)))) (.con .non) (.var 5))) .nil)))))
def bfilled_2 : ISs := (.cons (.set 6 (.call 21 (.cons (.var 0) (.cons (.idx (.var 2) (.var 3)) (.cons (.var 4) (.cons (.var 5) .nil)))))) (.cons (.ite (.bop true (.cons (.isn true (.var 6)) (.cons (.din true (.var 6) 1) .nil))) (.cons (.dput 1 (.var 6) (.tup (.cons (.idx (.var 2) (.var 3)) (.cons (.tup (.cons (.var 4) (.cons (.var 5) .nil))) .nil)))) (.cons (.app 2 (.var 6)) .nil)) .nil) .nil))
def bfilled_1 : ISs := (.cons (.for (.tup [4, 5]) (.any (.call 17 (.cons (.var 0) .nil))) bfilled_2) (.cons (.aug 3 (.con (.int 1))) .nil))
def bfilled : ISs := (.cons (.dnew 1 (.call 16 (.cons (.var 0) .nil)) (.con .non)) (.cons (.new 2 (.lst (.cons (.call 16 (.cons (.var 0) .nil)) .nil))) (.cons (.set 3 (.con (.int 0))) (.cons (.whl 1000000 (.cmp .lt (.var 3) (.bf .len (.cons (.var 2) .nil))) bfilled_1) (.frz 1 (.frz 2 (.cons (.ret (.tup (.cons (.var 2) (.cons (.var 1) .nil)))) .nil)))))))
def tcan_send_of_1 : IO := (.yes (.isn false (.idx (.var 1) (.var 2))))
def bcan_send_of : ISs := (.cons (.ite (.lc [("number", 2)] (.nm 2) (.any (.call 18 (.cons (.var 0) (.cons (.var 1) .nil)))) tcan_send_of_1 (.var 2)) (.cons (.ret (.con (.bl false))) .nil) .nil) (.cons (.ret (.not (.call 20 (.cons (.var 0) (.cons (.var 1) (.cons (.tup (.cons (.con (.str [101, 110, 116, 114, 121])) (.cons (.con (.str [115, 101, 110, 100])) .nil))) .nil)))))) .nil))
def blost_records_2 : ISs := (.cons (.set 9 (.call 21 (.cons (.var 0) (.cons (.var 2) (.cons (.var 7) (.cons (.var 8) .nil)))))) (.cons (.ite (.isn true (.var 9)) (.cons (.dput 1 (.var 9) (.bin .add (.dgd 1 (.var 9) (.tup .nil)) (.tup (.cons (.var 2) .nil)))) .nil) .nil) .nil))
def blost_records_1 : ISs := (.cons (.for (.tup [7, 8]) (.any (.call 17 (.cons (.var 0) .nil))) blost_records_2) .nil)
def tlost_records_1 : IO := (.yes (.call 23 (.cons (.var 0) (.cons (.var 2) .nil))))
def blost_records_3 : ISs := (.cons (.fpg (.nm 2) 1 3 (.tup .nil) (.cons (.ite (.din true (.var 2) 4) (.cons (.dput 4 (.var 2) (.con (.bl true))) (.cons (.app 3 (.var 2)) .nil)) .nil) .nil)) .nil)
def tlost_records_2 : IO := (.yes (.din true (.var 2) 4))
def blost_records : ISs := (.cons (.tset [5, 6] (.call 22 (.cons (.var 0) .nil))) (.cons (.dnew0 1) (.cons (.for (.nm 2) (.any (.var 5)) blost_records_1) (.cons (.new 3 (.lc [("record", 2)] (.nm 2) (.any (.var 5)) tlost_records_1 (.var 2))) (.cons (.dnew0 4) (.cons (.fro (.nm 2) 3 (.cons (.dput 4 (.var 2) (.con (.bl true))) .nil)) (.cons (.whl 1000000 (.var 3) blost_records_3) (.cons (.ret (.tup (.cons (.lc [("record", 2)] (.nm 2) (.any (.var 5)) tlost_records_2 (.var 2)) (.cons (.var 6) .nil)))) .nil))))))))
def bway_of_1 : ISs := (.cons (.tset [1, 3] (.dget 0 (.var 1))) (.cons (.app 2 (.var 3)) .nil))
def bway_of : ISs := (.cons (.new 2 (.lst .nil)) (.cons (.whl 1000000 (.isn true (.dget 0 (.var 1))) bway_of_1) (.cons (.ret (.bf .tuple (.cons (.stp (.var 2) .no .no (.yes (.neg (.con (.int 1))))) .nil))) .nil)))
def btrap_entries : ISs := (.cons (.expr (.call 15 (.cons (.var 0) .nil))) (.cons (.tset [1, 2] (.call 24 (.cons (.var 0) .nil))) (.cons (.ite (.not (.var 1)) (.cons (.raise 3) .nil) .nil) (.cons (.ret (.call 25 (.cons (.var 2) (.cons (.idx (.var 1) (.con (.int 0))) .nil)))) .nil))))
def tis_clean_1 : IO := (.yes (.bop true (.cons (.isn true (.var 4)) (.cons (.cmp .nin (.var 3) (.var 2)) .nil))))
def bis_clean : ISs := (.cons (.set 2 (.call 18 (.cons (.var 0) (.cons (.var 1) .nil)))) (.cons (.ret (.not (.lc [("number", 3), ("value", 4)] (.tup [3, 4]) (.enm (.var 1)) tis_clean_1 (.var 3)))) .nil))
def bstale_entries : ISs := (.cons .never (.cons .never (.cons .never (.cons .never .nil))))
def b_law_trapped : ISs := (.cons (.tri (.cons (.ret (.ife (.cmp .eq (.var 0) (.con (.int 0))) (.call 26 (.cons (.var 1) .nil)) (.call 28 (.cons (.var 1) .nil)))) .nil) (.cons 3 2 (.cons (.ret (.ife (.bop true (.cons (.ise 2 0) (.cons (.not (.ise 2 2)) .nil))) (.con (.str [110, 111, 110, 101])) (.con (.str [111, 116, 104, 101, 114])))) .nil) .nil)) .nil)
def b_law_cell : ISs := (.cons (.ite (.cmp .lt (.var 1) (.bf .len (.cons (.var 0) .nil))) (.cons (.ret (.idx (.var 0) (.var 1))) .nil) .nil) (.cons (.ret (.con (.int 0))) .nil))
def b_law_row_1 : ISs := (.cons (.ite (.cmp .lt (.call 30 (.cons (.var 0) (.cons (.var 1) .nil))) (.bin .pow (.con (.int 10)) (.con (.int 18)))) (.cons (.set 2 (.bin .mod (.bin .add (.bin .add (.bin .add (.bin .mul (.var 2) (.con (.int 48271))) (.bin .mul (.con (.int 131)) (.var 4))) (.con (.int 7))) (.call 30 (.cons (.var 0) (.cons (.bin .mod (.bin .add (.bin .add (.var 1) (.con (.int 1))) (.var 4)) (.con (.int 20))) .nil)))) (.con (.int 2147483647)))) (.cons (.app 3 (.bin .mod (.bin .fdiv (.var 2) (.con (.int 11))) (.con (.int 1000)))) .nil)) (.cons (.app 3 (.bin .mod (.var 2) (.con (.int 1000)))) (.cons (.set 2 (.bin .fdiv (.var 2) (.con (.int 1000)))) .nil))) .nil)
def b_law_row : ISs := (.cons (.set 2 (.call 30 (.cons (.var 0) (.cons (.var 1) .nil)))) (.cons (.new 3 (.lst .nil)) (.cons (.for (.nm 4) (.rng1 (.con (.int 60))) b_law_row_1) (.frz 3 (.cons (.ret (.var 3)) .nil)))))
def b_law_snare : ISs := (.cons (.trp 6 7 8 (.bin .mod (.idx (.var 1) (.con (.int 0))) (.con (.int 4))) (.bin .add (.con (.int 4)) (.bin .mod (.idx (.var 1) (.con (.int 1))) (.con (.int 3)))) (.bin .add (.con (.int 7)) (.bin .mod (.idx (.var 1) (.con (.int 2))) (.con (.int 3))))) (.cons (.set 2 (.ife (.cmp .eq (.bin .mod (.idx (.var 0) (.con (.int 0))) (.con (.int 3))) (.con (.int 0))) (.tup (.cons (.var 6) .nil)) (.tup (.cons (.var 6) (.cons (.con (.int 9)) .nil))))) (.cons (.set 3 (.ife (.cmp .eq (.bin .mod (.idx (.var 0) (.con (.int 1))) (.con (.int 3))) (.con (.int 0))) (.tup (.cons (.var 7) .nil)) (.tup (.cons (.var 7) (.cons (.con (.int 8)) .nil))))) (.cons (.set 4 (.tup (.cons (.tup (.cons (.var 2) (.cons (.tup .nil) .nil))) (.cons (.tup (.cons (.var 3) (.cons (.tup (.cons (.tup (.cons (.con (.int 0)) (.cons (.tup (.cons (.var 6) .nil)) .nil))) .nil)) .nil))) (.cons (.tup (.cons (.tup (.cons (.var 8) .nil)) (.cons (.tup .nil) .nil))) .nil))))) (.cons (.set 5 (.tup (.cons (.tup (.cons (.con (.str [110, 101, 101, 100, 115])) (.cons (.tup (.cons (.tup (.cons (.con (.int 0)) (.cons (.var 6) .nil))) (.cons (.tup (.cons (.con (.int 2)) (.cons (.var 8) .nil))) .nil))) .nil))) (.cons (.tup (.cons (.con (.str [101, 110, 116, 114, 121])) (.cons (.tup (.cons (.tup (.cons (.con (.int 0)) (.cons (.var 6) .nil))) (.cons (.tup (.cons (.con (.int 2)) (.cons (.var 8) .nil))) (.cons (.tup (.cons (.con (.int 1)) (.cons (.var 7) .nil))) .nil)))) .nil))) .nil)))) (.cons (.ite (.cmp .eq (.bin .mod (.idx (.var 0) (.con (.int 2))) (.con (.int 3))) (.con (.int 0))) (.cons (.set 5 (.bin .add (.var 5) (.tup (.cons (.tup (.cons (.con (.str [115, 101, 110, 100])) (.cons (.ife (.cmp .gt (.bin .mod (.idx (.var 0) (.con (.int 0))) (.con (.int 3))) (.con (.int 0))) (.tup (.cons (.tup (.cons (.con (.int 0)) (.cons (.con (.int 9)) .nil))) (.cons (.tup (.cons (.con (.int 2)) (.cons (.var 8) .nil))) .nil))) (.tup (.cons (.tup (.cons (.con (.int 2)) (.cons (.var 8) .nil))) .nil))) .nil))) .nil)))) .nil) .nil) (.cons (.ite (.cmp .eq (.bin .mod (.idx (.var 0) (.con (.int 3))) (.con (.int 4))) (.con (.int 0))) (.cons (.set 5 (.cut (.var 5) (.yes (.con (.int 1))) .no)) .nil) .nil) (.cons (.ret (.tup (.cons (.var 4) (.cons (.var 5) (.cons (.idx (.lst (.cons (.con (.str [115, 104, 111, 119, 110])) (.cons (.con (.str [97, 108, 108])) .nil))) (.bin .mod (.idx (.var 0) (.con (.int 4))) (.con (.int 2)))) .nil))))) .nil))))))))
def bhas_trap : ISs := (.cons (.expr (.call 15 (.cons (.var 0) .nil))) (.cons (.ret (.cmp .ne (.idx (.call 24 (.cons (.var 0) .nil)) (.con (.int 0))) (.lst .nil))) .nil))
def tlaw_1 : IO := (.yes (.cmp .nin (.con (.int 3)) (.lc [("at", 12), ("value", 9)] (.tup [12, 9]) (.any (.idx (.var 10) (.con (.int 1)))) .no (.var 12))))
def blaw_1 : ISs := (.cons (.set 5 (.ife (.isn false (.var 5)) (.con .non) (.call 5 (.cons (.var 1) (.cons (.var 5) (.cons (.var 8) (.cons (.var 9) .nil))))))) .nil)
def elaw_1 : IE := (.dget 2 (.var 11))
def blaw : ISs := (.cons (.par 6 7 (.call 31 (.cons (.var 0) (.cons (.con (.int 4)) .nil))) (.call 31 (.cons (.var 0) (.cons (.con (.int 5)) .nil)))) (.cons (.set 1 (.call 1 (.cons (.var 6) (.cons (.var 7) (.cons (.tup (.cons (.con (.str [101, 110, 116, 114, 121])) (.cons (.con (.str [110, 101, 101, 100, 115])) (.cons (.con (.str [115, 101, 110, 100])) (.cons (.con (.str [115, 101, 110, 100])) .nil))))) .nil))))) (.cons (.ite (.cmp .eq (.bin .mod (.idx (.var 7) (.con (.int 59))) (.con (.int 2))) (.con (.int 0))) (.cons (.set 1 (.call 32 (.cons (.var 6) (.cons (.var 7) .nil)))) .nil) .nil) (.cons (.ite (.cmp .gt (.bf .len (.cons (.idx (.var 1) (.con (.int 0))) .nil)) (.con (.int 3))) (.cons (.set 1 (.tup (.cons (.cut (.idx (.var 1) (.con (.int 0))) .no (.yes (.con (.int 3)))) (.cons (.bf .tuple (.cons (.lc [("rule", 10)] (.nm 10) (.any (.idx (.var 1) (.con (.int 1)))) tlaw_1 (.var 10)) .nil)) (.cons (.idx (.var 1) (.con (.int 2))) .nil))))) .nil) .nil) (.cons (.set 2 (.call 6 (.cons (.var 1) .nil))) (.cons (.set 3 (.call 8 (.cons (.var 1) (.cons (.var 2) .nil)))) (.cons (.set 4 (.call 29 (.cons (.con (.int 0)) (.cons (.var 1) .nil)))) (.cons (.ite (.bop false (.cons (.cmp .ne (.call 33 (.cons (.var 1) .nil)) (.cmp .ne (.var 3) (.lst .nil))) (.cons (.cmp .ne (.cmp .eq (.var 4) (.con (.str [110, 111, 110, 101]))) (.cmp .eq (.var 3) (.lst .nil))) .nil))) (.cons (.ret (.con (.bl false))) .nil) .nil) (.cons (.ite (.cmp .eq (.var 3) (.lst .nil)) (.cons (.ret (.con (.bl true))) .nil) .nil) (.cons (.set 5 (.bin .mul (.tup (.cons (.con .non) .nil)) (.bf .len (.cons (.idx (.var 1) (.con (.int 0))) .nil)))) (.cons (.for (.tup [8, 9]) (.any (.var 4)) blaw_1) (.cons (.ret (.bop true (.cons (.cmp .inn (.var 5) (.var 3)) (.cons (.cmp .eq (.bf .len (.cons (.var 4) .nil)) (.bf .min (.cons (.lc [("record", 11)] (.nm 11) (.any (.var 3)) .no elaw_1) .nil))) .nil)))) .nil))))))))))))
def Z : Gam0 where
  gl := fun j => match j with
    | _ => none
  sub := fun k j => match k, j with
    | 1, 3 => some false
    | 1, 0 => some true
    | 1, 2 => some false
    | 3, 3 => some true
    | 3, 0 => some true
    | 3, 2 => some false
    | _, _ => none
  own := fun k => match k with
    | 1 => true
    | 3 => true
    | _ => false
@[simp] theorem sub_1_3 : Z.sub 1 3 = some false := (rfl)
@[simp] theorem sub_1_0 : Z.sub 1 0 = some true := (rfl)
@[simp] theorem sub_1_2 : Z.sub 1 2 = some false := (rfl)
@[simp] theorem sub_3_3 : Z.sub 3 3 = some true := (rfl)
@[simp] theorem sub_3_0 : Z.sub 3 0 = some true := (rfl)
@[simp] theorem sub_3_2 : Z.sub 3 2 = some false := (rfl)
@[simp] theorem own_1 : Z.own 1 = true := (rfl)
@[simp] theorem own_3 : Z.own 3 = true := (rfl)
abbrev T0 : List (List D → R D) := []
def g_law_values : List D → R D := evF (gam Z T0) 2 4 b_law_values
abbrev T1 : List (List D → R D) := [g_law_values]
@[simp] theorem fn_1_0 : (gam Z T1).fn 0 = g_law_values := (rfl)
def g_law_form : List D → R D := evF (gam Z T1) 3 16 b_law_form
abbrev T2 : List (List D → R D) := [g_law_values, g_law_form]
def g_law_entries : List D → R D := evF (gam Z T2) 1 4 b_law_entries
abbrev T3 : List (List D → R D) := [g_law_values, g_law_form, g_law_entries]
def g_law_shown : List D → R D := evF (gam Z T3) 2 7 b_law_shown
abbrev T4 : List (List D → R D) := [g_law_values, g_law_form, g_law_entries, g_law_shown]
@[simp] theorem fn_4_3 : (gam Z T4).fn 3 = g_law_shown := (rfl)
def g_law_holds : List D → R D := evF (gam Z T4) 3 6 b_law_holds
abbrev T5 : List (List D → R D) := [g_law_values, g_law_form, g_law_entries, g_law_shown, g_law_holds]
@[simp] theorem fn_5_3 : (gam Z T5).fn 3 = g_law_shown := (rfl)
@[simp] theorem fn_5_4 : (gam Z T5).fn 4 = g_law_holds := (rfl)
def g_law_entry : List D → R D := evF (gam Z T5) 4 7 b_law_entry
abbrev T6 : List (List D → R D) := [g_law_values, g_law_form, g_law_entries, g_law_shown, g_law_holds, g_law_entry]
@[simp] theorem fn_6_2 : (gam Z T6).fn 2 = g_law_entries := (rfl)
@[simp] theorem fn_6_5 : (gam Z T6).fn 5 = g_law_entry := (rfl)
def g_law_filled_up : List D → R D := evF (gam Z T6) 1 10 b_law_filled_up
abbrev T7 : List (List D → R D) := [g_law_values, g_law_form, g_law_entries, g_law_shown, g_law_holds, g_law_entry, g_law_filled_up]
@[simp] theorem fn_7_3 : (gam Z T7).fn 3 = g_law_shown := (rfl)
@[simp] theorem fn_7_4 : (gam Z T7).fn 4 = g_law_holds := (rfl)
def g_law_sends : List D → R D := evF (gam Z T7) 2 5 b_law_sends
abbrev T8 : List (List D → R D) := [g_law_values, g_law_form, g_law_entries, g_law_shown, g_law_holds, g_law_entry, g_law_filled_up, g_law_sends]
@[simp] theorem fn_8_2 : (gam Z T8).fn 2 = g_law_entries := (rfl)
@[simp] theorem fn_8_5 : (gam Z T8).fn 5 = g_law_entry := (rfl)
@[simp] theorem fn_8_7 : (gam Z T8).fn 7 = g_law_sends := (rfl)
def g_law_lost_records : List D → R D := evF (gam Z T8) 2 8 b_law_lost_records
abbrev T9 : List (List D → R D) := [g_law_values, g_law_form, g_law_entries, g_law_shown, g_law_holds, g_law_entry, g_law_filled_up, g_law_sends, g_law_lost_records]
def gin_range : List D → R D := evF (gam Z T9) 3 3 bin_range
abbrev T10 : List (List D → R D) := [g_law_values, g_law_form, g_law_entries, g_law_shown, g_law_holds, g_law_entry, g_law_filled_up, g_law_sends, g_law_lost_records, gin_range]
@[simp] theorem fn_10_9 : (gam Z T10).fn 9 = gin_range := (rfl)
def gare_values : List D → R D := evF (gam Z T10) 2 4 bare_values
abbrev T11 : List (List D → R D) := [g_law_values, g_law_form, g_law_entries, g_law_shown, g_law_holds, g_law_entry, g_law_filled_up, g_law_sends, g_law_lost_records, gin_range, gare_values]
@[simp] theorem fn_11_9 : (gam Z T11).fn 9 = gin_range := (rfl)
@[simp] theorem fn_11_10 : (gam Z T11).fn 10 = gare_values := (rfl)
def gare_conditions : List D → R D := evF (gam Z T11) 2 4 bare_conditions
abbrev T12 : List (List D → R D) := [g_law_values, g_law_form, g_law_entries, g_law_shown, g_law_holds, g_law_entry, g_law_filled_up, g_law_sends, g_law_lost_records, gin_range, gare_values, gare_conditions]
@[simp] theorem fn_12_10 : (gam Z T12).fn 10 = gare_values := (rfl)
@[simp] theorem fn_12_11 : (gam Z T12).fn 11 = gare_conditions := (rfl)
def gare_fields : List D → R D := evF (gam Z T12) 1 3 bare_fields
abbrev T13 : List (List D → R D) := [g_law_values, g_law_form, g_law_entries, g_law_shown, g_law_holds, g_law_entry, g_law_filled_up, g_law_sends, g_law_lost_records, gin_range, gare_values, gare_conditions, gare_fields]
@[simp] theorem fn_13_9 : (gam Z T13).fn 9 = gin_range := (rfl)
def gis_rule : List D → R D := evF (gam Z T13) 2 6 bis_rule
abbrev T14 : List (List D → R D) := [g_law_values, g_law_form, g_law_entries, g_law_shown, g_law_holds, g_law_entry, g_law_filled_up, g_law_sends, g_law_lost_records, gin_range, gare_values, gare_conditions, gare_fields, gis_rule]
@[simp] theorem fn_14_12 : (gam Z T14).fn 12 = gare_fields := (rfl)
@[simp] theorem fn_14_13 : (gam Z T14).fn 13 = gis_rule := (rfl)
def gis_form : List D → R D := evF (gam Z T14) 1 2 bis_form
abbrev T15 : List (List D → R D) := [g_law_values, g_law_form, g_law_entries, g_law_shown, g_law_holds, g_law_entry, g_law_filled_up, g_law_sends, g_law_lost_records, gin_range, gare_values, gare_conditions, gare_fields, gis_rule, gis_form]
@[simp] theorem fn_15_14 : (gam Z T15).fn 14 = gis_form := (rfl)
def gcheck_form : List D → R D := evF (gam Z T15) 1 1 bcheck_form
abbrev T16 : List (List D → R D) := [g_law_values, g_law_form, g_law_entries, g_law_shown, g_law_holds, g_law_entry, g_law_filled_up, g_law_sends, g_law_lost_records, gin_range, gare_values, gare_conditions, gare_fields, gis_rule, gis_form, gcheck_form]
def gblank : List D → R D := evF (gam Z T16) 1 1 bblank
abbrev T17 : List (List D → R D) := [g_law_values, g_law_form, g_law_entries, g_law_shown, g_law_holds, g_law_entry, g_law_filled_up, g_law_sends, g_law_lost_records, gin_range, gare_values, gare_conditions, gare_fields, gis_rule, gis_form, gcheck_form, gblank]
def gentries_of : List D → R D := evF (gam Z T17) 1 5 bentries_of
abbrev T18 : List (List D → R D) := [g_law_values, g_law_form, g_law_entries, g_law_shown, g_law_holds, g_law_entry, g_law_filled_up, g_law_sends, g_law_lost_records, gin_range, gare_values, gare_conditions, gare_fields, gis_rule, gis_form, gcheck_form, gblank, gentries_of]
def gshown_of : List D → R D := evF (gam Z T18) 2 7 bshown_of
abbrev T19 : List (List D → R D) := [g_law_values, g_law_form, g_law_entries, g_law_shown, g_law_holds, g_law_entry, g_law_filled_up, g_law_sends, g_law_lost_records, gin_range, gare_values, gare_conditions, gare_fields, gis_rule, gis_form, gcheck_form, gblank, gentries_of, gshown_of]
def gholds : List D → R D := evF (gam Z T19) 3 5 bholds
abbrev T20 : List (List D → R D) := [g_law_values, g_law_form, g_law_entries, g_law_shown, g_law_holds, g_law_entry, g_law_filled_up, g_law_sends, g_law_lost_records, gin_range, gare_values, gare_conditions, gare_fields, gis_rule, gis_form, gcheck_form, gblank, gentries_of, gshown_of, gholds]
@[simp] theorem fn_20_18 : (gam Z T20).fn 18 = gshown_of := (rfl)
@[simp] theorem fn_20_19 : (gam Z T20).fn 19 = gholds := (rfl)
def gbroken_of : List D → R D := evF (gam Z T20) 3 6 bbroken_of
abbrev T21 : List (List D → R D) := [g_law_values, g_law_form, g_law_entries, g_law_shown, g_law_holds, g_law_entry, g_law_filled_up, g_law_sends, g_law_lost_records, gin_range, gare_values, gare_conditions, gare_fields, gis_rule, gis_form, gcheck_form, gblank, gentries_of, gshown_of, gholds, gbroken_of]
@[simp] theorem fn_21_18 : (gam Z T21).fn 18 = gshown_of := (rfl)
@[simp] theorem fn_21_19 : (gam Z T21).fn 19 = gholds := (rfl)
@[simp] theorem fn_21_20 : (gam Z T21).fn 20 = gbroken_of := (rfl)
def gentered : List D → R D := evF (gam Z T21) 4 8 bentered
abbrev T22 : List (List D → R D) := [g_law_values, g_law_form, g_law_entries, g_law_shown, g_law_holds, g_law_entry, g_law_filled_up, g_law_sends, g_law_lost_records, gin_range, gare_values, gare_conditions, gare_fields, gis_rule, gis_form, gcheck_form, gblank, gentries_of, gshown_of, gholds, gbroken_of, gentered]
@[simp] theorem fn_22_16 : (gam Z T22).fn 16 = gblank := (rfl)
@[simp] theorem fn_22_17 : (gam Z T22).fn 17 = gentries_of := (rfl)
@[simp] theorem fn_22_21 : (gam Z T22).fn 21 = gentered := (rfl)
def gfilled : List D → R D := evF (gam Z T22) 1 7 bfilled
abbrev T23 : List (List D → R D) := [g_law_values, g_law_form, g_law_entries, g_law_shown, g_law_holds, g_law_entry, g_law_filled_up, g_law_sends, g_law_lost_records, gin_range, gare_values, gare_conditions, gare_fields, gis_rule, gis_form, gcheck_form, gblank, gentries_of, gshown_of, gholds, gbroken_of, gentered, gfilled]
@[simp] theorem fn_23_18 : (gam Z T23).fn 18 = gshown_of := (rfl)
@[simp] theorem fn_23_20 : (gam Z T23).fn 20 = gbroken_of := (rfl)
def gcan_send_of : List D → R D := evF (gam Z T23) 2 3 bcan_send_of
abbrev T24 : List (List D → R D) := [g_law_values, g_law_form, g_law_entries, g_law_shown, g_law_holds, g_law_entry, g_law_filled_up, g_law_sends, g_law_lost_records, gin_range, gare_values, gare_conditions, gare_fields, gis_rule, gis_form, gcheck_form, gblank, gentries_of, gshown_of, gholds, gbroken_of, gentered, gfilled, gcan_send_of]
@[simp] theorem fn_24_17 : (gam Z T24).fn 17 = gentries_of := (rfl)
@[simp] theorem fn_24_21 : (gam Z T24).fn 21 = gentered := (rfl)
@[simp] theorem fn_24_22 : (gam Z T24).fn 22 = gfilled := (rfl)
@[simp] theorem fn_24_23 : (gam Z T24).fn 23 = gcan_send_of := (rfl)
def glost_records : List D → R D := evF (gam Z T24) 1 10 blost_records
abbrev T25 : List (List D → R D) := [g_law_values, g_law_form, g_law_entries, g_law_shown, g_law_holds, g_law_entry, g_law_filled_up, g_law_sends, g_law_lost_records, gin_range, gare_values, gare_conditions, gare_fields, gis_rule, gis_form, gcheck_form, gblank, gentries_of, gshown_of, gholds, gbroken_of, gentered, gfilled, gcan_send_of, glost_records]
def gway_of : List D → R D := evF (gam Z T25) 2 4 bway_of
abbrev T26 : List (List D → R D) := [g_law_values, g_law_form, g_law_entries, g_law_shown, g_law_holds, g_law_entry, g_law_filled_up, g_law_sends, g_law_lost_records, gin_range, gare_values, gare_conditions, gare_fields, gis_rule, gis_form, gcheck_form, gblank, gentries_of, gshown_of, gholds, gbroken_of, gentered, gfilled, gcan_send_of, glost_records, gway_of]
@[simp] theorem fn_26_15 : (gam Z T26).fn 15 = gcheck_form := (rfl)
@[simp] theorem fn_26_24 : (gam Z T26).fn 24 = glost_records := (rfl)
@[simp] theorem fn_26_25 : (gam Z T26).fn 25 = gway_of := (rfl)
def gtrap_entries : List D → R D := evF (gam Z T26) 1 3 btrap_entries
abbrev T27 : List (List D → R D) := [g_law_values, g_law_form, g_law_entries, g_law_shown, g_law_holds, g_law_entry, g_law_filled_up, g_law_sends, g_law_lost_records, gin_range, gare_values, gare_conditions, gare_fields, gis_rule, gis_form, gcheck_form, gblank, gentries_of, gshown_of, gholds, gbroken_of, gentered, gfilled, gcan_send_of, glost_records, gway_of, gtrap_entries]
@[simp] theorem fn_27_18 : (gam Z T27).fn 18 = gshown_of := (rfl)
def gis_clean : List D → R D := evF (gam Z T27) 2 5 bis_clean
abbrev T28 : List (List D → R D) := [g_law_values, g_law_form, g_law_entries, g_law_shown, g_law_holds, g_law_entry, g_law_filled_up, g_law_sends, g_law_lost_records, gin_range, gare_values, gare_conditions, gare_fields, gis_rule, gis_form, gcheck_form, gblank, gentries_of, gshown_of, gholds, gbroken_of, gentered, gfilled, gcan_send_of, glost_records, gway_of, gtrap_entries, gis_clean]
def gstale_entries : List D → R D := evF (gam Z T28) 1 4 bstale_entries
abbrev T29 : List (List D → R D) := [g_law_values, g_law_form, g_law_entries, g_law_shown, g_law_holds, g_law_entry, g_law_filled_up, g_law_sends, g_law_lost_records, gin_range, gare_values, gare_conditions, gare_fields, gis_rule, gis_form, gcheck_form, gblank, gentries_of, gshown_of, gholds, gbroken_of, gentered, gfilled, gcan_send_of, glost_records, gway_of, gtrap_entries, gis_clean, gstale_entries]
@[simp] theorem fn_29_26 : (gam Z T29).fn 26 = gtrap_entries := (rfl)
@[simp] theorem fn_29_28 : (gam Z T29).fn 28 = gstale_entries := (rfl)
def g_law_trapped : List D → R D := evF (gam Z T29) 2 3 b_law_trapped
abbrev T30 : List (List D → R D) := [g_law_values, g_law_form, g_law_entries, g_law_shown, g_law_holds, g_law_entry, g_law_filled_up, g_law_sends, g_law_lost_records, gin_range, gare_values, gare_conditions, gare_fields, gis_rule, gis_form, gcheck_form, gblank, gentries_of, gshown_of, gholds, gbroken_of, gentered, gfilled, gcan_send_of, glost_records, gway_of, gtrap_entries, gis_clean, gstale_entries, g_law_trapped]
def g_law_cell : List D → R D := evF (gam Z T30) 2 2 b_law_cell
abbrev T31 : List (List D → R D) := [g_law_values, g_law_form, g_law_entries, g_law_shown, g_law_holds, g_law_entry, g_law_filled_up, g_law_sends, g_law_lost_records, gin_range, gare_values, gare_conditions, gare_fields, gis_rule, gis_form, gcheck_form, gblank, gentries_of, gshown_of, gholds, gbroken_of, gentered, gfilled, gcan_send_of, glost_records, gway_of, gtrap_entries, gis_clean, gstale_entries, g_law_trapped, g_law_cell]
@[simp] theorem fn_31_30 : (gam Z T31).fn 30 = g_law_cell := (rfl)
def g_law_row : List D → R D := evF (gam Z T31) 2 5 b_law_row
abbrev T32 : List (List D → R D) := [g_law_values, g_law_form, g_law_entries, g_law_shown, g_law_holds, g_law_entry, g_law_filled_up, g_law_sends, g_law_lost_records, gin_range, gare_values, gare_conditions, gare_fields, gis_rule, gis_form, gcheck_form, gblank, gentries_of, gshown_of, gholds, gbroken_of, gentered, gfilled, gcan_send_of, glost_records, gway_of, gtrap_entries, gis_clean, gstale_entries, g_law_trapped, g_law_cell, g_law_row]
def g_law_snare : List D → R D := evF (gam Z T32) 2 9 b_law_snare
abbrev T33 : List (List D → R D) := [g_law_values, g_law_form, g_law_entries, g_law_shown, g_law_holds, g_law_entry, g_law_filled_up, g_law_sends, g_law_lost_records, gin_range, gare_values, gare_conditions, gare_fields, gis_rule, gis_form, gcheck_form, gblank, gentries_of, gshown_of, gholds, gbroken_of, gentered, gfilled, gcan_send_of, glost_records, gway_of, gtrap_entries, gis_clean, gstale_entries, g_law_trapped, g_law_cell, g_law_row, g_law_snare]
@[simp] theorem fn_33_15 : (gam Z T33).fn 15 = gcheck_form := (rfl)
@[simp] theorem fn_33_24 : (gam Z T33).fn 24 = glost_records := (rfl)
def ghas_trap : List D → R D := evF (gam Z T33) 1 1 bhas_trap
abbrev T34 : List (List D → R D) := [g_law_values, g_law_form, g_law_entries, g_law_shown, g_law_holds, g_law_entry, g_law_filled_up, g_law_sends, g_law_lost_records, gin_range, gare_values, gare_conditions, gare_fields, gis_rule, gis_form, gcheck_form, gblank, gentries_of, gshown_of, gholds, gbroken_of, gentered, gfilled, gcan_send_of, glost_records, gway_of, gtrap_entries, gis_clean, gstale_entries, g_law_trapped, g_law_cell, g_law_row, g_law_snare, ghas_trap]
@[simp] theorem fn_34_1 : (gam Z T34).fn 1 = g_law_form := (rfl)
@[simp] theorem fn_34_5 : (gam Z T34).fn 5 = g_law_entry := (rfl)
@[simp] theorem fn_34_6 : (gam Z T34).fn 6 = g_law_filled_up := (rfl)
@[simp] theorem fn_34_8 : (gam Z T34).fn 8 = g_law_lost_records := (rfl)
@[simp] theorem fn_34_29 : (gam Z T34).fn 29 = g_law_trapped := (rfl)
@[simp] theorem fn_34_31 : (gam Z T34).fn 31 = g_law_row := (rfl)
@[simp] theorem fn_34_32 : (gam Z T34).fn 32 = g_law_snare := (rfl)
@[simp] theorem fn_34_33 : (gam Z T34).fn 33 = ghas_trap := (rfl)
def glaw : List D → R D := evF (gam Z T34) 1 13 blaw
end LK
namespace LK
open PySem L2 PD
def ix : Nat → Nat := fun k => match k with
  | 0 => 9
  | 1 => 10
  | 2 => 11
  | 3 => 12
  | 4 => 13
  | 5 => 14
  | 6 => 15
  | 9 => 18
  | 10 => 19
  | 11 => 20
  | 12 => 21
  | 15 => 23
  | 16 => 27
  | 18 => 30
  | 19 => 31
  | 20 => 0
  | 21 => 1
  | 23 => 2
  | 29 => 3
  | 30 => 4
  | 31 => 7
  | 33 => 5
  | 34 => 16
  | 35 => 17
  | 36 => 22
  | 37 => 6
  | 39 => 32
  | 40 => 25
  | 43 => 28
  | 49 => 24
  | 50 => 33
  | 51 => 26
  | 52 => 8
  | _ => 0
def xx : Nat → Nat := fun k => match k with
  | 0 => 1
  | 3 => 2
  | 4 => 3
  | _ => 0
theorem _law_values_g : ∀ l, Rw l → ∀ a : Nat, ∃ vs, ValsOk vs ∧ g_law_values [.lst (l.map .int), .int a] = .ok (iD vs) := law_values_c (Γ := gam Z T0) (ι := ix) (ξ := xx)
theorem _law_form_g : ∀ l l2, Rw l → Rw l2 → ∀ ks : List Nat, (∀ a ∈ ks, a < 3) → ∃ F, FrmOk F ∧ (ks = [] → F.rs = []) ∧ g_law_form [.lst (l.map .int), .lst (l2.map .int), ksD ks] = .ok F.d := law_form_c (Γ := gam Z T1) (ι := ix) (ξ := xx) _law_values_g
theorem _law_entries_g : ∀ F, FrmOk F → g_law_entries [F.d] = .ok (.lst ((entsL F.fs).map enD)) := law_entries_c (Γ := gam Z T2) (ι := ix) (ξ := xx)
theorem _law_shown_g : ∀ F, FrmOk F → ∀ l : List (Option Int), l.length = F.fs.length → g_law_shown [F.d, rcD l] = .ok (.lst (nD (shownL F l))) := law_shown_c (Γ := gam Z T3) (ι := ix) (ξ := xx)
theorem _law_holds_g : ∀ F, FrmOk F → ∀ l : List (Option Int), l.length = F.fs.length → ∀ ps : List (Nat × Int), (∀ p ∈ ps, p.1 < l.length) → g_law_holds [F.d, rcD l, .tup (ps.map prD)] = .ok (.bl (ps.all (holdP (shownL F l) l))) := law_holds_c (Γ := gam Z T4) (ι := ix) (ξ := xx) (by delta ShownS; rw [show ix 29 = 3 from rfl]; simp only [fn_4_3]; exact _law_shown_g)
theorem _law_entry_g : ∀ F, FrmOk F → ∀ l : List (Option Int), l.length = F.fs.length → ∀ i, i < l.length → ∀ o, g_law_entry [F.d, rcD l, .int i, oD o] = .ok (orD (enteredL F l i o)) := law_entry_c (Γ := gam Z T5) (ι := ix) (ξ := xx) (by delta ShownS; rw [show ix 29 = 3 from rfl]; simp only [fn_5_3]; exact _law_shown_g) (by delta LHoldsS; rw [show ix 30 = 4 from rfl]; simp only [fn_5_4]; exact _law_holds_g)
theorem _law_filled_up_g : ∀ F, FrmOk F → g_law_filled_up [F.d] = .ok (.dct ((treeN F).map Nd.key) ((treeN F).map dvD)) := law_filled_c (Γ := gam Z T6) (ι := ix) (ξ := xx) (by delta EnteredS; rw [show ix 33 = 5 from rfl]; simp only [fn_6_5]; exact _law_entry_g) (fun F hF => by rw [show ix 23 = 2 from rfl, fn_6_2]; exact _law_entries_g F hF)
theorem _law_sends_g : ∀ F, FrmOk F → ∀ l : List (Option Int), l.length = F.fs.length → g_law_sends [F.d, rcD l] = .ok (.bl (sendsL F l)) := law_sends_c (Γ := gam Z T7) (ι := ix) (ξ := xx) (by delta ShownS; rw [show ix 29 = 3 from rfl]; simp only [fn_7_3]; exact _law_shown_g) (by delta LHoldsS; rw [show ix 30 = 4 from rfl]; simp only [fn_7_4]; exact _law_holds_g)
theorem _law_lost_records_g : ∀ F, FrmOk F → g_law_lost_records [F.d, szT F] = .ok (.lst ((lostL F).map keyD)) := law_lost_c (Γ := gam Z T8) (ι := ix) (ξ := xx) (fun F hF => by rw [show ix 23 = 2 from rfl, fn_8_2]; exact _law_entries_g F hF) (by delta SendsS; rw [show ix 31 = 7 from rfl]; simp only [fn_8_7]; exact _law_sends_g) (by delta EnteredS; rw [show ix 33 = 5 from rfl]; simp only [fn_8_5]; exact _law_entry_g)
theorem in_range_g : ∀ (d : D) (lo hi : Int), gin_range [d, .int lo, .int hi] = .ok (.bl (inRg d lo hi)) := in_range_c (gam Z T9) ix xx
theorem are_values_g : ∀ vs, ValsOk vs → gare_values [iD vs, .int 4] = .ok (.bl true) := are_values_c (Γ := gam Z T10) (ι := ix) (ξ := xx) in_range_g
theorem are_conditions_g : ∀ pre f, FldOk pre f → gare_conditions [.tup (f.cs.map cD), .tup (pre.map Fld.d)] = .ok (.bl true) := are_conditions_c (Γ := gam Z T11) (ι := ix) (ξ := xx) in_range_g are_values_g
theorem are_fields_g : ∀ F, FrmOk F → gare_fields [.tup (F.fs.map Fld.d)] = .ok (.bl true) := are_fields_c (Γ := gam Z T12) (ι := ix) (ξ := xx) are_values_g are_conditions_g
theorem is_rule_g : ∀ F, FrmOk F → ∀ r, RulOk F.fs r → gis_rule [.tup (F.fs.map Fld.d), r.d] = .ok (.bl true) := is_rule_c (Γ := gam Z T13) (ι := ix) (ξ := xx) in_range_g
theorem is_form_g : ∀ F, FrmOk F → gis_form [F.d] = .ok (.bl true) := is_form_c (Γ := gam Z T14) (ι := ix) (ξ := xx) are_fields_g is_rule_g
theorem check_form_g : ∀ F, FrmOk F → gcheck_form [F.d] = .ok .non := check_form_c (Γ := gam Z T15) (ι := ix) (ξ := xx) is_form_g
theorem blank_g : ∀ F, FrmOk F → gblank [F.d] = .ok (rcD (blankL F)) := blank_c (Γ := gam Z T16) (ι := ix) (ξ := xx)
theorem entries_of_g : ∀ F, FrmOk F → gentries_of [F.d] = .ok (.lst ((entsL F.fs).map enD)) := entries_of_c (Γ := gam Z T17) (ι := ix) (ξ := xx)
theorem shown_of_g : ∀ F, FrmOk F → ∀ l : List (Option Int), l.length = F.fs.length → gshown_of [F.d, rcD l] = .ok (.lst (nD (shownL F l))) := shown_of_c (Γ := gam Z T18) (ι := ix) (ξ := xx)
theorem holds_g : ∀ (there : List Nat) (l : List (Option Int)) (ps : List (Nat × Int)), (∀ p ∈ ps, p.1 < l.length) → gholds [.lst (nD there), rcD l, .tup (ps.map prD)] = .ok (.bl (ps.all (holdP there l))) := holds_c (Γ := gam Z T19) (ι := ix) (ξ := xx)
theorem broken_of_g : ∀ F, FrmOk F → ∀ l : List (Option Int), l.length = F.fs.length → ∀ ks : List Nat, (∀ a ∈ ks, a < 3) → gbroken_of [F.d, rcD l, ksD ks] = .ok (.lst (nD (brokenL F l ks))) := broken_of_c (Γ := gam Z T20) (ι := ix) (ξ := xx) shown_of_g holds_g
theorem entered_g : ∀ F, FrmOk F → ∀ l : List (Option Int), l.length = F.fs.length → ∀ i, i < l.length → ∀ o, gentered [F.d, rcD l, .int i, oD o] = .ok (orD (enteredL F l i o)) := entered_c (Γ := gam Z T21) (ι := ix) (ξ := xx) shown_of_g holds_g broken_of_g
theorem filled_g : ∀ F, FrmOk F → gfilled [F.d] = .ok (.tup [.lst ((treeN F).map fun x => rcD x.key), .dct ((treeN F).map Nd.key) ((treeN F).map pvD)]) := filled_c (Γ := gam Z T22) (ι := ix) (ξ := xx) entered_g blank_g entries_of_g
theorem can_send_of_g : ∀ F, FrmOk F → ∀ l : List (Option Int), l.length = F.fs.length → gcan_send_of [F.d, rcD l] = .ok (.bl (sendsL F l)) := can_send_of_c (Γ := gam Z T23) (ι := ix) (ξ := xx) shown_of_g broken_of_g
theorem lost_records_g : ∀ F, FrmOk F → glost_records [F.d] = .ok (.tup [.lst ((lostL F).map keyD), dctP (treeN F)]) := lost_records_c (Γ := gam Z T24) (ι := ix) (ξ := xx) (by delta EnteredS; rw [show ix 12 = 21 from rfl]; simp only [fn_24_21]; exact entered_g) (by delta SendsS; rw [show ix 15 = 23 from rfl]; simp only [fn_24_23]; exact can_send_of_g) (by rw [show ix 35 = 17 from rfl]; simp only [fn_24_17]; exact entries_of_g) (by delta FilledS; rw [show ix 36 = 22 from rfl]; simp only [fn_24_22]; exact filled_g)
theorem way_of_g : ∀ F, FrmOk F → ∀ z ∈ treeN F, ∃ es : List (Nat × Option Int), es.length = z.dep ∧ runL F es = some z.key ∧ (∀ e ∈ es, e ∈ entsL F.fs) ∧ gway_of [dctP (treeN F), rcD z.key] = .ok (.tup (es.map enD)) := fun F hF z hz => way_of_c (Γ := gam Z T25) (ι := ix) (ξ := xx) hF z hz
theorem trap_entries_g : ∀ F, FrmOk F → (∀ z t, lostL F = z :: t → ∃ es : List (Nat × Option Int), es.length = z.dep ∧ runL F es = some z.key ∧ (∀ e ∈ es, e ∈ entsL F.fs) ∧ gtrap_entries [F.d] = .ok (.tup (es.map enD))) ∧ (lostL F = [] → gtrap_entries [F.d] = .exc 3) := fun F hF => by
  refine ⟨fun z t hz => ?_, fun hn => trap_no_c (Γ := gam Z T26) (ι := ix) (ξ := xx) rfl (by delta CheckFormS; rw [show ix 6 = 15 from rfl]; simp only [fn_26_15]; exact check_form_g) (by delta LostS; rw [show ix 49 = 24 from rfl]; simp only [fn_26_24]; exact lost_records_g) F hF hn⟩
  have hm : z ∈ treeN F := by
    have : z ∈ lostL F := by rw [hz]; exact List.mem_cons_self
    unfold lostL at this
    exact (List.mem_filter.mp this).1
  obtain ⟨es, h1, h2, h3, h4⟩ := way_of_g F hF z hm
  exact ⟨es, h1, h2, h3, trap_yes_c (Γ := gam Z T26) (ι := ix) (ξ := xx) (by delta CheckFormS; rw [show ix 6 = 15 from rfl]; simp only [fn_26_15]; exact check_form_g) (by delta LostS; rw [show ix 49 = 24 from rfl]; simp only [fn_26_24]; exact lost_records_g) F hF z t hz _ (by rw [show ix 40 = 25 from rfl]; simp only [fn_26_25]; exact h4)⟩
theorem is_clean_g : ∀ F, FrmOk F → ∀ l : List (Option Int), l.length = F.fs.length → gis_clean [F.d, rcD l] = .ok (.bl (cleanL F l)) := is_clean_c (Γ := gam Z T27) (ι := ix) (ξ := xx) shown_of_g
theorem _law_snare_g : ∀ l l2, Rw l → Rw l2 → ∃ F, FrmOk F ∧ 2 ≤ F.fs.length ∧ g_law_snare [.lst (l.map .int), .lst (l2.map .int)] = .ok F.d := law_snare_c (Γ := gam Z T32) (ι := ix) (ξ := xx)
theorem has_trap_g : ∀ F, FrmOk F → ghas_trap [F.d] = .ok (.bl (!(lostL F).isEmpty)) := has_trap_c (Γ := gam Z T33) (ι := ix) (ξ := xx) (by delta CheckFormS; rw [show ix 6 = 15 from rfl]; simp only [fn_33_15]; exact check_form_g) (by delta LostS; rw [show ix 49 = 24 from rfl]; simp only [fn_33_24]; exact lost_records_g)
theorem cell_is (ns : List Int) (k : Nat) : (gam Z T31).fn 30 [.scr ns, .int k] = .ok (.int (cellA ns k)) := cell_ok (gam Z T30) ns k
theorem row_is (ns : List Int) (a : Nat) : ∃ l, Rw l ∧ g_law_row [.scr ns, .int a] = .ok (.lst (l.map .int)) := row_ok (gam Z T31) 30 ns (cell_is ns) a
end LK
namespace LK
open PySem L2 PD
def tl_4 : ISs := (.cons (.set 2 (.call 6 (.cons (.var 1) .nil))) (.cons (.set 3 (.call 8 (.cons (.var 1) (.cons (.var 2) .nil)))) (.cons (.set 4 (.call 29 (.cons (.con (.int 0)) (.cons (.var 1) .nil)))) (.cons (.ite (.bop false (.cons (.cmp .ne (.call 33 (.cons (.var 1) .nil)) (.cmp .ne (.var 3) (.lst .nil))) (.cons (.cmp .ne (.cmp .eq (.var 4) (.con (.str [110, 111, 110, 101]))) (.cmp .eq (.var 3) (.lst .nil))) .nil))) (.cons (.ret (.con (.bl false))) .nil) .nil) (.cons (.ite (.cmp .eq (.var 3) (.lst .nil)) (.cons (.ret (.con (.bl true))) .nil) .nil) (.cons (.set 5 (.bin .mul (.tup (.cons (.con .non) .nil)) (.bf .len (.cons (.idx (.var 1) (.con (.int 0))) .nil)))) (.cons (.for (.tup [8, 9]) (.any (.var 4)) blaw_1) (.cons (.ret (.bop true (.cons (.cmp .inn (.var 5) (.var 3)) (.cons (.cmp .eq (.bf .len (.cons (.var 4) .nil)) (.bf .min (.cons (.lc [("record", 11)] (.nm 11) (.any (.var 3)) .no elaw_1) .nil))) .nil)))) .nil))))))))
def tl_3 : ISs := (.cons (.ite (.cmp .gt (.bf .len (.cons (.idx (.var 1) (.con (.int 0))) .nil)) (.con (.int 3))) (.cons (.set 1 (.tup (.cons (.cut (.idx (.var 1) (.con (.int 0))) .no (.yes (.con (.int 3)))) (.cons (.bf .tuple (.cons (.lc [("rule", 10)] (.nm 10) (.any (.idx (.var 1) (.con (.int 1)))) tlaw_1 (.var 10)) .nil)) (.cons (.idx (.var 1) (.con (.int 2))) .nil))))) .nil) .nil) tl_4)
theorem blaw_eq : blaw = (.cons (.par 6 7 (.call 31 (.cons (.var 0) (.cons (.con (.int 4)) .nil))) (.call 31 (.cons (.var 0) (.cons (.con (.int 5)) .nil)))) (.cons (.set 1 (.call 1 (.cons (.var 6) (.cons (.var 7) (.cons (.tup (.cons (.con (.str [101, 110, 116, 114, 121])) (.cons (.con (.str [110, 101, 101, 100, 115])) (.cons (.con (.str [115, 101, 110, 100])) (.cons (.con (.str [115, 101, 110, 100])) .nil))))) .nil))))) (.cons (.ite (.cmp .eq (.bin .mod (.idx (.var 7) (.con (.int 59))) (.con (.int 2))) (.con (.int 0))) (.cons (.set 1 (.call 32 (.cons (.var 6) (.cons (.var 7) .nil)))) .nil) .nil) tl_3))) := rfl
end LK
local macro_rules
  | `(tactic| simp? only [$xs,*] $[$l:location]?) => `(tactic| simp only [PD.bnd_ok, PD.bnd_exc, PD.bnd_bad, PD.of_some', PD.of_none', PD.thenS_ok, PD.thenS_exc, PD.thenS_bad, PD.mapL_ok, PD.mapL_bad, PD.slD_dat, PD.slB_dat, PD.slB_own, PD.slD_succ, PD.slB_succ, PD.fNil_ap, PD.evE_var, PD.evB_var, PD.evT_var, PD.evE_con, PD.evB_con, PD.evE_glb, PD.evB_glb, PD.evE_bin, PD.evB_bin, PD.evN_add, PD.evN_mul, PD.evE_cmp, PD.evB_cmp, PD.evT_cmp, PD.evE_chain, PD.evB_chain, PD.evT_chain, PD.evE_isn, PD.evB_isn, PD.evT_isn, PD.evE_bop, PD.evB_bop, PD.evT_bop, PD.evsE_one, PD.evsT_one, PD.evsE_and, PD.evsE_or, PD.evsT_and, PD.evsT_or, PD.evE_not, PD.evB_not, PD.evT_not, PD.negD_int, PD.evE_neg, PD.evB_neg, PD.evE_ife, PD.evB_ife, PD.evN_ife, PD.evsA_nil, PD.evsAB_nil, PD.evsA_cons, PD.evsAB_cons, PD.evE_tup, PD.evB_tup, PD.evN_lst, PD.evE_lst, PD.evB_lst, PD.evE_idx, PD.evB_idx, PD.evT_idx, PD.evoP_no, PD.evoP_yes, PD.evoT_no, PD.evoT_yes, PD.intOf_int, PD.evE_cut, PD.evB_cut, PD.evN_cut, PD.evE_len, PD.evB_len, PD.evT_len, PD.evE_int, PD.evB_int, PD.evT_int, PD.evE_str, PD.evB_str, PD.evT_str, PD.evE_tuple, PD.evB_tuple, PD.evT_tuple, PD.evE_min, PD.evB_min, PD.evT_min, PD.evE_max, PD.evB_max, PD.evT_max, PD.evE_sum, PD.evB_sum, PD.evT_sum, PD.evN_list, PD.evE_list, PD.evB_list, PD.evN_sorted, PD.evE_sorted, PD.evB_sorted, PD.evE_isi, PD.evB_isi, PD.evT_isi, PD.evE_ise, PD.evB_ise, PD.evT_ise, PD.evE_call, PD.evB_call, PD.evT_call, PD.evN_lc, PD.evE_lc, PD.evB_lc, PD.evT_lc, PD.eviB_any, PD.eviF_any, PD.eviB_rng1, PD.eviF_rng1, PD.eviB_rng2, PD.eviF_rng2, PD.eviB_enm, PD.eviF_enm, PD.eviB_zip, PD.eviF_zip, PD.evE_lset, PD.evB_lset, PD.evE_sset, PD.evB_sset, PD.evN_sset, PD.evE_call0, PD.evB_call0, PD.evE_join, PD.evB_join, PD.evE_stp, PD.evB_stp, PD.evN_stp, PD.evE_ixo, PD.evB_ixo, PD.evE_minp, PD.evB_minp, PD.evE_din, PD.evB_din, PD.evT_din, PD.evE_dget, PD.evB_dget, PD.evE_dlen, PD.evB_dlen, PD.evE_dgd, PD.evB_dgd, PD.eviB_dit, PD.eviF_dit, PD.isLst_lst, PD.isStr_str, PD.itemsD_lst, PD.itemsD_tup, PD.itemsD_str, PD.at_next, PD.at_ret, PD.at_exc, PD.at_bad, PD.at_brk, PD.at_cont, PD.exs_nil, PD.exs_cons, PD.optO_some, PD.exs_frz, PD.ex_ret, PD.ex_retN, PD.ex_pass, PD.ex_set, PD.ex_new, PD.ex_tset, PD.ex_par, PD.ex_parN, PD.ex_dput, PD.ex_dnew, PD.ex_par3, PD.ex_trp, PD.ex_parM, PD.ex_tuM, PD.ex_dnew0, PD.ex_fpg, PD.ex_fro, PD.ex_aug, PD.augD_int, PD.ex_app, PD.ex_ext, PD.ex_expr, PD.ex_ite, PD.ex_whl, PD.ex_for, PD.ex_raise, PD.tryO_exc, PD.tryO_ret, PD.tryO_next, PD.tryO_cont, PD.tryO_brk, PD.tryO_bad, PD.ex_tri, PD.selO_t, PD.selO_f, PD.hdD_nil, PD.hdD_cons, PD.clrS_nil, PD.clrS_dat, PD.clrS_none, PD.clrS_own, PD.clrS_exc, PD.unS_next, PD.unS_ret, PD.iseO_exc, PD.iseF_t, PD.exh_nil, PD.exh_cons, PD.outR_ret, PD.outR_next, PD.outR_exc, PD.gam_gl, PD.gam_sub, PD.gam_own, PD.setT_nm, PD.setT_tup, PD.isNon_int, PD.isNon_non, PD.isNon_tup, PD.truD_int, PD.truD_bl, PD.truD_non, PD.truD_str, PD.truD_lst, PD.truD_tup, PD.add_int, PD.sub_int, PD.lt_int, PD.le_int, PD.gt_int, PD.ge_int, PD.eq_int, PD.ne_int, PD.eq_str, PD.ne_str, PD.len_str, PD.len_lst, PD.len_tup, PD.len_scr, PD.int_int, PD.idx_lst, PD.idx_tup, PD.idx_str, PD.idx_scr, PD.isi_ib, PD.slC, PD.slCF, PD.isDow, PD.putS, PD.par3S, PD.trpS, PD.parMS, PD.asgS, PD.appS, PD.extS, PD.wipeS, PD.isOwn, PD.frzS, PD.setS, List.length_cons, List.length_nil, List.set_cons_zero, List.set_cons_succ, List.getElem?_cons_zero, List.getElem?_cons_succ, List.map_cons, List.map_nil, List.cons_append, List.nil_append, List.replicate_succ, List.replicate_zero, if_true, ite_true, ite_false, decide_true, decide_false, Bool.not_true, Bool.not_false, Bool.false_eq_true, Nat.reduceAdd, Nat.reduceSub, Nat.reduceLT, Nat.reduceLeDiff, ↓reduceIte, Nat.zero_lt_succ, Nat.lt_add_left_iff_pos, Int.reduceEq, Int.reduceLT, Int.reduceLE, LK.sub_1_3, LK.sub_1_0, LK.sub_1_2, LK.sub_3_3, LK.sub_3_0, LK.sub_3_2, LK.own_1, LK.own_3, LK.fn_1_0, LK.fn_4_3, LK.fn_5_3, LK.fn_5_4, LK.fn_6_2, LK.fn_6_5, LK.fn_7_3, LK.fn_7_4, LK.fn_8_2, LK.fn_8_5, LK.fn_8_7, LK.fn_10_9, LK.fn_11_9, LK.fn_11_10, LK.fn_12_10, LK.fn_12_11, LK.fn_13_9, LK.fn_14_12, LK.fn_14_13, LK.fn_15_14, LK.fn_20_18, LK.fn_20_19, LK.fn_21_18, LK.fn_21_19, LK.fn_21_20, LK.fn_22_16, LK.fn_22_17, LK.fn_22_21, LK.fn_23_18, LK.fn_23_20, LK.fn_24_17, LK.fn_24_21, LK.fn_24_22, LK.fn_24_23, LK.fn_26_15, LK.fn_26_24, LK.fn_26_25, LK.fn_27_18, LK.fn_29_26, LK.fn_29_28, LK.fn_31_30, LK.fn_33_15, LK.fn_33_24, LK.fn_34_1, LK.fn_34_5, LK.fn_34_6, LK.fn_34_8, LK.fn_34_29, LK.fn_34_31, LK.fn_34_32, LK.fn_34_33, $xs,*] $[$l:location]?)
namespace LK
open PySem L2 PD
noncomputable abbrev st (ns l l2 : List Int) (F : Frm) (s4 s5 s8 s9 s11 : S) : List S := [.dat (.scr ns), .dat F.d, .dat (szT F), .dat (.lst ((lostL F).map keyD)), s4, s5, .dat (.lst (l.map .int)), .dat (.lst (l2.map .int)), s8, s9, .none, s11, .none]
theorem run_loop (ns l l2 : List Int) (F : Frm) (hF : FrmOk F) (s4 s8 s9 s11 : S) (es : List (Nat × Option Int)) (hes : ∀ e ∈ es, e ∈ entsL F.fs) : ∃ s8' s9', forD (.tup [8, 9]) (exs (gam Z T34) false blaw_1) (es.map enD) (st ns l l2 F s4 (.dat (rcD (blankL F))) s8 s9 s11) = .next (st ns l l2 F s4 (.dat (orD (runL F es))) s8' s9' s11) := by
  obtain ⟨δ', ef, _, s8', s9', rfl⟩ := forD_pre (t := .tup [8, 9]) (body := exs (gam Z T34) false blaw_1) enD (fun (o : Option Rc) δ => (∀ w, o = some w → w.length = F.fs.length) ∧ ∃ s8 s9, δ = st ns l l2 F s4 (.dat (orD o)) s8 s9 s11) (stepO F) es (some (blankL F)) (st ns l l2 F s4 (.dat (rcD (blankL F))) s8 s9 s11) ⟨fun w hw => by cases hw; simp [blankL], _, _, rfl⟩ (fun pre e post he δ hJ => by
    obtain ⟨hlen, s8, s9, rfl⟩ := hJ
    have hm : e ∈ es := by rw [he]; simp
    have ek := ents_ok (hes e hm)
    generalize pre.foldl (stepO F) (some (blankL F)) = o at hlen
    cases o with
    | none =>
      refine ⟨st ns l l2 F s4 (.dat .non) (.dat (.int e.1)) (.dat (oD e.2)) s11, by simp? only [st, orD, enD], _, .inl ?_, ⟨(fun w hw => by cases hw), .dat (.int e.1), .dat (oD e.2), rfl⟩⟩
      simp? only [st, blaw_1, orD, stepO, Option.bind_none]
    | some now =>
      have hl := hlen now rfl
      have hi : e.1 < now.length := by
        obtain ⟨f, hf, _⟩ := ek
        rw [hl]; exact lt_of_get hf
      have hx := _law_entry_g F hF now hl e.1 hi e.2
      have n1 : isNonD (rcD now) = false := rfl
      refine ⟨st ns l l2 F s4 (.dat (rcD now)) (.dat (.int e.1)) (.dat (oD e.2)) s11, by simp? only [st, orD, enD], _, .inl ?_, ⟨(fun w hw => ?_), .dat (.int e.1), .dat (oD e.2), rfl⟩⟩
      · simp? only [st, blaw_1, n1, hx, stepO, Option.bind_some]
      · rw [(entered_set hw).1, List.length_set]; exact hl)
  exact ⟨s8', s9', ef⟩
theorem trap_no (F : Frm) (hF : FrmOk F) (h : lostL F = []) : g_law_trapped [.int 0, F.d] = .ok (.str [110, 111, 110, 101]) := by
  have e := (trap_entries_g F hF).2 h
  simp? only [g_law_trapped, evF, b_law_trapped, e]
theorem trap_yes (F : Frm) (hF : FrmOk F) (z : Nd) (t : List Nd) (h : lostL F = z :: t) : ∃ es : List (Nat × Option Int), es.length = z.dep ∧ runL F es = some z.key ∧ (∀ e ∈ es, e ∈ entsL F.fs) ∧ g_law_trapped [.int 0, F.d] = .ok (.tup (es.map enD)) := by
  obtain ⟨es, h1, h2, h3, h4⟩ := (trap_entries_g F hF).1 z t h
  refine ⟨es, h1, h2, h3, ?_⟩
  simp? only [g_law_trapped, evF, b_law_trapped, h4]
theorem lost_min {F : Frm} {z : Nd} {t : List Nd} (h : lostL F = z :: t) : bfD .min [.lst ((lostL F).map dvD)] = some (.int (z.dep : Int)) := by
  unfold lostL at h ⊢
  refine stale_min ?_
  rw [← List.head?_filter, h]
  rfl
theorem tail4 (ns l l2 : List Int) (F : Frm) (hF : FrmOk F) : exs (gam Z T34) false tl_4 [.dat (.scr ns), .dat F.d, .none, .none, .none, .none, .dat (.lst (l.map .int)), .dat (.lst (l2.map .int)), .none, .none, .none, .none, .none] = .ret (.bl true) := by
  have hz0 : 0 ≤ szN := Nat.zero_le _
  have hz1 : 1 ≤ szN := by decide
  obtain ⟨d, ti⟩ := tree_ti F
  have gl := _law_lost_records_g F hF
  have gh := has_trap_g F hF
  have gf := _law_filled_up_g F hF
  have hne := ne_nil ((lostL F).map keyD) (noScr_keys _) (dep_keys _)
  have hen := eq_nil ((lostL F).map keyD) (noScr_keys _) (dep_keys _)
  rw [List.isEmpty_map] at hne hen
  have b1 : cmpD .ne (.bl false) (.bl false) = some false := rfl
  have b2 : cmpD .ne (.bl true) (.bl true) = some false := rfl
  simp only [szT] at gl
  cases hL : lostL F with
  | nil =>
    have ht := trap_no F hF hL
    have he : (lostL F).isEmpty = true := by rw [hL]; rfl
    rw [he] at gh hne hen
    have hst : decide (([110, 111, 110, 101] : List Nat) = [110, 111, 110, 101]) = true := by decide
    simp? only [tl_4, gf, gl, ht, gh, hz0, hne, hen, b1, b2, hst]
  | cons z t =>
    obtain ⟨es, h1, h2, h3, h4⟩ := trap_yes F hF z t hL
    have he : (lostL F).isEmpty = false := by rw [hL]; rfl
    rw [he] at gh hne hen
    have hq := eqT_str (es.map enD) [110, 111, 110, 101] (noScrs_map _ noScr_en _) (Nat.le_trans (deps_map _ 1 dep_en _) (by decide))
    have hlen : (((es.map enD).length : Nat) : Int) = (z.dep : Int) := by rw [List.length_map, h1]
    have hfl : (((F.fs.map Fld.d).length : Nat) : Int) = (F.fs.length : Int) := by rw [List.length_map]
    have hmn := mul_none F.fs.length (fs_pos hF) hF.le
    have hb : rcD (List.replicate F.fs.length none) = rcD (blankL F) := rfl
    rw [hb] at hmn
    have hit : itemsD (.tup (es.map enD)) = .ok (es.map enD) := rfl
    obtain ⟨s8, s9, ef⟩ := run_loop ns l l2 F hF (.dat (.tup (es.map enD))) .none .none .none es h3
    rw [h2] at ef
    have hin : cmpD .inn (rcD z.key) (.lst ((lostL F).map keyD)) = some true := by
      have e1 : (lostL F).map keyD = ((lostL F).map Nd.key).map rcD := by rw [List.map_map]; rfl
      have e2 := in_recs (some z.key) ((lostL F).map Nd.key)
      have e3 : inO ((lostL F).map Nd.key) (some z.key) = true := by
        show decide (z.key ∈ (lostL F).map Nd.key) = true
        rw [decide_eq_true_eq, hL]
        exact List.mem_cons_self
      rw [e1]
      rw [e3] at e2
      exact e2
    have hmem : ∀ x ∈ lostL F, x ∈ treeN F := fun x hx => by
      unfold lostL at hx
      exact (List.mem_filter.mp hx).1
    have lc := fun s8 s9 => lcD_map (t := .nm 11) (tst := (evo (gam Z T34) false .no).T) (elt := (ev (gam Z T34) false elaw_1).E) (δ := st ns l l2 F (.dat (.tup (es.map enD))) (.dat (rcD z.key)) s8 s9 .none) keyD (fun _ => true) dvD (xs := lostL F) (fun x hx =>
      ⟨st ns l l2 F (.dat (.tup (es.map enD))) (.dat (rcD z.key)) s8 s9 (.dat (rcD x.key)), by simp? only [st], by simp? only [], fun _ => by
        obtain ⟨i, hi⟩ := List.getElem?_of_mem (hmem x hx)
        have hf := find_at dvD ti.nd hi
        simp? only [st, szT, elaw_1, keyOf_rc, hf]⟩)
    have hfe : (lostL F).filter (fun _ => true) = lostL F := List.filter_eq_self.mpr fun _ _ => rfl
    rw [hfe] at lc
    have hmin := lost_min hL
    have hd : decide ((z.dep : Int) = (z.dep : Int)) = true := by simp
    simp only [st, szT, orD] at ef lc
    simp? only [tl_4, gf, gl, h4, gh, hz0, hz1, hne, hen, b1, b2, hq, FD_0, hfl, hmn, hit, ef, hin, hlen, lc, hmin, hd]
def cutF (F : Frm) : Frm := ⟨F.fs.take 3, F.rs.filter fun r => !decide (3 ∈ r.ps.map (·.1)), F.al⟩
theorem cut_ok {F : Frm} (hF : FrmOk F) (h4 : F.fs.length = 4) : FrmOk (cutF F) := by
  refine ⟨?_, ?_, fun i f hf => ?_, Nat.le_trans (List.length_filter_le _ _) hF.rle, fun r hr => ?_⟩
  · intro z
    have := congrArg List.length z
    simp [cutF, h4] at this
  · show (F.fs.take 3).length ≤ 4
    rw [List.length_take]; omega
  · have hf' : (F.fs.take 3)[i]? = some f := hf
    have hi := lt_of_get hf'
    rw [List.length_take] at hi
    rw [List.getElem?_take_of_lt (by omega)] at hf'
    have := hF.fld i f hf'
    show FldOk ((F.fs.take 3).take i) f
    rw [List.take_take, Nat.min_eq_left (by omega)]
    exact this
  · obtain ⟨h1, h2⟩ := List.mem_filter.mp hr
    obtain ⟨r1, r2, r3, r4, r5, r6⟩ := hF.rul r h1
    refine ⟨r1, r2, r3, r4, r5, fun p hp => ?_⟩
    obtain ⟨g, hg, hm⟩ := r6 p hp
    have hne : p.1 ≠ 3 := fun z => by
      have hm3 : 3 ∈ r.ps.map (·.1) := List.mem_map.mpr ⟨p, hp, z⟩
      have h3 : decide (3 ∈ r.ps.map (·.1)) = true := by rw [decide_eq_true_eq]; exact hm3
      rw [h3] at h2
      cases h2
    have hl := lt_of_get hg
    refine ⟨g, ?_, hm⟩
    show (F.fs.take 3)[p.1]? = some g
    rw [List.getElem?_take_of_lt (by omega)]
    exact hg
theorem tail3 (ns l l2 : List Int) (F : Frm) (hF : FrmOk F) : exs (gam Z T34) false tl_3 [.dat (.scr ns), .dat F.d, .none, .none, .none, .none, .dat (.lst (l.map .int)), .dat (.lst (l2.map .int)), .none, .none, .none, .none, .none] = .ret (.bl true) := by
  have hz3 : 3 ≤ szN := by decide
  have hfl : (((F.fs.map Fld.d).length : Nat) : Int) = (F.fs.length : Int) := by rw [List.length_map]
  by_cases c : 3 < F.fs.length
  · have c' : decide ((3 : Int) < (F.fs.length : Int)) = true := by simp; omega
    have hle := hF.le
    have hc := cut_ok hF (by omega)
    have c1 : cutD (.tup (F.fs.map Fld.d)) none (some 3) = some (.tup ((F.fs.take 3).map Fld.d)) := by
      show some (D.tup (cutL _ none (some ((3 : Nat) : Int)))) = _
      rw [cutL_take, List.map_take]
    have lc := lcD_map (t := .nm 10) (tst := (evo (gam Z T34) false tlaw_1).T) (elt := (ev (gam Z T34) false (.var 10)).E) (δ := [.dat (.scr ns), .dat F.d, .none, .none, .none, .none, .dat (.lst (l.map .int)), .dat (.lst (l2.map .int)), .none, .none, .none, .none, .none]) Rul.d (fun r => !decide (3 ∈ r.ps.map (·.1))) Rul.d (xs := F.rs) (fun r hr =>
      ⟨[.dat (.scr ns), .dat F.d, .none, .none, .none, .none, .dat (.lst (l.map .int)), .dat (.lst (l2.map .int)), .none, .none, .dat r.d, .none, .none], by simp? only [], by
        have lc2 := lcD_map (t := .tup [12, 9]) (tst := (evo (gam Z T34) false .no).T) (elt := (ev (gam Z T34) false (.var 12)).E) (δ := [.dat (.scr ns), .dat F.d, .none, .none, .none, .none, .dat (.lst (l.map .int)), .dat (.lst (l2.map .int)), .none, .none, .dat r.d, .none, .none]) PD.prD (fun _ => true) (fun p => D.int p.1) (xs := r.ps) (fun p hp =>
          ⟨[.dat (.scr ns), .dat F.d, .none, .none, .none, .none, .dat (.lst (l.map .int)), .dat (.lst (l2.map .int)), .none, .dat (.int p.2), .dat r.d, .none, .dat (.int p.1)], by simp? only [PD.prD], by simp? only [], fun _ => by simp? only []⟩)
        rw [List.filter_eq_self.mpr (fun _ _ => rfl)] at lc2
        have e1 : (r.ps.map fun p => D.int p.1) = nD (r.ps.map (·.1)) := by rw [nD, List.map_map]; rfl
        rw [e1] at lc2
        have hn : cmpD .nin (.int 3) (.lst (nD (r.ps.map (·.1)))) = some (!decide (3 ∈ r.ps.map (·.1))) := nin_nD 3 _
        simp? only [tlaw_1, rD_1, lc2, hn], fun _ => by simp? only []⟩)
    have ht : bfD .tuple [.lst ((F.rs.filter fun r => !decide (3 ∈ r.ps.map (·.1))).map Rul.d)] = some (.tup ((cutF F).rs.map Rul.d)) := rfl
    have hd : D.tup [.tup ((F.fs.take 3).map Fld.d), .tup ((cutF F).rs.map Rul.d), .str (sendS F.al)] = (cutF F).d := rfl
    have t4 := tail4 ns l l2 (cutF F) hc
    simp? only [tl_3, FD_0, FD_1, FD_2, hfl, c', c1, lc, ht, hz3, hd, t4]
  · have c' : decide ((3 : Int) < (F.fs.length : Int)) = false := by simp; omega
    have t4 := tail4 ns l l2 F hF
    simp? only [tl_3, FD_0, hfl, c', t4]
theorem law_true (ns : List Int) (h : ns.length ≤ 63) : glaw [.scr ns] = .ok (.bl true) := by
  obtain ⟨l, hl, e4⟩ := row_is ns 4
  obtain ⟨l2, hl2, e5⟩ := row_is ns 5
  have e4' : g_law_row [.scr ns, .int 4] = .ok (.lst (l.map .int)) := e4
  have e5' : g_law_row [.scr ns, .int 5] = .ok (.lst (l2.map .int)) := e5
  obtain ⟨F, hF, _, ef⟩ := _law_form_g l l2 hl hl2 [0, 1, 2, 2] (by simp)
  have ef' : g_law_form [.lst (l.map .int), .lst (l2.map .int), .tup [.str [101, 110, 116, 114, 121], .str [110, 101, 101, 100, 115], .str [115, 101, 110, 100], .str [115, 101, 110, 100]]] = .ok F.d := ef
  obtain ⟨Fs, hFs, _, es⟩ := _law_snare_g l l2 hl hl2
  have hz4 : 4 ≤ szN := by decide
  have a1 := atZ hl2 59 (by decide) (by decide)
  have hm := mod_int (dr l2 (59 : Int).toNat : Int) 2 (by omega)
  have t1 := tail3 ns l l2 F hF
  have t2 := tail3 ns l l2 Fs hFs
  by_cases c : ((dr l2 (59 : Int).toNat : Int) % 2 = 0)
  · simp? only [glaw, evF, blaw_eq, e4', e5', hz4, ef', parS, and_self, a1, hm, c, es, t2]
  · simp? only [glaw, evF, blaw_eq, e4', e5', hz4, ef', parS, and_self, a1, hm, c, t1]
end LK
namespace LK
open PySem PySem.Spec PyProof.Rows L2 PD
def topS (i : Nat) : Stmt := PySem.Challenge.pw_keymasks_k40_whole_traps.main.body.getD i (.Pass ⟨0, 0, 0, 0⟩)
abbrev st_law_values : Stmt := topS 32
abbrev st_law_form : Stmt := topS 33
abbrev st_law_entries : Stmt := topS 38
abbrev st_law_shown : Stmt := topS 34
abbrev st_law_holds : Stmt := topS 35
abbrev st_law_entry : Stmt := topS 36
abbrev st_law_filled_up : Stmt := topS 39
abbrev st_law_sends : Stmt := topS 37
abbrev st_law_lost_records : Stmt := topS 40
abbrev stin_range : Stmt := topS 6
abbrev stare_values : Stmt := topS 8
abbrev stare_conditions : Stmt := topS 9
abbrev stare_fields : Stmt := topS 10
abbrev stis_rule : Stmt := topS 11
abbrev stis_form : Stmt := topS 12
abbrev stcheck_form : Stmt := topS 13
abbrev stblank : Stmt := topS 22
abbrev stentries_of : Stmt := topS 21
abbrev stshown_of : Stmt := topS 14
abbrev stholds : Stmt := topS 15
abbrev stbroken_of : Stmt := topS 16
abbrev stentered : Stmt := topS 17
abbrev stfilled : Stmt := topS 23
abbrev stcan_send_of : Stmt := topS 18
abbrev stlost_records : Stmt := topS 25
abbrev stway_of : Stmt := topS 24
abbrev sttrap_entries : Stmt := topS 27
abbrev stis_clean : Stmt := topS 19
abbrev ststale_entries : Stmt := topS 28
abbrev st_law_trapped : Stmt := topS 41
abbrev st_law_cell : Stmt := topS 30
abbrev st_law_row : Stmt := topS 31
abbrev st_law_snare : Stmt := topS 42
abbrev sthas_trap : Stmt := topS 26
abbrev stlaw : Stmt := topS 43
abbrev Q (fn : List Str) : PD.Ctx := { N := [], sc := { kind := .function, names := [], isGenerator := false, isCoroutine := false, more := [] }, blk := none, fnN := fn, glN := [], clN := ["MaskError", "InvalidForm", "NoWay", "NoTrap"] }
theorem sc_law_values : FnScope ["draws", "at", "found", "spot"] ["draws", "at"] (defScope st_law_values) := ⟨rfl, rfl, rfl, by decide +kernel, rfl, by decide +kernel, by decide +kernel⟩
theorem ck_law_values : chkSs { Q [] with N := ["draws", "at", "found", "spot"], sc := defScope st_law_values, blk := none } b_law_values (defBody st_law_values) = true := by decide +kernel
theorem sc_law_form : FnScope ["draws", "more", "kinds", "fields", "number", "rules", "conditions", "other", "order", "pairs", "at", "kind", "values", "some", "value", "field"] ["draws", "more", "kinds"] (defScope st_law_form) := ⟨rfl, rfl, rfl, by decide +kernel, rfl, by decide +kernel, by decide +kernel⟩
theorem ck_law_form : chkSs { Q ["_law_values"] with N := ["draws", "more", "kinds", "fields", "number", "rules", "conditions", "other", "order", "pairs", "at", "kind", "values", "some", "value", "field"], sc := defScope st_law_form, blk := none } b_law_form (defBody st_law_form) = true := by decide +kernel
theorem sc_law_entries : FnScope ["form", "found", "number", "value"] ["form"] (defScope st_law_entries) := ⟨rfl, rfl, rfl, by decide +kernel, rfl, by decide +kernel, by decide +kernel⟩
theorem ck_law_entries : chkSs { Q ["_law_values", "_law_form"] with N := ["form", "found", "number", "value"], sc := defScope st_law_entries, blk := none } b_law_entries (defBody st_law_entries) = true := by decide +kernel
theorem sc_law_shown : FnScope ["form", "record", "found", "number", "open_here", "other", "some"] ["form", "record"] (defScope st_law_shown) := ⟨rfl, rfl, rfl, by decide +kernel, rfl, by decide +kernel, by decide +kernel⟩
theorem ck_law_shown : chkSs { Q ["_law_values", "_law_form", "_law_entries"] with N := ["form", "record", "found", "number", "open_here", "other", "some"], sc := defScope st_law_shown, blk := none } b_law_shown (defBody st_law_shown) = true := by decide +kernel
theorem sc_law_holds : FnScope ["form", "record", "pairs", "open_here", "field", "value"] ["form", "record", "pairs"] (defScope st_law_holds) := ⟨rfl, rfl, rfl, by decide +kernel, rfl, by decide +kernel, by decide +kernel⟩
theorem ck_law_holds : chkSs { Q ["_law_values", "_law_form", "_law_entries", "_law_shown"] with N := ["form", "record", "pairs", "open_here", "field", "value"], sc := defScope st_law_holds, blk := none } b_law_holds (defBody st_law_holds) = true := by decide +kernel
theorem sc_law_entry : FnScope ["form", "record", "field", "value", "after", "kind", "pairs"] ["form", "record", "field", "value"] (defScope st_law_entry) := ⟨rfl, rfl, rfl, by decide +kernel, rfl, by decide +kernel, by decide +kernel⟩
theorem ck_law_entry : chkSs { Q ["_law_values", "_law_form", "_law_entries", "_law_shown", "_law_holds"] with N := ["form", "record", "field", "value", "after", "kind", "pairs"], sc := defScope st_law_entry, blk := none } b_law_entry (defBody st_law_entry) = true := by decide +kernel
theorem sc_law_filled_up : FnScope ["form", "first", "found", "level", "every", "later", "record", "field", "value", "after"] ["form"] (defScope st_law_filled_up) := ⟨rfl, rfl, rfl, by decide +kernel, rfl, by decide +kernel, by decide +kernel⟩
theorem ck_law_filled_up : chkSs { Q ["_law_values", "_law_form", "_law_entries", "_law_shown", "_law_holds", "_law_entry"] with N := ["form", "first", "found", "level", "every", "later", "record", "field", "value", "after"], sc := defScope st_law_filled_up, blk := none } b_law_filled_up (defBody st_law_filled_up) = true := by decide +kernel
theorem sc_law_sends : FnScope ["form", "record", "at", "kind", "pairs"] ["form", "record"] (defScope st_law_sends) := ⟨rfl, rfl, rfl, by decide +kernel, rfl, by decide +kernel, by decide +kernel⟩
theorem ck_law_sends : chkSs { Q ["_law_values", "_law_form", "_law_entries", "_law_shown", "_law_holds", "_law_entry", "_law_filled_up"] with N := ["form", "record", "at", "kind", "pairs"], sc := defScope st_law_sends, blk := none } b_law_sends (defBody st_law_sends) = true := by decide +kernel
theorem sc_law_lost_records : FnScope ["form", "sizes", "every", "good", "size", "record", "field", "value"] ["form", "sizes"] (defScope st_law_lost_records) := ⟨rfl, rfl, rfl, by decide +kernel, rfl, by decide +kernel, by decide +kernel⟩
theorem ck_law_lost_records : chkSs { Q ["_law_values", "_law_form", "_law_entries", "_law_shown", "_law_holds", "_law_entry", "_law_filled_up", "_law_sends"] with N := ["form", "sizes", "every", "good", "size", "record", "field", "value"], sc := defScope st_law_lost_records, blk := none } b_law_lost_records (defBody st_law_lost_records) = true := by decide +kernel
theorem scin_range : FnScope ["value", "low", "high"] ["value", "low", "high"] (defScope stin_range) := ⟨rfl, rfl, rfl, by decide +kernel, rfl, by decide +kernel, by decide +kernel⟩
theorem ckin_range : chkSs { Q ["_law_values", "_law_form", "_law_entries", "_law_shown", "_law_holds", "_law_entry", "_law_filled_up", "_law_sends", "_law_lost_records"] with N := ["value", "low", "high"], sc := defScope stin_range, blk := none } bin_range (defBody stin_range) = true := by decide +kernel
theorem scare_values : FnScope ["value", "most", "one", "other"] ["value", "most"] (defScope stare_values) := ⟨rfl, rfl, rfl, by decide +kernel, rfl, by decide +kernel, by decide +kernel⟩
theorem ckare_values : chkSs { Q ["_law_values", "_law_form", "_law_entries", "_law_shown", "_law_holds", "_law_entry", "_law_filled_up", "_law_sends", "_law_lost_records", "in_range"] with N := ["value", "most", "one", "other"], sc := defScope stare_values, blk := none } bare_values (defBody stare_values) = true := by decide +kernel
theorem scare_conditions : FnScope ["value", "fields", "one", "other"] ["value", "fields"] (defScope stare_conditions) := ⟨rfl, rfl, rfl, by decide +kernel, rfl, by decide +kernel, by decide +kernel⟩
theorem ckare_conditions : chkSs { Q ["_law_values", "_law_form", "_law_entries", "_law_shown", "_law_holds", "_law_entry", "_law_filled_up", "_law_sends", "_law_lost_records", "in_range", "are_values"] with N := ["value", "fields", "one", "other"], sc := defScope stare_conditions, blk := none } bare_conditions (defBody stare_conditions) = true := by decide +kernel
theorem scare_fields : FnScope ["value", "number", "one"] ["value"] (defScope stare_fields) := ⟨rfl, rfl, rfl, by decide +kernel, rfl, by decide +kernel, by decide +kernel⟩
theorem ckare_fields : chkSs { Q ["_law_values", "_law_form", "_law_entries", "_law_shown", "_law_holds", "_law_entry", "_law_filled_up", "_law_sends", "_law_lost_records", "in_range", "are_values", "are_conditions"] with N := ["value", "number", "one"], sc := defScope stare_fields, blk := none } bare_fields (defBody stare_fields) = true := by decide +kernel
theorem scis_rule : FnScope ["fields", "value", "pair", "kind", "pairs", "field"] ["fields", "value"] (defScope stis_rule) := ⟨rfl, rfl, rfl, by decide +kernel, rfl, by decide +kernel, by decide +kernel⟩
theorem ckis_rule : chkSs { Q ["_law_values", "_law_form", "_law_entries", "_law_shown", "_law_holds", "_law_entry", "_law_filled_up", "_law_sends", "_law_lost_records", "in_range", "are_values", "are_conditions", "are_fields"] with N := ["fields", "value", "pair", "kind", "pairs", "field"], sc := defScope stis_rule, blk := none } bis_rule (defBody stis_rule) = true := by decide +kernel
theorem scis_form : FnScope ["value", "one"] ["value"] (defScope stis_form) := ⟨rfl, rfl, rfl, by decide +kernel, rfl, by decide +kernel, by decide +kernel⟩
theorem ckis_form : chkSs { Q ["_law_values", "_law_form", "_law_entries", "_law_shown", "_law_holds", "_law_entry", "_law_filled_up", "_law_sends", "_law_lost_records", "in_range", "are_values", "are_conditions", "are_fields", "is_rule"] with N := ["value", "one"], sc := defScope stis_form, blk := none } bis_form (defBody stis_form) = true := by decide +kernel
theorem sccheck_form : FnScope ["form"] ["form"] (defScope stcheck_form) := ⟨rfl, rfl, rfl, by decide +kernel, rfl, by decide +kernel, by decide +kernel⟩
theorem ckcheck_form : chkSs { Q ["_law_values", "_law_form", "_law_entries", "_law_shown", "_law_holds", "_law_entry", "_law_filled_up", "_law_sends", "_law_lost_records", "in_range", "are_values", "are_conditions", "are_fields", "is_rule", "is_form"] with N := ["form"], sc := defScope stcheck_form, blk := none } bcheck_form (defBody stcheck_form) = true := by decide +kernel
theorem scblank : FnScope ["form"] ["form"] (defScope stblank) := ⟨rfl, rfl, rfl, by decide +kernel, rfl, by decide +kernel, by decide +kernel⟩
theorem ckblank : chkSs { Q ["_law_values", "_law_form", "_law_entries", "_law_shown", "_law_holds", "_law_entry", "_law_filled_up", "_law_sends", "_law_lost_records", "in_range", "are_values", "are_conditions", "are_fields", "is_rule", "is_form", "check_form"] with N := ["form"], sc := defScope stblank, blk := none } bblank (defBody stblank) = true := by decide +kernel
theorem scentries_of : FnScope ["form", "found", "number", "field", "value"] ["form"] (defScope stentries_of) := ⟨rfl, rfl, rfl, by decide +kernel, rfl, by decide +kernel, by decide +kernel⟩
theorem ckentries_of : chkSs { Q ["_law_values", "_law_form", "_law_entries", "_law_shown", "_law_holds", "_law_entry", "_law_filled_up", "_law_sends", "_law_lost_records", "in_range", "are_values", "are_conditions", "are_fields", "is_rule", "is_form", "check_form", "blank"] with N := ["form", "found", "number", "field", "value"], sc := defScope stentries_of, blk := none } bentries_of (defBody stentries_of) = true := by decide +kernel
theorem scshown_of : FnScope ["form", "record", "found", "number", "field", "other", "values"] ["form", "record"] (defScope stshown_of) := ⟨rfl, rfl, rfl, by decide +kernel, rfl, by decide +kernel, by decide +kernel⟩
theorem ckshown_of : chkSs { Q ["_law_values", "_law_form", "_law_entries", "_law_shown", "_law_holds", "_law_entry", "_law_filled_up", "_law_sends", "_law_lost_records", "in_range", "are_values", "are_conditions", "are_fields", "is_rule", "is_form", "check_form", "blank", "entries_of"] with N := ["form", "record", "found", "number", "field", "other", "values"], sc := defScope stshown_of, blk := none } bshown_of (defBody stshown_of) = true := by decide +kernel
theorem scholds : FnScope ["there", "record", "pairs", "field", "value"] ["there", "record", "pairs"] (defScope stholds) := ⟨rfl, rfl, rfl, by decide +kernel, rfl, by decide +kernel, by decide +kernel⟩
theorem ckholds : chkSs { Q ["_law_values", "_law_form", "_law_entries", "_law_shown", "_law_holds", "_law_entry", "_law_filled_up", "_law_sends", "_law_lost_records", "in_range", "are_values", "are_conditions", "are_fields", "is_rule", "is_form", "check_form", "blank", "entries_of", "shown_of"] with N := ["there", "record", "pairs", "field", "value"], sc := defScope stholds, blk := none } bholds (defBody stholds) = true := by decide +kernel
theorem scbroken_of : FnScope ["form", "record", "kinds", "there", "number", "rule"] ["form", "record", "kinds"] (defScope stbroken_of) := ⟨rfl, rfl, rfl, by decide +kernel, rfl, by decide +kernel, by decide +kernel⟩
theorem ckbroken_of : chkSs { Q ["_law_values", "_law_form", "_law_entries", "_law_shown", "_law_holds", "_law_entry", "_law_filled_up", "_law_sends", "_law_lost_records", "in_range", "are_values", "are_conditions", "are_fields", "is_rule", "is_form", "check_form", "blank", "entries_of", "shown_of", "holds"] with N := ["form", "record", "kinds", "there", "number", "rule"], sc := defScope stbroken_of, blk := none } bbroken_of (defBody stbroken_of) = true := by decide +kernel
theorem scentered : FnScope ["form", "record", "field", "value", "there", "after", "kind", "pairs"] ["form", "record", "field", "value"] (defScope stentered) := ⟨rfl, rfl, rfl, by decide +kernel, rfl, by decide +kernel, by decide +kernel⟩
theorem ckentered : chkSs { Q ["_law_values", "_law_form", "_law_entries", "_law_shown", "_law_holds", "_law_entry", "_law_filled_up", "_law_sends", "_law_lost_records", "in_range", "are_values", "are_conditions", "are_fields", "is_rule", "is_form", "check_form", "blank", "entries_of", "shown_of", "holds", "broken_of"] with N := ["form", "record", "field", "value", "there", "after", "kind", "pairs"], sc := defScope stentered, blk := none } bentered (defBody stentered) = true := by decide +kernel
theorem scfilled : FnScope ["form", "before", "records", "place", "field", "value", "after"] ["form"] (defScope stfilled) := ⟨rfl, rfl, rfl, by decide +kernel, rfl, by decide +kernel, by decide +kernel⟩
theorem ckfilled : chkSs { Q ["_law_values", "_law_form", "_law_entries", "_law_shown", "_law_holds", "_law_entry", "_law_filled_up", "_law_sends", "_law_lost_records", "in_range", "are_values", "are_conditions", "are_fields", "is_rule", "is_form", "check_form", "blank", "entries_of", "shown_of", "holds", "broken_of", "entered"] with N := ["form", "before", "records", "place", "field", "value", "after"], sc := defScope stfilled, blk := none } bfilled (defBody stfilled) = true := by decide +kernel
theorem sccan_send_of : FnScope ["form", "record", "number"] ["form", "record"] (defScope stcan_send_of) := ⟨rfl, rfl, rfl, by decide +kernel, rfl, by decide +kernel, by decide +kernel⟩
theorem ckcan_send_of : chkSs { Q ["_law_values", "_law_form", "_law_entries", "_law_shown", "_law_holds", "_law_entry", "_law_filled_up", "_law_sends", "_law_lost_records", "in_range", "are_values", "are_conditions", "are_fields", "is_rule", "is_form", "check_form", "blank", "entries_of", "shown_of", "holds", "broken_of", "entered", "filled"] with N := ["form", "record", "number"], sc := defScope stcan_send_of, blk := none } bcan_send_of (defBody stcan_send_of) = true := by decide +kernel
theorem sclost_records : FnScope ["form", "sources", "record", "queue", "good", "records", "before", "field", "value", "after"] ["form"] (defScope stlost_records) := ⟨rfl, rfl, rfl, by decide +kernel, rfl, by decide +kernel, by decide +kernel⟩
theorem cklost_records : chkSs { Q ["_law_values", "_law_form", "_law_entries", "_law_shown", "_law_holds", "_law_entry", "_law_filled_up", "_law_sends", "_law_lost_records", "in_range", "are_values", "are_conditions", "are_fields", "is_rule", "is_form", "check_form", "blank", "entries_of", "shown_of", "holds", "broken_of", "entered", "filled", "can_send_of"] with N := ["form", "sources", "record", "queue", "good", "records", "before", "field", "value", "after"], sc := defScope stlost_records, blk := none } blost_records (defBody stlost_records) = true := by decide +kernel
theorem scway_of : FnScope ["before", "record", "found", "entry"] ["before", "record"] (defScope stway_of) := ⟨rfl, rfl, rfl, by decide +kernel, rfl, by decide +kernel, by decide +kernel⟩
theorem ckway_of : chkSs { Q ["_law_values", "_law_form", "_law_entries", "_law_shown", "_law_holds", "_law_entry", "_law_filled_up", "_law_sends", "_law_lost_records", "in_range", "are_values", "are_conditions", "are_fields", "is_rule", "is_form", "check_form", "blank", "entries_of", "shown_of", "holds", "broken_of", "entered", "filled", "can_send_of", "lost_records"] with N := ["before", "record", "found", "entry"], sc := defScope stway_of, blk := none } bway_of (defBody stway_of) = true := by decide +kernel
theorem sctrap_entries : FnScope ["form", "found", "before"] ["form"] (defScope sttrap_entries) := ⟨rfl, rfl, rfl, by decide +kernel, rfl, by decide +kernel, by decide +kernel⟩
theorem cktrap_entries : chkSs { Q ["_law_values", "_law_form", "_law_entries", "_law_shown", "_law_holds", "_law_entry", "_law_filled_up", "_law_sends", "_law_lost_records", "in_range", "are_values", "are_conditions", "are_fields", "is_rule", "is_form", "check_form", "blank", "entries_of", "shown_of", "holds", "broken_of", "entered", "filled", "can_send_of", "lost_records", "way_of"] with N := ["form", "found", "before"], sc := defScope sttrap_entries, blk := none } btrap_entries (defBody sttrap_entries) = true := by decide +kernel
theorem scis_clean : FnScope ["form", "record", "there", "number", "value"] ["form", "record"] (defScope stis_clean) := ⟨rfl, rfl, rfl, by decide +kernel, rfl, by decide +kernel, by decide +kernel⟩
theorem ckis_clean : chkSs { Q ["_law_values", "_law_form", "_law_entries", "_law_shown", "_law_holds", "_law_entry", "_law_filled_up", "_law_sends", "_law_lost_records", "in_range", "are_values", "are_conditions", "are_fields", "is_rule", "is_form", "check_form", "blank", "entries_of", "shown_of", "holds", "broken_of", "entered", "filled", "can_send_of", "lost_records", "way_of", "trap_entries"] with N := ["form", "record", "there", "number", "value"], sc := defScope stis_clean, blk := none } bis_clean (defBody stis_clean) = true := by decide +kernel
theorem scstale_entries : FnScope ["form", "record", "records", "before"] ["form"] (defScope ststale_entries) := ⟨rfl, rfl, rfl, by decide +kernel, rfl, by decide +kernel, by decide +kernel⟩
theorem ckstale_entries : chkSs { Q ["_law_values", "_law_form", "_law_entries", "_law_shown", "_law_holds", "_law_entry", "_law_filled_up", "_law_sends", "_law_lost_records", "in_range", "are_values", "are_conditions", "are_fields", "is_rule", "is_form", "check_form", "blank", "entries_of", "shown_of", "holds", "broken_of", "entered", "filled", "can_send_of", "lost_records", "way_of", "trap_entries", "is_clean"] with N := ["form", "record", "records", "before"], sc := defScope ststale_entries, blk := none } bstale_entries (defBody ststale_entries) = true := by decide +kernel
theorem sc_law_trapped : FnScope ["mode", "form", "e"] ["mode", "form"] (defScope st_law_trapped) := ⟨rfl, rfl, rfl, by decide +kernel, rfl, by decide +kernel, by decide +kernel⟩
theorem ck_law_trapped : chkSs { Q ["_law_values", "_law_form", "_law_entries", "_law_shown", "_law_holds", "_law_entry", "_law_filled_up", "_law_sends", "_law_lost_records", "in_range", "are_values", "are_conditions", "are_fields", "is_rule", "is_form", "check_form", "blank", "entries_of", "shown_of", "holds", "broken_of", "entered", "filled", "can_send_of", "lost_records", "way_of", "trap_entries", "is_clean", "stale_entries"] with N := ["mode", "form", "e"], sc := defScope st_law_trapped, blk := none } b_law_trapped (defBody st_law_trapped) = true := by decide +kernel
theorem sc_law_cell : FnScope ["script", "k"] ["script", "k"] (defScope st_law_cell) := ⟨rfl, rfl, rfl, by decide +kernel, rfl, by decide +kernel, by decide +kernel⟩
theorem ck_law_cell : chkSs { Q ["_law_values", "_law_form", "_law_entries", "_law_shown", "_law_holds", "_law_entry", "_law_filled_up", "_law_sends", "_law_lost_records", "in_range", "are_values", "are_conditions", "are_fields", "is_rule", "is_form", "check_form", "blank", "entries_of", "shown_of", "holds", "broken_of", "entered", "filled", "can_send_of", "lost_records", "way_of", "trap_entries", "is_clean", "stale_entries", "_law_trapped"] with N := ["script", "k"], sc := defScope st_law_cell, blk := none } b_law_cell (defBody st_law_cell) = true := by decide +kernel
theorem sc_law_row : FnScope ["script", "at", "cell", "found", "time"] ["script", "at"] (defScope st_law_row) := ⟨rfl, rfl, rfl, by decide +kernel, rfl, by decide +kernel, by decide +kernel⟩
theorem ck_law_row : chkSs { Q [("_law_values" : Str), ("_law_form" : Str), ("_law_entries" : Str), ("_law_shown" : Str), ("_law_holds" : Str), ("_law_entry" : Str), ("_law_filled_up" : Str), ("_law_sends" : Str), ("_law_lost_records" : Str), ("in_range" : Str), ("are_values" : Str), ("are_conditions" : Str), ("are_fields" : Str), ("is_rule" : Str), ("is_form" : Str), ("check_form" : Str), ("blank" : Str), ("entries_of" : Str), ("shown_of" : Str), ("holds" : Str), ("broken_of" : Str), ("entered" : Str), ("filled" : Str), ("can_send_of" : Str), ("lost_records" : Str), ("way_of" : Str), ("trap_entries" : Str), ("is_clean" : Str), ("stale_entries" : Str), ("_law_trapped" : Str), ("_law_cell" : Str)] with N := ["script", "at", "cell", "found", "time"], sc := defScope st_law_row, blk := none } b_law_row (defBody st_law_row) = true := by decide +kernel
theorem sc_law_snare : FnScope ["draws", "more", "first", "second", "fields", "rules", "one", "other", "third"] ["draws", "more"] (defScope st_law_snare) := ⟨rfl, rfl, rfl, by decide +kernel, rfl, by decide +kernel, by decide +kernel⟩
theorem ck_law_snare : chkSs { Q [("_law_values" : Str), ("_law_form" : Str), ("_law_entries" : Str), ("_law_shown" : Str), ("_law_holds" : Str), ("_law_entry" : Str), ("_law_filled_up" : Str), ("_law_sends" : Str), ("_law_lost_records" : Str), ("in_range" : Str), ("are_values" : Str), ("are_conditions" : Str), ("are_fields" : Str), ("is_rule" : Str), ("is_form" : Str), ("check_form" : Str), ("blank" : Str), ("entries_of" : Str), ("shown_of" : Str), ("holds" : Str), ("broken_of" : Str), ("entered" : Str), ("filled" : Str), ("can_send_of" : Str), ("lost_records" : Str), ("way_of" : Str), ("trap_entries" : Str), ("is_clean" : Str), ("stale_entries" : Str), ("_law_trapped" : Str), ("_law_cell" : Str), ("_law_row" : Str)] with N := ["draws", "more", "first", "second", "fields", "rules", "one", "other", "third"], sc := defScope st_law_snare, blk := none } b_law_snare (defBody st_law_snare) = true := by decide +kernel
theorem schas_trap : FnScope ["form"] ["form"] (defScope sthas_trap) := ⟨rfl, rfl, rfl, by decide +kernel, rfl, by decide +kernel, by decide +kernel⟩
theorem ckhas_trap : chkSs { Q [("_law_values" : Str), ("_law_form" : Str), ("_law_entries" : Str), ("_law_shown" : Str), ("_law_holds" : Str), ("_law_entry" : Str), ("_law_filled_up" : Str), ("_law_sends" : Str), ("_law_lost_records" : Str), ("in_range" : Str), ("are_values" : Str), ("are_conditions" : Str), ("are_fields" : Str), ("is_rule" : Str), ("is_form" : Str), ("check_form" : Str), ("blank" : Str), ("entries_of" : Str), ("shown_of" : Str), ("holds" : Str), ("broken_of" : Str), ("entered" : Str), ("filled" : Str), ("can_send_of" : Str), ("lost_records" : Str), ("way_of" : Str), ("trap_entries" : Str), ("is_clean" : Str), ("stale_entries" : Str), ("_law_trapped" : Str), ("_law_cell" : Str), ("_law_row" : Str), ("_law_snare" : Str)] with N := ["form"], sc := defScope sthas_trap, blk := none } bhas_trap (defBody sthas_trap) = true := by decide +kernel
theorem sclaw : FnScope ["script", "form", "sizes", "lost", "found", "now", "draws", "more", "field", "value", "rule", "record", "at"] ["script"] (defScope stlaw) := ⟨rfl, rfl, rfl, by decide +kernel, rfl, by decide +kernel, by decide +kernel⟩
theorem cklaw : chkSs { Q [("_law_values" : Str), ("_law_form" : Str), ("_law_entries" : Str), ("_law_shown" : Str), ("_law_holds" : Str), ("_law_entry" : Str), ("_law_filled_up" : Str), ("_law_sends" : Str), ("_law_lost_records" : Str), ("in_range" : Str), ("are_values" : Str), ("are_conditions" : Str), ("are_fields" : Str), ("is_rule" : Str), ("is_form" : Str), ("check_form" : Str), ("blank" : Str), ("entries_of" : Str), ("shown_of" : Str), ("holds" : Str), ("broken_of" : Str), ("entered" : Str), ("filled" : Str), ("can_send_of" : Str), ("lost_records" : Str), ("way_of" : Str), ("trap_entries" : Str), ("is_clean" : Str), ("stale_entries" : Str), ("_law_trapped" : Str), ("_law_cell" : Str), ("_law_row" : Str), ("_law_snare" : Str), ("has_trap" : Str)] with N := ["script", "form", "sizes", "lost", "found", "now", "draws", "more", "field", "value", "rule", "record", "at"], sc := defScope stlaw, blk := none } blaw (defBody stlaw) = true := by decide +kernel
section
variable {P : Program} {w : World} {K : PySem.W.Frag} {mg : Str → Option Value} {base : Heap} {cv : Nat → Value}
theorem ok_law_values {f : Addr} {fd : FuncData} (gm : GamOk P w K mg base (gam Z T0) (Q []) cv 0) (F : Fun K "_law_values" "_law_values" st_law_values f fd) (hm : mg "_law_values" = some (.ref f)) (hb : Binds K fd ["draws", "at"] []) : GamOk P w K mg base (gam Z T1) (Q ["_law_values"]) cv 1 :=
  gm.def rfl F hm hb sc_law_values ck_law_values
theorem ok_law_form {f : Addr} {fd : FuncData} (gm : GamOk P w K mg base (gam Z T1) (Q ["_law_values"]) cv 1) (F : Fun K "_law_form" "_law_form" st_law_form f fd) (hm : mg "_law_form" = some (.ref f)) (hb : Binds K fd ["draws", "more", "kinds"] []) : GamOk P w K mg base (gam Z T2) (Q ["_law_values", "_law_form"]) cv 2 :=
  gm.def rfl F hm hb sc_law_form ck_law_form
theorem ok_law_entries {f : Addr} {fd : FuncData} (gm : GamOk P w K mg base (gam Z T2) (Q ["_law_values", "_law_form"]) cv 2) (F : Fun K "_law_entries" "_law_entries" st_law_entries f fd) (hm : mg "_law_entries" = some (.ref f)) (hb : Binds K fd ["form"] []) : GamOk P w K mg base (gam Z T3) (Q ["_law_values", "_law_form", "_law_entries"]) cv 3 :=
  gm.def rfl F hm hb sc_law_entries ck_law_entries
theorem ok_law_shown {f : Addr} {fd : FuncData} (gm : GamOk P w K mg base (gam Z T3) (Q ["_law_values", "_law_form", "_law_entries"]) cv 3) (F : Fun K "_law_shown" "_law_shown" st_law_shown f fd) (hm : mg "_law_shown" = some (.ref f)) (hb : Binds K fd ["form", "record"] []) : GamOk P w K mg base (gam Z T4) (Q ["_law_values", "_law_form", "_law_entries", "_law_shown"]) cv 4 :=
  gm.def rfl F hm hb sc_law_shown ck_law_shown
theorem ok_law_holds {f : Addr} {fd : FuncData} (gm : GamOk P w K mg base (gam Z T4) (Q ["_law_values", "_law_form", "_law_entries", "_law_shown"]) cv 4) (F : Fun K "_law_holds" "_law_holds" st_law_holds f fd) (hm : mg "_law_holds" = some (.ref f)) (hb : Binds K fd ["form", "record", "pairs"] []) : GamOk P w K mg base (gam Z T5) (Q ["_law_values", "_law_form", "_law_entries", "_law_shown", "_law_holds"]) cv 5 :=
  gm.def rfl F hm hb sc_law_holds ck_law_holds
theorem ok_law_entry {f : Addr} {fd : FuncData} (gm : GamOk P w K mg base (gam Z T5) (Q ["_law_values", "_law_form", "_law_entries", "_law_shown", "_law_holds"]) cv 5) (F : Fun K "_law_entry" "_law_entry" st_law_entry f fd) (hm : mg "_law_entry" = some (.ref f)) (hb : Binds K fd ["form", "record", "field", "value"] []) : GamOk P w K mg base (gam Z T6) (Q ["_law_values", "_law_form", "_law_entries", "_law_shown", "_law_holds", "_law_entry"]) cv 6 :=
  gm.def rfl F hm hb sc_law_entry ck_law_entry
theorem ok_law_filled_up {f : Addr} {fd : FuncData} (gm : GamOk P w K mg base (gam Z T6) (Q ["_law_values", "_law_form", "_law_entries", "_law_shown", "_law_holds", "_law_entry"]) cv 6) (F : Fun K "_law_filled_up" "_law_filled_up" st_law_filled_up f fd) (hm : mg "_law_filled_up" = some (.ref f)) (hb : Binds K fd ["form"] []) : GamOk P w K mg base (gam Z T7) (Q ["_law_values", "_law_form", "_law_entries", "_law_shown", "_law_holds", "_law_entry", "_law_filled_up"]) cv 7 :=
  gm.def rfl F hm hb sc_law_filled_up ck_law_filled_up
theorem ok_law_sends {f : Addr} {fd : FuncData} (gm : GamOk P w K mg base (gam Z T7) (Q ["_law_values", "_law_form", "_law_entries", "_law_shown", "_law_holds", "_law_entry", "_law_filled_up"]) cv 7) (F : Fun K "_law_sends" "_law_sends" st_law_sends f fd) (hm : mg "_law_sends" = some (.ref f)) (hb : Binds K fd ["form", "record"] []) : GamOk P w K mg base (gam Z T8) (Q ["_law_values", "_law_form", "_law_entries", "_law_shown", "_law_holds", "_law_entry", "_law_filled_up", "_law_sends"]) cv 8 :=
  gm.def rfl F hm hb sc_law_sends ck_law_sends
theorem ok_law_lost_records {f : Addr} {fd : FuncData} (gm : GamOk P w K mg base (gam Z T8) (Q ["_law_values", "_law_form", "_law_entries", "_law_shown", "_law_holds", "_law_entry", "_law_filled_up", "_law_sends"]) cv 8) (F : Fun K "_law_lost_records" "_law_lost_records" st_law_lost_records f fd) (hm : mg "_law_lost_records" = some (.ref f)) (hb : Binds K fd ["form", "sizes"] []) : GamOk P w K mg base (gam Z T9) (Q ["_law_values", "_law_form", "_law_entries", "_law_shown", "_law_holds", "_law_entry", "_law_filled_up", "_law_sends", "_law_lost_records"]) cv 9 :=
  gm.def rfl F hm hb sc_law_lost_records ck_law_lost_records
theorem okin_range {f : Addr} {fd : FuncData} (gm : GamOk P w K mg base (gam Z T9) (Q ["_law_values", "_law_form", "_law_entries", "_law_shown", "_law_holds", "_law_entry", "_law_filled_up", "_law_sends", "_law_lost_records"]) cv 9) (F : Fun K "in_range" "in_range" stin_range f fd) (hm : mg "in_range" = some (.ref f)) (hb : Binds K fd ["value", "low", "high"] []) : GamOk P w K mg base (gam Z T10) (Q ["_law_values", "_law_form", "_law_entries", "_law_shown", "_law_holds", "_law_entry", "_law_filled_up", "_law_sends", "_law_lost_records", "in_range"]) cv 10 :=
  gm.def rfl F hm hb scin_range ckin_range
theorem okare_values {f : Addr} {fd : FuncData} (gm : GamOk P w K mg base (gam Z T10) (Q ["_law_values", "_law_form", "_law_entries", "_law_shown", "_law_holds", "_law_entry", "_law_filled_up", "_law_sends", "_law_lost_records", "in_range"]) cv 10) (F : Fun K "are_values" "are_values" stare_values f fd) (hm : mg "are_values" = some (.ref f)) (hb : Binds K fd ["value", "most"] []) : GamOk P w K mg base (gam Z T11) (Q ["_law_values", "_law_form", "_law_entries", "_law_shown", "_law_holds", "_law_entry", "_law_filled_up", "_law_sends", "_law_lost_records", "in_range", "are_values"]) cv 11 :=
  gm.def rfl F hm hb scare_values ckare_values
theorem okare_conditions {f : Addr} {fd : FuncData} (gm : GamOk P w K mg base (gam Z T11) (Q ["_law_values", "_law_form", "_law_entries", "_law_shown", "_law_holds", "_law_entry", "_law_filled_up", "_law_sends", "_law_lost_records", "in_range", "are_values"]) cv 11) (F : Fun K "are_conditions" "are_conditions" stare_conditions f fd) (hm : mg "are_conditions" = some (.ref f)) (hb : Binds K fd ["value", "fields"] []) : GamOk P w K mg base (gam Z T12) (Q ["_law_values", "_law_form", "_law_entries", "_law_shown", "_law_holds", "_law_entry", "_law_filled_up", "_law_sends", "_law_lost_records", "in_range", "are_values", "are_conditions"]) cv 12 :=
  gm.def rfl F hm hb scare_conditions ckare_conditions
theorem okare_fields {f : Addr} {fd : FuncData} (gm : GamOk P w K mg base (gam Z T12) (Q ["_law_values", "_law_form", "_law_entries", "_law_shown", "_law_holds", "_law_entry", "_law_filled_up", "_law_sends", "_law_lost_records", "in_range", "are_values", "are_conditions"]) cv 12) (F : Fun K "are_fields" "are_fields" stare_fields f fd) (hm : mg "are_fields" = some (.ref f)) (hb : Binds K fd ["value"] []) : GamOk P w K mg base (gam Z T13) (Q ["_law_values", "_law_form", "_law_entries", "_law_shown", "_law_holds", "_law_entry", "_law_filled_up", "_law_sends", "_law_lost_records", "in_range", "are_values", "are_conditions", "are_fields"]) cv 13 :=
  gm.def rfl F hm hb scare_fields ckare_fields
theorem okis_rule {f : Addr} {fd : FuncData} (gm : GamOk P w K mg base (gam Z T13) (Q ["_law_values", "_law_form", "_law_entries", "_law_shown", "_law_holds", "_law_entry", "_law_filled_up", "_law_sends", "_law_lost_records", "in_range", "are_values", "are_conditions", "are_fields"]) cv 13) (F : Fun K "is_rule" "is_rule" stis_rule f fd) (hm : mg "is_rule" = some (.ref f)) (hb : Binds K fd ["fields", "value"] []) : GamOk P w K mg base (gam Z T14) (Q ["_law_values", "_law_form", "_law_entries", "_law_shown", "_law_holds", "_law_entry", "_law_filled_up", "_law_sends", "_law_lost_records", "in_range", "are_values", "are_conditions", "are_fields", "is_rule"]) cv 14 :=
  gm.def rfl F hm hb scis_rule ckis_rule
theorem okis_form {f : Addr} {fd : FuncData} (gm : GamOk P w K mg base (gam Z T14) (Q ["_law_values", "_law_form", "_law_entries", "_law_shown", "_law_holds", "_law_entry", "_law_filled_up", "_law_sends", "_law_lost_records", "in_range", "are_values", "are_conditions", "are_fields", "is_rule"]) cv 14) (F : Fun K "is_form" "is_form" stis_form f fd) (hm : mg "is_form" = some (.ref f)) (hb : Binds K fd ["value"] []) : GamOk P w K mg base (gam Z T15) (Q ["_law_values", "_law_form", "_law_entries", "_law_shown", "_law_holds", "_law_entry", "_law_filled_up", "_law_sends", "_law_lost_records", "in_range", "are_values", "are_conditions", "are_fields", "is_rule", "is_form"]) cv 15 :=
  gm.def rfl F hm hb scis_form ckis_form
theorem okcheck_form {f : Addr} {fd : FuncData} (gm : GamOk P w K mg base (gam Z T15) (Q ["_law_values", "_law_form", "_law_entries", "_law_shown", "_law_holds", "_law_entry", "_law_filled_up", "_law_sends", "_law_lost_records", "in_range", "are_values", "are_conditions", "are_fields", "is_rule", "is_form"]) cv 15) (F : Fun K "check_form" "check_form" stcheck_form f fd) (hm : mg "check_form" = some (.ref f)) (hb : Binds K fd ["form"] []) : GamOk P w K mg base (gam Z T16) (Q ["_law_values", "_law_form", "_law_entries", "_law_shown", "_law_holds", "_law_entry", "_law_filled_up", "_law_sends", "_law_lost_records", "in_range", "are_values", "are_conditions", "are_fields", "is_rule", "is_form", "check_form"]) cv 16 :=
  gm.def rfl F hm hb sccheck_form ckcheck_form
theorem okblank {f : Addr} {fd : FuncData} (gm : GamOk P w K mg base (gam Z T16) (Q ["_law_values", "_law_form", "_law_entries", "_law_shown", "_law_holds", "_law_entry", "_law_filled_up", "_law_sends", "_law_lost_records", "in_range", "are_values", "are_conditions", "are_fields", "is_rule", "is_form", "check_form"]) cv 16) (F : Fun K "blank" "blank" stblank f fd) (hm : mg "blank" = some (.ref f)) (hb : Binds K fd ["form"] []) : GamOk P w K mg base (gam Z T17) (Q ["_law_values", "_law_form", "_law_entries", "_law_shown", "_law_holds", "_law_entry", "_law_filled_up", "_law_sends", "_law_lost_records", "in_range", "are_values", "are_conditions", "are_fields", "is_rule", "is_form", "check_form", "blank"]) cv 17 :=
  gm.def rfl F hm hb scblank ckblank
theorem okentries_of {f : Addr} {fd : FuncData} (gm : GamOk P w K mg base (gam Z T17) (Q ["_law_values", "_law_form", "_law_entries", "_law_shown", "_law_holds", "_law_entry", "_law_filled_up", "_law_sends", "_law_lost_records", "in_range", "are_values", "are_conditions", "are_fields", "is_rule", "is_form", "check_form", "blank"]) cv 17) (F : Fun K "entries_of" "entries_of" stentries_of f fd) (hm : mg "entries_of" = some (.ref f)) (hb : Binds K fd ["form"] []) : GamOk P w K mg base (gam Z T18) (Q ["_law_values", "_law_form", "_law_entries", "_law_shown", "_law_holds", "_law_entry", "_law_filled_up", "_law_sends", "_law_lost_records", "in_range", "are_values", "are_conditions", "are_fields", "is_rule", "is_form", "check_form", "blank", "entries_of"]) cv 18 :=
  gm.def rfl F hm hb scentries_of ckentries_of
theorem okshown_of {f : Addr} {fd : FuncData} (gm : GamOk P w K mg base (gam Z T18) (Q ["_law_values", "_law_form", "_law_entries", "_law_shown", "_law_holds", "_law_entry", "_law_filled_up", "_law_sends", "_law_lost_records", "in_range", "are_values", "are_conditions", "are_fields", "is_rule", "is_form", "check_form", "blank", "entries_of"]) cv 18) (F : Fun K "shown_of" "shown_of" stshown_of f fd) (hm : mg "shown_of" = some (.ref f)) (hb : Binds K fd ["form", "record"] []) : GamOk P w K mg base (gam Z T19) (Q ["_law_values", "_law_form", "_law_entries", "_law_shown", "_law_holds", "_law_entry", "_law_filled_up", "_law_sends", "_law_lost_records", "in_range", "are_values", "are_conditions", "are_fields", "is_rule", "is_form", "check_form", "blank", "entries_of", "shown_of"]) cv 19 :=
  gm.def rfl F hm hb scshown_of ckshown_of
theorem okholds {f : Addr} {fd : FuncData} (gm : GamOk P w K mg base (gam Z T19) (Q ["_law_values", "_law_form", "_law_entries", "_law_shown", "_law_holds", "_law_entry", "_law_filled_up", "_law_sends", "_law_lost_records", "in_range", "are_values", "are_conditions", "are_fields", "is_rule", "is_form", "check_form", "blank", "entries_of", "shown_of"]) cv 19) (F : Fun K "holds" "holds" stholds f fd) (hm : mg "holds" = some (.ref f)) (hb : Binds K fd ["there", "record", "pairs"] []) : GamOk P w K mg base (gam Z T20) (Q ["_law_values", "_law_form", "_law_entries", "_law_shown", "_law_holds", "_law_entry", "_law_filled_up", "_law_sends", "_law_lost_records", "in_range", "are_values", "are_conditions", "are_fields", "is_rule", "is_form", "check_form", "blank", "entries_of", "shown_of", "holds"]) cv 20 :=
  gm.def rfl F hm hb scholds ckholds
theorem okbroken_of {f : Addr} {fd : FuncData} (gm : GamOk P w K mg base (gam Z T20) (Q ["_law_values", "_law_form", "_law_entries", "_law_shown", "_law_holds", "_law_entry", "_law_filled_up", "_law_sends", "_law_lost_records", "in_range", "are_values", "are_conditions", "are_fields", "is_rule", "is_form", "check_form", "blank", "entries_of", "shown_of", "holds"]) cv 20) (F : Fun K "broken_of" "broken_of" stbroken_of f fd) (hm : mg "broken_of" = some (.ref f)) (hb : Binds K fd ["form", "record", "kinds"] []) : GamOk P w K mg base (gam Z T21) (Q ["_law_values", "_law_form", "_law_entries", "_law_shown", "_law_holds", "_law_entry", "_law_filled_up", "_law_sends", "_law_lost_records", "in_range", "are_values", "are_conditions", "are_fields", "is_rule", "is_form", "check_form", "blank", "entries_of", "shown_of", "holds", "broken_of"]) cv 21 :=
  gm.def rfl F hm hb scbroken_of ckbroken_of
theorem okentered {f : Addr} {fd : FuncData} (gm : GamOk P w K mg base (gam Z T21) (Q ["_law_values", "_law_form", "_law_entries", "_law_shown", "_law_holds", "_law_entry", "_law_filled_up", "_law_sends", "_law_lost_records", "in_range", "are_values", "are_conditions", "are_fields", "is_rule", "is_form", "check_form", "blank", "entries_of", "shown_of", "holds", "broken_of"]) cv 21) (F : Fun K "entered" "entered" stentered f fd) (hm : mg "entered" = some (.ref f)) (hb : Binds K fd ["form", "record", "field", "value"] []) : GamOk P w K mg base (gam Z T22) (Q ["_law_values", "_law_form", "_law_entries", "_law_shown", "_law_holds", "_law_entry", "_law_filled_up", "_law_sends", "_law_lost_records", "in_range", "are_values", "are_conditions", "are_fields", "is_rule", "is_form", "check_form", "blank", "entries_of", "shown_of", "holds", "broken_of", "entered"]) cv 22 :=
  gm.def rfl F hm hb scentered ckentered
theorem okfilled {f : Addr} {fd : FuncData} (gm : GamOk P w K mg base (gam Z T22) (Q ["_law_values", "_law_form", "_law_entries", "_law_shown", "_law_holds", "_law_entry", "_law_filled_up", "_law_sends", "_law_lost_records", "in_range", "are_values", "are_conditions", "are_fields", "is_rule", "is_form", "check_form", "blank", "entries_of", "shown_of", "holds", "broken_of", "entered"]) cv 22) (F : Fun K "filled" "filled" stfilled f fd) (hm : mg "filled" = some (.ref f)) (hb : Binds K fd ["form"] []) : GamOk P w K mg base (gam Z T23) (Q ["_law_values", "_law_form", "_law_entries", "_law_shown", "_law_holds", "_law_entry", "_law_filled_up", "_law_sends", "_law_lost_records", "in_range", "are_values", "are_conditions", "are_fields", "is_rule", "is_form", "check_form", "blank", "entries_of", "shown_of", "holds", "broken_of", "entered", "filled"]) cv 23 :=
  gm.def rfl F hm hb scfilled ckfilled
theorem okcan_send_of {f : Addr} {fd : FuncData} (gm : GamOk P w K mg base (gam Z T23) (Q ["_law_values", "_law_form", "_law_entries", "_law_shown", "_law_holds", "_law_entry", "_law_filled_up", "_law_sends", "_law_lost_records", "in_range", "are_values", "are_conditions", "are_fields", "is_rule", "is_form", "check_form", "blank", "entries_of", "shown_of", "holds", "broken_of", "entered", "filled"]) cv 23) (F : Fun K "can_send_of" "can_send_of" stcan_send_of f fd) (hm : mg "can_send_of" = some (.ref f)) (hb : Binds K fd ["form", "record"] []) : GamOk P w K mg base (gam Z T24) (Q ["_law_values", "_law_form", "_law_entries", "_law_shown", "_law_holds", "_law_entry", "_law_filled_up", "_law_sends", "_law_lost_records", "in_range", "are_values", "are_conditions", "are_fields", "is_rule", "is_form", "check_form", "blank", "entries_of", "shown_of", "holds", "broken_of", "entered", "filled", "can_send_of"]) cv 24 :=
  gm.def rfl F hm hb sccan_send_of ckcan_send_of
theorem oklost_records {f : Addr} {fd : FuncData} (gm : GamOk P w K mg base (gam Z T24) (Q ["_law_values", "_law_form", "_law_entries", "_law_shown", "_law_holds", "_law_entry", "_law_filled_up", "_law_sends", "_law_lost_records", "in_range", "are_values", "are_conditions", "are_fields", "is_rule", "is_form", "check_form", "blank", "entries_of", "shown_of", "holds", "broken_of", "entered", "filled", "can_send_of"]) cv 24) (F : Fun K "lost_records" "lost_records" stlost_records f fd) (hm : mg "lost_records" = some (.ref f)) (hb : Binds K fd ["form"] []) : GamOk P w K mg base (gam Z T25) (Q ["_law_values", "_law_form", "_law_entries", "_law_shown", "_law_holds", "_law_entry", "_law_filled_up", "_law_sends", "_law_lost_records", "in_range", "are_values", "are_conditions", "are_fields", "is_rule", "is_form", "check_form", "blank", "entries_of", "shown_of", "holds", "broken_of", "entered", "filled", "can_send_of", "lost_records"]) cv 25 :=
  gm.def rfl F hm hb sclost_records cklost_records
theorem okway_of {f : Addr} {fd : FuncData} (gm : GamOk P w K mg base (gam Z T25) (Q ["_law_values", "_law_form", "_law_entries", "_law_shown", "_law_holds", "_law_entry", "_law_filled_up", "_law_sends", "_law_lost_records", "in_range", "are_values", "are_conditions", "are_fields", "is_rule", "is_form", "check_form", "blank", "entries_of", "shown_of", "holds", "broken_of", "entered", "filled", "can_send_of", "lost_records"]) cv 25) (F : Fun K "way_of" "way_of" stway_of f fd) (hm : mg "way_of" = some (.ref f)) (hb : Binds K fd ["before", "record"] []) : GamOk P w K mg base (gam Z T26) (Q ["_law_values", "_law_form", "_law_entries", "_law_shown", "_law_holds", "_law_entry", "_law_filled_up", "_law_sends", "_law_lost_records", "in_range", "are_values", "are_conditions", "are_fields", "is_rule", "is_form", "check_form", "blank", "entries_of", "shown_of", "holds", "broken_of", "entered", "filled", "can_send_of", "lost_records", "way_of"]) cv 26 :=
  gm.def rfl F hm hb scway_of ckway_of
theorem oktrap_entries {f : Addr} {fd : FuncData} (gm : GamOk P w K mg base (gam Z T26) (Q ["_law_values", "_law_form", "_law_entries", "_law_shown", "_law_holds", "_law_entry", "_law_filled_up", "_law_sends", "_law_lost_records", "in_range", "are_values", "are_conditions", "are_fields", "is_rule", "is_form", "check_form", "blank", "entries_of", "shown_of", "holds", "broken_of", "entered", "filled", "can_send_of", "lost_records", "way_of"]) cv 26) (F : Fun K "trap_entries" "trap_entries" sttrap_entries f fd) (hm : mg "trap_entries" = some (.ref f)) (hb : Binds K fd ["form"] []) : GamOk P w K mg base (gam Z T27) (Q ["_law_values", "_law_form", "_law_entries", "_law_shown", "_law_holds", "_law_entry", "_law_filled_up", "_law_sends", "_law_lost_records", "in_range", "are_values", "are_conditions", "are_fields", "is_rule", "is_form", "check_form", "blank", "entries_of", "shown_of", "holds", "broken_of", "entered", "filled", "can_send_of", "lost_records", "way_of", "trap_entries"]) cv 27 :=
  gm.def rfl F hm hb sctrap_entries cktrap_entries
theorem okis_clean {f : Addr} {fd : FuncData} (gm : GamOk P w K mg base (gam Z T27) (Q ["_law_values", "_law_form", "_law_entries", "_law_shown", "_law_holds", "_law_entry", "_law_filled_up", "_law_sends", "_law_lost_records", "in_range", "are_values", "are_conditions", "are_fields", "is_rule", "is_form", "check_form", "blank", "entries_of", "shown_of", "holds", "broken_of", "entered", "filled", "can_send_of", "lost_records", "way_of", "trap_entries"]) cv 27) (F : Fun K "is_clean" "is_clean" stis_clean f fd) (hm : mg "is_clean" = some (.ref f)) (hb : Binds K fd ["form", "record"] []) : GamOk P w K mg base (gam Z T28) (Q ["_law_values", "_law_form", "_law_entries", "_law_shown", "_law_holds", "_law_entry", "_law_filled_up", "_law_sends", "_law_lost_records", "in_range", "are_values", "are_conditions", "are_fields", "is_rule", "is_form", "check_form", "blank", "entries_of", "shown_of", "holds", "broken_of", "entered", "filled", "can_send_of", "lost_records", "way_of", "trap_entries", "is_clean"]) cv 28 :=
  gm.def rfl F hm hb scis_clean ckis_clean
theorem okstale_entries {f : Addr} {fd : FuncData} (gm : GamOk P w K mg base (gam Z T28) (Q ["_law_values", "_law_form", "_law_entries", "_law_shown", "_law_holds", "_law_entry", "_law_filled_up", "_law_sends", "_law_lost_records", "in_range", "are_values", "are_conditions", "are_fields", "is_rule", "is_form", "check_form", "blank", "entries_of", "shown_of", "holds", "broken_of", "entered", "filled", "can_send_of", "lost_records", "way_of", "trap_entries", "is_clean"]) cv 28) (F : Fun K "stale_entries" "stale_entries" ststale_entries f fd) (hm : mg "stale_entries" = some (.ref f)) (hb : Binds K fd ["form"] []) : GamOk P w K mg base (gam Z T29) (Q ["_law_values", "_law_form", "_law_entries", "_law_shown", "_law_holds", "_law_entry", "_law_filled_up", "_law_sends", "_law_lost_records", "in_range", "are_values", "are_conditions", "are_fields", "is_rule", "is_form", "check_form", "blank", "entries_of", "shown_of", "holds", "broken_of", "entered", "filled", "can_send_of", "lost_records", "way_of", "trap_entries", "is_clean", "stale_entries"]) cv 29 :=
  gm.def rfl F hm hb scstale_entries ckstale_entries
theorem ok_law_trapped {f : Addr} {fd : FuncData} (gm : GamOk P w K mg base (gam Z T29) (Q ["_law_values", "_law_form", "_law_entries", "_law_shown", "_law_holds", "_law_entry", "_law_filled_up", "_law_sends", "_law_lost_records", "in_range", "are_values", "are_conditions", "are_fields", "is_rule", "is_form", "check_form", "blank", "entries_of", "shown_of", "holds", "broken_of", "entered", "filled", "can_send_of", "lost_records", "way_of", "trap_entries", "is_clean", "stale_entries"]) cv 29) (F : Fun K "_law_trapped" "_law_trapped" st_law_trapped f fd) (hm : mg "_law_trapped" = some (.ref f)) (hb : Binds K fd ["mode", "form"] []) : GamOk P w K mg base (gam Z T30) (Q ["_law_values", "_law_form", "_law_entries", "_law_shown", "_law_holds", "_law_entry", "_law_filled_up", "_law_sends", "_law_lost_records", "in_range", "are_values", "are_conditions", "are_fields", "is_rule", "is_form", "check_form", "blank", "entries_of", "shown_of", "holds", "broken_of", "entered", "filled", "can_send_of", "lost_records", "way_of", "trap_entries", "is_clean", "stale_entries", "_law_trapped"]) cv 30 :=
  gm.def rfl F hm hb sc_law_trapped ck_law_trapped
theorem ok_law_cell {f : Addr} {fd : FuncData} (gm : GamOk P w K mg base (gam Z T30) (Q ["_law_values", "_law_form", "_law_entries", "_law_shown", "_law_holds", "_law_entry", "_law_filled_up", "_law_sends", "_law_lost_records", "in_range", "are_values", "are_conditions", "are_fields", "is_rule", "is_form", "check_form", "blank", "entries_of", "shown_of", "holds", "broken_of", "entered", "filled", "can_send_of", "lost_records", "way_of", "trap_entries", "is_clean", "stale_entries", "_law_trapped"]) cv 30) (F : Fun K "_law_cell" "_law_cell" st_law_cell f fd) (hm : mg "_law_cell" = some (.ref f)) (hb : Binds K fd ["script", "k"] []) : GamOk P w K mg base (gam Z T31) (Q [("_law_values" : Str), ("_law_form" : Str), ("_law_entries" : Str), ("_law_shown" : Str), ("_law_holds" : Str), ("_law_entry" : Str), ("_law_filled_up" : Str), ("_law_sends" : Str), ("_law_lost_records" : Str), ("in_range" : Str), ("are_values" : Str), ("are_conditions" : Str), ("are_fields" : Str), ("is_rule" : Str), ("is_form" : Str), ("check_form" : Str), ("blank" : Str), ("entries_of" : Str), ("shown_of" : Str), ("holds" : Str), ("broken_of" : Str), ("entered" : Str), ("filled" : Str), ("can_send_of" : Str), ("lost_records" : Str), ("way_of" : Str), ("trap_entries" : Str), ("is_clean" : Str), ("stale_entries" : Str), ("_law_trapped" : Str), ("_law_cell" : Str)]) cv 31 :=
  gm.def rfl F hm hb sc_law_cell ck_law_cell
theorem ok_law_row {f : Addr} {fd : FuncData} (gm : GamOk P w K mg base (gam Z T31) (Q [("_law_values" : Str), ("_law_form" : Str), ("_law_entries" : Str), ("_law_shown" : Str), ("_law_holds" : Str), ("_law_entry" : Str), ("_law_filled_up" : Str), ("_law_sends" : Str), ("_law_lost_records" : Str), ("in_range" : Str), ("are_values" : Str), ("are_conditions" : Str), ("are_fields" : Str), ("is_rule" : Str), ("is_form" : Str), ("check_form" : Str), ("blank" : Str), ("entries_of" : Str), ("shown_of" : Str), ("holds" : Str), ("broken_of" : Str), ("entered" : Str), ("filled" : Str), ("can_send_of" : Str), ("lost_records" : Str), ("way_of" : Str), ("trap_entries" : Str), ("is_clean" : Str), ("stale_entries" : Str), ("_law_trapped" : Str), ("_law_cell" : Str)]) cv 31) (F : Fun K "_law_row" "_law_row" st_law_row f fd) (hm : mg "_law_row" = some (.ref f)) (hb : Binds K fd ["script", "at"] []) : GamOk P w K mg base (gam Z T32) (Q [("_law_values" : Str), ("_law_form" : Str), ("_law_entries" : Str), ("_law_shown" : Str), ("_law_holds" : Str), ("_law_entry" : Str), ("_law_filled_up" : Str), ("_law_sends" : Str), ("_law_lost_records" : Str), ("in_range" : Str), ("are_values" : Str), ("are_conditions" : Str), ("are_fields" : Str), ("is_rule" : Str), ("is_form" : Str), ("check_form" : Str), ("blank" : Str), ("entries_of" : Str), ("shown_of" : Str), ("holds" : Str), ("broken_of" : Str), ("entered" : Str), ("filled" : Str), ("can_send_of" : Str), ("lost_records" : Str), ("way_of" : Str), ("trap_entries" : Str), ("is_clean" : Str), ("stale_entries" : Str), ("_law_trapped" : Str), ("_law_cell" : Str), ("_law_row" : Str)]) cv 32 :=
  gm.def rfl F hm hb sc_law_row ck_law_row
theorem ok_law_snare {f : Addr} {fd : FuncData} (gm : GamOk P w K mg base (gam Z T32) (Q [("_law_values" : Str), ("_law_form" : Str), ("_law_entries" : Str), ("_law_shown" : Str), ("_law_holds" : Str), ("_law_entry" : Str), ("_law_filled_up" : Str), ("_law_sends" : Str), ("_law_lost_records" : Str), ("in_range" : Str), ("are_values" : Str), ("are_conditions" : Str), ("are_fields" : Str), ("is_rule" : Str), ("is_form" : Str), ("check_form" : Str), ("blank" : Str), ("entries_of" : Str), ("shown_of" : Str), ("holds" : Str), ("broken_of" : Str), ("entered" : Str), ("filled" : Str), ("can_send_of" : Str), ("lost_records" : Str), ("way_of" : Str), ("trap_entries" : Str), ("is_clean" : Str), ("stale_entries" : Str), ("_law_trapped" : Str), ("_law_cell" : Str), ("_law_row" : Str)]) cv 32) (F : Fun K "_law_snare" "_law_snare" st_law_snare f fd) (hm : mg "_law_snare" = some (.ref f)) (hb : Binds K fd ["draws", "more"] []) : GamOk P w K mg base (gam Z T33) (Q [("_law_values" : Str), ("_law_form" : Str), ("_law_entries" : Str), ("_law_shown" : Str), ("_law_holds" : Str), ("_law_entry" : Str), ("_law_filled_up" : Str), ("_law_sends" : Str), ("_law_lost_records" : Str), ("in_range" : Str), ("are_values" : Str), ("are_conditions" : Str), ("are_fields" : Str), ("is_rule" : Str), ("is_form" : Str), ("check_form" : Str), ("blank" : Str), ("entries_of" : Str), ("shown_of" : Str), ("holds" : Str), ("broken_of" : Str), ("entered" : Str), ("filled" : Str), ("can_send_of" : Str), ("lost_records" : Str), ("way_of" : Str), ("trap_entries" : Str), ("is_clean" : Str), ("stale_entries" : Str), ("_law_trapped" : Str), ("_law_cell" : Str), ("_law_row" : Str), ("_law_snare" : Str)]) cv 33 :=
  gm.def rfl F hm hb sc_law_snare ck_law_snare
theorem okhas_trap {f : Addr} {fd : FuncData} (gm : GamOk P w K mg base (gam Z T33) (Q [("_law_values" : Str), ("_law_form" : Str), ("_law_entries" : Str), ("_law_shown" : Str), ("_law_holds" : Str), ("_law_entry" : Str), ("_law_filled_up" : Str), ("_law_sends" : Str), ("_law_lost_records" : Str), ("in_range" : Str), ("are_values" : Str), ("are_conditions" : Str), ("are_fields" : Str), ("is_rule" : Str), ("is_form" : Str), ("check_form" : Str), ("blank" : Str), ("entries_of" : Str), ("shown_of" : Str), ("holds" : Str), ("broken_of" : Str), ("entered" : Str), ("filled" : Str), ("can_send_of" : Str), ("lost_records" : Str), ("way_of" : Str), ("trap_entries" : Str), ("is_clean" : Str), ("stale_entries" : Str), ("_law_trapped" : Str), ("_law_cell" : Str), ("_law_row" : Str), ("_law_snare" : Str)]) cv 33) (F : Fun K "has_trap" "has_trap" sthas_trap f fd) (hm : mg "has_trap" = some (.ref f)) (hb : Binds K fd ["form"] []) : GamOk P w K mg base (gam Z T34) (Q [("_law_values" : Str), ("_law_form" : Str), ("_law_entries" : Str), ("_law_shown" : Str), ("_law_holds" : Str), ("_law_entry" : Str), ("_law_filled_up" : Str), ("_law_sends" : Str), ("_law_lost_records" : Str), ("in_range" : Str), ("are_values" : Str), ("are_conditions" : Str), ("are_fields" : Str), ("is_rule" : Str), ("is_form" : Str), ("check_form" : Str), ("blank" : Str), ("entries_of" : Str), ("shown_of" : Str), ("holds" : Str), ("broken_of" : Str), ("entered" : Str), ("filled" : Str), ("can_send_of" : Str), ("lost_records" : Str), ("way_of" : Str), ("trap_entries" : Str), ("is_clean" : Str), ("stale_entries" : Str), ("_law_trapped" : Str), ("_law_cell" : Str), ("_law_row" : Str), ("_law_snare" : Str), ("has_trap" : Str)]) cv 34 :=
  gm.def rfl F hm hb schas_trap ckhas_trap
theorem oklaw {f : Addr} {fd : FuncData} (gm : GamOk P w K mg base (gam Z T34) (Q [("_law_values" : Str), ("_law_form" : Str), ("_law_entries" : Str), ("_law_shown" : Str), ("_law_holds" : Str), ("_law_entry" : Str), ("_law_filled_up" : Str), ("_law_sends" : Str), ("_law_lost_records" : Str), ("in_range" : Str), ("are_values" : Str), ("are_conditions" : Str), ("are_fields" : Str), ("is_rule" : Str), ("is_form" : Str), ("check_form" : Str), ("blank" : Str), ("entries_of" : Str), ("shown_of" : Str), ("holds" : Str), ("broken_of" : Str), ("entered" : Str), ("filled" : Str), ("can_send_of" : Str), ("lost_records" : Str), ("way_of" : Str), ("trap_entries" : Str), ("is_clean" : Str), ("stale_entries" : Str), ("_law_trapped" : Str), ("_law_cell" : Str), ("_law_row" : Str), ("_law_snare" : Str), ("has_trap" : Str)]) cv 34) (F : Fun K "law" "law" stlaw f fd) : FnOk P w K mg base (L2.CX P w) 35 f fd ["script"] (spLaw K) :=
  law_of (fn_ok F sclaw cklaw gm) rfl law_true
end
def cvOf (C0 C1 C2 C3 : Addr) : Nat → Value := fun k => match k with
  | 0 => .ref C0
  | 1 => .ref C1
  | 2 => .ref C2
  | 3 => .ref C3
  | _ => .none
theorem all_mk {l : PySem.W.OpenLaw} {w : World} {K : PySem.W.Frag} {h : Heap} {mg : Str → Option Value} {fa f0 f1 f2 f3 f4 f5 f6 f7 f8 f9 f10 f11 f12 f13 f14 f15 f16 f17 f18 f19 f20 f21 f22 f23 f24 f25 f26 f27 f28 f29 f30 f31 f32 f33 f34 C0 C1 C2 C3 : Addr} (X : K.In h) (G : h.Ns mainGlobals mg) (hfa : mg "law" = some (.ref fa))
    {od0 an0 od1 an1 od2 an2 od3 an3 od4 an4 od5 an5 od6 an6 od7 an7 od8 an8 od9 an9 od10 an10 od11 an11 od12 an12 od13 an13 od14 an14 od15 an15 od16 an16 od17 an17 od18 an18 od19 an19 od20 an20 od21 an21 od22 an22 od23 an23 od24 an24 od25 an25 od26 an26 od27 an27 od28 an28 od29 an29 od30 an30 od31 an31 od32 an32 od33 an33 od34 an34 : Option Addr} {sl0 sl1 sl2 sl3 sl4 sl5 sl6 sl7 sl8 sl9 sl10 sl11 sl12 sl13 sl14 sl15 sl16 sl17 sl18 sl19 sl20 sl21 sl22 sl23 sl24 sl25 sl26 sl27 sl28 sl29 sl30 sl31 sl32 sl33 sl34 : Array (Option Value)} {oc0 kV0 dc0 pm0 cd0 ct0 oc1 kV1 dc1 pm1 cd1 ct1 oc2 kV2 dc2 pm2 cd2 ct2 oc3 kV3 dc3 pm3 cd3 ct3 oc4 kV4 dc4 pm4 cd4 ct4 oc5 kV5 dc5 pm5 cd5 ct5 oc6 kV6 dc6 pm6 cd6 ct6 oc7 kV7 dc7 pm7 cd7 ct7 oc8 kV8 dc8 pm8 cd8 ct8 oc9 kV9 dc9 pm9 cd9 ct9 oc10 kV10 dc10 pm10 cd10 ct10 oc11 kV11 dc11 pm11 cd11 ct11 oc12 kV12 dc12 pm12 cd12 ct12 oc13 kV13 dc13 pm13 cd13 ct13 oc14 kV14 dc14 pm14 cd14 ct14 oc15 kV15 dc15 pm15 cd15 ct15 oc16 kV16 dc16 pm16 cd16 ct16 oc17 kV17 dc17 pm17 cd17 ct17 oc18 kV18 dc18 pm18 cd18 ct18 oc19 kV19 dc19 pm19 cd19 ct19 oc20 kV20 dc20 pm20 cd20 ct20 oc21 kV21 dc21 pm21 cd21 ct21 oc22 kV22 dc22 pm22 cd22 ct22 oc23 kV23 dc23 pm23 cd23 ct23 oc24 kV24 dc24 pm24 cd24 ct24 oc25 kV25 dc25 pm25 cd25 ct25 oc26 kV26 dc26 pm26 cd26 ct26 oc27 kV27 dc27 pm27 cd27 ct27 oc28 kV28 dc28 pm28 cd28 ct28 oc29 kV29 dc29 pm29 cd29 ct29 oc30 kV30 dc30 pm30 cd30 ct30 oc31 kV31 dc31 pm31 cd31 ct31 oc32 kV32 dc32 pm32 cd32 ct32 oc33 kV33 dc33 pm33 cd33 ct33 oc34 kV34 dc34 pm34 cd34 ct34 : Value}
    (a0 : PySem.W.nsIn K mainGlobals "_law_values" = some (some (.ref f0)))
    (l0 : K.lookup f0 = some ⟨oc0, od0, .func (PySem.W.fnOf "_law_values" "_law_values" (defArgs st_law_values) (defBody st_law_values) (defScope st_law_values) .none kV0 dc0 pm0 an0 cd0 ct0), sl0⟩)
    (c0 : PySem.W.codeIn K cd0 "_law_values" = true)
    (k0 : PySem.W.keepIn K (.ref f0) = true)
    (a1 : PySem.W.nsIn K mainGlobals "_law_form" = some (some (.ref f1)))
    (l1 : K.lookup f1 = some ⟨oc1, od1, .func (PySem.W.fnOf "_law_form" "_law_form" (defArgs st_law_form) (defBody st_law_form) (defScope st_law_form) .none kV1 dc1 pm1 an1 cd1 ct1), sl1⟩)
    (c1 : PySem.W.codeIn K cd1 "_law_form" = true)
    (k1 : PySem.W.keepIn K (.ref f1) = true)
    (a2 : PySem.W.nsIn K mainGlobals "_law_entries" = some (some (.ref f2)))
    (l2 : K.lookup f2 = some ⟨oc2, od2, .func (PySem.W.fnOf "_law_entries" "_law_entries" (defArgs st_law_entries) (defBody st_law_entries) (defScope st_law_entries) .none kV2 dc2 pm2 an2 cd2 ct2), sl2⟩)
    (c2 : PySem.W.codeIn K cd2 "_law_entries" = true)
    (k2 : PySem.W.keepIn K (.ref f2) = true)
    (a3 : PySem.W.nsIn K mainGlobals "_law_shown" = some (some (.ref f3)))
    (l3 : K.lookup f3 = some ⟨oc3, od3, .func (PySem.W.fnOf "_law_shown" "_law_shown" (defArgs st_law_shown) (defBody st_law_shown) (defScope st_law_shown) .none kV3 dc3 pm3 an3 cd3 ct3), sl3⟩)
    (c3 : PySem.W.codeIn K cd3 "_law_shown" = true)
    (k3 : PySem.W.keepIn K (.ref f3) = true)
    (a4 : PySem.W.nsIn K mainGlobals "_law_holds" = some (some (.ref f4)))
    (l4 : K.lookup f4 = some ⟨oc4, od4, .func (PySem.W.fnOf "_law_holds" "_law_holds" (defArgs st_law_holds) (defBody st_law_holds) (defScope st_law_holds) .none kV4 dc4 pm4 an4 cd4 ct4), sl4⟩)
    (c4 : PySem.W.codeIn K cd4 "_law_holds" = true)
    (k4 : PySem.W.keepIn K (.ref f4) = true)
    (a5 : PySem.W.nsIn K mainGlobals "_law_entry" = some (some (.ref f5)))
    (l5 : K.lookup f5 = some ⟨oc5, od5, .func (PySem.W.fnOf "_law_entry" "_law_entry" (defArgs st_law_entry) (defBody st_law_entry) (defScope st_law_entry) .none kV5 dc5 pm5 an5 cd5 ct5), sl5⟩)
    (c5 : PySem.W.codeIn K cd5 "_law_entry" = true)
    (k5 : PySem.W.keepIn K (.ref f5) = true)
    (a6 : PySem.W.nsIn K mainGlobals "_law_filled_up" = some (some (.ref f6)))
    (l6 : K.lookup f6 = some ⟨oc6, od6, .func (PySem.W.fnOf "_law_filled_up" "_law_filled_up" (defArgs st_law_filled_up) (defBody st_law_filled_up) (defScope st_law_filled_up) .none kV6 dc6 pm6 an6 cd6 ct6), sl6⟩)
    (c6 : PySem.W.codeIn K cd6 "_law_filled_up" = true)
    (k6 : PySem.W.keepIn K (.ref f6) = true)
    (a7 : PySem.W.nsIn K mainGlobals "_law_sends" = some (some (.ref f7)))
    (l7 : K.lookup f7 = some ⟨oc7, od7, .func (PySem.W.fnOf "_law_sends" "_law_sends" (defArgs st_law_sends) (defBody st_law_sends) (defScope st_law_sends) .none kV7 dc7 pm7 an7 cd7 ct7), sl7⟩)
    (c7 : PySem.W.codeIn K cd7 "_law_sends" = true)
    (k7 : PySem.W.keepIn K (.ref f7) = true)
    (a8 : PySem.W.nsIn K mainGlobals "_law_lost_records" = some (some (.ref f8)))
    (l8 : K.lookup f8 = some ⟨oc8, od8, .func (PySem.W.fnOf "_law_lost_records" "_law_lost_records" (defArgs st_law_lost_records) (defBody st_law_lost_records) (defScope st_law_lost_records) .none kV8 dc8 pm8 an8 cd8 ct8), sl8⟩)
    (c8 : PySem.W.codeIn K cd8 "_law_lost_records" = true)
    (k8 : PySem.W.keepIn K (.ref f8) = true)
    (a9 : PySem.W.nsIn K mainGlobals "in_range" = some (some (.ref f9)))
    (l9 : K.lookup f9 = some ⟨oc9, od9, .func (PySem.W.fnOf "in_range" "in_range" (defArgs stin_range) (defBody stin_range) (defScope stin_range) .none kV9 dc9 pm9 an9 cd9 ct9), sl9⟩)
    (c9 : PySem.W.codeIn K cd9 "in_range" = true)
    (k9 : PySem.W.keepIn K (.ref f9) = true)
    (a10 : PySem.W.nsIn K mainGlobals "are_values" = some (some (.ref f10)))
    (l10 : K.lookup f10 = some ⟨oc10, od10, .func (PySem.W.fnOf "are_values" "are_values" (defArgs stare_values) (defBody stare_values) (defScope stare_values) .none kV10 dc10 pm10 an10 cd10 ct10), sl10⟩)
    (c10 : PySem.W.codeIn K cd10 "are_values" = true)
    (k10 : PySem.W.keepIn K (.ref f10) = true)
    (a11 : PySem.W.nsIn K mainGlobals "are_conditions" = some (some (.ref f11)))
    (l11 : K.lookup f11 = some ⟨oc11, od11, .func (PySem.W.fnOf "are_conditions" "are_conditions" (defArgs stare_conditions) (defBody stare_conditions) (defScope stare_conditions) .none kV11 dc11 pm11 an11 cd11 ct11), sl11⟩)
    (c11 : PySem.W.codeIn K cd11 "are_conditions" = true)
    (k11 : PySem.W.keepIn K (.ref f11) = true)
    (a12 : PySem.W.nsIn K mainGlobals "are_fields" = some (some (.ref f12)))
    (l12 : K.lookup f12 = some ⟨oc12, od12, .func (PySem.W.fnOf "are_fields" "are_fields" (defArgs stare_fields) (defBody stare_fields) (defScope stare_fields) .none kV12 dc12 pm12 an12 cd12 ct12), sl12⟩)
    (c12 : PySem.W.codeIn K cd12 "are_fields" = true)
    (k12 : PySem.W.keepIn K (.ref f12) = true)
    (a13 : PySem.W.nsIn K mainGlobals "is_rule" = some (some (.ref f13)))
    (l13 : K.lookup f13 = some ⟨oc13, od13, .func (PySem.W.fnOf "is_rule" "is_rule" (defArgs stis_rule) (defBody stis_rule) (defScope stis_rule) .none kV13 dc13 pm13 an13 cd13 ct13), sl13⟩)
    (c13 : PySem.W.codeIn K cd13 "is_rule" = true)
    (k13 : PySem.W.keepIn K (.ref f13) = true)
    (a14 : PySem.W.nsIn K mainGlobals "is_form" = some (some (.ref f14)))
    (l14 : K.lookup f14 = some ⟨oc14, od14, .func (PySem.W.fnOf "is_form" "is_form" (defArgs stis_form) (defBody stis_form) (defScope stis_form) .none kV14 dc14 pm14 an14 cd14 ct14), sl14⟩)
    (c14 : PySem.W.codeIn K cd14 "is_form" = true)
    (k14 : PySem.W.keepIn K (.ref f14) = true)
    (a15 : PySem.W.nsIn K mainGlobals "check_form" = some (some (.ref f15)))
    (l15 : K.lookup f15 = some ⟨oc15, od15, .func (PySem.W.fnOf "check_form" "check_form" (defArgs stcheck_form) (defBody stcheck_form) (defScope stcheck_form) .none kV15 dc15 pm15 an15 cd15 ct15), sl15⟩)
    (c15 : PySem.W.codeIn K cd15 "check_form" = true)
    (k15 : PySem.W.keepIn K (.ref f15) = true)
    (a16 : PySem.W.nsIn K mainGlobals "blank" = some (some (.ref f16)))
    (l16 : K.lookup f16 = some ⟨oc16, od16, .func (PySem.W.fnOf "blank" "blank" (defArgs stblank) (defBody stblank) (defScope stblank) .none kV16 dc16 pm16 an16 cd16 ct16), sl16⟩)
    (c16 : PySem.W.codeIn K cd16 "blank" = true)
    (k16 : PySem.W.keepIn K (.ref f16) = true)
    (a17 : PySem.W.nsIn K mainGlobals "entries_of" = some (some (.ref f17)))
    (l17 : K.lookup f17 = some ⟨oc17, od17, .func (PySem.W.fnOf "entries_of" "entries_of" (defArgs stentries_of) (defBody stentries_of) (defScope stentries_of) .none kV17 dc17 pm17 an17 cd17 ct17), sl17⟩)
    (c17 : PySem.W.codeIn K cd17 "entries_of" = true)
    (k17 : PySem.W.keepIn K (.ref f17) = true)
    (a18 : PySem.W.nsIn K mainGlobals "shown_of" = some (some (.ref f18)))
    (l18 : K.lookup f18 = some ⟨oc18, od18, .func (PySem.W.fnOf "shown_of" "shown_of" (defArgs stshown_of) (defBody stshown_of) (defScope stshown_of) .none kV18 dc18 pm18 an18 cd18 ct18), sl18⟩)
    (c18 : PySem.W.codeIn K cd18 "shown_of" = true)
    (k18 : PySem.W.keepIn K (.ref f18) = true)
    (a19 : PySem.W.nsIn K mainGlobals "holds" = some (some (.ref f19)))
    (l19 : K.lookup f19 = some ⟨oc19, od19, .func (PySem.W.fnOf "holds" "holds" (defArgs stholds) (defBody stholds) (defScope stholds) .none kV19 dc19 pm19 an19 cd19 ct19), sl19⟩)
    (c19 : PySem.W.codeIn K cd19 "holds" = true)
    (k19 : PySem.W.keepIn K (.ref f19) = true)
    (a20 : PySem.W.nsIn K mainGlobals "broken_of" = some (some (.ref f20)))
    (l20 : K.lookup f20 = some ⟨oc20, od20, .func (PySem.W.fnOf "broken_of" "broken_of" (defArgs stbroken_of) (defBody stbroken_of) (defScope stbroken_of) .none kV20 dc20 pm20 an20 cd20 ct20), sl20⟩)
    (c20 : PySem.W.codeIn K cd20 "broken_of" = true)
    (k20 : PySem.W.keepIn K (.ref f20) = true)
    (a21 : PySem.W.nsIn K mainGlobals "entered" = some (some (.ref f21)))
    (l21 : K.lookup f21 = some ⟨oc21, od21, .func (PySem.W.fnOf "entered" "entered" (defArgs stentered) (defBody stentered) (defScope stentered) .none kV21 dc21 pm21 an21 cd21 ct21), sl21⟩)
    (c21 : PySem.W.codeIn K cd21 "entered" = true)
    (k21 : PySem.W.keepIn K (.ref f21) = true)
    (a22 : PySem.W.nsIn K mainGlobals "filled" = some (some (.ref f22)))
    (l22 : K.lookup f22 = some ⟨oc22, od22, .func (PySem.W.fnOf "filled" "filled" (defArgs stfilled) (defBody stfilled) (defScope stfilled) .none kV22 dc22 pm22 an22 cd22 ct22), sl22⟩)
    (c22 : PySem.W.codeIn K cd22 "filled" = true)
    (k22 : PySem.W.keepIn K (.ref f22) = true)
    (a23 : PySem.W.nsIn K mainGlobals "can_send_of" = some (some (.ref f23)))
    (l23 : K.lookup f23 = some ⟨oc23, od23, .func (PySem.W.fnOf "can_send_of" "can_send_of" (defArgs stcan_send_of) (defBody stcan_send_of) (defScope stcan_send_of) .none kV23 dc23 pm23 an23 cd23 ct23), sl23⟩)
    (c23 : PySem.W.codeIn K cd23 "can_send_of" = true)
    (k23 : PySem.W.keepIn K (.ref f23) = true)
    (a24 : PySem.W.nsIn K mainGlobals "lost_records" = some (some (.ref f24)))
    (l24 : K.lookup f24 = some ⟨oc24, od24, .func (PySem.W.fnOf "lost_records" "lost_records" (defArgs stlost_records) (defBody stlost_records) (defScope stlost_records) .none kV24 dc24 pm24 an24 cd24 ct24), sl24⟩)
    (c24 : PySem.W.codeIn K cd24 "lost_records" = true)
    (k24 : PySem.W.keepIn K (.ref f24) = true)
    (a25 : PySem.W.nsIn K mainGlobals "way_of" = some (some (.ref f25)))
    (l25 : K.lookup f25 = some ⟨oc25, od25, .func (PySem.W.fnOf "way_of" "way_of" (defArgs stway_of) (defBody stway_of) (defScope stway_of) .none kV25 dc25 pm25 an25 cd25 ct25), sl25⟩)
    (c25 : PySem.W.codeIn K cd25 "way_of" = true)
    (k25 : PySem.W.keepIn K (.ref f25) = true)
    (a26 : PySem.W.nsIn K mainGlobals "trap_entries" = some (some (.ref f26)))
    (l26 : K.lookup f26 = some ⟨oc26, od26, .func (PySem.W.fnOf "trap_entries" "trap_entries" (defArgs sttrap_entries) (defBody sttrap_entries) (defScope sttrap_entries) .none kV26 dc26 pm26 an26 cd26 ct26), sl26⟩)
    (c26 : PySem.W.codeIn K cd26 "trap_entries" = true)
    (k26 : PySem.W.keepIn K (.ref f26) = true)
    (a27 : PySem.W.nsIn K mainGlobals "is_clean" = some (some (.ref f27)))
    (l27 : K.lookup f27 = some ⟨oc27, od27, .func (PySem.W.fnOf "is_clean" "is_clean" (defArgs stis_clean) (defBody stis_clean) (defScope stis_clean) .none kV27 dc27 pm27 an27 cd27 ct27), sl27⟩)
    (c27 : PySem.W.codeIn K cd27 "is_clean" = true)
    (k27 : PySem.W.keepIn K (.ref f27) = true)
    (a28 : PySem.W.nsIn K mainGlobals "stale_entries" = some (some (.ref f28)))
    (l28 : K.lookup f28 = some ⟨oc28, od28, .func (PySem.W.fnOf "stale_entries" "stale_entries" (defArgs ststale_entries) (defBody ststale_entries) (defScope ststale_entries) .none kV28 dc28 pm28 an28 cd28 ct28), sl28⟩)
    (c28 : PySem.W.codeIn K cd28 "stale_entries" = true)
    (k28 : PySem.W.keepIn K (.ref f28) = true)
    (a29 : PySem.W.nsIn K mainGlobals "_law_trapped" = some (some (.ref f29)))
    (l29 : K.lookup f29 = some ⟨oc29, od29, .func (PySem.W.fnOf "_law_trapped" "_law_trapped" (defArgs st_law_trapped) (defBody st_law_trapped) (defScope st_law_trapped) .none kV29 dc29 pm29 an29 cd29 ct29), sl29⟩)
    (c29 : PySem.W.codeIn K cd29 "_law_trapped" = true)
    (k29 : PySem.W.keepIn K (.ref f29) = true)
    (a30 : PySem.W.nsIn K mainGlobals "_law_cell" = some (some (.ref f30)))
    (l30 : K.lookup f30 = some ⟨oc30, od30, .func (PySem.W.fnOf "_law_cell" "_law_cell" (defArgs st_law_cell) (defBody st_law_cell) (defScope st_law_cell) .none kV30 dc30 pm30 an30 cd30 ct30), sl30⟩)
    (c30 : PySem.W.codeIn K cd30 "_law_cell" = true)
    (k30 : PySem.W.keepIn K (.ref f30) = true)
    (a31 : PySem.W.nsIn K mainGlobals "_law_row" = some (some (.ref f31)))
    (l31 : K.lookup f31 = some ⟨oc31, od31, .func (PySem.W.fnOf "_law_row" "_law_row" (defArgs st_law_row) (defBody st_law_row) (defScope st_law_row) .none kV31 dc31 pm31 an31 cd31 ct31), sl31⟩)
    (c31 : PySem.W.codeIn K cd31 "_law_row" = true)
    (k31 : PySem.W.keepIn K (.ref f31) = true)
    (a32 : PySem.W.nsIn K mainGlobals "_law_snare" = some (some (.ref f32)))
    (l32 : K.lookup f32 = some ⟨oc32, od32, .func (PySem.W.fnOf "_law_snare" "_law_snare" (defArgs st_law_snare) (defBody st_law_snare) (defScope st_law_snare) .none kV32 dc32 pm32 an32 cd32 ct32), sl32⟩)
    (c32 : PySem.W.codeIn K cd32 "_law_snare" = true)
    (k32 : PySem.W.keepIn K (.ref f32) = true)
    (a33 : PySem.W.nsIn K mainGlobals "has_trap" = some (some (.ref f33)))
    (l33 : K.lookup f33 = some ⟨oc33, od33, .func (PySem.W.fnOf "has_trap" "has_trap" (defArgs sthas_trap) (defBody sthas_trap) (defScope sthas_trap) .none kV33 dc33 pm33 an33 cd33 ct33), sl33⟩)
    (c33 : PySem.W.codeIn K cd33 "has_trap" = true)
    (k33 : PySem.W.keepIn K (.ref f33) = true)
    (a34 : PySem.W.nsIn K mainGlobals "law" = some (some (.ref f34)))
    (l34 : K.lookup f34 = some ⟨oc34, od34, .func (PySem.W.fnOf "law" "law" (defArgs stlaw) (defBody stlaw) (defScope stlaw) .none kV34 dc34 pm34 an34 cd34 ct34), sl34⟩)
    (c34 : PySem.W.codeIn K cd34 "law" = true)
    (k34 : PySem.W.keepIn K (.ref f34) = true)
    (zlen : PySem.W.nsIn K mainGlobals "len" = some none)
    (zint : PySem.W.nsIn K mainGlobals "int" = some none)
    (zstr : PySem.W.nsIn K mainGlobals "str" = some none)
    (zlist : PySem.W.nsIn K mainGlobals "list" = some none)
    (ztuple : PySem.W.nsIn K mainGlobals "tuple" = some none)
    (zsorted : PySem.W.nsIn K mainGlobals "sorted" = some none)
    (zmin : PySem.W.nsIn K mainGlobals "min" = some none)
    (zmax : PySem.W.nsIn K mainGlobals "max" = some none)
    (zsum : PySem.W.nsIn K mainGlobals "sum" = some none)
    (zisinstance : PySem.W.nsIn K mainGlobals "isinstance" = some none)
    (zrange : PySem.W.nsIn K mainGlobals "range" = some none)
    (zbool : PySem.W.nsIn K mainGlobals "bool" = some none)
    (zenumerate : PySem.W.nsIn K mainGlobals "enumerate" = some none)
    (zzip : PySem.W.nsIn K mainGlobals "zip" = some none)
    (zset : PySem.W.nsIn K mainGlobals "set" = some none)
    (xa0 : PySem.W.nsIn K mainGlobals "MaskError" = some (some (.ref C0)))
    (xe0 : PySem.W.subIn K (.ref C0) (.type "BaseException") = some true)
    (xt0 : PySem.W.typeIn K (.ref C0) = some (.type "type"))
    (xh0 : PySem.W.hasDictIn K C0 = true)
    (xa1 : PySem.W.nsIn K mainGlobals "InvalidForm" = some (some (.ref C1)))
    (xe1 : PySem.W.subIn K (.ref C1) (.type "BaseException") = some true)
    (xt1 : PySem.W.typeIn K (.ref C1) = some (.type "type"))
    (xh1 : PySem.W.hasDictIn K C1 = true)
    (xi1 : PySem.W.excIn K C1 [.type "ValueError", .type "Exception", .type "BaseException", .type "object"] "ValueError.__new__" = true)
    (xk1 : PySem.W.keepIn K (.ref C1) = true)
    (xg1 : PySem.W.findIn K (.ref C1) "__getattribute__" = some (some (.builtin "BaseException.__getattribute__")))
    (xq1 : PySem.W.findIn K (.ref C1) "__getattr__" = some none)
    (xc1 : PySem.W.findIn K (.ref C1) "__class__" = some (some (.builtin "object.__class__")))
    (xm1 : PySem.W.mroIn K C1 (.type "object") = some true)
    (xa2 : PySem.W.nsIn K mainGlobals "NoWay" = some (some (.ref C2)))
    (xe2 : PySem.W.subIn K (.ref C2) (.type "BaseException") = some true)
    (xt2 : PySem.W.typeIn K (.ref C2) = some (.type "type"))
    (xh2 : PySem.W.hasDictIn K C2 = true)
    (xa3 : PySem.W.nsIn K mainGlobals "NoTrap" = some (some (.ref C3)))
    (xe3 : PySem.W.subIn K (.ref C3) (.type "BaseException") = some true)
    (xt3 : PySem.W.typeIn K (.ref C3) = some (.type "type"))
    (xh3 : PySem.W.hasDictIn K C3 = true)
    (xi3 : PySem.W.excIn K C3 [.type "ValueError", .type "Exception", .type "BaseException", .type "object"] "ValueError.__new__" = true)
    (xk3 : PySem.W.keepIn K (.ref C3) = true)
    (xg3 : PySem.W.findIn K (.ref C3) "__getattribute__" = some (some (.builtin "BaseException.__getattribute__")))
    (xq3 : PySem.W.findIn K (.ref C3) "__getattr__" = some none)
    (xc3 : PySem.W.findIn K (.ref C3) "__class__" = some (some (.builtin "object.__class__")))
    (xm3 : PySem.W.mroIn K C3 (.type "object") = some true)
    (xn : PySem.W.specialIn K (.builtin "object.__class__") "__get__" = some (some (.builtin "getset_descriptor.__get__")))
    (xw : PySem.W.takesIn K (.builtin "object.__class__") = some true)
    (ic3 : PySem.W.isClsIn K C3 = true)
    (ic0 : PySem.W.isClsIn K C0 = true)
    (ic2 : PySem.W.isClsIn K C2 = true)
    (sf1 : PySem.W.subIn K (.ref C1) (.ref C1) = some true)
    (s1_3 : PySem.W.subIn K (.ref C1) (.ref C3) = some false)
    (s1_0 : PySem.W.subIn K (.ref C1) (.ref C0) = some true)
    (s1_2 : PySem.W.subIn K (.ref C1) (.ref C2) = some false)
    (sf3 : PySem.W.subIn K (.ref C3) (.ref C3) = some true)
    (s3_3 : PySem.W.subIn K (.ref C3) (.ref C3) = some true)
    (s3_0 : PySem.W.subIn K (.ref C3) (.ref C0) = some true)
    (s3_2 : PySem.W.subIn K (.ref C3) (.ref C2) = some false)
    : ∃ fd : FuncData, (∀ (s : Shared) (v : Value), BindsTo s fd ⟨[v], []⟩ [("script", v)]) ∧ ∀ base : Heap, K.In base → base.Ns mainGlobals mg → FnOk l.prog w K mg base (L2.CX l.prog w) 35 fa fd ["script"] (spLaw K) := by
  have e := hfa.symm.trans (PySem.W.mg_of X G a34)
  cases e
  have F0 := fun_mk (st := st_law_values) l0 c0 k0
  have B0 := F0.binds (ps := ["draws", "at"]) fun _ _ _ _ _ _ us hl => match us, hl with | [_, _], _ => rfl
  have F1 := fun_mk (st := st_law_form) l1 c1 k1
  have B1 := F1.binds (ps := ["draws", "more", "kinds"]) fun _ _ _ _ _ _ us hl => match us, hl with | [_, _, _], _ => rfl
  have F2 := fun_mk (st := st_law_entries) l2 c2 k2
  have B2 := F2.binds (ps := ["form"]) fun _ _ _ _ _ _ us hl => match us, hl with | [_], _ => rfl
  have F3 := fun_mk (st := st_law_shown) l3 c3 k3
  have B3 := F3.binds (ps := ["form", "record"]) fun _ _ _ _ _ _ us hl => match us, hl with | [_, _], _ => rfl
  have F4 := fun_mk (st := st_law_holds) l4 c4 k4
  have B4 := F4.binds (ps := ["form", "record", "pairs"]) fun _ _ _ _ _ _ us hl => match us, hl with | [_, _, _], _ => rfl
  have F5 := fun_mk (st := st_law_entry) l5 c5 k5
  have B5 := F5.binds (ps := ["form", "record", "field", "value"]) fun _ _ _ _ _ _ us hl => match us, hl with | [_, _, _, _], _ => rfl
  have F6 := fun_mk (st := st_law_filled_up) l6 c6 k6
  have B6 := F6.binds (ps := ["form"]) fun _ _ _ _ _ _ us hl => match us, hl with | [_], _ => rfl
  have F7 := fun_mk (st := st_law_sends) l7 c7 k7
  have B7 := F7.binds (ps := ["form", "record"]) fun _ _ _ _ _ _ us hl => match us, hl with | [_, _], _ => rfl
  have F8 := fun_mk (st := st_law_lost_records) l8 c8 k8
  have B8 := F8.binds (ps := ["form", "sizes"]) fun _ _ _ _ _ _ us hl => match us, hl with | [_, _], _ => rfl
  have F9 := fun_mk (st := stin_range) l9 c9 k9
  have B9 := F9.binds (ps := ["value", "low", "high"]) fun _ _ _ _ _ _ us hl => match us, hl with | [_, _, _], _ => rfl
  have F10 := fun_mk (st := stare_values) l10 c10 k10
  have B10 := F10.binds (ps := ["value", "most"]) fun _ _ _ _ _ _ us hl => match us, hl with | [_, _], _ => rfl
  have F11 := fun_mk (st := stare_conditions) l11 c11 k11
  have B11 := F11.binds (ps := ["value", "fields"]) fun _ _ _ _ _ _ us hl => match us, hl with | [_, _], _ => rfl
  have F12 := fun_mk (st := stare_fields) l12 c12 k12
  have B12 := F12.binds (ps := ["value"]) fun _ _ _ _ _ _ us hl => match us, hl with | [_], _ => rfl
  have F13 := fun_mk (st := stis_rule) l13 c13 k13
  have B13 := F13.binds (ps := ["fields", "value"]) fun _ _ _ _ _ _ us hl => match us, hl with | [_, _], _ => rfl
  have F14 := fun_mk (st := stis_form) l14 c14 k14
  have B14 := F14.binds (ps := ["value"]) fun _ _ _ _ _ _ us hl => match us, hl with | [_], _ => rfl
  have F15 := fun_mk (st := stcheck_form) l15 c15 k15
  have B15 := F15.binds (ps := ["form"]) fun _ _ _ _ _ _ us hl => match us, hl with | [_], _ => rfl
  have F16 := fun_mk (st := stblank) l16 c16 k16
  have B16 := F16.binds (ps := ["form"]) fun _ _ _ _ _ _ us hl => match us, hl with | [_], _ => rfl
  have F17 := fun_mk (st := stentries_of) l17 c17 k17
  have B17 := F17.binds (ps := ["form"]) fun _ _ _ _ _ _ us hl => match us, hl with | [_], _ => rfl
  have F18 := fun_mk (st := stshown_of) l18 c18 k18
  have B18 := F18.binds (ps := ["form", "record"]) fun _ _ _ _ _ _ us hl => match us, hl with | [_, _], _ => rfl
  have F19 := fun_mk (st := stholds) l19 c19 k19
  have B19 := F19.binds (ps := ["there", "record", "pairs"]) fun _ _ _ _ _ _ us hl => match us, hl with | [_, _, _], _ => rfl
  have F20 := fun_mk (st := stbroken_of) l20 c20 k20
  have B20 := F20.binds (ps := ["form", "record", "kinds"]) fun _ _ _ _ _ _ us hl => match us, hl with | [_, _, _], _ => rfl
  have F21 := fun_mk (st := stentered) l21 c21 k21
  have B21 := F21.binds (ps := ["form", "record", "field", "value"]) fun _ _ _ _ _ _ us hl => match us, hl with | [_, _, _, _], _ => rfl
  have F22 := fun_mk (st := stfilled) l22 c22 k22
  have B22 := F22.binds (ps := ["form"]) fun _ _ _ _ _ _ us hl => match us, hl with | [_], _ => rfl
  have F23 := fun_mk (st := stcan_send_of) l23 c23 k23
  have B23 := F23.binds (ps := ["form", "record"]) fun _ _ _ _ _ _ us hl => match us, hl with | [_, _], _ => rfl
  have F24 := fun_mk (st := stlost_records) l24 c24 k24
  have B24 := F24.binds (ps := ["form"]) fun _ _ _ _ _ _ us hl => match us, hl with | [_], _ => rfl
  have F25 := fun_mk (st := stway_of) l25 c25 k25
  have B25 := F25.binds (ps := ["before", "record"]) fun _ _ _ _ _ _ us hl => match us, hl with | [_, _], _ => rfl
  have F26 := fun_mk (st := sttrap_entries) l26 c26 k26
  have B26 := F26.binds (ps := ["form"]) fun _ _ _ _ _ _ us hl => match us, hl with | [_], _ => rfl
  have F27 := fun_mk (st := stis_clean) l27 c27 k27
  have B27 := F27.binds (ps := ["form", "record"]) fun _ _ _ _ _ _ us hl => match us, hl with | [_, _], _ => rfl
  have F28 := fun_mk (st := ststale_entries) l28 c28 k28
  have B28 := F28.binds (ps := ["form"]) fun _ _ _ _ _ _ us hl => match us, hl with | [_], _ => rfl
  have F29 := fun_mk (st := st_law_trapped) l29 c29 k29
  have B29 := F29.binds (ps := ["mode", "form"]) fun _ _ _ _ _ _ us hl => match us, hl with | [_, _], _ => rfl
  have F30 := fun_mk (st := st_law_cell) l30 c30 k30
  have B30 := F30.binds (ps := ["script", "k"]) fun _ _ _ _ _ _ us hl => match us, hl with | [_, _], _ => rfl
  have F31 := fun_mk (st := st_law_row) l31 c31 k31
  have B31 := F31.binds (ps := ["script", "at"]) fun _ _ _ _ _ _ us hl => match us, hl with | [_, _], _ => rfl
  have F32 := fun_mk (st := st_law_snare) l32 c32 k32
  have B32 := F32.binds (ps := ["draws", "more"]) fun _ _ _ _ _ _ us hl => match us, hl with | [_, _], _ => rfl
  have F33 := fun_mk (st := sthas_trap) l33 c33 k33
  have B33 := F33.binds (ps := ["form"]) fun _ _ _ _ _ _ us hl => match us, hl with | [_], _ => rfl
  have F34 := fun_mk (st := stlaw) l34 c34 k34
  refine ⟨PySem.W.fnOf "law" "law" (defArgs stlaw) (defBody stlaw) (defScope stlaw) .none kV34 dc34 pm34 an34 cd34 ct34, fun s v => .of_eq rfl, fun base hK hN => ?_⟩
  have g0 : GamOk l.prog w K mg base (gam Z T0) (Q []) (cvOf C0 C1 C2 C3) 0 := {
    fn := fun j nm h => by simp at h
    gl := fun j nm h => by simp at h
    bi := fun nm h => by
      simp only [bNames, List.mem_cons, List.not_mem_nil, or_false] at h
      rcases h with rfl | rfl | rfl | rfl | rfl | rfl | rfl | rfl | rfl | rfl | rfl | rfl | rfl | rfl | rfl
      · exact PySem.W.mg_none_of X G zlen
      · exact PySem.W.mg_none_of X G zint
      · exact PySem.W.mg_none_of X G zstr
      · exact PySem.W.mg_none_of X G zlist
      · exact PySem.W.mg_none_of X G ztuple
      · exact PySem.W.mg_none_of X G zsorted
      · exact PySem.W.mg_none_of X G zmin
      · exact PySem.W.mg_none_of X G zmax
      · exact PySem.W.mg_none_of X G zsum
      · exact PySem.W.mg_none_of X G zisinstance
      · exact PySem.W.mg_none_of X G zrange
      · exact PySem.W.mg_none_of X G zbool
      · exact PySem.W.mg_none_of X G zenumerate
      · exact PySem.W.mg_none_of X G zzip
      · exact PySem.W.mg_none_of X G zset
    nm := fun j nm h => by
      match j, h with
      | 0, h => cases h; exact .inl (PySem.W.mg_of X G xa0)
      | 1, h => cases h; exact .inl (PySem.W.mg_of X G xa1)
      | 2, h => cases h; exact .inl (PySem.W.mg_of X G xa2)
      | 3, h => cases h; exact .inl (PySem.W.mg_of X G xa3)
      | _ + 4, h => simp at h
    exc := fun j nm h ho => by
      match j, h, ho with
      | 0, h, ho => cases ho
      | 1, h, ho => cases h; exact ⟨C1, rfl, PySem.W.mg_of X G xa1, xi1, xk1, xe1, xt1⟩
      | 2, h, ho => cases ho
      | 3, h, ho => cases h; exact ⟨C3, rfl, PySem.W.mg_of X G xa3, xi3, xk3, xe3, xt3⟩
      | _ + 4, h, ho => cases ho
    xm := fun k j b h => by
      unfold gam Z at h
      dsimp only at h
      split at h
      · cases h; exact PySem.W.exm_ref xe3 xh3 xt3 s1_3
      · cases h; exact PySem.W.exm_ref xe0 xh0 xt0 s1_0
      · cases h; exact PySem.W.exm_ref xe2 xh2 xt2 s1_2
      · cases h; exact PySem.W.exm_ref xe3 xh3 xt3 s3_3
      · cases h; exact PySem.W.exm_ref xe0 xh0 xt0 s3_0
      · cases h; exact PySem.W.exm_ref xe2 xh2 xt2 s3_2
      · cases h
    kit := fun k j b h => by
      unfold gam Z at h
      dsimp only at h
      split at h
      · cases h; exact ⟨C1, rfl, ⟨xg1, xq1, xe1, xh1, xc1, xn, xw, xm1⟩, kit_own ic3 xt3 s1_3 sf1, .ref C3, rfl, fun _ e => e⟩
      · cases h; exact ⟨C1, rfl, ⟨xg1, xq1, xe1, xh1, xc1, xn, xw, xm1⟩, kit_own ic0 xt0 s1_0 sf1, .ref C0, rfl, fun _ e => e⟩
      · cases h; exact ⟨C1, rfl, ⟨xg1, xq1, xe1, xh1, xc1, xn, xw, xm1⟩, kit_own ic2 xt2 s1_2 sf1, .ref C2, rfl, fun _ e => e⟩
      · cases h; exact ⟨C3, rfl, ⟨xg3, xq3, xe3, xh3, xc3, xn, xw, xm3⟩, kit_own ic3 xt3 s3_3 sf3, .ref C3, rfl, fun _ e => e⟩
      · cases h; exact ⟨C3, rfl, ⟨xg3, xq3, xe3, xh3, xc3, xn, xw, xm3⟩, kit_own ic0 xt0 s3_0 sf3, .ref C0, rfl, fun _ e => e⟩
      · cases h; exact ⟨C3, rfl, ⟨xg3, xq3, xe3, xh3, xc3, xn, xw, xm3⟩, kit_own ic2 xt2 s3_2 sf3, .ref C2, rfl, fun _ e => e⟩
      · cases h }
  have g1 := ok_law_values g0 F0 (PySem.W.mg_of X G a0) B0
  have g2 := ok_law_form g1 F1 (PySem.W.mg_of X G a1) B1
  have g3 := ok_law_entries g2 F2 (PySem.W.mg_of X G a2) B2
  have g4 := ok_law_shown g3 F3 (PySem.W.mg_of X G a3) B3
  have g5 := ok_law_holds g4 F4 (PySem.W.mg_of X G a4) B4
  have g6 := ok_law_entry g5 F5 (PySem.W.mg_of X G a5) B5
  have g7 := ok_law_filled_up g6 F6 (PySem.W.mg_of X G a6) B6
  have g8 := ok_law_sends g7 F7 (PySem.W.mg_of X G a7) B7
  have g9 := ok_law_lost_records g8 F8 (PySem.W.mg_of X G a8) B8
  have g10 := okin_range g9 F9 (PySem.W.mg_of X G a9) B9
  have g11 := okare_values g10 F10 (PySem.W.mg_of X G a10) B10
  have g12 := okare_conditions g11 F11 (PySem.W.mg_of X G a11) B11
  have g13 := okare_fields g12 F12 (PySem.W.mg_of X G a12) B12
  have g14 := okis_rule g13 F13 (PySem.W.mg_of X G a13) B13
  have g15 := okis_form g14 F14 (PySem.W.mg_of X G a14) B14
  have g16 := okcheck_form g15 F15 (PySem.W.mg_of X G a15) B15
  have g17 := okblank g16 F16 (PySem.W.mg_of X G a16) B16
  have g18 := okentries_of g17 F17 (PySem.W.mg_of X G a17) B17
  have g19 := okshown_of g18 F18 (PySem.W.mg_of X G a18) B18
  have g20 := okholds g19 F19 (PySem.W.mg_of X G a19) B19
  have g21 := okbroken_of g20 F20 (PySem.W.mg_of X G a20) B20
  have g22 := okentered g21 F21 (PySem.W.mg_of X G a21) B21
  have g23 := okfilled g22 F22 (PySem.W.mg_of X G a22) B22
  have g24 := okcan_send_of g23 F23 (PySem.W.mg_of X G a23) B23
  have g25 := oklost_records g24 F24 (PySem.W.mg_of X G a24) B24
  have g26 := okway_of g25 F25 (PySem.W.mg_of X G a25) B25
  have g27 := oktrap_entries g26 F26 (PySem.W.mg_of X G a26) B26
  have g28 := okis_clean g27 F27 (PySem.W.mg_of X G a27) B27
  have g29 := okstale_entries g28 F28 (PySem.W.mg_of X G a28) B28
  have g30 := ok_law_trapped g29 F29 (PySem.W.mg_of X G a29) B29
  have g31 := ok_law_cell g30 F30 (PySem.W.mg_of X G a30) B30
  have g32 := ok_law_row g31 F31 (PySem.W.mg_of X G a31) B31
  have g33 := ok_law_snare g32 F32 (PySem.W.mg_of X G a32) B32
  have g34 := okhas_trap g33 F33 (PySem.W.mg_of X G a33) B33
  exact oklaw g34 F34
end LK
open PySem PySem.W PyProof.Rows
set_option maxHeartbeats 0 in
theorem PySem.Challenge.cw_keymasks_k40_whole_traps_holds : PySem.Challenge.rw_keymasks_k40_whole_traps.Holds := by
  w_on; o_law; k_head; (case hw => w_witness2)
  k_fill
  refine L2.walk_of (l := PySem.Challenge.rw_keymasks_k40_whole_traps) (n := 63) (k := 35) (x := "script") (CX := fun w => L2.CX PySem.Challenge.rw_keymasks_k40_whole_traps.prog w) (sp := fun w => PD.spLaw _) rfl (by decide) rfl ⟨rfl, by decide, by decide⟩ (fun w h Y => PySem.W.kIn_of Y) ?F (fun _ _ a ns hl _ hS => ⟨a, ns, rfl, hS, hl, fun _ => rfl⟩) (fun _ _ _ _ _ h => by obtain ⟨_, _, _, _, _, _, _, _, _, _, _, _, z⟩ := h; exact z)
  case F =>
    intro w mg fa h KX G hmg
    refine' LK.all_mk KX G hmg ?a0 ?l0 ?c0 ?k0 ?a1 ?l1 ?c1 ?k1 ?a2 ?l2 ?c2 ?k2 ?a3 ?l3 ?c3 ?k3 ?a4 ?l4 ?c4 ?k4 ?a5 ?l5 ?c5 ?k5 ?a6 ?l6 ?c6 ?k6 ?a7 ?l7 ?c7 ?k7 ?a8 ?l8 ?c8 ?k8 ?a9 ?l9 ?c9 ?k9 ?a10 ?l10 ?c10 ?k10 ?a11 ?l11 ?c11 ?k11 ?a12 ?l12 ?c12 ?k12 ?a13 ?l13 ?c13 ?k13 ?a14 ?l14 ?c14 ?k14 ?a15 ?l15 ?c15 ?k15 ?a16 ?l16 ?c16 ?k16 ?a17 ?l17 ?c17 ?k17 ?a18 ?l18 ?c18 ?k18 ?a19 ?l19 ?c19 ?k19 ?a20 ?l20 ?c20 ?k20 ?a21 ?l21 ?c21 ?k21 ?a22 ?l22 ?c22 ?k22 ?a23 ?l23 ?c23 ?k23 ?a24 ?l24 ?c24 ?k24 ?a25 ?l25 ?c25 ?k25 ?a26 ?l26 ?c26 ?k26 ?a27 ?l27 ?c27 ?k27 ?a28 ?l28 ?c28 ?k28 ?a29 ?l29 ?c29 ?k29 ?a30 ?l30 ?c30 ?k30 ?a31 ?l31 ?c31 ?k31 ?a32 ?l32 ?c32 ?k32 ?a33 ?l33 ?c33 ?k33 ?a34 ?l34 ?c34 ?k34 ?zlen ?zint ?zstr ?zlist ?ztuple ?zsorted ?zmin ?zmax ?zsum ?zisinstance ?zrange ?zbool ?zenumerate ?zzip ?zset ?xa0 ?xe0 ?xt0 ?xh0 ?xa1 ?xe1 ?xt1 ?xh1 ?xi1 ?xk1 ?xg1 ?xq1 ?xc1 ?xm1 ?xa2 ?xe2 ?xt2 ?xh2 ?xa3 ?xe3 ?xt3 ?xh3 ?xi3 ?xk3 ?xg3 ?xq3 ?xc3 ?xm3 ?xn ?xw ?ic3 ?ic0 ?ic2 ?sf1 ?s1_3 ?s1_0 ?s1_2 ?sf3 ?s3_3 ?s3_0 ?s3_2
    (case a0 => k_is)
    (case l0 => k_is)
    (case c0 => k_is)
    (case k0 => k_is)
    (case a1 => k_is)
    (case l1 => k_is)
    (case c1 => k_is)
    (case k1 => k_is)
    (case a2 => k_is)
    (case l2 => k_is)
    (case c2 => k_is)
    (case k2 => k_is)
    (case a3 => k_is)
    (case l3 => k_is)
    (case c3 => k_is)
    (case k3 => k_is)
    (case a4 => k_is)
    (case l4 => k_is)
    (case c4 => k_is)
    (case k4 => k_is)
    (case a5 => k_is)
    (case l5 => k_is)
    (case c5 => k_is)
    (case k5 => k_is)
    (case a6 => k_is)
    (case l6 => k_is)
    (case c6 => k_is)
    (case k6 => k_is)
    (case a7 => k_is)
    (case l7 => k_is)
    (case c7 => k_is)
    (case k7 => k_is)
    (case a8 => k_is)
    (case l8 => k_is)
    (case c8 => k_is)
    (case k8 => k_is)
    (case a9 => k_is)
    (case l9 => k_is)
    (case c9 => k_is)
    (case k9 => k_is)
    (case a10 => k_is)
    (case l10 => k_is)
    (case c10 => k_is)
    (case k10 => k_is)
    (case a11 => k_is)
    (case l11 => k_is)
    (case c11 => k_is)
    (case k11 => k_is)
    (case a12 => k_is)
    (case l12 => k_is)
    (case c12 => k_is)
    (case k12 => k_is)
    (case a13 => k_is)
    (case l13 => k_is)
    (case c13 => k_is)
    (case k13 => k_is)
    (case a14 => k_is)
    (case l14 => k_is)
    (case c14 => k_is)
    (case k14 => k_is)
    (case a15 => k_is)
    (case l15 => k_is)
    (case c15 => k_is)
    (case k15 => k_is)
    (case a16 => k_is)
    (case l16 => k_is)
    (case c16 => k_is)
    (case k16 => k_is)
    (case a17 => k_is)
    (case l17 => k_is)
    (case c17 => k_is)
    (case k17 => k_is)
    (case a18 => k_is)
    (case l18 => k_is)
    (case c18 => k_is)
    (case k18 => k_is)
    (case a19 => k_is)
    (case l19 => k_is)
    (case c19 => k_is)
    (case k19 => k_is)
    (case a20 => k_is)
    (case l20 => k_is)
    (case c20 => k_is)
    (case k20 => k_is)
    (case a21 => k_is)
    (case l21 => k_is)
    (case c21 => k_is)
    (case k21 => k_is)
    (case a22 => k_is)
    (case l22 => k_is)
    (case c22 => k_is)
    (case k22 => k_is)
    (case a23 => k_is)
    (case l23 => k_is)
    (case c23 => k_is)
    (case k23 => k_is)
    (case a24 => k_is)
    (case l24 => k_is)
    (case c24 => k_is)
    (case k24 => k_is)
    (case a25 => k_is)
    (case l25 => k_is)
    (case c25 => k_is)
    (case k25 => k_is)
    (case a26 => k_is)
    (case l26 => k_is)
    (case c26 => k_is)
    (case k26 => k_is)
    (case a27 => k_is)
    (case l27 => k_is)
    (case c27 => k_is)
    (case k27 => k_is)
    (case a28 => k_is)
    (case l28 => k_is)
    (case c28 => k_is)
    (case k28 => k_is)
    (case a29 => k_is)
    (case l29 => k_is)
    (case c29 => k_is)
    (case k29 => k_is)
    (case a30 => k_is)
    (case l30 => k_is)
    (case c30 => k_is)
    (case k30 => k_is)
    (case a31 => k_is)
    (case l31 => k_is)
    (case c31 => k_is)
    (case k31 => k_is)
    (case a32 => k_is)
    (case l32 => k_is)
    (case c32 => k_is)
    (case k32 => k_is)
    (case a33 => k_is)
    (case l33 => k_is)
    (case c33 => k_is)
    (case k33 => k_is)
    (case a34 => k_is)
    (case l34 => k_is)
    (case c34 => k_is)
    (case k34 => k_is)
    (case zlen => k_is)
    (case zint => k_is)
    (case zstr => k_is)
    (case zlist => k_is)
    (case ztuple => k_is)
    (case zsorted => k_is)
    (case zmin => k_is)
    (case zmax => k_is)
    (case zsum => k_is)
    (case zisinstance => k_is)
    (case zrange => k_is)
    (case zbool => k_is)
    (case zenumerate => k_is)
    (case zzip => k_is)
    (case zset => k_is)
    (case xa0 => k_is)
    (case xe0 => k_is)
    (case xt0 => k_is)
    (case xh0 => k_is)
    (case xa1 => k_is)
    (case xe1 => k_is)
    (case xt1 => k_is)
    (case xh1 => k_is)
    (case xi1 => k_exc)
    (case xk1 => k_is)
    (case xg1 => k_is)
    (case xq1 => k_is)
    (case xc1 => k_is)
    (case xm1 => k_is)
    (case xa2 => k_is)
    (case xe2 => k_is)
    (case xt2 => k_is)
    (case xh2 => k_is)
    (case xa3 => k_is)
    (case xe3 => k_is)
    (case xt3 => k_is)
    (case xh3 => k_is)
    (case xi3 => k_exc)
    (case xk3 => k_is)
    (case xg3 => k_is)
    (case xq3 => k_is)
    (case xc3 => k_is)
    (case xm3 => k_is)
    (case xn => k_is)
    (case xw => k_is)
    (case ic3 => k_is)
    (case ic0 => k_is)
    (case ic2 => k_is)
    (case sf1 => k_is)
    (case s1_3 => k_is)
    (case s1_0 => k_is)
    (case s1_2 => k_is)
    (case sf3 => k_is)
    (case s3_3 => k_is)
    (case s3_0 => k_is)
    (case s3_2 => k_is)
